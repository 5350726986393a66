import PyProof.Rows.All
import Wide.All
import OpenK.AllK
import Wide.FinOn
import HandS.ForMost
import HandS.Flow
import HandS.TupAny
import HandS.TupMul
import HandS.Deep
import HandS.Wide
import HandS.WideBits
import HandS.Zip
import HandS.IsInst
import HandS.Replace
import PyProof.ReprRoads
import HandS.SortInts
import HandS.Exc
import HandS.ExcOwn
import HandS.ExcIs
import HandS.TryOnly
import HandS.Lambda
import HandS.WordsExc
import KE.KExcIs
import KE.KNestM
import PyProof.CodeObj
import HandS.SetFor
import HandS.Style
import PyProof.ReprLen
import KE.GoesMore
import KE.GoesEnum
import HandS.Strs
import HandS.SortKw
import KE.DataMinMax
import PyProof.Rows.SumAny
import HandS.Conv
import HandS.Dict
import HandS.DictComp
import HandS.More
import PyProof.DictUpdate
import KE.DataFind
import KE.KSlice
import PyProof.StrOps2
import HandS.ExcValue
import HandS.ExcInit
import HandS.ExcField
import PySem.Challenge.RW_rowkinds_k02_refusals_by_hand
set_option Elab.async false
set_option linter.all false
set_option maxRecDepth 100000
set_option maxHeartbeats 4000000
/-! Z: a layer of plain data over the hand layer. -/
namespace Z
open PySem L2
abbrev D := PyData
/-- a list that is read: tracked, locked, or a plain one of the written part -/
def SqP (K : PySem.W.Frag) (H : Hp) (a : Addr) (xs : List V) : Prop :=
  Rd H a (.lst xs) ∨ ∃ its : List Value, K.lookup a = some { cls := .type "list", data := .seq its.toArray } ∧ xs.length ≤ sizeLine ∧ Vals xs its
theorem SqP.sql {K : PySem.W.Frag} {H : Hp} {a : Addr} {xs : List V} (h : SqP K H a xs) : SqL K H a xs := by
  rcases h with h | ⟨its, h, hz, r⟩
  · exact .inl h
  · exact .inr ⟨_, its.toArray, 0, h, rfl, rfl, rfl, by rw [List.size_toArray, ← r.length]; exact hz, by simpa using r⟩
/-- a tuple that is read: tracked, or a plain one of the written part -/
def SqTP (K : PySem.W.Frag) (H : Hp) (a : Addr) (xs : List V) : Prop :=
  H a = some (.tup xs) ∨
    ∃ (o : Obj) (its : Array Value) (n : Nat), K.lookup a = some o ∧ o.cls = .type "tuple" ∧ o.data = .seq its n ∧ its.size ≤ sizeLine ∧ Vals xs its.toList ∧ xs ≠ []
theorem SqTP.sqt {K : PySem.W.Frag} {H : Hp} {a : Addr} {xs : List V} (h : SqTP K H a xs) : SqT K H a xs := h.imp .inl fun ⟨o, its, n, h1, h2, h3, h4, h5, _⟩ => ⟨o, its, n, h1, h2, h3, h4, h5⟩
mutual
/-- the value v tells the data d, in what never changes (G) -/
inductive Rp (K : PySem.W.Frag) (G : Hp) : V → D → Prop
  | non : Rp K G .non .none
  | bl (b : Bool) : Rp K G (.bl b) (.bool b)
  | int (i : Int) : Rp K G (.int i) (.int i)
  | str (x : Str) : Rp K G (.str x) (.str x)
  | lst {a : Addr} {xs : List V} {ds : List D} : SqP K G a xs → RpAll K G xs ds → Rp K G (.ref a) (.list ds)
  | tup {a : Addr} {xs : List V} {ds : List D} : SqTP K G a xs → RpAll K G xs ds → Rp K G (.ref a) (.tuple ds)
  | emp {a : Addr} : G a = some (.dK []) → Rp K G (.ref a) (.dict [])
  /-- an exception's object; one with a dict of its own -/
  | exc {a C : Addr} {φ : Heap → Prop} : G a = some (.ext φ) → (∀ h, φ h → ∃ (ob : Obj) (fs : Array Value), h.get? a = some ob ∧ (ob.cls = .ref C ∧ ob.dict = none) ∧ ob.data = .fields fs) → Rp K G (.ref a) (.dict [(.none, .int (C : Nat))])
  | exf {a dx C : Addr} {φ : Heap → Prop} {ks : List Str} {vs : List V} {ds : List D} : G a = some (.ext φ) → (∀ h, φ h → ∃ (ob : Obj) (fs : Array Value), h.get? a = some ob ∧ (ob.cls = .ref C ∧ ob.dict = some dx) ∧ ob.data = .fields fs) →
      G dx = some (.xd (ks.zip vs)) → RpAll K G vs ds → Rp K G (.ref a) (.dict ((.none, .int (C : Nat)) :: (ks.map PyData.str).zip ds))
  /-- a def as a value -/
  | fn {a : Addr} : Rp K G (.ref a) (.dict [(.bool true, .int (a : Nat))])
inductive RpAll (K : PySem.W.Frag) (G : Hp) : List V → List D → Prop
  | nil : RpAll K G [] []
  | cons {v : V} {vs : List V} {d : D} {ds : List D} : Rp K G v d → RpAll K G vs ds → RpAll K G (v :: vs) (d :: ds)
end
theorem same_seqT {K : PySem.W.Frag} {H H' : Hp} {a : Addr} {xs : List V} (e : Same H H') (h : SqTP K H a xs) : SqT K H' a xs :=
  h.imp (fun h => .inl (e _ _ h)) fun ⟨o, its, n, h1, h2, h3, h4, h5, _⟩ => ⟨o, its, n, h1, h2, h3, h4, h5⟩
theorem same_rd {H H' : Hp} {a : Addr} {u : HO} (e : Same H H') (h : Rd H a u) : Rd H' a u := by
  rcases h with h | ⟨o, h⟩
  · exact .inl (e _ _ h)
  · exact .inr ⟨o, e _ _ h⟩
theorem same_sqp {K : PySem.W.Frag} {H H' : Hp} {a : Addr} {xs : List V} (e : Same H H') (h : SqP K H a xs) : SqP K H' a xs := by
  rcases h with h | h
  · exact .inl (same_rd e h)
  · exact .inr h
section
variable {K : PySem.W.Frag} {G G' : Hp}
theorem Rp.mono (e : Same G G') {v : V} {d : D} (h : Rp K G v d) : Rp K G' v d :=
  Rp.rec (motive_1 := fun v d _ => Rp K G' v d) (motive_2 := fun vs ds _ => RpAll K G' vs ds) .non (fun b => .bl b) (fun i => .int i) (fun x => .str x) (fun h _ a => .lst (same_sqp e h) a)
    (fun h _ a => .tup (h.imp (e _ _) id) a) (fun h => .emp (e _ _ h)) (fun h z => .exc (e _ _ h) z) (fun h z h2 _ a => .exf (e _ _ h) z (e _ _ h2) a) .fn .nil (fun _ _ r a => .cons r a) h
/-- what is all of a list, by its items -/
theorem RpAll.ind {Q : List V → List D → Prop} (n : Q [] []) (c : ∀ {v vs d ds}, Rp K G v d → RpAll K G vs ds → Q vs ds → Q (v :: vs) (d :: ds)) {vs : List V} {ds : List D} (h : RpAll K G vs ds) : Q vs ds :=
  RpAll.rec (motive_1 := fun _ _ _ => True) (motive_2 := fun vs ds _ => Q vs ds) trivial (fun _ => trivial) (fun _ => trivial) (fun _ => trivial) (fun _ _ _ => trivial) (fun _ _ _ => trivial) (fun _ => trivial) (fun _ _ => trivial)
    (fun _ _ _ _ _ => trivial) trivial n (fun r t _ q => c r t q) h
theorem RpAll.mono (e : Same G G') {vs : List V} {ds : List D} (h : RpAll K G vs ds) : RpAll K G' vs ds :=
  RpAll.ind (Q := fun vs ds => RpAll K G' vs ds) .nil (fun r _ q => .cons (Rp.mono e r) q) h
theorem RpAll.length {vs : List V} {ds : List D} (h : RpAll K G vs ds) : vs.length = ds.length :=
  RpAll.ind (Q := fun vs ds => vs.length = ds.length) rfl (fun _ _ q => congrArg Nat.succ q) h
theorem RpAll.getD {vs : List V} {ds : List D} {i : Nat} {d : D} (h : RpAll K G vs ds) (e : ds[i]? = some d) : ∃ v, vs[i]? = some v ∧ Rp K G v d :=
  RpAll.ind (Q := fun vs ds => ∀ i d, ds[i]? = some d → ∃ v, vs[i]? = some v ∧ Rp K G v d) (fun _ _ e => by simp at e) (fun r _ q i v e => by
    cases i with
    | zero => cases e; exact ⟨_, rfl, r⟩
    | succ i => exact q i v e) h i d e
theorem RpAll.append {vs ws : List V} {ds es : List D} (h : RpAll K G vs ds) (s : RpAll K G ws es) : RpAll K G (vs ++ ws) (ds ++ es) :=
  RpAll.ind (Q := fun vs ds => RpAll K G (vs ++ ws) (ds ++ es)) s (fun r _ q => .cons r q) h
theorem RpAll.take {vs : List V} {ds : List D} (n : Nat) (h : RpAll K G vs ds) : RpAll K G (vs.take n) (ds.take n) :=
  RpAll.ind (Q := fun vs ds => ∀ n, RpAll K G (vs.take n) (ds.take n)) (fun n => by rw [List.take_nil, List.take_nil]; exact .nil) (fun r _ q n => by
    cases n with
    | zero => exact .nil
    | succ n => exact .cons r (q n)) h n
theorem RpAll.drop {vs : List V} {ds : List D} (n : Nat) (h : RpAll K G vs ds) : RpAll K G (vs.drop n) (ds.drop n) :=
  RpAll.ind (Q := fun vs ds => ∀ n, RpAll K G (vs.drop n) (ds.drop n)) (fun n => by rw [List.drop_nil, List.drop_nil]; exact .nil) (fun r t q n => by
    cases n with
    | zero => exact .cons r t
    | succ n => exact q n) h n
theorem RpAll.set {v : V} {d : D} (r : Rp K G v d) {vs : List V} {ds : List D} (i : Nat) (h : RpAll K G vs ds) : RpAll K G (vs.set i v) (ds.set i d) :=
  RpAll.ind (Q := fun vs ds => ∀ i, RpAll K G (vs.set i v) (ds.set i d)) (fun _ => .nil) (fun q t s i => by
    cases i with
    | zero => exact .cons r t
    | succ i => exact .cons q (s i)) h i
theorem RpAll.reverse {vs : List V} {ds : List D} (h : RpAll K G vs ds) : RpAll K G vs.reverse ds.reverse :=
  RpAll.ind (Q := fun vs ds => RpAll K G vs.reverse ds.reverse) .nil (fun r _ q => by
    rw [List.reverse_cons, List.reverse_cons]
    exact q.append (.cons r .nil)) h
/-- what can be laid has no dicts -/
theorem Rp.dp {v : V} {d : D} (h : Rp K G v d) : d.canLay0 = true → Dp K G v d :=
  Rp.rec (motive_1 := fun v d _ => d.canLay0 = true → Dp K G v d) (motive_2 := fun vs ds _ => PyData.canLayAll0 ds = true → DpAll K G vs ds) (fun _ => .non) (fun b _ => .bl b) (fun i _ => .int i) (fun x _ => .str x)
    (fun h _ q c => .lst h.sql (q (by rw [PyData.canLay0] at c; exact c))) (fun h _ q c => .tup h.sqt (q (by rw [PyData.canLay0] at c; exact c))) (fun _ c => by rw [PyData.canLay0] at c; cases c)
    (fun _ _ c => by rw [PyData.canLay0] at c; cases c) (fun _ _ _ _ _ c => by rw [PyData.canLay0] at c; cases c) (fun c => by rw [PyData.canLay0] at c; cases c) (fun _ => .nil)
    (fun _ _ q t c => by rw [PyData.canLayAll0, Bool.and_eq_true] at c; exact .cons (q c.1) (t c.2)) h
theorem RpAll.dp {vs : List V} {ds : List D} (h : RpAll K G vs ds) (c : PyData.canLayAll0 ds = true) : DpAll K G vs ds :=
  RpAll.ind (Q := fun vs ds => PyData.canLayAll0 ds = true → DpAll K G vs ds) (fun _ => .nil) (fun r _ q c => by rw [PyData.canLayAll0, Bool.and_eq_true] at c; exact .cons (r.dp c.1) (q c.2)) h c
end
/-! ### the store: what the defs share and change -/
structure Sto where
  T : Type
  /-- where tables of code objects may stand -/
  tb : Addr → Prop
  R : PySem.W.Frag → T → Hp → (Addr → Prop) → Hp → Prop
  st : ∀ {K t G G' F H H'}, R K t G F H → Same G G' → (∀ a, F a → H' a = H a) → R K t G' F H'
/-- from one state to a later one: what is said for ever grows, what isn't the store's stands -/
def NewT (F : Addr → Prop) (H : Hp) (a : Addr) : Prop := H a = none ∨ (∃ vs, H a = some (.tup vs)) ∧ ¬ F a
structure Step (G : Hp) (F : Addr → Prop) (H G' : Hp) (F' : Addr → Prop) (H' : Hp) : Prop where
  g : Same G G'
  h : ∀ a o, ¬ F a → H a = some o → H' a = some o
  gn : ∀ a o, G' a = some o → G a = some o ∨ NewT F H a
  fn : ∀ a, F' a → F a ∨ H a = none
  ff : ∀ a, F a → F' a
  dom : ∀ a, H a ≠ none → H' a ≠ none
structure Ok (S : Sto) (K : PySem.W.Frag) (t : S.T) (G : Hp) (F : Addr → Prop) (H : Hp) : Prop where
  same : Same G H
  gf : ∀ a, F a → G a = none
  fh : ∀ a, F a → H a ≠ none
  r : S.R K t G F H
  nt : ∀ a ps, H a = some (.tbl ps) → S.tb a
  nx : ∀ a φ, H a = some (.ext φ) → G a = some (.ext φ)
theorem Step.refl (G : Hp) (F : Addr → Prop) (H : Hp) : Step G F H G F H :=
  ⟨Same.refl G, fun _ _ _ h => h, fun _ _ h => .inl h, fun _ h => .inl h, fun _ h => h, fun _ h => h⟩
theorem Step.trans {G F H G1 F1 H1 G2 F2 H2} (a : Step G F H G1 F1 H1) (b : Step G1 F1 H1 G2 F2 H2) : Step G F H G2 F2 H2 where
  g := a.g.trans b.g
  h := fun p o nf e => by
    refine b.h p o (fun z => ?_) (a.h p o nf e)
    rcases a.fn p z with z | z
    · exact nf z
    · rw [z] at e; cases e
  gn := fun p o e => by
    rcases b.gn p o e with z | z
    · exact a.gn p o z
    · refine .inr ?_
      rcases z with z | ⟨⟨vs, z⟩, nf⟩
      · exact .inl (Classical.byContradiction fun q => a.dom p q z)
      · have nf' : ¬ F p := fun y => nf (a.ff p y)
        cases q : H p with
        | none => exact .inl q
        | some u =>
          have := a.h p u nf' q
          rw [z] at this
          cases this
          exact .inr ⟨⟨vs, q⟩, nf'⟩
  fn := fun p e => by
    rcases b.fn p e with z | z
    · exact a.fn p z
    · exact .inr (Classical.byContradiction fun q => a.dom p q z)
  ff := fun p e => b.ff p (a.ff p e)
  dom := fun p e => b.dom p (a.dom p e)
/-- a new object that will never change -/
theorem Step.new {G F H p o} (n : H p = none) (s : Same G H) (nf : ∀ a, F a → H a ≠ none) : Step G F H (upd G p o) F (upd H p o) where
  g := fun a u e => by
    have : a ≠ p := ne_of_none (s a u e) n
    rw [upd_ne this]; exact e
  h := fun a u _ e => by rw [upd_ne (ne_of_none e n)]; exact e
  gn := fun a u e => by
    by_cases q : a = p
    · subst q; exact .inr (.inl n)
    · rw [upd_ne q] at e; exact .inl e
  fn := fun a e => .inl e
  ff := fun a e => e
  dom := fun a e => by
    by_cases q : a = p
    · subst q; exact absurd n e
    · rw [upd_ne q]; exact e
/-- a new object that may change -/
theorem Step.alloc {G F H p o} (n : H p = none) : Step G F H G F (upd H p o) where
  g := Same.refl G
  h := fun a u _ e => by rw [upd_ne (ne_of_none e n)]; exact e
  gn := fun a u e => .inl e
  fn := fun a e => .inl e
  ff := fun a e => e
  dom := fun a e => by
    by_cases q : a = p
    · subst q; exact absurd n e
    · rw [upd_ne q]; exact e
section
variable {S : Sto} {K : PySem.W.Frag} {t : S.T} {G G' H H' : Hp} {F : Addr → Prop} {p : Addr} {o : HO}
theorem Ok.nt' (k : Ok S K t G F H) (n : ∀ ps, o ≠ .tbl ps) : ∀ a ps, (upd H p o) a = some (.tbl ps) → S.tb a := fun a ps e => by
  by_cases q : a = p
  · subst q; rw [upd_same] at e; exact absurd (Option.some.inj e) (n ps)
  · rw [upd_ne q] at e; exact k.nt a ps e
theorem Ok.nx' (k : Ok S K t G F H) (n : ∀ φ, o ≠ .ext φ) : ∀ a φ, (upd H p o) a = some (.ext φ) → G a = some (.ext φ) := fun a φ e => by
  by_cases q : a = p
  · subst q; rw [upd_same] at e; exact absurd (Option.some.inj e) (n φ)
  · rw [upd_ne q] at e; exact k.nx a φ e
theorem Ok.new (k : Ok S K t G F H) (n : H p = none) (nt : ∀ ps, o ≠ .tbl ps := by intro _ z; cases z) : Ok S K t (upd G p o) F (upd H p o) where
  nt := k.nt' nt
  nx := fun a φ e => by
    by_cases q : a = p
    · subst q; rw [upd_same] at e ⊢; exact e
    · rw [upd_ne q] at e ⊢; exact k.nx a φ e
  same := fun a u e => by
    by_cases q : a = p
    · subst q; rw [upd_same] at e ⊢; exact e
    · rw [upd_ne q] at e ⊢; exact k.same a u e
  gf := fun a e => by
    have : a ≠ p := fun z => by subst z; exact k.fh _ e n
    rw [upd_ne this]; exact k.gf a e
  fh := fun a e => by
    have : a ≠ p := fun z => by subst z; exact k.fh _ e n
    rw [upd_ne this]; exact k.fh a e
  r := S.st k.r (Step.new (F := F) (o := o) n k.same k.fh).g fun a e => by
    have : a ≠ p := fun z => by subst z; exact k.fh _ e n
    rw [upd_ne this]
theorem Ok.alloc (k : Ok S K t G F H) (n : H p = none) (nt : ∀ ps, o ≠ .tbl ps := by intro _ z; cases z) (nx : ∀ φ, o ≠ .ext φ := by intro _ z; cases z) : Ok S K t G F (upd H p o) where
  nt := k.nt' nt
  nx := k.nx' nx
  same := fun a u e => by rw [upd_ne (ne_of_none (k.same a u e) n)]; exact k.same a u e
  gf := k.gf
  fh := fun a e => by
    have : a ≠ p := fun z => by subst z; exact k.fh _ e n
    rw [upd_ne this]; exact k.fh a e
  r := S.st k.r (Same.refl G) fun a e => by
    have : a ≠ p := fun z => by subst z; exact k.fh _ e n
    rw [upd_ne this]
/-- an object that is neither the store's nor said for ever is changed -/
theorem Ok.mut (k : Ok S K t G F H) (n : G p = none) (nf : ¬ F p) (nt : ∀ ps, o ≠ .tbl ps := by intro _ z; cases z) (nx : ∀ φ, o ≠ .ext φ := by intro _ z; cases z) : Ok S K t G F (upd H p o) where
  nt := k.nt' nt
  nx := k.nx' nx
  same := fun a u e => by rw [upd_ne (ne_of_none e n)]; exact k.same a u e
  gf := k.gf
  fh := fun a e => by
    have : a ≠ p := fun z => by subst z; exact nf e
    rw [upd_ne this]; exact k.fh a e
  r := S.st k.r (Same.refl G) fun a e => by
    have : a ≠ p := fun z => by subst z; exact nf e
    rw [upd_ne this]
/-- an object of one's own is said for ever from now on -/
theorem Ok.frz (k : Ok S K t G F H) (e : H p = some o) (n : G p = none) (nf : ¬ F p) : Ok S K t (upd G p o) F H where
  nt := k.nt
  nx := fun a φ z => by
    by_cases q : a = p
    · subst q; rw [upd_same]; rw [e] at z; exact z
    · rw [upd_ne q]; exact k.nx a φ z
  same := fun a u z => by
    by_cases q : a = p
    · subst q; rw [upd_same] at z; cases z; exact e
    · rw [upd_ne q] at z; exact k.same a u z
  gf := fun a z => by
    have : a ≠ p := fun z' => by subst z'; exact nf z
    rw [upd_ne this]; exact k.gf a z
  fh := k.fh
  r := S.st k.r (fun a u z => by rw [upd_ne (ne_of_none z n)]; exact z) fun a _ => rfl
end
/-! ### what slots and results hold -/
inductive SV where
  /-- nothing that is known -/
  | no
  /-- data -/
  | d (x : D)
  /-- a list of one's own -/
  | ol (xs : List D)
  /-- a list of one's own, looked at -/
  | vw (xs : List D)
  /-- a value as it is -/
  | raw (v : V)
/-- a list that is read -/
def SV.lst? : SV → Option (List D)
  | .d (.list xs) => some xs
  | .ol xs => some xs
  | .vw xs => some xs
  | _ => none
/-- a list of one's own at p: neither said for ever, nor the store's -/
structure Own (K : PySem.W.Frag) (H0 G : Hp) (F : Addr → Prop) (H : Hp) (p : Addr) (xs : List D) : Prop where
  at' : ∃ vs, H p = some (.lst vs) ∧ RpAll K G vs xs
  g : G p = none
  f : ¬ F p
  new : H0 p = none
theorem Own.step {K : PySem.W.Frag} {H0 G F H G' F' H' p xs} (o : Own K H0 G F H p xs) (s : Step G F H G' F' H') : Own K H0 G' F' H' p xs := by
  obtain ⟨⟨vs, e, a⟩, g, f, n⟩ := o
  refine ⟨⟨vs, s.h p _ f e, a.mono s.g⟩, ?_, fun z => ?_, n⟩
  · cases q : G' p with
    | none => rfl
    | some u =>
      rcases s.gn p u q with z | z
      · rw [g] at z; cases z
      · rcases z with z | ⟨⟨_, z⟩, _⟩
        · rw [e] at z; cases z
        · rw [e] at z; cases z
  · rcases s.fn p z with z | z
    · exact f z
    · rw [e] at z; cases z
/-- a slot -/
def SvR (K : PySem.W.Frag) (H0 G : Hp) (F : Addr → Prop) (H : Hp) : SV → Option V → Prop
  | .no, _ => True
  | .d x, o => ∃ v, o = some v ∧ Rp K G v x
  | .ol xs, o => ∃ p, o = some (.ref p) ∧ Own K H0 G F H p xs
  | .vw _, _ => False
  | .raw v, o => o = some v
theorem SvR.step {K : PySem.W.Frag} {H0 G F H G' F' H' o} (st : Step G F H G' F' H') : ∀ {s : SV}, SvR K H0 G F H s o → SvR K H0 G' F' H' s o
  | .no, _ => trivial
  | .d _, ⟨v, e, r⟩ => ⟨v, e, r.mono st.g⟩
  | .ol _, ⟨p, e, w⟩ => ⟨p, e, w.step st⟩
  | .vw _, h => h.elim
  | .raw _, h => h
structure EnvR (K : PySem.W.Frag) (H0 G : Hp) (F : Addr → Prop) (H : Hp) (σ : L2.St) (env : List SV) : Prop where
  len : σ.length = env.length
  at' : ∀ (i : Nat) (s : SV), env[i]? = some s → SvR K H0 G F H s (σ[i]?.join)
  sep : ∀ (i j : Nat) (xs ys : List D), i ≠ j → env[i]? = some (.ol xs) → env[j]? = some (.ol ys) → σ[i]?.join ≠ σ[j]?.join
theorem EnvR.step {K : PySem.W.Frag} {H0 G F H G' F' H' σ env} (e : EnvR K H0 G F H σ env) (st : Step G F H G' F' H') : EnvR K H0 G' F' H' σ env :=
  ⟨e.len, fun i s h => (e.at' i s h).step st, e.sep⟩
/-- a result: H is the heap ahead -/
def Res (K : PySem.W.Frag) (Ha G : Hp) (F : Addr → Prop) (H : Hp) : SV → V → Prop
  | .no, _ => False
  | .d x, v => Rp K G v x
  | .ol xs, v => ∃ p, v = .ref p ∧ Own K Ha G F H p xs
  | .vw xs, v => ∃ p vs, v = .ref p ∧ H p = some (.lst vs) ∧ RpAll K G vs xs ∧ ¬ F p
  | .raw u, v => v = u
theorem Res.step {K : PySem.W.Frag} {Ha G F H G' F' H' v} (st : Step G F H G' F' H') {s : SV} (h : Res K Ha G F H s v) : Res K Ha G' F' H' s v := by
  cases s with
  | no => exact h.elim
  | raw _ => exact h
  | d x => exact Rp.mono st.g h
  | ol xs =>
    obtain ⟨p, e, w⟩ := h
    exact ⟨p, e, w.step st⟩
  | vw xs =>
    obtain ⟨p, vs, e, e2, a, nf⟩ := h
    refine ⟨p, vs, e, st.h p _ nf e2, a.mono st.g, fun z => ?_⟩
    rcases st.fn p z with z | z
    · exact nf z
    · rw [e2] at z; cases z
/-- the heap ahead may be an earlier one -/
theorem Res.back {K : PySem.W.Frag} {Ha Hb G F H v} (b : ∀ a, Ha a = none → Hb a = none) {s : SV} (h : Res K Ha G F H s v) : Res K Hb G F H s v := by
  cases s with
  | ol xs =>
    obtain ⟨p, e, w⟩ := h
    exact ⟨p, e, w.at', w.g, w.f, b p w.new⟩
  | _ => exact h
/-- what is read as a list -/
theorem Res.sql {K : PySem.W.Frag} {Ha G F H v} (sm : Same G H) {s : SV} {xs : List D} (h : Res K Ha G F H s v) (z : s.lst? = some xs) : ∃ p vs, v = .ref p ∧ SqP K H p vs ∧ RpAll K G vs xs := by
  cases s with
  | no => exact h.elim
  | raw _ => cases z
  | ol _ =>
    obtain ⟨p, e, w⟩ := h
    cases z
    obtain ⟨vs, e2, a⟩ := w.at'
    exact ⟨p, vs, e, .inl (.inl e2), a⟩
  | vw _ =>
    obtain ⟨p, vs, e, e2, a, _⟩ := h
    cases z
    exact ⟨p, vs, e, .inl (.inl e2), a⟩
  | d x =>
    have hr : Rp K G v x := h
    clear h
    cases hr with
    | lst h a => cases z; exact ⟨_, _, rfl, same_sqp sm h, a⟩
    | _ => cases z
/-! ### where a def stands -/
structure Bk where
  S : Sto
  K : PySem.W.Frag
  G : Hp
  F : Addr → Prop
  H : Hp
abbrev Bk.T (B : Bk) := B.S.T
structure StR (B : Bk) (G : Hp) (F : Addr → Prop) (σ : L2.St) (H : Hp) (env : List SV) (τ : B.T) : Prop where
  s : Step B.G B.F B.H G F H
  k : Ok B.S B.K τ G F H
  e : EnvR B.K B.H G F H σ env
theorem StR.step {B : Bk} {G F σ H env τ G' F' H' τ'} (s : StR B G F σ H env τ) (st : Step G F H G' F' H') (k : Ok B.S B.K τ' G' F' H') : StR B G' F' σ H' env τ' :=
  ⟨s.s.trans st, k, s.e.step st⟩
/-- readings by data -/
abbrev W (T : Type) := List SV → T → (SV → T → Prop) → Prop
abbrev WT (T : Type) := List SV → T → (Bool → T → Prop) → Prop
abbrev WA (T : Type) := List SV → T → (List SV → T → Prop) → Prop
structure Fin (B : Bk) (G : Hp) (F : Addr → Prop) (H : Hp) (τ' : B.T) (G' : Hp) (F' : Addr → Prop) (H' : Hp) : Prop where
  s : Step G F H G' F' H'
  k : Ok B.S B.K τ' G' F' H'
theorem Fin.trans {B : Bk} {G F H τ1 G1 F1 H1 τ2 G2 F2 H2} (a : Fin B G F H τ1 G1 F1 H1) (b : Fin B G1 F1 H1 τ2 G2 F2 H2) : Fin B G F H τ2 G2 F2 H2 := ⟨a.s.trans b.s, b.k⟩
theorem StR.fin {B : Bk} {G F σ H env τ G' F' H' τ'} (s : StR B G F σ H env τ) (f : Fin B G F H τ' G' F' H') : StR B G' F' σ H' env τ' := s.step f.s f.k
theorem StR.refl {B : Bk} {G F σ H env τ} (s : StR B G F σ H env τ) : Fin B G F H τ G F H := ⟨Step.refl _ _ _, s.k⟩
def lift (B : Bk) (t : W B.T) : TE := fun σ H Q => ∃ G F env τ Qd, StR B G F σ H env τ ∧ t env τ Qd ∧
  ∀ r τ' G' F' H' v, Fin B G F H τ' G' F' H' → Res B.K H G' F' H' r v → Qd r τ' → Q v H'
def liftT (B : Bk) (t : WT B.T) : TT := fun σ H Q => ∃ G F env τ Qd, StR B G F σ H env τ ∧ t env τ Qd ∧
  ∀ b τ' G' F' H', Fin B G F H τ' G' F' H' → Qd b τ' → Q b H'
/-- each of several results -/
inductive ResAll (K : PySem.W.Frag) (Ha G : Hp) (F : Addr → Prop) (H : Hp) : List SV → List V → Prop
  | nil : ResAll K Ha G F H [] []
  | cons {r : SV} {rs : List SV} {v : V} {vs : List V} : Res K Ha G F H r v → ResAll K Ha G F H rs vs → ResAll K Ha G F H (r :: rs) (v :: vs)
theorem ResAll.back {K : PySem.W.Frag} {Ha Hb G F H} (b : ∀ a, Ha a = none → Hb a = none) : ∀ {rs : List SV} {vs : List V}, ResAll K Ha G F H rs vs → ResAll K Hb G F H rs vs
  | _, _, .nil => .nil
  | _, _, .cons r t => .cons (r.back b) (t.back b)
theorem ResAll.length {K : PySem.W.Frag} {Ha G F H} : ∀ {rs : List SV} {vs : List V}, ResAll K Ha G F H rs vs → rs.length = vs.length
  | _, _, .nil => rfl
  | _, _, .cons _ t => congrArg Nat.succ t.length
def liftA (B : Bk) (t : WA B.T) : TA := fun σ H Q => ∃ G F env τ Qd, StR B G F σ H env τ ∧ t env τ Qd ∧
  ∀ rs τ' G' F' H' vs, Fin B G F H τ' G' F' H' → ResAll B.K H G' F' H' rs vs → Qd rs τ' → Q vs H'
/-- one elimination for all of these -/
theorem ex53 {α β γ δ ε : Sort _} {P A B : α → β → γ → δ → ε → Prop} {R : Prop} (h : ∃ a b c d e, P a b c d e ∧ A a b c d e ∧ B a b c d e)
    (k : ∀ a b c d e, P a b c d e → A a b c d e → B a b c d e → R) : R := by
  obtain ⟨a, b, c, d, e, h1, h2, h3⟩ := h
  exact k a b c d e h1 h2 h3
theorem dead {H H' : Hp} (d : ∀ a, H a ≠ none → H' a ≠ none) (a : Addr) (n : H' a = none) : H a = none :=
  Classical.byContradiction fun q => d a q n
section
variable {X : Cx} {e : Expr} {t t' : TE}
theorem pe_imp (h : PE X e t) (i : ∀ σ H Q, t' σ H Q → t σ H Q) : PE X e t' := ⟨fun pins s σ H Q I z => h.run pins s σ H Q I (i σ H Q z)⟩
theorem pt_imp {t t' : TT} (h : PT X e t) (i : ∀ σ H Q, t' σ H Q → t σ H Q) : PT X e t' := ⟨fun pins s σ H Q I z => h.run pins s σ H Q I (i σ H Q z)⟩
theorem pa_imp {es : List Expr} {t t' : TA} (h : PA X es t) (i : ∀ σ H Q, t' σ H Q → t σ H Q) : PA X es t' := ⟨fun pos pins s σ H Q I z => h.run pos pins s σ H Q I (i σ H Q z)⟩
theorem ps_imp {st : Stmt} {t t' : TS} (h : PS X st t) (i : ∀ D σ H, t' D σ H → t D σ H) : PS X st t' := ⟨fun pins s σ H D I z => h.run pins s σ H D I (i D σ H z)⟩
theorem pss_imp {st : List Stmt} {t t' : TS} (h : PSs X st t) (i : ∀ D σ H, t' D σ H → t D σ H) : PSs X st t' := ⟨fun pins s σ H D I z => h.run pins s σ H D I (i D σ H z)⟩
end
/-! ### names, constants -/
section
variable {X : Cx} {B : Bk} {e : Expr}
/-- the name in slot i -/
def kV {T : Type} (Q : SV → T → Prop) (τ : T) : Option SV → Prop
  | some (.d x) => Q (.d x) τ
  | some (.ol xs) => Q (.vw xs) τ
  | some (.raw v) => Q (.raw v) τ
  | _ => False
def dVar {T : Type} (i : Nat) : W T := fun env τ Q => kV Q τ env[i]?
theorem de_var {i : Nat} (h : PE X e (tVar i)) : PE X e (lift B (dVar i)) := by
  refine pe_imp h fun σ H Q z9 => ex53 z9 fun G F env τ Qd s t k => ?_
  have t : kV Qd τ env[i]? := t
  cases q : env[i]? with
  | none => rw [q] at t; exact False.elim t
  | some sv =>
    rw [q] at t
    have r := s.e.at' i sv q
    cases sv with
    | no => exact False.elim t
    | vw _ => exact False.elim t
    | d x =>
      obtain ⟨v, e1, r⟩ := r
      have e2 : σ[i]? = some (some v) := by
        cases z : σ[i]? with
        | none => rw [z] at e1; cases e1
        | some o => rw [z] at e1; exact congrArg some e1
      exact ⟨v, e2, k (.d x) _ _ _ _ _ s.refl r t⟩
    | ol xs =>
      obtain ⟨p, e1, w⟩ := r
      have e2 : σ[i]? = some (some (.ref p)) := by
        cases z : σ[i]? with
        | none => rw [z] at e1; cases e1
        | some o => rw [z] at e1; exact congrArg some e1
      obtain ⟨vs, h1, h2⟩ := w.at'
      exact ⟨_, e2, k (.vw xs) _ _ _ _ _ s.refl ⟨p, vs, rfl, h1, h2, w.f⟩ t⟩
    | raw v =>
      have e1 : σ[i]?.join = some v := r
      have e2 : σ[i]? = some (some v) := by
        cases z : σ[i]? with
        | none => rw [z] at e1; cases e1
        | some o => rw [z] at e1; exact congrArg some e1
      exact ⟨v, e2, k (.raw v) _ _ _ _ _ s.refl rfl t⟩
/-- what is always the same data -/
def dC {T : Type} (x : D) : W T := fun _ τ Q => Q (.d x) τ
theorem de_c {v : V} {x : D} (h : PE X e (tC v)) (r : ∀ G, Rp B.K G v x) : PE X e (lift B (dC x)) :=
  pe_imp h fun σ H Q z9 => ex53 z9 fun G F env τ Qd s t k => k (.d x) _ _ _ _ _ s.refl (r G) t
theorem de_int {i j pos} : PE X (.Constant (.int i) j pos) (lift B (dC (.int i))) := de_c pe_int fun _ => .int i
theorem de_bl {b j pos} : PE X (.Constant (.bool b) j pos) (lift B (dC (.bool b))) := de_c pe_bl fun _ => .bl b
theorem de_str {x j pos} : PE X (.Constant (.str x) j pos) (lift B (dC (.str x))) := de_c pe_str fun _ => .str x
def dRaw {T : Type} (v : V) : W T := fun _ τ Q => Q (.raw v) τ
end
end Z
namespace Z
open PySem L2
/-- what follows a result -/
abbrev FinT (B : Bk) (G : Hp) (F : Addr → Prop) (H : Hp) (τ : B.T) (Qv : SV → Prop) (Q : VK) : Prop := ∀ z G' F' H' v, Fin B G F H τ G' F' H' → Res B.K H G' F' H' z v → Qv z → Q v H'
section
variable {B : Bk} {G : Hp} {F : Addr → Prop} {H : Hp} {τ : B.T} {Qv : SV → Prop} {Q : VK}
theorem Fin.rfl' (k : Ok B.S B.K τ G F H) : Fin B G F H τ G F H := ⟨Step.refl _ _ _, k⟩
theorem FinT.d {v : V} {x : D} (fin : FinT B G F H τ Qv Q) (k : Ok B.S B.K τ G F H) (r : Rp B.K G v x) (h : Qv (.d x)) : Q v H := fin (.d x) G F H v (.rfl' k) r h
/-- a new list: one's own -/
theorem new_lst {p : Addr} {vs : List V} {xs : List D} (k : Ok B.S B.K τ G F H) (n : H p = none) (a : RpAll B.K G vs xs) : Fin B G F H τ G F (upd H p (.lst vs)) ∧ Res B.K H G F (upd H p (.lst vs)) (.ol xs) (.ref p) := by
  refine ⟨⟨Step.alloc n, k.alloc n⟩, p, rfl, ⟨vs, upd_same, a⟩, ?_, fun z => k.fh p z n, n⟩
  cases q : G p with
  | none => rfl
  | some u => rw [k.same _ _ q] at n; cases n
/-- a new tuple: said for ever -/
theorem new_tup {p : Addr} {vs : List V} {xs : List D} (k : Ok B.S B.K τ G F H) (n : H p = none) (a : RpAll B.K G vs xs) :
    Fin B G F H τ (upd G p (.tup vs)) F (upd H p (.tup vs)) ∧ Res B.K H (upd G p (.tup vs)) F (upd H p (.tup vs)) (.d (.tuple xs)) (.ref p) := by
  have st := Step.new (o := .tup vs) n k.same k.fh
  exact ⟨⟨st, k.new n⟩, Rp.tup (.inl upd_same) (a.mono st.g)⟩
theorem FinT.ol {p : Addr} {vs : List V} {xs : List D} (fin : FinT B G F H τ Qv Q) (k : Ok B.S B.K τ G F H) (n : H p = none) (a : RpAll B.K G vs xs) (h : Qv (.ol xs)) : Q (.ref p) (upd H p (.lst vs)) :=
  fin _ _ _ _ _ (new_lst k n a).1 (new_lst k n a).2 h
theorem FinT.tup {p : Addr} {vs : List V} {xs : List D} (fin : FinT B G F H τ Qv Q) (k : Ok B.S B.K τ G F H) (n : H p = none) (a : RpAll B.K G vs xs) (h : Qv (.d (.tuple xs))) : Q (.ref p) (upd H p (.tup vs)) :=
  fin _ _ _ _ _ (new_tup k n a).1 (new_tup k n a).2 h
end
/-! ### operations by values -/
def OpD (B : Bk) (r : R2) (g : SV → SV → (SV → Prop) → Prop) : Prop :=
  ∀ (x y : SV) (vx vy : V) (Ha Hb G : Hp) (F : Addr → Prop) (H : Hp) (τ : B.T) (Qv : SV → Prop) (Q : VK), Ok B.S B.K τ G F H → Res B.K Ha G F H x vx → Res B.K Hb G F H y vy → g x y Qv →
    FinT B G F H τ Qv Q → r vx vy H Q
def dOp {T : Type} (g : SV → SV → (SV → Prop) → Prop) (ta tb : W T) : W T := fun env τ Q => ta env τ fun x τ1 => tb env τ1 fun y τ2 => g x y fun z => Q z τ2
theorem OpD.or {B : Bk} {r r' : R2} {g g' : SV → SV → (SV → Prop) → Prop} (a : OpD B r g) (b : OpD B r' g') : OpD B (fun x y H Q => r x y H Q ∨ r' x y H Q) (fun x y Q => g x y Q ∨ g' x y Q) :=
  fun x y vx vy Ha Hb G F H τ Qv Q k rx ry h q => h.elim (fun h => .inl (a x y vx vy Ha Hb G F H τ Qv Q k rx ry h q)) fun h => .inr (b x y vx vy Ha Hb G F H τ Qv Q k rx ry h q)
theorem OpD.imp {B : Bk} {r : R2} {g g' : SV → SV → (SV → Prop) → Prop} (a : OpD B r g) (i : ∀ x y Q, g' x y Q → g x y Q) : OpD B r g' :=
  fun x y vx vy Ha Hb G F H τ Qv Q k rx ry h q => a x y vx vy Ha Hb G F H τ Qv Q k rx ry (i _ _ _ h) q
section
variable {X : Cx} {B : Bk} {a b c : Expr} {pos : Pos} {ta tb tc : W B.T} {r r' : R2} {g g' : SV → SV → (SV → Prop) → Prop}
theorem lift_op (hd : OpD B r g) : ∀ σ H Q, lift B (dOp g ta tb) σ H Q → tOp r (lift B ta) (lift B tb) σ H Q := fun σ H Q z9 => ex53 z9 fun G F env τ Qd s t k =>
  ⟨G, F, env, τ, _, s, t, fun x τ1 G1 F1 H1 vx f1 r1 q1 => ⟨G1, F1, env, τ1, _, s.fin f1, q1, fun y τ2 G2 F2 H2 vy f2 r2 q2 =>
    hd x y vx vy _ _ G2 F2 H2 τ2 _ _ f2.k (r1.step f2.s) r2 q2 fun z G3 F3 H3 v f3 r3 q3 => k z τ2 G3 F3 H3 v (f1.trans (f2.trans f3)) (r3.back (dead (f1.trans f2).s.dom)) q3⟩⟩
theorem de_op {op : Operator} (ho : OpR X (binaryOp op) r) (hd : OpD B r g) (ha : PE X a (lift B ta)) (hb : PE X b (lift B tb)) : PE X (.BinOp a op b pos) (lift B (dOp g ta tb)) :=
  pe_imp (pe_op ho ha hb) (lift_op hd)
/-- a truth value as a test -/
def kG {T : Type} (Q : SV → T → Prop) (τ : T) (z : SV) : Prop := Q z τ
def kTb {T : Type} (Q : Bool → T → Prop) (τ : T) : Option Bool → Prop
  | some b => Q b τ
  | none => False
def SV.bl? : SV → Option Bool
  | .d (.bool b) => some b
  | _ => none
def kT {T : Type} (Q : Bool → T → Prop) (x : SV) (τ : T) : Prop := kTb Q τ x.bl?
theorem kTb_of {T : Type} {Q : Bool → T → Prop} {τ : T} {o : Option Bool} (h : kTb Q τ o) : ∃ b, o = some b ∧ Q b τ := by
  cases o with
  | none => exact False.elim h
  | some b => exact ⟨b, rfl, h⟩
theorem kTb_bl {T : Type} {Q : Bool → T → Prop} {τ : T} {x : SV} (h : kTb Q τ x.bl?) : ∃ b, x = .d (.bool b) ∧ Q b τ := by
  unfold SV.bl? at h
  split at h
  · exact ⟨_, rfl, h⟩
  · exact False.elim h
def dT {T : Type} (t : W T) : WT T := fun env τ Q => t env τ (kT Q)
theorem rbl {K : PySem.W.Frag} {Ha G F H v k} (h : Res K Ha G F H (.d (.bool k)) v) : v = .bl k := by
  have h : Rp K G v (.bool k) := h
  cases h
  rfl
theorem rint {K : PySem.W.Frag} {Ha G F H v k} (h : Res K Ha G F H (.d (.int k)) v) : v = .int k := by
  have h : Rp K G v (.int k) := h
  cases h
  rfl
theorem rstr {K : PySem.W.Frag} {Ha G F H v k} (h : Res K Ha G F H (.d (.str k)) v) : v = .str k := by
  have h : Rp K G v (.str k) := h
  cases h
  rfl
theorem rtup {K : PySem.W.Frag} {Ha G F H v xs} (h : Res K Ha G F H (.d (.tuple xs)) v) : ∃ p vs, v = .ref p ∧ SqTP K G p vs ∧ RpAll K G vs xs := by
  have h : Rp K G v (.tuple xs) := h
  cases h with
  | tup h1 a => exact ⟨_, _, rfl, h1, a⟩
theorem lift_tst {te : TE} (i : ∀ σ H Q, lift B ta σ H Q → te σ H Q) : ∀ σ H Q, liftT B (dT ta) σ H Q → tTest te σ H Q := fun σ H Q z9 => ex53 z9 fun G F env τ Qd s t k =>
  i _ _ _ ⟨G, F, env, τ, _, s, t, fun x τ1 G1 F1 H1 vx f1 r1 q0 => by
    obtain ⟨b, e, q⟩ := kTb_bl q0
    subst e
    exact ⟨b, rbl r1, k b τ1 G1 F1 H1 f1 q⟩⟩
theorem dt_cmp {op : CmpOp} (ho : OpR X (compareOp op) r) (hd : OpD B r g) (ha : PE X a (lift B ta)) (hb : PE X b (lift B tb)) (hm : behindInMarks op b = false) : PT X (.Compare a [op] [b] pos) (liftT B (dT (dOp g ta tb))) :=
  pt_imp (pt_cmpR ho ha hb hm) (lift_tst (lift_op hd))
/-- a < b < c -/
def kCh3 {T : Type} (Q : SV → T → Prop) (τ : T) (u : SV) : Prop := Q u τ
def kCh4 {T : Type} (g' : SV → SV → (SV → Prop) → Prop) (y : SV) (Q : SV → T → Prop) (w : SV) (τ : T) : Prop := g' y w (kG Q τ)
def kChB {T : Type} (tc : W T) (env : List SV) (g' : SV → SV → (SV → Prop) → Prop) (y : SV) (Q : SV → T → Prop) (b : Bool) (τ : T) : Prop := if b = true then tc env τ (kCh4 g' y Q) else Q (.d (.bool false)) τ
def kCh2 {T : Type} (tc : W T) (env : List SV) (g g' : SV → SV → (SV → Prop) → Prop) (Q : SV → T → Prop) (x y : SV) (τ : T) : Prop := g x y (kG (kT (kChB tc env g' y Q)) τ)
def kCh1 {T : Type} (tb tc : W T) (env : List SV) (g g' : SV → SV → (SV → Prop) → Prop) (Q : SV → T → Prop) (x : SV) (τ : T) : Prop := tb env τ (kCh2 tc env g g' Q x)
def dChain {T : Type} (g g' : SV → SV → (SV → Prop) → Prop) (ta tb tc : W T) : W T := fun env τ Q => ta env τ (kCh1 tb tc env g g' Q)
end
/-! ### truth, and, or, not, if -/
def SV.truth : SV → Option Bool
  | .d .none => some false
  | .d (.bool b) => some b
  | .d (.int i) => some (i != 0)
  | .d (.str y) => if y.length ≤ sizeLine then some ((y.length : Int) != 0) else none
  | .d (.tuple xs) => some (!xs.isEmpty)
  | .d (.list xs) => some (!xs.isEmpty)
  | .d (.dict _) => none
  | .ol xs => some (!xs.isEmpty)
  | .vw xs => some (!xs.isEmpty)
  | _ => none
theorem isE {K : PySem.W.Frag} {G : Hp} {vs : List V} {xs : List D} (a : RpAll K G vs xs) : (!xs.isEmpty) = !vs.isEmpty := by
  cases a <;> rfl
theorem Res.truth {K : PySem.W.Frag} {Ha G F H v k} (sm : Same G H) {x : SV} (h : Res K Ha G F H x v) (e : x.truth = some k) : TruV K v H k := by
  cases x with
  | no => exact h.elim
  | raw _ => cases e
  | ol xs =>
    obtain ⟨p, e1, w⟩ := h
    cases e
    subst e1
    obtain ⟨vs, e2, a⟩ := w.at'
    exact .inl ⟨_, .of e2, isE a⟩
  | vw xs =>
    obtain ⟨p, vs, e1, e2, a, _⟩ := h
    cases e
    subst e1
    exact .inl ⟨_, .of e2, isE a⟩
  | d x =>
    have hr : Rp K G v x := h
    clear h
    cases hr with
    | non => cases e; rfl
    | bl b => cases e; rfl
    | int i => cases e; rfl
    | str y =>
      have e' : (if y.length ≤ sizeLine then some ((y.length : Int) != 0) else none) = some k := e
      split at e'
      · rename_i h
        cases e'
        exact ⟨h, rfl⟩
      · cases e'
    | tup h a => cases e; exact .inr (.inl ⟨_, same_seqT sm h, isE a⟩)
    | lst h a => cases e; exact .inl ⟨_, (same_sqp sm h).sql, isE a⟩
    | _ => cases e
section
variable {X : Cx} {B : Bk} {a b c : Expr} {pos : Pos} {ta tb tc : W B.T} {rest : List Expr} {tA tB' : WT B.T}
def kTru {T : Type} (Q : Bool → T → Prop) (x : SV) (τ : T) : Prop := kTb Q τ x.truth
def dTru {T : Type} (t : W T) : WT T := fun env τ Q => t env τ (kTru Q)
theorem dt_tru (hK : X.K = B.K) (ha : PE X a (lift B ta)) (he : ∀ whole, isTrue a X.env whole = (do let v ← whole; standAt a.pos; holding [v] (truthy v)) := by intro _; rfl) : PT X a (liftT B (dTru ta)) :=
  pt_imp (pt_truth ha he) fun σ H Q z9 => ex53 z9 fun G F env τ Qd s t k => ⟨G, F, env, τ, _, s, t, fun x τ1 G1 F1 H1 vx f1 r1 q0 => by
    obtain ⟨b, e, q⟩ := kTb_of q0
    exact ⟨b, by rw [hK]; exact r1.truth f1.k.same e, k b τ1 G1 F1 H1 f1 q⟩⟩
def dAndT {T : Type} (t u : WT T) : WT T := fun env τ Q => t env τ fun c τ1 => if c = true then u env τ1 Q else Q false τ1
def dOrT {T : Type} (t u : WT T) : WT T := fun env τ Q => t env τ fun c τ1 => if c = true then Q true τ1 else u env τ1 Q
def dNotT {T : Type} (t : WT T) : WT T := fun env τ Q => t env τ fun c τ1 => Q (!c) τ1
theorem dw_or1 (ha : PT X a (liftT B tA)) : PW X (.BoolOp .Or [a] pos) (liftT B tA) := pw_or1 ha
theorem pw_imp {e : Expr} {t t' : TT} (h : PW X e t) (i : ∀ σ H Q, t' σ H Q → t σ H Q) : PW X e t' := ⟨fun wh pins s σ H Q I z => h.run wh pins s σ H Q I (i σ H Q z)⟩
theorem dw_or (ha : PT X a (liftT B tA)) (hb : PW X (.BoolOp .Or (b :: rest) pos) (liftT B tB')) : PW X (.BoolOp .Or (a :: b :: rest) pos) (liftT B (dOrT tA tB')) :=
  pw_imp (pw_or ha hb) fun σ H Q z9 => ex53 z9 fun G F env τ Qd s t k => ⟨G, F, env, τ, _, s, t, fun c τ1 G1 F1 H1 f1 q => by
    cases c with
    | false =>
      refine iteF ⟨G1, F1, env, τ1, _, s.fin f1, q, fun d τ2 G2 F2 H2 f2 q2 => k d τ2 G2 F2 H2 (f1.trans f2) q2⟩
    | true => exact iteT (k true τ1 G1 F1 H1 f1 q)⟩
theorem dt_w (h : PW X a (liftT B tA)) : PT X a (liftT B tA) := h.pt
theorem dt_not (ha : PT X a (liftT B tA)) : PT X (.UnaryOp .Not a pos) (liftT B (dNotT tA)) :=
  pt_imp (pt_not ha) fun σ H Q z9 => ex53 z9 fun G F env τ Qd s t k => ⟨G, F, env, τ, _, s, t, fun c τ1 G1 F1 H1 f1 q => k (!c) τ1 G1 F1 H1 f1 q⟩
/-- as values -/
def kAndB {T : Type} (tb : W T) (env : List SV) (Q : SV → T → Prop) (x : SV) (τ : T) : Option Bool → Prop
  | some true => tb env τ Q
  | some false => Q x τ
  | none => False
def kOrB {T : Type} (tb : W T) (env : List SV) (Q : SV → T → Prop) (x : SV) (τ : T) : Option Bool → Prop
  | some true => Q x τ
  | some false => tb env τ Q
  | none => False
def kAnd {T : Type} (tb : W T) (env : List SV) (Q : SV → T → Prop) (x : SV) (τ : T) : Prop := kAndB tb env Q x τ x.truth
def kOr {T : Type} (tb : W T) (env : List SV) (Q : SV → T → Prop) (x : SV) (τ : T) : Prop := kOrB tb env Q x τ x.truth
def kNotB {T : Type} (Q : SV → T → Prop) (τ : T) : Option Bool → Prop
  | some b => Q (.d (.bool (!b))) τ
  | none => False
def kNot {T : Type} (Q : SV → T → Prop) (x : SV) (τ : T) : Prop := kNotB Q τ x.truth
def dAnd {T : Type} (ta tb : W T) : W T := fun env τ Q => ta env τ (kAnd tb env Q)
def dOr {T : Type} (ta tb : W T) : W T := fun env τ Q => ta env τ (kOr tb env Q)
def dNot {T : Type} (ta : W T) : W T := fun env τ Q => ta env τ (kNot Q)
def dIf {T : Type} (t : WT T) (ta tb : W T) : W T := fun env τ Q => t env τ fun c τ1 => if c = true then ta env τ1 Q else tb env τ1 Q
end
/-! ### ints -/
def gI (C : Int → Int → Prop) (f : Int → Int → D) (x y : SV) (Q : SV → Prop) : Prop := match x, y with
  | .d (.int i), .d (.int j) => C i j ∧ Q (.d (f i j))
  | _, _ => False
theorem gI_of {C : Int → Int → Prop} {f : Int → Int → D} {x y : SV} {Q : SV → Prop} (h : gI C f x y Q) : ∃ i j, x = .d (.int i) ∧ y = .d (.int j) ∧ C i j ∧ Q (.d (f i j)) := by
  unfold gI at h
  split at h
  · exact ⟨_, _, rfl, rfl, h⟩
  · exact False.elim h
def noC (_ _ : Int) : Prop := True
section
variable {X : Cx} {B : Bk}
theorem od_I {C : Int → Int → Prop} {f : Int → Int → Int} : OpD B (rI C fun i j => .int (f i j)) (gI C fun i j => .int (f i j)) := fun x y vx vy Ha Hb G F H τ Qv Q k rx ry q0 fin => by
  obtain ⟨i, j, e1, e2, hc, q⟩ := gI_of q0
  subst e1 e2
  exact ⟨i, j, rint rx, rint ry, hc, fin.d k (Rp.int _) q⟩
end
/-! ### + -/
section
variable {X : Cx} {B : Bk}
/-- list + list, of any lists that are read -/
def rCatL (K : PySem.W.Frag) : R2 := fun x y H Q => ∃ l b xs zs, x = .ref l ∧ y = .ref b ∧ SqP K H l xs ∧ SqP K H b zs ∧ xs.length + zs.length ≤ sizeLine ∧ ∀ p, H p = none → Q (.ref p) (upd H p (.lst (xs ++ zs)))
theorem SqP.isL {pins : List (Addr × Obj)} {σ : L2.St} {H : Hp} {s : Shared} {a : Addr} {xs : List V} (I : Inv X pins σ H s) (h : SqP X.K H a xs) :
    ∃ (its : List Value) (n : Nat), Vals xs its ∧ s.heap.get? a = some { cls := .type "list", data := .seq its.toArray n } ∧ xs.length ≤ sizeLine := by
  rcases h with h | ⟨its, h, hz, r⟩
  · obtain ⟨z, its, n, r, e⟩ := h.ok I.hok
    exact ⟨its, n, r, e, z⟩
  · exact ⟨its, 0, r, I.kIn a _ h, hz⟩
theorem op_catL : OpR X (binaryOp .Add) (rCatL X.K) := by
  intro pins s σ H x y v u Q I rx ry h
  obtain ⟨l, b, xs, zs, rfl, rfl, hH, hB, hz, q⟩ := h
  cases rx
  cases ry
  obtain ⟨its, n, r, e, _⟩ := hH.isL I
  obtain ⟨its2, n2, r2, e2, _⟩ := hB.isL I
  have hl := r.length
  have hl2 := r2.length
  refine PySem.P.add_list e e2 ?_ (by rw [List.size_toArray, List.size_toArray]; omega)
  have ea : its.toArray ++ its2.toArray = (its ++ its2).toArray := by simp
  rw [ea]
  exact ⟨.ref _, _, I.lnew (t' := s.toks) (r.append r2) (by rw [List.length_append]; omega), rfl, q _ I.fresh⟩
/-- + of ints, texts, tuples, lists -/
def rAddA (K : PySem.W.Frag) : R2 := fun x y H Q => (rI0 fun i j => .int (i + j)) x y H Q ∨ (∃ i j, x = .str i ∧ y = .str j ∧ i.length + j.length ≤ sizeLine ∧ Q (.str (i ++ j)) H) ∨ rCatA K x y H Q ∨ rCatL K x y H Q
theorem op_addA : OpR X (binaryOp .Add) (rAddA X.K) := op_add.or (op_add_str.or (op_catA.or op_catL))
def gAdd (x y : SV) (Q : SV → Prop) : Prop := match x, y with
  | .d (.int i), .d (.int j) => Q (.d (.int (i + j)))
  | .d (.str a), .d (.str b) => a.length + b.length ≤ sizeLine ∧ Q (.d (.str (a ++ b)))
  | .d (.tuple a), .d (.tuple b) => a.length + b.length ≤ sizeLine ∧ Q (.d (.tuple (a ++ b)))
  | x, y => ∃ xs ys, x.lst? = some xs ∧ y.lst? = some ys ∧ xs.length + ys.length ≤ sizeLine ∧ Q (.ol (xs ++ ys))
theorem od_add (hK : X.K = B.K) : OpD B (rAddA X.K) gAdd := fun x y vx vy Ha Hb G F H τ Qv Q k rx ry h fin => by
  rw [hK]
  unfold gAdd at h
  split at h
  · exact .inl ⟨_, _, rint rx, rint ry, fin.d k (Rp.int _) h⟩
  · exact .inr (.inl ⟨_, _, rstr rx, rstr ry, h.1, fin.d k (Rp.str _) h.2⟩)
  · obtain ⟨hz, h⟩ := h
    obtain ⟨p, vs, e1, s1, a1⟩ := rtup rx
    obtain ⟨q, ws, e2, s2, a2⟩ := rtup ry
    refine .inr (.inr (.inl ⟨p, q, vs, ws, e1, e2, same_seqT k.same s1, same_seqT k.same s2, by rw [a1.length, a2.length]; exact hz, fun z => ?_, fun z z2 => ?_, fun z z2 p' hp => ?_⟩))
    · subst z
      cases a1
      exact fin.d k (Rp.tup s2 a2) h
    · subst z2
      cases a2
      exact fin.d k (Rp.tup s1 (by rw [List.append_nil]; exact a1)) h
    · exact fin.tup k hp (a1.append a2) h
  · obtain ⟨xs, ys, e1, e2, hz, h⟩ := h
    obtain ⟨p, vs, e3, s1, a1⟩ := rx.sql k.same e1
    obtain ⟨q, ws, e4, s2, a2⟩ := ry.sql k.same e2
    refine .inr (.inr (.inr ⟨p, q, vs, ws, e3, e4, s1, s2, by rw [a1.length, a2.length]; exact hz, fun p' hp => ?_⟩))
    exact fin.ol k hp (a1.append a2) h
end
end Z
namespace Z
open PySem L2
/-! ### an own new list is said for ever -/
section
variable {B : Bk} {G G1 H H1 : Hp} {F F1 : Addr → Prop} {τ : B.T}
theorem Fin.frz {p : Addr} {xs : List D} (f : Fin B G F H τ G1 F1 H1) (o : Own B.K H G1 F1 H1 p xs) : ∃ G2, Fin B G F H τ G2 F1 H1 ∧ Same G1 G2 ∧ Rp B.K G2 (.ref p) (.list xs) := by
  obtain ⟨⟨vs, e, a⟩, g, nf, n⟩ := o
  have sm : Same G1 (upd G1 p (.lst vs)) := fun b u z => by rw [upd_ne (ne_of_none z g)]; exact z
  refine ⟨upd G1 p (.lst vs), ⟨⟨f.s.g.trans sm, f.s.h, fun b u z => ?_, f.s.fn, f.s.ff, f.s.dom⟩, f.k.frz e g nf⟩, sm, Rp.lst (.inl (.inl upd_same)) (a.mono sm)⟩
  by_cases q : b = p
  · subst q; exact .inr (.inl n)
  · rw [upd_ne q] at z; exact f.s.gn b u z
end
/-! ### arguments -/
def SV.arg : SV → Option SV
  | .ol xs => some (.d (.list xs))
  | .no => none
  | .d x => some (.d x)
  | .vw xs => some (.vw xs)
  | .raw v => some (.raw v)
def SV.dat? : SV → Option D
  | .d x => some x
  | .ol xs => some (.list xs)
  | _ => none
theorem Res.arg {B : Bk} {G H G1 H1 : Hp} {F F1 : Addr → Prop} {τ : B.T} {v : V} (f : Fin B G F H τ G1 F1 H1) : ∀ {r a : SV}, Res B.K H G1 F1 H1 r v → r.arg = some a →
    ∃ G2, Fin B G F H τ G2 F1 H1 ∧ Same G1 G2 ∧ Res B.K H G2 F1 H1 a v
  | .d x, _, r, e => by cases e; exact ⟨_, f, Same.refl _, r⟩
  | .vw x, _, r, e => by cases e; exact ⟨_, f, Same.refl _, r⟩
  | .raw x, _, r, e => by cases e; exact ⟨_, f, Same.refl _, r⟩
  | .no, _, r, _ => r.elim
  | .ol xs, _, ⟨p, e1, o⟩, e => by
    cases e
    subst e1
    obtain ⟨G2, f2, sm, r⟩ := f.frz o
    exact ⟨G2, f2, sm, r⟩
theorem Res.dat {B : Bk} {G H G1 H1 : Hp} {F F1 : Addr → Prop} {τ : B.T} {v : V} (f : Fin B G F H τ G1 F1 H1) : ∀ {r : SV} {x : D}, Res B.K H G1 F1 H1 r v → r.dat? = some x →
    ∃ G2, Fin B G F H τ G2 F1 H1 ∧ Same G1 G2 ∧ Rp B.K G2 v x
  | .d x, _, r, e => by cases e; exact ⟨_, f, Same.refl _, r⟩
  | .vw x, _, r, e => by cases e
  | .raw x, _, r, e => by cases e
  | .no, _, r, _ => r.elim
  | .ol xs, _, ⟨p, e1, o⟩, e => by
    cases e
    subst e1
    exact f.frz o
theorem Res.same {K : PySem.W.Frag} {Ha G G' F H v} (sm : Same G G') (nf : ∀ p, ¬ F p → G p = none → H p ≠ none → Ha p = none → G' p = none) : ∀ {s : SV}, Res K Ha G F H s v → (∀ xs, s ≠ .ol xs) → Res K Ha G' F H s v
  | .no, h, _ => h.elim
  | .d _, r, _ => r.mono sm
  | .ol _, _, n => absurd rfl (n _)
  | .vw _, ⟨p, vs, e, e2, a, nf⟩, _ => ⟨p, vs, e, e2, a.mono sm, nf⟩
  | .raw _, h, _ => h
section
variable {X : Cx} {B : Bk} {e : Expr} {es : List Expr} {pos : Pos} {t : W B.T} {ta : WA B.T}
def dNil {T : Type} : WA T := fun _ τ Q => Q [] τ
def kCo2 {T : Type} (Q : List SV → T → Prop) (a : SV) (rs : List SV) (τ : T) : Prop := Q (a :: rs) τ
def kCoB {T : Type} (ta : WA T) (env : List SV) (Q : List SV → T → Prop) (τ : T) : Option SV → Prop
  | some a => ta env τ (kCo2 Q a)
  | none => False
def kCo {T : Type} (ta : WA T) (env : List SV) (Q : List SV → T → Prop) (r : SV) (τ : T) : Prop := kCoB ta env Q τ r.arg
def dCons {T : Type} (t : W T) (ta : WA T) : WA T := fun env τ Q => t env τ (kCo ta env Q)
theorem kCo_of {T : Type} {ta : WA T} {env : List SV} {Q : List SV → T → Prop} {r : SV} {τ : T} (h : kCo ta env Q r τ) : ∃ a, r.arg = some a ∧ ta env τ (kCo2 Q a) := by
  unfold kCo at h
  cases e : r.arg with
  | none => rw [e] at h; exact False.elim h
  | some a => rw [e] at h; exact ⟨a, rfl, h⟩
theorem da_nil : PA X [] (liftA B dNil) := pa_imp pa_nil fun σ H Q z9 => ex53 z9 fun G F env τ Qd s t k => k [] τ G F H [] s.refl .nil t
theorem da_cons (he : PE X e (lift B t)) (hr : PA X es (liftA B ta)) (hs : starEach (e :: es) X.env = (false, eval e X.env) :: starEach es X.env := by rfl) : PA X (e :: es) (liftA B (dCons t ta)) :=
  pa_imp (pa_cons he hr hs) fun σ H Q z9 => ex53 z9 fun G F env τ Qd s t k => ⟨G, F, env, τ, _, s, t, fun r τ1 G1 F1 H1 v f1 r1 q0 => by
    obtain ⟨a, e, q⟩ := kCo_of q0
    obtain ⟨G2, f2, sm, r2⟩ := r1.arg f1 e
    exact ⟨G2, F1, env, τ1, _, s.fin f2, q, fun rs τ2 G3 F3 H3 vs f3 r3 q3 => k (a :: rs) τ2 G3 F3 H3 (v :: vs) (f2.trans f3) (.cons (r2.step f3.s) (r3.back (dead f2.s.dom))) q3⟩⟩
def allD : List SV → Option (List D)
  | [] => some []
  | .d x :: r => (allD r).map (x :: ·)
  | _ :: _ => none
theorem ResAll.allD {K : PySem.W.Frag} {Ha G F H} : ∀ {rs : List SV} {vs : List V} {xs : List D}, ResAll K Ha G F H rs vs → Z.allD rs = some xs → RpAll K G vs xs
  | _, _, _, .nil, e => by cases e; exact .nil
  | .d x :: r, _, _, .cons h t, e => by
    cases q : Z.allD r with
    | none => rw [Z.allD, q] at e; cases e
    | some ys => rw [Z.allD, q] at e; cases e; exact .cons h (t.allD q)
  | .no :: r, _, _, .cons h t, e => by cases e
  | .ol _ :: r, _, _, .cons h t, e => by cases e
  | .vw _ :: r, _, _, .cons h t, e => by cases e
  | .raw _ :: r, _, _, .cons h t, e => by cases e
def kTupB {T : Type} (Q : SV → T → Prop) (τ : T) : Option (List D) → Prop
  | some xs => xs.length ≤ sizeLine ∧ Q (.d (.tuple xs)) τ
  | none => False
def kTup {T : Type} (Q : SV → T → Prop) (rs : List SV) (τ : T) : Prop := kTupB Q τ (allD rs)
def dTup {T : Type} (ta : WA T) : W T := fun env τ Q => ta env τ (kTup Q)
def kLstB {T : Type} (Q : SV → T → Prop) (τ : T) : Option (List D) → Prop
  | some xs => xs.length ≤ sizeLine ∧ Q (.ol xs) τ
  | none => False
def kLst {T : Type} (Q : SV → T → Prop) (rs : List SV) (τ : T) : Prop := kLstB Q τ (allD rs)
def dLst {T : Type} (ta : WA T) : W T := fun env τ Q => ta env τ (kLst Q)
theorem kTup_of {T : Type} {Q : SV → T → Prop} {rs : List SV} {τ : T} (h : kTup Q rs τ) : ∃ xs, allD rs = some xs ∧ xs.length ≤ sizeLine ∧ Q (.d (.tuple xs)) τ := by
  unfold kTup at h
  cases e : allD rs with
  | none => rw [e] at h; exact False.elim h
  | some xs => rw [e] at h; exact ⟨xs, rfl, h⟩
theorem kLst_of {T : Type} {Q : SV → T → Prop} {rs : List SV} {τ : T} (h : kLst Q rs τ) : ∃ xs, allD rs = some xs ∧ xs.length ≤ sizeLine ∧ Q (.ol xs) τ := by
  unfold kLst at h
  cases e : allD rs with
  | none => rw [e] at h; exact False.elim h
  | some xs => rw [e] at h; exact ⟨xs, rfl, h⟩
theorem FinT.trans {G G1 H H1 : Hp} {F F1 : Addr → Prop} {τ1 : B.T} {Qv : SV → B.T → Prop} {Q : VK} (k : ∀ r τ' G' F' H' v, Fin B G F H τ' G' F' H' → Res B.K H G' F' H' r v → Qv r τ' → Q v H') (f : Fin B G F H τ1 G1 F1 H1) :
    FinT B G1 F1 H1 τ1 (fun r => Qv r τ1) Q := fun z G' F' H' v f' r q => k z τ1 G' F' H' v (f.trans f') (r.back (dead f.s.dom)) q
theorem de_tup {x1} (h : PA X es (liftA B ta)) : PE X (.Tuple es x1 pos) (lift B (dTup ta)) :=
  pe_imp (pe_tup h) fun σ H Q z9 => ex53 z9 fun G F env τ Qd s t k => ⟨G, F, env, τ, _, s, t, fun rs τ1 G1 F1 H1 vs f1 r1 q0 => by
    obtain ⟨xs, e, z, q⟩ := kTup_of q0
    have a := r1.allD e
    exact ⟨by rw [a.length]; exact z, fun p hp => (FinT.trans k f1).tup f1.k hp a q⟩⟩
theorem de_lst (h : PA X es (liftA B ta)) : PE X (.List es pos) (lift B (dLst ta)) :=
  pe_imp (pe_lst h) fun σ H Q z9 => ex53 z9 fun G F env τ Qd s t k => ⟨G, F, env, τ, _, s, t, fun rs τ1 G1 F1 H1 vs f1 r1 q0 => by
    obtain ⟨xs, e, z, q⟩ := kLst_of q0
    have a := r1.allD e
    exact ⟨by rw [a.length]; exact z, fun p hp => (FinT.trans k f1).ol f1.k hp a q⟩⟩
end
/-! ### calls of built-ins, by values -/
def CallD (B : Bk) (r : List V → Hp → VK → Prop) (g : List SV → (SV → Prop) → Prop) : Prop :=
  ∀ (rs : List SV) (vs : List V) (Ha G : Hp) (F : Addr → Prop) (H : Hp) (τ : B.T) (Qv : SV → Prop) (Q : VK), Ok B.S B.K τ G F H → ResAll B.K Ha G F H rs vs → g rs Qv → FinT B G F H τ Qv Q → r vs H Q
def dCB {T : Type} (g : List SV → (SV → Prop) → Prop) (ta : WA T) : W T := fun env τ Q => ta env τ fun rs τ1 => g rs fun z => Q z τ1
section
variable {X : Cx} {B : Bk} {e : Expr} {es : List Expr} {pos p : Pos} {t : W B.T} {ta : WA B.T} {r : List V → Hp → VK → Prop} {g : List SV → (SV → Prop) → Prop} {x : Str} {id T : String}
theorem lift_cb (hd : CallD B r g) : ∀ σ H Q, lift B (dCB g ta) σ H Q → tCB r (liftA B ta) σ H Q := fun σ H Q z9 => ex53 z9 fun G F env τ Qd s t k =>
  ⟨G, F, env, τ, _, s, t, fun rs τ1 G1 F1 H1 vs f1 r1 q1 => hd rs vs _ G1 F1 H1 τ1 _ _ f1.k r1 q1 (FinT.trans k f1)⟩
theorem de_callB (hc : CallR X (.builtin id) r) (hd : CallD B r g) (hg : Gl X x) (hm : X.mg x = none) (hv : bootBuiltins x = some (.builtin id)) (ha : PA X (e :: es) (liftA B ta)) (hn : x ≠ "__name__" := by decide) (hdb : (x == ("__debug__" : Str)) = false := by decide)
    (he : starEach (e :: es) X.env = (false, eval e X.env) :: starEach es X.env := by rfl) (hpl : (backTo pos (starEach es X.env)).any (·.1) = false := by rfl) : PE X (.Call (.Name x p) (e :: es) [] pos) (lift B (dCB g ta)) :=
  pe_imp (pe_callB hc hg hm hv ha hn hdb he hpl) (lift_cb hd)
end
/-! ### statements -/
structure DEnds (T : Type) where
  nx : List SV → T → Prop
  rt : SV → T → Prop
  bk : List SV → T → Prop := fun _ _ => False
  ct : List SV → T → Prop := fun _ _ => False
abbrev WS (T : Type) := DEnds T → List SV → T → Prop
structure EndR (B : Bk) (G : Hp) (Dd : DEnds B.T) (D : Ends) : Prop where
  nx : ∀ G' F' σ' H' env' τ', Same G G' → StR B G' F' σ' H' env' τ' → Dd.nx env' τ' → D.nx σ' H'
  rt : ∀ r τ' G' F' H' v, Fin B B.G B.F B.H τ' G' F' H' → Res B.K B.H G' F' H' r v → Dd.rt r τ' → D.rt v H'
  bk : ∀ G' F' σ' H' env' τ', Same G G' → StR B G' F' σ' H' env' τ' → Dd.bk env' τ' → D.bk σ' H'
  ct : ∀ G' F' σ' H' env' τ', Same G G' → StR B G' F' σ' H' env' τ' → Dd.ct env' τ' → D.ct σ' H'
theorem EndR.mono {B : Bk} {G G1 : Hp} {Dd : DEnds B.T} {D : Ends} (E : EndR B G Dd D) (sm : Same G G1) : EndR B G1 Dd D :=
  ⟨fun G' F' σ' H' env' τ' s => E.nx G' F' σ' H' env' τ' (sm.trans s), E.rt, fun G' F' σ' H' env' τ' s => E.bk G' F' σ' H' env' τ' (sm.trans s), fun G' F' σ' H' env' τ' s => E.ct G' F' σ' H' env' τ' (sm.trans s)⟩
def liftS (B : Bk) (t : WS B.T) : TS := fun D σ H => ∃ G F env τ Dd, StR B G F σ H env τ ∧ t Dd env τ ∧ EndR B G Dd D
section
variable {X : Cx} {B : Bk} {st : Stmt} {rest : List Stmt} {e : Expr} {pos : Pos} {t u : WS B.T} {te : W B.T} {tc : WT B.T}
def dNext {T : Type} : WS T := fun D env τ => D.nx env τ
def dSeq {T : Type} (t u : WS T) : WS T := fun D env τ => t { D with nx := u D } env τ
theorem dss_nil : PSs X [] (liftS B dNext) := pss_imp pss_nil fun D σ H z9 => ex53 z9 fun G F env τ Dd s h E => E.nx G F σ H env τ (Same.refl G) s h
theorem dss_cons (h1 : PS X st (liftS B t)) (h2 : PSs X rest (liftS B u)) : PSs X (st :: rest) (liftS B (dSeq t u)) :=
  pss_imp (pss_cons h1 h2) fun D σ H z9 => ex53 z9 fun G F env τ Dd s h E => ⟨G, F, env, τ, { Dd with nx := u Dd }, s, h, ⟨fun G' F' σ' H' env' τ' sm s' h' => ⟨G', F', env', τ', Dd, s', h', E.mono sm⟩, E.rt, E.bk, E.ct⟩⟩
theorem dss_one (h1 : PS X st (liftS B t)) : PSs X [st] (liftS B t) := pss_one h1
def dBreak {T : Type} : WS T := fun D env τ => D.bk env τ
def dCont {T : Type} : WS T := fun D env τ => D.ct env τ
def dNever {T : Type} : WS T := fun _ _ _ => False
def dDrop {T : Type} (te : W T) : WS T := fun D env τ => te env τ fun _ τ1 => D.nx env τ1
def SV.out : SV → Bool
  | .vw _ => false
  | .no => false
  | _ => true
def dRet {T : Type} (te : W T) : WS T := fun D env τ => te env τ fun r τ1 => r.out = true ∧ D.rt r τ1
theorem StR.out {B : Bk} {G F σ H env τ} (s : StR B G F σ H env τ) : Fin B B.G B.F B.H τ G F H := ⟨s.s, s.k⟩
theorem ds_ret (he : PE X e (lift B te)) : PS X (.Return (some e) pos) (liftS B (dRet te)) :=
  ps_imp (ps_ret he) fun D σ H z9 => ex53 z9 fun G F env τ Dd s h E => ⟨G, F, env, τ, _, s, h, fun r τ1 G1 F1 H1 v f1 r1 ⟨_, q⟩ => E.rt r τ1 G1 F1 H1 v (s.out.trans f1) (r1.back (dead s.s.dom)) q⟩
def dRetN {T : Type} : WS T := fun D _ τ => D.rt (.d .none) τ
def dIfS {T : Type} (c : WT T) (t u : WS T) : WS T := fun D env τ => c env τ fun b τ1 => if b = true then t D env τ1 else u D env τ1
theorem ds_if {c : Expr} {a b : List Stmt} (hc : PT X c (liftT B tc)) (ha : PSs X a (liftS B t)) (hb : PSs X b (liftS B u)) : PS X (.If c a b pos) (liftS B (dIfS tc t u)) :=
  ps_imp (ps_if hc ha hb) fun D σ H z9 => ex53 z9 fun G F env τ Dd s h E => ⟨G, F, env, τ, _, s, h, fun b τ1 G1 F1 H1 f1 q => by
    cases b with
    | true => exact iteT ⟨G1, F1, env, τ1, Dd, s.fin f1, q, E.mono f1.s.g⟩
    | false => exact iteF ⟨G1, F1, env, τ1, Dd, s.fin f1, q, E.mono f1.s.g⟩⟩
end
end Z
namespace Z
open PySem L2
/-! ### a slot gets a value -/
section
variable {K : PySem.W.Frag} {H0 G H : Hp} {F : Addr → Prop} {σ : L2.St} {env : List SV}
theorem EnvR.set {i : Nat} {s : SV} {v : V} (E : EnvR K H0 G F H σ env) (hs : SvR K H0 G F H s (some v)) (hne : ∀ xs, s = .ol xs → ∀ (j : Nat) ys, env[j]? = some (.ol ys) → σ[j]?.join ≠ some v) :
    EnvR K H0 G F H (σ.set i (some v)) (env.set i s) := by
  refine ⟨by rw [List.length_set, List.length_set]; exact E.len, fun j s' e => ?_, fun j k xs ys hjk ej ek => ?_⟩
  · by_cases q : i = j
    · subst q
      by_cases hl : i < env.length
      · rw [List.getElem?_set_self hl] at e
        cases e
        rw [List.getElem?_set_self (by rw [E.len]; exact hl)]
        exact hs
      · rw [List.getElem?_eq_none (by rw [List.length_set]; omega)] at e
        cases e
    · rw [List.getElem?_set_ne q] at e ⊢
      exact E.at' j s' e
  · have get : ∀ (m : Nat) zs, (env.set i s)[m]? = some (.ol zs) → (m = i ∧ s = .ol zs ∧ (σ.set i (some v))[m]? = some (some v)) ∨ (m ≠ i ∧ env[m]? = some (.ol zs) ∧ (σ.set i (some v))[m]? = σ[m]?) := fun m zs em => by
      by_cases q : m = i
      · subst q
        by_cases hl : m < env.length
        · rw [List.getElem?_set_self hl] at em
          exact .inl ⟨rfl, Option.some.inj em, List.getElem?_set_self (by rw [E.len]; exact hl)⟩
        · rw [List.getElem?_eq_none (by rw [List.length_set]; omega)] at em
          cases em
      · rw [List.getElem?_set_ne (Ne.symm q)] at em ⊢
        exact .inr ⟨q, em, rfl⟩
    rcases get j xs ej with ⟨hj, hs1, hv1⟩ | ⟨hj, he1, hv1⟩
    · rcases get k ys ek with ⟨hk, _, _⟩ | ⟨hk, he2, hv2⟩
      · exact absurd (hj.trans hk.symm) hjk
      · rw [hv1, hv2]
        exact fun z => hne xs hs1 k ys he2 z.symm
    · rcases get k ys ek with ⟨hk, hs2, hv2⟩ | ⟨hk, he2, hv2⟩
      · rw [hv1, hv2]
        exact hne ys hs2 j xs he1
      · rw [hv1, hv2]
        exact E.sep j k xs ys hjk he1 he2
theorem EnvR.setD {i : Nat} {x : D} {v : V} (E : EnvR K H0 G F H σ env) (hs : Rp K G v x) : EnvR K H0 G F H (σ.set i (some v)) (env.set i (.d x)) := E.set ⟨v, rfl, hs⟩ fun _ z => by cases z
/-- what is known of a slot is forgotten -/
theorem EnvR.drop {i : Nat} (E : EnvR K H0 G F H σ env) : EnvR K H0 G F H σ (env.set i .no) := by
  have get : ∀ (m : Nat) s, (env.set i .no)[m]? = some s → s = .no ∨ env[m]? = some s := fun m s em => by
    by_cases q : m = i
    · subst q
      by_cases hl : m < env.length
      · rw [List.getElem?_set_self hl] at em
        exact .inl (Option.some.inj em).symm
      · rw [List.getElem?_eq_none (by rw [List.length_set]; omega)] at em
        cases em
    · rw [List.getElem?_set_ne (Ne.symm q)] at em
      exact .inr em
  refine ⟨by rw [List.length_set]; exact E.len, fun j s e => ?_, fun j k xs ys hjk ej ek => ?_⟩
  · rcases get j s e with z | z
    · subst z; trivial
    · exact E.at' j s z
  · rcases get j _ ej with z | z
    · cases z
    · rcases get k _ ek with z2 | z2
      · cases z2
      · exact E.sep j k xs ys hjk z z2
end
def SV.sto : SV → Option SV
  | .d x => some (.d x)
  | .ol xs => some (.ol xs)
  | .raw v => some (.raw v)
  | _ => none
section
variable {B : Bk} {G G1 H H1 : Hp} {F F1 : Addr → Prop} {σ : L2.St} {env : List SV} {τ τ1 : B.T}
theorem StR.sto {i : Nat} {v : V} (s : StR B G F σ H env τ) (f : Fin B G F H τ1 G1 F1 H1) : ∀ {r a : SV}, Res B.K H G1 F1 H1 r v → r.sto = some a → StR B G1 F1 (σ.set i (some v)) H1 (env.set i a) τ1
  | .d x, _, r, e => by
    cases e
    have s1 := s.fin f
    exact ⟨s1.s, s1.k, s1.e.setD r⟩
  | .raw x, _, r, e => by
    cases e
    have s1 := s.fin f
    have r : v = x := r
    subst r
    exact ⟨s1.s, s1.k, s1.e.set (s := .raw v) rfl fun _ z => by cases z⟩
  | .no, _, r, _ => r.elim
  | .vw _, _, _, e => by cases e
  | .ol xs, _, ⟨p, e1, o⟩, e => by
    cases e
    subst e1
    have s1 := s.fin f
    refine ⟨s1.s, s1.k, s1.e.set (s := .ol xs) ⟨p, rfl, ⟨o.at', o.g, o.f, dead s.s.dom p o.new⟩⟩ fun _ _ j ys ej z => ?_⟩
    obtain ⟨q, e2, w⟩ := s.e.at' j _ ej
    rw [e2] at z
    cases z
    obtain ⟨vs, e3, _⟩ := w.at'
    rw [o.new] at e3
    cases e3
end
/-! ### targets -/
inductive Tg where
  | nm (i : Nat)
  | tp (ts : List Tg)
mutual
def tgH (K : PySem.W.Frag) : Tg → TG
  | .nm i => gName i
  | .tp ts => gTup K ts.length (tgHs K ts)
def tgHs (K : PySem.W.Frag) : List Tg → TGs
  | [] => gNil
  | t :: ts => gCons (tgH K t) (tgHs K ts)
end
mutual
def tgE : Tg → D → List SV → Option (List SV)
  | .nm i, x, env => some (env.set i (.d x))
  | .tp ts, .tuple xs, env => tgEs ts xs env
  | .tp _, _, _ => none
def tgEs : List Tg → List D → List SV → Option (List SV)
  | [], [], env => some env
  | t :: ts, y :: ys, env => (tgE t y env).bind (tgEs ts ys)
  | _, _, _ => none
end
/-- what follows a target's store -/
def opt {α : Type} (o : Option α) (Q : α → Prop) : Prop := match o with
  | some a => Q a
  | none => False
theorem opt_some {α : Type} {a : α} {Q : α → Prop} : opt (some a) Q = Q a := rfl
theorem opt_of {α : Type} {o : Option α} {Q : α → Prop} (h : opt o Q) : ∃ a, o = some a ∧ Q a := by
  cases o with
  | none => exact h.elim
  | some a => exact ⟨a, rfl, h⟩
mutual
def Tg.all (p : Nat → Bool) : Tg → Bool
  | .nm i => p i
  | .tp ts => Tg.alls p ts
def Tg.alls (p : Nat → Bool) : List Tg → Bool
  | [] => true
  | t :: ts => t.all p && Tg.alls p ts
end
theorem tgEs_len : ∀ (ts : List Tg) (xs : List D) (env env' : List SV), tgEs ts xs env = some env' → xs.length = ts.length
  | [], [], _, _, _ => rfl
  | [], _ :: _, _, _, h => by simp [tgEs] at h
  | _ :: _, [], _, _, h => by simp [tgEs] at h
  | t :: ts, y :: ys, env, env', h => by
    rw [tgEs] at h
    cases e : tgE t y env with
    | none => rw [e] at h; cases h
    | some e1 =>
      rw [e] at h
      exact congrArg Nat.succ (tgEs_len ts ys e1 env' h)
theorem wipe_get (σ : L2.St) (k : Nat) : ∀ vs : List Nat, (wipe σ vs)[k]? = if k ∈ vs then (if k < σ.length then some none else none) else σ[k]?
  | [] => by simp [wipe]
  | v :: vs => by
    have ih := wipe_get σ k vs
    rw [wipe]
    by_cases q : v = k
    · subst q
      rw [if_pos (by simp)]
      by_cases hl : v < σ.length
      · rw [List.getElem?_set_self (by rw [wipe_length]; exact hl), if_pos hl]
      · rw [List.getElem?_eq_none (by rw [List.length_set, wipe_length]; omega), if_neg hl]
    · rw [List.getElem?_set_ne q, ih]
      have : (k ∈ v :: vs) ↔ k ∈ vs := by
        rw [List.mem_cons]
        exact ⟨fun h => h.resolve_left fun z => q z.symm, .inr⟩
      by_cases h : k ∈ vs
      · rw [if_pos h, if_pos (this.mpr h)]
      · rw [if_neg h, if_neg fun z => h (this.mp z)]
theorem wipe_set_in {v : V} {vs : List Nat} {σ : L2.St} {i : Nat} (h : i ∈ vs) : wipe (σ.set i (some v)) vs = wipe σ vs := by
  apply List.ext_getElem?
  intro k
  rw [wipe_get, wipe_get, List.length_set]
  by_cases q : k ∈ vs
  · rw [if_pos q, if_pos q]
  · rw [if_neg q, if_neg q, List.getElem?_set_ne]
    intro z
    subst z
    exact q h
section
variable {B : Bk} {G H : Hp} {F : Addr → Prop} {τ : B.T}
mutual
theorem tg_ok (vs : List Nat) : ∀ (t : Tg) {x : D} {v : V} {σ : L2.St} {env env' : List SV} {Q : L2.St → Hp → Prop}, StR B G F σ H env τ → Rp B.K G v x → tgE t x env = some env' →
    (∀ σ', StR B G F σ' H env' τ → (t.all (· ∈ vs) = true → wipe σ' vs = wipe σ vs) → Q σ' H) → tgH B.K t v σ H Q
  | .nm i, x, v, σ, env, env', Q, s, r, e, k => by
    rw [tgE] at e
    cases e
    rw [tgH]
    exact k _ ⟨s.s, s.k, s.e.setD r⟩ fun h => wipe_set_in (by simpa [Tg.all] using h)
  | .tp ts, .tuple xs, v, σ, env, env', Q, s, r, e, k => by
    rw [tgE] at e
    have hl := tgEs_len ts xs env env' e
    rw [tgH]
    cases r with
    | tup h a => exact ⟨_, _, rfl, same_seqT s.k.same h, by rw [a.length]; exact hl, tgs_ok vs ts s a e fun σ' s' w => k σ' s' fun h => w (by simpa [Tg.all] using h)⟩
  | .tp _, .none, _, _, _, _, _, _, _, e, _ => by rw [tgE] at e; cases e; all_goals (intro _ z; cases z)
  | .tp _, .bool _, _, _, _, _, _, _, _, e, _ => by rw [tgE] at e; cases e; all_goals (intro _ z; cases z)
  | .tp _, .int _, _, _, _, _, _, _, _, e, _ => by rw [tgE] at e; cases e; all_goals (intro _ z; cases z)
  | .tp _, .str _, _, _, _, _, _, _, _, e, _ => by rw [tgE] at e; cases e; all_goals (intro _ z; cases z)
  | .tp _, .list _, _, _, _, _, _, _, _, e, _ => by rw [tgE] at e; cases e; all_goals (intro _ z; cases z)
  | .tp _, .dict _, _, _, _, _, _, _, _, e, _ => by rw [tgE] at e; cases e; all_goals (intro _ z; cases z)
theorem tgs_ok (vs : List Nat) : ∀ (ts : List Tg) {xs : List D} {ws : List V} {σ : L2.St} {env env' : List SV} {Q : L2.St → Hp → Prop}, StR B G F σ H env τ → RpAll B.K G ws xs → tgEs ts xs env = some env' →
    (∀ σ', StR B G F σ' H env' τ → (Tg.alls (· ∈ vs) ts = true → wipe σ' vs = wipe σ vs) → Q σ' H) → tgHs B.K ts ws σ H Q
  | [], [], _, σ, env, env', Q, s, .nil, e, k => by
    rw [tgEs] at e
    cases e
    rw [tgHs]
    exact ⟨rfl, k σ s fun _ => rfl⟩
  | t :: ts, y :: ys, _, σ, env, env', Q, s, .cons r a, e, k => by
    rw [tgEs] at e
    cases e1 : tgE t y env with
    | none => rw [e1] at e; cases e
    | some env1 =>
      rw [e1] at e
      rw [tgHs]
      refine ⟨_, _, rfl, tg_ok vs t s r e1 fun σ1 s1 w1 => tgs_ok vs ts s1 a e fun σ2 s2 w2 => k σ2 s2 fun h => ?_⟩
      rw [Tg.alls, Bool.and_eq_true] at h
      exact (w2 h.2).trans (w1 h.1)
  | [], _ :: _, _, _, _, _, _, _, _, e, _ => by simp [tgEs] at e
  | _ :: _, [], _, _, _, _, _, _, _, e, _ => by simp [tgEs] at e
end
end
end Z
namespace Z
open PySem L2
section
variable {X : Cx} {B : Bk} {e tg : Expr} {pos : Pos} {te : W B.T} {t : Tg} {i : Nat} {x : Str}
/-! ### assignments -/
def kStB {T : Type} (i : Nat) (D : DEnds T) (env : List SV) (τ : T) : Option SV → Prop
  | some a => D.nx (env.set i a) τ
  | none => False
def kSet {T : Type} (i : Nat) (D : DEnds T) (env : List SV) (r : SV) (τ : T) : Prop := kStB i D env τ r.sto
theorem kSet_of {T : Type} {i : Nat} {D : DEnds T} {env : List SV} {r : SV} {τ : T} (h : kSet i D env r τ) : ∃ a, r.sto = some a ∧ D.nx (env.set i a) τ := by
  unfold kSet at h
  cases e : r.sto with
  | none => rw [e] at h; exact False.elim h
  | some a => rw [e] at h; exact ⟨a, rfl, h⟩
def dSet {T : Type} (i : Nat) (te : W T) : WS T := fun D env τ => te env τ (kSet i D env)
theorem lift_set {te' : TE} (h : ∀ σ H Q, lift B te σ H Q → te' σ H Q) : ∀ D σ H, liftS B (dSet i te) D σ H → tAsg te' (gName i) D σ H := fun D σ H z9 => ex53 z9 fun G F env τ Dd s z E =>
  h _ _ _ ⟨G, F, env, τ, _, s, z, fun r τ1 G1 F1 H1 v f1 r1 q => by
    obtain ⟨a, e, q⟩ := kSet_of q
    exact E.nx G1 F1 _ H1 _ τ1 f1.s.g (s.sto f1 r1 e) q⟩
theorem ds_set {pos' : Pos} (hN : X.N.Nodup) (hi : X.N[i]? = some x) (hx : Loc X.env.scope x) (he : PE X e (lift B te)) (hs : swapsWith e (some (.Name x pos')) pos.line X.env = pure false := by rfl)
    (hf : X.fn x = true ∨ X.env.scope.names.lookup x = some .local := by first | exact .inl rfl | exact .inr rfl | assumption) : PS X (.Assign [.Name x pos'] e pos) (liftS B (dSet i te)) :=
  ps_imp (ps_set hN hi hx he hs hf) (lift_set fun _ _ _ h => h)
/-- target = e -/
def kEnv {T : Type} (D : DEnds T) (τ : T) : Option (List SV) → Prop
  | some env => D.nx env τ
  | none => False
def kAsB {T : Type} (t : Tg) (D : DEnds T) (env : List SV) (τ : T) : Option Z.D → Prop
  | some x => kEnv D τ (tgE t x env)
  | none => False
def kAsg {T : Type} (t : Tg) (D : DEnds T) (env : List SV) (r : SV) (τ : T) : Prop := kAsB t D env τ r.dat?
def dAsg {T : Type} (t : Tg) (te : W T) : WS T := fun D env τ => te env τ (kAsg t D env)
theorem dg_nm {pos' : Pos} (hN : X.N.Nodup) (hi : X.N[i]? = some x) (hx : Loc X.env.scope x) (hf : X.fn x = true ∨ X.env.scope.names.lookup x = some .local := by first | exact .inl rfl | exact .inr rfl | assumption) : PG X (.Name x pos') (tgH B.K (.nm i)) := by
  rw [tgH]
  exact pg_name hN hi hx hf
theorem dg_nil : PGs X [] (tgHs B.K []) := by
  rw [tgHs]
  exact pgs_nil
theorem dg_cons {es : List Expr} {t : Tg} {ts : List Tg} (h1 : PG X e (tgH B.K t)) (h2 : PGs X es (tgHs B.K ts)) (hs : (assignEach (e :: es) X.env).map (·.2) = assign e X.env :: (assignEach es X.env).map (·.2) := by rfl) : PGs X (e :: es) (tgHs B.K (t :: ts)) := by
  rw [tgHs]
  exact pgs_cons h1 h2 hs
theorem dg_tp (hK : X.K = B.K) {es : List Expr} {k : Nat} {ts : List Tg} (hc : X.calm = true) (h : PGs X es (tgHs B.K ts)) (hn : (assignEach es X.env).length = ts.length := by rfl) (hst : (assignEach es X.env).findIdx? (·.1) = none := by rfl) :
    PG X (.Tuple es k pos) (tgH B.K (.tp ts)) := by
  rw [tgH, ← hK]
  rw [← hK] at h
  exact pg_tup hc h hn hst
/-- a, b = x, y -/
def dPar {T : Type} (i j : Nat) (ta : WA T) : WS T := fun D env τ => ta env τ fun rs τ1 => match rs with
  | [.d x, .d y] => D.nx ((env.set i (.d x)).set j (.d y)) τ1
  | _ => False
theorem kPr2 {Q : D → D → Prop} {rs : List SV} (h : match rs with
  | [.d x, .d y] => Q x y
  | _ => False) : ∃ x y, rs = [.d x, .d y] ∧ Q x y := by
  cases rs with
  | nil => exact h.elim
  | cons a r =>
    cases r with
    | nil => cases a <;> exact h.elim
    | cons b r =>
      cases r with
      | nil => cases a with
        | d x => cases b with
          | d y => exact ⟨x, y, rfl, h⟩
          | _ => exact h.elim
        | _ => exact h.elim
      | cons _ _ => cases a with
        | d x => cases b <;> exact h.elim
        | _ => exact h.elim
theorem ds_par {j : Nat} {y : Str} {a b : Expr} {ta : WA B.T} {px py pt : Pos} {kt k2 pt2} (hc : X.calm = true) (hN : X.N.Nodup) (hi : X.N[i]? = some x) (hj : X.N[j]? = some y) (hij : i ≠ j)
    (hx : X.env.scope.names.lookup x = some .local) (hy : X.env.scope.names.lookup y = some .local) (ha : PA X [a, b] (liftA B ta))
    (hw : swappedStores [.Tuple [.Name x px, .Name y py] kt pt] (.Tuple [a, b] k2 pt2) X.env = pure (some [x, y]))
    (hs : swapsWithSole [.Tuple [.Name x px, .Name y py] kt pt] (.Tuple [a, b] k2 pt2) pos.line X.env = pure false := by rfl) :
    PS X (.Assign [.Tuple [.Name x px, .Name y py] kt pt] (.Tuple [a, b] k2 pt2) pos) (liftS B (dPar i j ta)) :=
  ps_imp (ps_par hc hN hi hj hij hx hy ha hw hs) fun D σ H z9 => ex53 z9 fun G F env τ Dd s z E => ⟨G, F, env, τ, _, s, z, fun rs τ1 G1 F1 H1 vs f1 r1 q => by
    obtain ⟨x, y, rfl, q⟩ := kPr2 q
    have s1 := s.fin f1
    cases r1 with
    | cons r2 r1 =>
      cases r1 with
      | cons r3 r1 =>
        cases r1
        exact ⟨_, _, rfl, E.nx G1 F1 _ H1 _ τ1 f1.s.g ⟨s1.s, s1.k, (s1.e.setD r2).setD r3⟩ q⟩⟩
/-! ### what is walked -/
/-- J walks xs from a state whose lasting part holds G on -/
structure ItR (B : Bk) (J : It) (G : Hp) (xs : List D) : Prop where
  go : ∀ (G1 H1 : Hp) (F1 : Addr → Prop) (τ1 : B.T), Same G G1 → Ok B.S B.K τ1 G1 F1 H1 → ∀ (i : Nat) (x : D), xs[i]? = some x → J.go i H1 ∧ ∀ v H2, J.yld i H1 v H2 → ∃ G2, Fin B G1 F1 H1 τ1 G2 F1 H2 ∧ Rp B.K G2 v x
  stop : ∀ (G1 H1 : Hp) (F1 : Addr → Prop) (τ1 : B.T), Same G G1 → Ok B.S B.K τ1 G1 F1 H1 → ∀ (i : Nat), xs.length ≤ i → J.stop i H1
abbrev WI (T : Type) := List SV → T → (List D → T → Prop) → Prop
def liftI (B : Bk) (ti : WI B.T) : TI := fun σ H R => ∃ G F env τ Qd, StR B G F σ H env τ ∧ ti env τ Qd ∧
  ∀ xs τ' G' F' H' J, Fin B G F H τ' G' F' H' → ItR B J G' xs → Qd xs τ' → R J H'
theorem pi_imp {iter : Expr} {w w' : TI} (h : PI X tg iter w) (i : ∀ σ H R, w' σ H R → w σ H R) : PI X tg iter w' := ⟨fun pins s σ H R I z => h.run pins s σ H R I (i σ H R z)⟩
/-- a list, a tuple or a text -/
def iSeq (K : PySem.W.Frag) (tl : TE) : TI := fun σ H R => tl σ H fun x H1 => (∃ a, x = .ref a ∧ (∃ xs, SqL K H1 a xs) ∧ R (Itl K a) H1) ∨ (∃ a, x = .ref a ∧ (∃ xs, SqT K H1 a xs) ∧ R (Itt K a) H1) ∨ ∃ z, x = .str z ∧ R (Its z) H1
theorem pi_seq {l : Expr} {tl : TE} (hl : PE X l tl) : PI X tg l (iSeq X.K tl) := by
  refine ⟨fun pins s σ H R I h => thn (hl.run pins s σ H _ I h) fun v s1 z => ?_⟩
  obtain ⟨x, H1, I1, r1, q1⟩ := z
  rcases q1 with ⟨a, ea, ⟨xs, hq⟩, q⟩ | ⟨a, ea, ⟨xs, hq⟩, q⟩ | ⟨w, ew, q⟩
  · subst ea; cases r1
    obtain ⟨its, rv, p, hz⟩ := I1.list hq
    exact wpAny_pyIter_list p.isList (pi_one (tk := s1.toks) I1 _ (turn_list a _) ⟨_, Heap.get?_push_size _ rfl, rfl, rfl⟩ q)
  · subst ea; cases r1
    obtain ⟨its, rv, p, hz⟩ := I1.tuple hq
    exact wpAny_pyIter_tuple (show s1.heap.IsTuple a its.toArray from p) (pi_one (tk := s1.toks) I1 _ (turn_tuple a _) ⟨_, Heap.get?_push_size _ rfl, rfl, rfl⟩ q)
  · subst ew
    obtain ⟨t, rfl⟩ := r1
    cases ha : w.cps.all (· < 128)
    · exact wpAny_pyIter_wide ha (pi_one (tk := s1.toks) I1 _ (turn_str _ w t "str_iterator" (.inr rfl)) ⟨_, Heap.get?_push_size _ rfl, rfl, rfl⟩ q)
    · exact wpAny_pyIter_ascii ha (pi_one (tk := s1.toks) I1 _ (turn_str _ w t "str_ascii_iterator" (.inl rfl)) ⟨_, Heap.get?_push_size _ rfl, rfl, rfl⟩ q)
/-- one sign as a text -/
def sg (c : Nat) : D := .str ⟨#[c]⟩
def SV.seq? : SV → Option (List D)
  | .d (.list xs) => some xs
  | .d (.tuple xs) => some xs
  | .d (.str z) => some (z.cps.toList.map sg)
  | .ol xs => some xs
  | _ => none
def kSqB {T : Type} (Q : List D → T → Prop) (τ : T) : Option (List D) → Prop
  | some xs => Q xs τ
  | none => False
def kSq {T : Type} (Q : List D → T → Prop) (r : SV) (τ : T) : Prop := kSqB Q τ r.seq?
theorem kSq_of {T : Type} {Q : List D → T → Prop} {r : SV} {τ : T} (h : kSq Q r τ) : ∃ xs, r.seq? = some xs ∧ Q xs τ := by
  unfold kSq at h
  cases e : r.seq? with
  | none => rw [e] at h; exact False.elim h
  | some xs => rw [e] at h; exact ⟨xs, rfl, h⟩
def dSeqI {T : Type} (te : W T) : WI T := fun env τ Q => te env τ (kSq Q)
theorem itr_l {G : Hp} {a : Addr} {vs : List V} {xs : List D} (h : SqP B.K G a vs) (r : RpAll B.K G vs xs) : ItR B (Itl B.K a) G xs where
  go := fun G1 H1 F1 τ1 sm k i x e => by
    obtain ⟨v, ev, rv⟩ := r.getD e
    refine ⟨⟨vs, v, (same_sqp (sm.trans k.same) h).sql, ev⟩, fun w H2 ⟨e2, y⟩ => ?_⟩
    subst e2
    have := y vs ((same_sqp (sm.trans k.same) h).sql)
    rw [ev] at this
    cases this
    exact ⟨G1, .rfl' k, rv.mono sm⟩
  stop := fun G1 H1 F1 τ1 sm k i hi => ⟨vs, (same_sqp (sm.trans k.same) h).sql, by rw [r.length]; exact hi⟩
theorem itr_t {G : Hp} {a : Addr} {vs : List V} {xs : List D} (h : SqTP B.K G a vs) (r : RpAll B.K G vs xs) : ItR B (Itt B.K a) G xs where
  go := fun G1 H1 F1 τ1 sm k i x e => by
    obtain ⟨v, ev, rv⟩ := r.getD e
    refine ⟨⟨vs, v, same_seqT (sm.trans k.same) h, ev⟩, fun w H2 ⟨e2, y⟩ => ?_⟩
    subst e2
    have := y vs (same_seqT (sm.trans k.same) h)
    rw [ev] at this
    cases this
    exact ⟨G1, .rfl' k, rv.mono sm⟩
  stop := fun G1 H1 F1 τ1 sm k i hi => ⟨vs, same_seqT (sm.trans k.same) h, by rw [r.length]; exact hi⟩
theorem itr_s {G : Hp} {z : Str} : ItR B (Its z) G (z.cps.toList.map sg) where
  go := fun G1 H1 F1 τ1 sm k i x e => by
    rw [List.getElem?_map] at e
    cases q : z.cps.toList[i]? with
    | none => rw [q] at e; cases e
    | some c =>
      rw [q] at e
      cases e
      have q' : z.cps[i]? = some c := by simpa using q
      refine ⟨(Array.getElem?_eq_some_iff.mp q').1, fun w H2 ⟨e2, c', e3, e4⟩ => ?_⟩
      subst e2 e4
      rw [q'] at e3
      cases e3
      exact ⟨G1, .rfl' k, .str _⟩
  stop := fun G1 H1 F1 τ1 sm k i hi => by
    rw [List.length_map, Array.length_toList] at hi
    exact hi
theorem di_seq (hK : X.K = B.K) {l : Expr} (hl : PE X l (lift B te)) : PI X tg l (liftI B (dSeqI te)) :=
  pi_imp (pi_seq hl) fun σ H R z9 => ex53 z9 fun G F env τ Qd s t k => ⟨G, F, env, τ, _, s, t, fun r τ1 G1 F1 H1 v f1 r1 q => by
    obtain ⟨xs, e, q⟩ := kSq_of q
    rw [hK]
    cases r with
    | d x =>
      have hr : Rp B.K G1 v x := r1
      clear r1
      cases hr with
      | lst h a => cases e; exact .inl ⟨_, rfl, ⟨_, (same_sqp f1.k.same h).sql⟩, k _ _ _ _ _ _ f1 (itr_l h a) q⟩
      | tup h a => cases e; exact .inr (.inl ⟨_, rfl, ⟨_, same_seqT f1.k.same h⟩, k _ _ _ _ _ _ f1 (itr_t h a) q⟩)
      | str z => cases e; exact .inr (.inr ⟨z, rfl, k _ _ _ _ _ _ f1 itr_s q⟩)
      | _ => cases e
    | ol ys =>
      obtain ⟨p, e1, o⟩ := r1
      cases e
      subst e1
      obtain ⟨G2, f2, sm, r2⟩ := f1.frz o
      cases r2 with
      | lst h a => exact .inl ⟨_, rfl, ⟨_, (same_sqp f2.k.same h).sql⟩, k _ _ _ _ _ _ f2 (itr_l h a) q⟩
    | _ => cases e⟩
/-- lo, lo + 1, .. -/
def rgI (lo : Int) (n : Nat) : List D := (List.range n).map fun i => .int (lo + (i : Nat))
theorem itr_r {G : Hp} {lo : Int} {n : Nat} : ItR B (Itr lo n) G (rgI lo n) where
  go := fun G1 H1 F1 τ1 sm k i x e => by
    unfold rgI at e
    rw [List.getElem?_map] at e
    by_cases hi : i < n
    · rw [List.getElem?_range hi] at e
      cases e
      refine ⟨hi, fun w H2 ⟨e2, e3⟩ => ?_⟩
      subst e2 e3
      exact ⟨G1, .rfl' k, .int _⟩
    · rw [List.getElem?_eq_none (by rw [List.length_range]; omega)] at e
      cases e
  stop := fun G1 H1 F1 τ1 sm k i hi => by
    unfold rgI at hi
    rw [List.length_map, List.length_range] at hi
    exact hi
def kR1 {T : Type} (Q : List D → T → Prop) (rs : List SV) (τ : T) : Prop := match rs with
  | [.d (.int j)] => (-(2 ^ 62) ≤ j ∧ j < 2 ^ 62) ∧ Q (rgI 0 j.toNat) τ
  | _ => False
def kR2 {T : Type} (Q : List D → T → Prop) (rs : List SV) (τ : T) : Prop := match rs with
  | [.d (.int i), .d (.int j)] => (-(2 ^ 62) ≤ i ∧ i < 2 ^ 62 ∧ -(2 ^ 62) ≤ j ∧ j < 2 ^ 62) ∧ Q (rgI i (j - i).toNat) τ
  | _ => False
theorem kR1_of {T : Type} {Q : List D → T → Prop} {rs : List SV} {τ : T} (h : kR1 Q rs τ) : ∃ j : Int, rs = [.d (.int j)] ∧ (-(2 ^ 62) ≤ j ∧ j < 2 ^ 62) ∧ Q (rgI 0 j.toNat) τ := by
  unfold kR1 at h
  split at h
  · exact ⟨_, rfl, h⟩
  · exact False.elim h
def dRng1 {T : Type} (ta : WA T) : WI T := fun env τ Q => ta env τ (kR1 Q)
def dRng2 {T : Type} (ta : WA T) : WI T := fun env τ Q => ta env τ (kR2 Q)
theorem di_range1 {a : Expr} {ta : WA B.T} {p : Pos} (hg : Gl X "range") (hm : X.mg "range" = none) (ha : PA X [a] (liftA B ta)) (hs : starEach [a] X.env = [(false, eval a X.env)] := by rfl) : PI X tg (.Call (.Name "range" p) [a] [] pos) (liftI B (dRng1 ta)) :=
  pi_imp (pi_range1 hg hm ha hs) fun σ H R z9 => ex53 z9 fun G F env τ Qd s t k => ⟨G, F, env, τ, _, s, t, fun rs τ1 G1 F1 H1 vs f1 r1 q0 => by
    obtain ⟨j, e, h, q⟩ := kR1_of q0
    subst e
    cases r1 with
    | cons r r' =>
      cases r'
      exact ⟨j, by rw [rint r], h.1, h.2, k _ _ _ _ _ _ f1 itr_r q⟩⟩
end
end Z
namespace Z
open PySem L2
section
variable {X : Cx} {B : Bk} {e tg iter : Expr} {pos : Pos} {te : W B.T} {t : Tg} {i : Nat} {x : Str} {body : List Stmt} {tb : WS B.T} {ti : WI B.T} {tc : WT B.T}
/-! ### for -/
def forW {T : Type} (t : Tg) (tb : WS T) (D : DEnds T) : List Z.D → List SV → T → Prop
  | [], env, τ => D.nx env τ
  | x :: xs, env, τ => opt (tgE t x env) fun env' => tb { D with nx := forW t tb D xs, ct := forW t tb D xs, bk := D.nx } env' τ
def dFor {T : Type} (ti : WI T) (t : Tg) (tb : WS T) : WS T := fun D env τ => ti env τ fun xs τ1 => forW t tb D xs env τ1
theorem ds_for (hp : PassesOwn (model X.prog X.w) X.A X.env X.xe) (hc : X.calm = true) (hi : PI X tg iter (liftI B ti)) (hg : PG X tg (tgH B.K t)) (hb : PSs X body (liftS B tb))
    (hs : ∀ x, foldedSetIterable iter X.env x = pure x := by intro _; rfl) : PS X (.For tg iter body [] pos) (liftS B (dFor ti t tb)) :=
  ps_imp (ps_for hp hc hi hg hb hs) fun D σ H z9 => ex53 z9 fun G F env τ Dd s h E => ⟨G, F, env, τ, _, s, h, fun xs τ1 G1 F1 H1 J f1 it q => by
    refine ⟨fun i m σ H => m = xs.length - i ∧ i ≤ xs.length ∧ ∃ G2 F2 env2 τ2, StR B G2 F2 σ H env2 τ2 ∧ Same G1 G2 ∧ forW t tb Dd (xs.drop i) env2 τ2, ⟨_, rfl, Nat.zero_le _, G1, F1, env, τ1, s.fin f1, Same.refl _, q⟩, ?_⟩
    rintro i m σ2 H2 ⟨rfl, hi, G2, F2, env2, τ2, s2, sm, q2⟩
    by_cases hl : i < xs.length
    · have hx : xs[i]? = some xs[i] := List.getElem?_eq_getElem hl
      obtain ⟨g, y⟩ := it.go G2 H2 F2 τ2 sm s2.k i _ hx
      rw [List.drop_eq_getElem_cons hl, forW] at q2
      obtain ⟨env3, e3, q3⟩ := opt_of q2
      refine .inr ⟨g, fun σ' H' => ∃ G4 F4 env4 τ4, StR B G4 F4 σ' H' env4 τ4 ∧ Same G1 G4 ∧ forW t tb Dd (xs.drop (i + 1)) env4 τ4, fun σ' H' n => ⟨_, by omega, rfl, by omega, n⟩, fun v H3 yl => ?_⟩
      obtain ⟨G3, f3, r3⟩ := y v H3 yl
      refine tg_ok [] t (s2.fin f3) r3 e3 fun σ' s' _ => ⟨G3, F2, env3, τ2, _, s', q3, ⟨?_, E.rt, ?_, ?_⟩⟩
      · exact fun G' F' σ' H' env' τ' smx sx qx => ⟨G', F', env', τ', sx, sm.trans (f3.s.g.trans smx), qx⟩
      · exact fun G' F' σ' H' env' τ' smx sx qx => E.nx G' F' σ' H' env' τ' (f1.s.g.trans (sm.trans (f3.s.g.trans smx))) sx qx
      · exact fun G' F' σ' H' env' τ' smx sx qx => ⟨G', F', env', τ', sx, sm.trans (f3.s.g.trans smx), qx⟩
    · rw [List.drop_eq_nil_of_le (by omega), forW] at q2
      exact .inl ⟨it.stop G2 H2 F2 τ2 sm s2.k i (by omega), E.nx G2 F2 σ2 H2 env2 τ2 (f1.s.g.trans sm) s2 q2⟩⟩
/-! ### while -/
def whileW {T : Type} (c : WT T) (tb : WS T) (D : DEnds T) : Nat → List SV → T → Prop
  | 0, _, _ => False
  | n + 1, env, τ => c env τ fun k τ1 => if k = true then tb { D with nx := whileW c tb D n, ct := whileW c tb D n, bk := D.nx } env τ1 else D.nx env τ1
def dWhile {T : Type} (c : WT T) (tb : WS T) : WS T := fun D env τ => ∃ n, whileW c tb D n env τ
/-! ### comprehensions -/
def wipeE (env : List SV) : List Nat → List SV
  | [] => env
  | v :: vs => (wipeE env vs).set v .no
theorem EnvR.wipe {K : PySem.W.Frag} {H0 G H : Hp} {F : Addr → Prop} {σ : L2.St} {env : List SV} (E : EnvR K H0 G F H σ env) : ∀ vs : List Nat, EnvR K H0 G F H (L2.wipe σ vs) (wipeE env vs)
  | [] => E
  | v :: vs => by
    have ih := (E.wipe vs).drop (i := v)
    rw [L2.wipe, wipeE]
    refine ⟨by rw [List.length_set]; exact ih.len, fun j s e => ?_, fun j k xs ys hjk ej ek => ?_⟩
    · have a := ih.at' j s e
      by_cases q : v = j
      · subst q
        by_cases hl : v < (wipeE env vs).length
        · rw [List.getElem?_set_self hl] at e
          cases e
          trivial
        · rw [List.getElem?_eq_none (by rw [List.length_set]; omega)] at e
          cases e
      · rw [List.getElem?_set_ne q]
        exact a
    · have no : ∀ (m : Nat) zs, ((wipeE env vs).set v .no)[m]? = some (.ol zs) → v ≠ m := fun m zs em q => by
        subst q
        by_cases hl : v < (wipeE env vs).length
        · rw [List.getElem?_set_self hl] at em
          cases em
        · rw [List.getElem?_eq_none (by rw [List.length_set]; omega)] at em
          cases em
      rw [List.getElem?_set_ne (no j xs ej), List.getElem?_set_ne (no k ys ek)]
      exact ih.sep j k xs ys hjk ej ek
def lcW {T : Type} (t : Tg) (tt : WT T) (te : W T) (Q : List D → T → Prop) : List D → List D → List SV → T → Prop
  | [], acc, _, τ => Q acc τ
  | x :: xs, acc, env, τ => opt (tgE t x env) fun env' => tt env' τ fun b τ1 => if b = true then te env' τ1 fun r τ2 => opt r.dat? fun y => acc.length < sizeLine ∧ lcW t tt te Q xs (acc ++ [y]) env τ2 else lcW t tt te Q xs acc env τ1
def dLc {T : Type} (ti : WI T) (t : Tg) (tt : WT T) (te : W T) (vs : List Nat) : W T := fun env τ Q => ti env τ fun xs τ1 => lcW t tt te (fun acc τ2 => Q (.ol acc) τ2) xs [] (wipeE env vs) τ1
theorem wipe_idem (σ : L2.St) (vs : List Nat) : wipe (wipe σ vs) vs = wipe σ vs := by
  apply List.ext_getElem?
  intro k
  rw [wipe_get, wipe_get, wipe_length]
  by_cases q : k ∈ vs
  · rw [if_pos q, if_pos q]
  · rw [if_neg q, if_neg q]
/-- an own list, newer than H, is changed -/
theorem Fin.mut {G G2 H H' : Hp} {F F2 : Addr → Prop} {τ : B.T} {p : Addr} {acc acc' : List D} {ws : List V} (f : Fin B G F H τ G2 F2 H') (o : Own B.K H G2 F2 H' p acc) (a : RpAll B.K G2 ws acc') :
    Fin B G F H τ G2 F2 (upd H' p (.lst ws)) ∧ Own B.K H G2 F2 (upd H' p (.lst ws)) p acc' := by
  refine ⟨⟨⟨f.s.g, fun b u nf e => ?_, f.s.gn, f.s.fn, f.s.ff, fun b e => ?_⟩, f.k.mut o.g o.f⟩, ⟨⟨ws, upd_same, a⟩, o.g, o.f, o.new⟩⟩
  · rw [upd_ne (ne_of_none e o.new)]
    exact f.s.h b u nf e
  · by_cases q : b = p
    · subst q
      exact absurd o.new e
    · rw [upd_ne q]
      exact f.s.dom b e
theorem lift_lc {tt : WT B.T} {vs : List Nat} (ht : t.all (· ∈ vs) = true) : ∀ σ H Q, lift B (dLc ti t tt te vs) σ H Q → tLc (liftI B ti) (tgH B.K t) (liftT B tt) (lift B te) vs σ H Q := fun σ H Q z9 => ex53 z9 fun G F env τ Qd s h k => by
  refine ⟨G, F, env, τ, _, s, h, fun xs τ1 G1 F1 H1 J f1 it q D hD => ?_⟩
  let P : Nat → Hp → Prop := fun i H' => ∃ G2 F2 τ2 acc, Fin B G1 F1 H1 τ2 G2 F2 H' ∧ Own B.K H1 G2 F2 H' D acc ∧ lcW t tt te (fun acc τ2 => Qd (.ol acc) τ2) (xs.drop i) acc (wipeE env vs) τ2
  refine ⟨fun i m H' => m = xs.length - i ∧ i ≤ xs.length ∧ P i H', ⟨_, rfl, Nat.zero_le _, ?_⟩, ?_⟩
  · obtain ⟨f2, p, e, o⟩ := new_lst (p := D) f1.k hD (.nil : RpAll B.K G1 [] [])
    cases e
    exact ⟨G1, F1, τ1, [], f2, o, q⟩
  rintro i m H2 ⟨rfl, hi, G2, F2, τ2, acc, f2, o2, q2⟩
  by_cases hl : i < xs.length
  · have hx : xs[i]? = some xs[i] := List.getElem?_eq_getElem hl
    obtain ⟨g, y⟩ := it.go G2 H2 F2 τ2 f2.s.g f2.k i _ hx
    rw [List.drop_eq_getElem_cons hl, lcW] at q2
    obtain ⟨env3, e3, q3⟩ := opt_of q2
    refine .inr ⟨g, P (i + 1), fun H' n => ⟨_, by omega, rfl, by omega, n⟩, fun v H3 yl => ?_⟩
    obtain ⟨G3, f3, r3⟩ := y v H3 yl
    have f23 := f2.trans f3
    have s3 := (s.fin f1).fin f23
    have o3 := o2.step f3.s
    refine tg_ok vs t ⟨s3.s, s3.k, s3.e.wipe vs⟩ r3 e3 fun σ' s' w => ⟨(w ht).trans (wipe_idem σ vs), G3, F2, env3, τ2, _, s', q3, fun b τ4 G4 F4 H4 f4 q4 => ?_⟩
    have f24 := f23.trans f4
    have o4 := o3.step f4.s
    cases b with
    | false => exact iteF ⟨G4, F4, τ4, acc, f24, o4, q4⟩
    | true =>
      refine iteT ⟨G4, F4, env3, τ4, _, s'.fin f4, q4, fun r τ5 G5 F5 H5 v5 f5 r5 q5 => ?_⟩
      obtain ⟨z, e5, hz, q5⟩ := opt_of q5
      obtain ⟨G6, f6, sm, r6⟩ := r5.dat f5 e5
      have f26 := f24.trans f6
      have o6 := o4.step f6.s
      obtain ⟨ws, ew, aw⟩ := o6.at'
      obtain ⟨f7, o7⟩ := f26.mut o6 (aw.append (.cons r6 .nil))
      exact ⟨ws, ew, by rw [aw.length]; exact hz, G6, F5, τ5, acc ++ [z], f7, o7, q5⟩
  · rw [List.drop_eq_nil_of_le (by omega), lcW] at q2
    exact .inl ⟨it.stop G2 H2 F2 τ2 f2.s.g f2.k i (by omega), k (.ol acc) τ2 G2 F2 H2 (.ref D) (f1.trans f2) ⟨D, rfl, o2.at', o2.g, o2.f, dead f1.s.dom D o2.new⟩ q2⟩
/-- no test -/
def dYes {T : Type} : WT T := fun _ τ Q => Q true τ
theorem dts_one {c : Expr} (h : PT X c (liftT B tc)) : PTs X [c] (liftT B tc) := pts_one h
theorem de_lc {elt : Expr} {ifs : List Expr} {scope : Scope} {own : List (Str × Nat)} {tt : WT B.T} (hc : X.calm = true) (hN : X.N.Nodup) (hi : PI X tg iter (liftI B ti)) (ok : BlkOk X.N X.env.scope scope own) (hv : t.all (· ∈ own.map (·.2)) = true)
    (hg : ∀ (s : Shared) (H : Hp) (C : Addr) (cl : List (Str × Addr)) (fp : List Addr), PG (X.blk s H scope (compEnvC scope cl C X.env) fp) tg (tgH B.K t)) (ht : ∀ (s : Shared) (H : Hp) (C : Addr) (cl : List (Str × Addr)) (fp : List Addr), PTs (X.blk s H scope (compEnvC scope cl C X.env) fp) ifs (liftT B tt))
    (he : ∀ (s : Shared) (H : Hp) (C : Addr) (cl : List (Str × Addr)) (fp : List Addr), PE (X.blk s H scope (compEnvC scope cl C X.env) fp) elt (lift B te)) (hs : ∀ x, foldedSetIterable iter X.env x = pure x := by intro _; rfl) :
    PE X (.ListComp elt [⟨tg, iter, ifs, 0⟩] scope pos) (lift B (dLc ti t tt te (own.map (·.2)))) := pe_imp (pe_lc hc hN hi ok hg ht he hs) (lift_lc hv)
/-! ### own lists -/
/-- from here on the list in slot i never changes -/
def kFrz {T : Type} (i : Nat) (t : WS T) (D : DEnds T) (env : List SV) (τ : T) : Option SV → Prop
  | some (.ol xs) => t D (env.set i (.d (.list xs))) τ
  | some (.d (.list xs)) => t D env τ
  | _ => False
def dFrz {T : Type} (i : Nat) (t : WS T) : WS T := fun D env τ => kFrz i t D env τ env[i]?
theorem StR.frz {G H : Hp} {F : Addr → Prop} {σ : L2.St} {env : List SV} {τ : B.T} {xs : List D} (s : StR B G F σ H env τ) (e : env[i]? = some (.ol xs)) : ∃ G2, Same G G2 ∧ StR B G2 F σ H (env.set i (.d (.list xs))) τ := by
  obtain ⟨p, e1, o⟩ := s.e.at' i _ e
  obtain ⟨⟨ws, ew, aw⟩, og, onf, onew⟩ := id o
  have hl : i < env.length := (List.getElem?_eq_some_iff.mp e).1
  have hs : σ[i]? = some (some (.ref p)) := by
    cases z : σ[i]? with
    | none => rw [z] at e1; cases e1
    | some u => rw [z] at e1; exact congrArg some e1
  have sm : Same G (upd G p (.lst ws)) := fun b u z => by rw [upd_ne (ne_of_none z og)]; exact z
  have st : Step B.G B.F B.H (upd G p (.lst ws)) F H := ⟨s.s.g.trans sm, s.s.h, fun b u z => by
    by_cases q : b = p
    · subst q; exact .inr (.inl onew)
    · rw [upd_ne q] at z; exact s.s.gn b u z, s.s.fn, s.s.ff, s.s.dom⟩
  have stay : ∀ (j : Nat) sv, i ≠ j → env[j]? = some sv → SvR B.K B.H (upd G p (.lst ws)) F H sv (σ[j]?.join) := fun j sv hj ej => by
    have h := s.e.at' j sv ej
    cases sv with
    | no => trivial
    | vw _ => exact h
    | raw v => exact h
    | d y =>
      obtain ⟨v, e2, r2⟩ := h
      exact ⟨v, e2, r2.mono sm⟩
    | ol ys =>
      obtain ⟨q, e2, w⟩ := h
      obtain ⟨vs, e3, a⟩ := w.at'
      refine ⟨q, e2, ⟨vs, e3, a.mono sm⟩, ?_, w.f, w.new⟩
      have : q ≠ p := fun z => by
        subst z
        exact s.e.sep i j xs ys hj e ej (e1.trans e2.symm)
      rw [upd_ne this]
      exact w.g
  have get : ∀ (m : Nat) sv, (env.set i (.d (.list xs)))[m]? = some sv → (m = i ∧ sv = .d (.list xs)) ∨ (i ≠ m ∧ env[m]? = some sv) := fun m sv em => by
    by_cases q : i = m
    · subst q
      rw [List.getElem?_set_self hl] at em
      exact .inl ⟨rfl, (Option.some.inj em).symm⟩
    · rw [List.getElem?_set_ne q] at em
      exact .inr ⟨q, em⟩
  refine ⟨upd G p (.lst ws), sm, st, s.k.frz ew og onf, by rw [List.length_set]; exact s.e.len, fun j sv ej => ?_, fun j k ys zs hjk ej ek => ?_⟩
  · rcases get j sv ej with ⟨rfl, rfl⟩ | ⟨q, ej⟩
    · rw [hs]
      exact ⟨.ref p, rfl, Rp.lst (.inl (.inl upd_same)) (aw.mono sm)⟩
    · exact stay j sv q ej
  · rcases get j _ ej with ⟨_, z⟩ | ⟨_, ej⟩
    · cases z
    · rcases get k _ ek with ⟨_, z⟩ | ⟨_, ek⟩
      · cases z
      · exact s.e.sep j k ys zs hjk ej ek
theorem ds_frz {st : Stmt} {tS : WS B.T} (h : PS X st (liftS B tS)) : PS X st (liftS B (dFrz i tS)) :=
  ps_imp h fun D σ H z9 => ex53 z9 fun G F env τ Dd s z E => by
    unfold dFrz kFrz at z
    split at z
    · rename_i xs e
      obtain ⟨G2, sm, s2⟩ := s.frz e
      exact ⟨G2, F, _, τ, Dd, s2, z, E.mono sm⟩
    · exact ⟨G, F, env, τ, Dd, s, z, E⟩
    · exact z.elim
/-- the own list in slot i is changed -/
theorem StR.mut {G H : Hp} {F : Addr → Prop} {σ : L2.St} {env : List SV} {τ : B.T} {xs xs' : List D} {p : Addr} {ws : List V} (s : StR B G F σ H env τ) (e : env[i]? = some (.ol xs)) (e1 : σ[i]?.join = some (.ref p)) (a : RpAll B.K G ws xs') :
    StR B G F σ (upd H p (.lst ws)) (env.set i (.ol xs')) τ := by
  obtain ⟨p', e2, o⟩ := s.e.at' i _ e
  have : p' = p := by
    rw [e1] at e2
    cases e2
    rfl
  subst this
  have hl : i < env.length := (List.getElem?_eq_some_iff.mp e).1
  obtain ⟨f, o'⟩ := s.out.mut o a
  have get : ∀ (m : Nat) sv, (env.set i (.ol xs'))[m]? = some sv → (m = i ∧ sv = .ol xs') ∨ (i ≠ m ∧ env[m]? = some sv) := fun m sv em => by
    by_cases q : i = m
    · subst q
      rw [List.getElem?_set_self hl] at em
      exact .inl ⟨rfl, (Option.some.inj em).symm⟩
    · rw [List.getElem?_set_ne q] at em
      exact .inr ⟨q, em⟩
  have was : ∀ (m : Nat) zs, (env.set i (.ol xs'))[m]? = some (.ol zs) → ∃ zs', env[m]? = some (.ol zs') := fun m zs em => by
    rcases get m _ em with ⟨rfl, _⟩ | ⟨_, h⟩
    · exact ⟨xs, e⟩
    · exact ⟨zs, h⟩
  refine ⟨f.s, f.k, by rw [List.length_set]; exact s.e.len, fun j sv ej => ?_, fun j k ys zs hjk ej ek => ?_⟩
  · rcases get j sv ej with ⟨rfl, rfl⟩ | ⟨q, ej⟩
    · exact ⟨p', e1, o'⟩
    · have h := s.e.at' j sv ej
      cases sv with
      | no => trivial
      | vw _ => exact h
      | raw v => exact h
      | d y => exact h
      | ol ys =>
        obtain ⟨q', e3, w⟩ := h
        obtain ⟨vs, e4, a4⟩ := w.at'
        have : q' ≠ p' := fun z => by
          subst z
          exact s.e.sep i j xs ys q e ej (e1.trans e3.symm)
        exact ⟨q', e3, ⟨vs, by rw [upd_ne this]; exact e4, a4⟩, w.g, w.f, w.new⟩
  · obtain ⟨ys', ej'⟩ := was j ys ej
    obtain ⟨zs', ek'⟩ := was k zs ek
    exact s.e.sep j k ys' zs' hjk ej' ek'
end
end Z
namespace Z
open PySem L2
/-! ### defs -/
abbrev FW (T : Type) := List SV → T → (SV → T → Prop) → Prop
def SV.dr : SV → Bool
  | .d _ => true
  | .raw _ => true
  | _ => false
/-- a def's promise, by data -/
def spD (S : Sto) (K : PySem.W.Frag) (FF : FW S.T) : Sp := fun vs H Q _ => ∃ G F τ rs Qd Ha, Ok S K τ G F H ∧ ResAll K Ha G F H rs vs ∧ rs.all SV.dr = true ∧ FF rs τ Qd ∧
  ∀ r τ' G' F' H' v, Step G F H G' F' H' → Ok S K τ' G' F' H' → Res K H G' F' H' r v → Qd r τ' → Q v H'
def dCall {T : Type} (FF : FW T) (ta : WA T) : W T := fun env τ Q => ta env τ fun rs τ1 => rs.all SV.dr = true ∧ FF rs τ1 Q
section
variable {X : Cx} {B : Bk} {e : Expr} {es : List Expr} {pos p : Pos} {ta : WA B.T} {FF : FW B.S.T} {f : Addr} {fd : FuncData} {ps : List Str} {k : Nat} {x : Str}
theorem lift_call {E : XK} (hK : X.K = B.K) : ∀ σ H Q, lift B (dCall FF ta) σ H Q → tCall (spD B.S B.K FF) [] E (liftA B ta) σ H Q := fun σ H Q z9 => ex53 z9 fun G F env τ Qd s t k =>
  ⟨G, F, env, τ, _, s, t, fun rs τ1 G1 F1 H1 vs f1 r1 ⟨dr, q⟩ => by
    show spD B.S B.K FF (vs ++ []) H1 Q E
    rw [List.append_nil]
    exact ⟨G1, F1, τ1, rs, Qd, H, f1.k, r1, dr, q, fun r τ' G' F' H' v st ok res qd => k r τ' G' F' H' v (f1.trans ⟨st, ok⟩) (res.back (dead f1.s.dom)) qd⟩⟩
theorem de_call (hK : X.K = B.K) (F : FnOk X.prog X.w X.K X.mg X.base CX0 k f fd ps (spD B.S B.K FF)) (hr : Room k X.A) (hg : Gl X x) (hm : X.mg x = some (.ref f)) (hk : PySem.W.keepIn X.K (.ref f) = true) (hb : Binds X.K fd ps [])
    (ha : PA X (e :: es) (liftA B ta)) (hdb : (x == ("__debug__" : Str)) = false := by decide) (he : starEach (e :: es) X.env = (false, eval e X.env) :: starEach es X.env := by rfl) (hpl : (backTo pos (starEach es X.env)).any (·.1) = false := by rfl) :
    PE X (.Call (.Name x p) (e :: es) [] pos) (lift B (dCall FF ta)) := pe_imp (pe_call F hr hg hm hk hb .nil (pass0 (X := X)) ha hdb he hpl) (lift_call hK)
end
section
variable {P : Program} {w : World} {S : Sto} {K : PySem.W.Frag} {mg : Str → Option Value} {base : Heap}
theorem ResAll.slot {K : PySem.W.Frag} {Ha H0 G F H} : ∀ {rs : List SV} {vs : List V} (i : Nat) (s : SV), ResAll K Ha G F H rs vs → rs.all SV.dr = true → rs[i]? = some s → SvR K H0 G F H s ((vs.map some)[i]?.join)
  | _, _, _, _, .nil, _, e => by simp at e
  | .d x :: r, v :: vs, 0, s, .cons h t, _, e => by cases e; exact ⟨v, rfl, h⟩
  | .raw x :: r, v :: vs, 0, s, .cons h t, _, e => by
    cases e
    have h : v = x := h
    subst h
    rfl
  | .no :: r, _, 0, _, .cons h _, _, _ => h.elim
  | .ol _ :: r, _, 0, _, .cons h _, d, _ => by cases d
  | .vw _ :: r, _, 0, _, .cons h _, d, _ => by cases d
  | a :: r, v :: vs, i + 1, s, .cons h t, d, e => by
    have d' : (a.dr && r.all SV.dr) = true := d
    rw [Bool.and_eq_true] at d'
    exact ResAll.slot i s t d'.2 e
theorem env_start {B : Bk} {Ha G H : Hp} {F : Addr → Prop} {N : List Str} {rs : List SV} {vs : List V} (r : ResAll B.K Ha G F H rs vs) (dr : rs.all SV.dr = true) (hl : rs.length ≤ N.length) :
    EnvR B.K B.H G F H (L2.start N vs) (rs ++ List.replicate (N.length - rs.length) .no) := by
  have el := r.length
  have noOl : ∀ (m : Nat) zs, (rs ++ List.replicate (N.length - rs.length) SV.no)[m]? = some (.ol zs) → False := fun m zs em => by
    by_cases q : m < rs.length
    · rw [List.getElem?_append_left q] at em
      have := List.all_eq_true.mp dr _ (List.mem_of_getElem? em)
      cases this
    · rw [List.getElem?_append_right (by omega), List.getElem?_replicate] at em
      split at em <;> cases em
  refine ⟨?_, fun i s e => ?_, fun i j xs ys _ ei _ => (noOl i xs ei).elim⟩
  · unfold L2.start
    rw [List.length_append, List.length_append, List.length_map, List.length_replicate, List.length_replicate, el]
  · by_cases q : i < rs.length
    · rw [List.getElem?_append_left q] at e
      have z : (L2.start N vs)[i]? = (vs.map some)[i]? := by
        unfold L2.start
        rw [List.getElem?_append_left (by rw [List.length_map, ← el]; exact q)]
      rw [z]
      exact ResAll.slot i s r dr e
    · rw [List.getElem?_append_right (by omega), List.getElem?_replicate] at e
      split at e
      · cases e
        trivial
      · cases e
/-- THE RULE for a def, by data -/
theorem okD {x qual : Str} {st : Stmt} {f : Addr} {fd : FuncData} {N ps : List Str} {k : Nat} {FF : FW S.T} (F : Fun K x qual st f fd) (Sc : FnScope N ps (defScope st)) (len : ∀ rs τ Q, FF rs τ Q → rs.length = ps.length) (hl : ps.length ≤ N.length)
    (hbody : ∀ (cdv : Value) (A : Around) (outer : List Env) (s : Shared) (H : Hp) (E : XK) (G : Hp) (Fp : Addr → Prop), Room k (A.deeper (PyProof.Rows.envOfC qual (defScope st) s.heap.objs.size f cdv)) →
      ∃ t : WS S.T, PSs (cxOf CX0 P w K mg base N qual (defScope st) f cdv A outer s H E).nox (defBody st) (liftS ⟨S, K, G, Fp, H⟩ t) ∧ ∀ rs τ Qd, FF rs τ Qd → t { nx := fun _ τ' => Qd (.d .none) τ', rt := Qd } (rs ++ List.replicate (N.length - rs.length) .no) τ) :
    FnOk P w K mg base CX0 (k + 1) f fd ps (spD S K FF) := by
  refine F.ok Sc (fun vs H Q E z9 => by obtain ⟨G, F, τ, rs, Qd, Ha, ok, r, dr, h, fin⟩ := z9; rw [← r.length]; exact len _ _ _ h) fun cdv A outer s H vs Q E hr z9 => ?_
  obtain ⟨G, Fp, τ, rs, Qd, Ha, ok, r, dr, h, fin⟩ := z9
  obtain ⟨t, d, sem⟩ := hbody cdv A outer s H E G Fp hr
  have hle : rs.length ≤ N.length := by rw [len _ _ _ h]; exact hl
  exact ⟨_, d, G, Fp, _, τ, _, ⟨Step.refl _ _ _, ok, env_start (B := ⟨S, K, G, Fp, H⟩) r dr hle⟩, sem rs τ Qd h,
    ⟨fun G' F' σ' H' env' τ' _ st q => fin (.d .none) τ' G' F' H' .non st.s st.k Rp.non q, fun r τ' G' F' H' v f res q => fin r τ' G' F' H' v f.s f.k res q, fun _ _ _ _ _ _ _ _ q => q.elim, fun _ _ _ _ _ _ _ _ q => q.elim⟩⟩
end
/-! ### methods of own lists -/
section
variable {X : Cx} {B : Bk} {e o : Expr} {pos : Pos} {te : W B.T} {i : Nat}
/-- x.append(e) -/
def dApp {T : Type} (i : Nat) (te : W T) : WS T := fun D env τ => match env[i]? with
  | some (.ol xs) => te env τ fun r τ1 => opt r.dat? fun y => xs.length < sizeLine ∧ D.nx (env.set i (.ol (xs ++ [y]))) τ1
  | _ => False
end
end Z
namespace Z
open PySem L2
/-! ### more readings of data -/
def SV.seqd? : SV → Option (List D)
  | .d (.list xs) => some xs
  | .d (.tuple xs) => some xs
  | .ol xs => some xs
  | .vw xs => some xs
  | _ => none
/-- as data, a list of one's own as it is now -/
def SV.now? : SV → Option D
  | .d x => some x
  | .ol xs => some (.list xs)
  | .vw xs => some (.list xs)
  | _ => none
theorem Res.seqd {K : PySem.W.Frag} {Ha G F H v} (sm : Same G H) {s : SV} {xs : List D} (r : Res K Ha G F H s v) (e : s.seqd? = some xs) : ∃ p vs, v = .ref p ∧ (SqL K H p vs ∨ SqT K H p vs) ∧ RpAll K G vs xs := by
  have viaL : s.lst? = some xs → ∃ p vs, v = .ref p ∧ (SqL K H p vs ∨ SqT K H p vs) ∧ RpAll K G vs xs := fun e => by
    obtain ⟨p, vs, e1, h, a⟩ := r.sql sm e
    exact ⟨p, vs, e1, .inl h.sql, a⟩
  cases s with
  | no => exact r.elim
  | raw v => cases e
  | ol ys => exact viaL e
  | vw ys => exact viaL e
  | d x =>
    cases x with
    | list ys => exact viaL e
    | tuple ys =>
      cases e
      obtain ⟨p, vs, e1, h, a⟩ := rtup r
      exact ⟨p, vs, e1, .inr (same_seqT sm h), a⟩
    | _ => cases e
theorem Res.now {K : PySem.W.Frag} {Ha G F H v} (sm : Same G H) {s : SV} {x : D} (r : Res K Ha G F H s v) (e : s.now? = some x) : x.canLay0 = true → Dp K H v x := fun c => by
  have viaL : ∀ xs, x = .list xs → s.lst? = some xs → Dp K H v x := fun xs ex el => by
    obtain ⟨p, vs, e1, h, a⟩ := r.sql sm el
    subst ex
    subst e1
    rw [PyData.canLay0] at c
    exact .lst h.sql ((a.mono sm).dp c)
  cases s with
  | no => exact r.elim
  | raw v => cases e
  | ol ys => cases e; exact viaL _ rfl rfl
  | vw ys => cases e; exact viaL _ rfl rfl
  | d y => cases e; exact (Rp.mono sm r).dp c
/-! ### == and != -/
def scalD : D → D → Bool
  | .none, .none => true | .none, .int _ => true | .int _, .none => true | .none, .bool _ => true | .bool _, .none => true | .none, .str _ => true | .str _, .none => true
  | .int _, .int _ => true | .bool _, .bool _ => true | .str _, .str _ => true | .int _, .str _ => true | .str _, .int _ => true | .bool _, .str _ => true | .str _, .bool _ => true
  | _, _ => false
def eqOk (a b : D) : Bool := scalD a b || (SeqAt.shaped a && SeqAt.shaped b)
def kEq2 (neg : Bool) (a : D) (Q : SV → Prop) : Option D → Prop
  | some b => eqOk a b = true ∧ Q (.d (.bool (neg ^^ PyData.eqv a b)))
  | none => False
def kEq1 (neg : Bool) (y : SV) (Q : SV → Prop) : Option D → Prop
  | some a => kEq2 neg a Q y.now?
  | none => False
def gEq (x y : SV) (Q : SV → Prop) : Prop := kEq1 false y Q x.now?
def gNe (x y : SV) (Q : SV → Prop) : Prop := kEq1 true y Q x.now?
theorem kEq_of {neg : Bool} {x y : SV} {Q : SV → Prop} (h : kEq1 neg y Q x.now?) : ∃ a, x.now? = some a ∧ ∃ b, y.now? = some b ∧ eqOk a b = true ∧ Q (.d (.bool (neg ^^ PyData.eqv a b))) := by
  cases e : x.now? with
  | none => rw [e] at h; exact False.elim h
  | some a =>
    rw [e] at h
    have h : kEq2 neg a Q y.now? := h
    cases e2 : y.now? with
    | none => rw [e2] at h; exact False.elim h
    | some b => rw [e2] at h; exact ⟨a, rfl, b, rfl, h⟩
theorem gNe_of {x y : SV} {Q : SV → Prop} (h : gNe x y Q) : ∃ a, x.now? = some a ∧ ∃ b, y.now? = some b ∧ eqOk a b = true ∧ Q (.d (.bool (!PyData.eqv a b))) := by
  obtain ⟨a, ea, b, eb, hk, q⟩ := kEq_of h
  rw [Bool.true_xor] at q
  exact ⟨a, ea, b, eb, hk, q⟩
def flV : D → V
  | .bool b => .bl b
  | .int i => .int i
  | .str s => .str s
  | _ => .non
theorem scal_v {K : PySem.W.Frag} {G : Hp} {a b : D} {v w : V} (h : scalD a b = true) (ra : Rp K G v a) (rb : Rp K G w b) : v = flV a ∧ w = flV b := by
  constructor
  · cases ra <;> first | rfl | (cases b <;> cases h)
  · cases rb <;> first | rfl | (cases a <;> cases h)
theorem scal_f : ∀ a b : D, scalD a b = true → scal (flV a) (flV b) = true ∧ decide (flV a = flV b) = PyData.eqv a b := by
  intro a b h
  cases a <;> cases b <;> first
    | (cases h; done)
    | exact ⟨rfl, dec_int _ _ ▸ by rw [PyData.eqv]⟩
    | exact ⟨rfl, by rw [show ∀ x y, decide (flV (.int x) = flV (.int y)) = decide (V.int x = V.int y) from fun _ _ => rfl, dec_int, PyData.eqv]⟩
    | exact ⟨rfl, by rw [show ∀ x y, decide (flV (.bool x) = flV (.bool y)) = decide (V.bl x = V.bl y) from fun _ _ => rfl, dec_bl, PyData.eqv]⟩
    | exact ⟨rfl, by rw [show ∀ x y, decide (flV (.str x) = flV (.str y)) = decide (V.str x = V.str y) from fun _ _ => rfl, dec_str, PyData.eqv]⟩
    | exact ⟨rfl, by simp [PyData.eqv, flV]⟩
theorem scal_eqv {K : PySem.W.Frag} {G : Hp} {a b : D} {v w : V} (h : scalD a b = true) (ra : Rp K G v a) (rb : Rp K G w b) : scal v w = true ∧ decide (v = w) = PyData.eqv a b := by
  obtain ⟨rfl, rfl⟩ := scal_v h ra rb
  exact scal_f a b h
theorem scal_d : ∀ {a b : D} {x : SV}, scalD a b = true → x.now? = some a → x = .d a := fun {a b x} h e => by
  cases x with
  | d y => cases e; rfl
  | ol ys => cases e; cases b <;> cases h
  | vw ys => cases e; cases b <;> cases h
  | no => cases e
  | raw _ => cases e
theorem scal_d2 : ∀ {a b : D} {x : SV}, scalD a b = true → x.now? = some b → x = .d b := fun {a b x} h e => by
  cases x with
  | d y => cases e; rfl
  | ol ys => cases e; cases a <;> cases h
  | vw ys => cases e; cases a <;> cases h
  | no => cases e
  | raw _ => cases e
section
variable {X : Cx} {B : Bk}
def rNeA (K : PySem.W.Frag) : R2 := fun x y H Q => rNe x y H Q ∨ rNeD K x y H Q
theorem op_neA (hu : X.A.units + 64 < cLine) : OpR X (compareOp .NotEq) (rNeA X.K) := op_ne.or (op_neD hu)
theorem od_ne (hK : X.K = B.K) : OpD B (rNeA X.K) gNe := fun x y vx vy Ha Hb G F H τ Qv Q k rx ry h fin => by
  rw [hK]
  obtain ⟨a, ea, b, eb, hk, hq⟩ := gNe_of h
  unfold eqOk at hk
  rw [Bool.or_eq_true] at hk
  rcases hk with hk | hk
  · have e1 := scal_d hk ea
    have e2 := scal_d2 hk eb
    subst e1 e2
    obtain ⟨h1, h2⟩ := scal_eqv hk rx ry
    exact .inl ⟨h1, by rw [h2]; exact fin.d k (.bl _) hq⟩
  · rw [Bool.and_eq_true] at hk
    exact .inr ⟨a, b, rx.now k.same ea (SeqAt.canLay_of_shaped hk.1), ry.now k.same eb (SeqAt.canLay_of_shaped hk.2), hk.1, hk.2, fin.d k (.bl _) hq⟩
/-! ### <, <= of ints and texts -/
def gCmp (f : Int → Int → Bool) (g : Str → Str → Bool) (x y : SV) (Q : SV → Prop) : Prop := match x, y with
  | .d (.int i), .d (.int j) => Q (.d (.bool (f i j)))
  | .d (.str a), .d (.str b) => Q (.d (.bool (g a b)))
  | _, _ => False
/-! ### is None -/
def SV.isN : SV → Option Bool
  | .d .none => some true
  | .no => none
  | _ => some false
def gIsN (x y : SV) (Q : SV → Prop) : Prop := (∀ u, x = .raw u → u ≠ .non) ∧ y = .d .none ∧ opt x.isN fun b => Q (.d (.bool b))
def gNotN (x y : SV) (Q : SV → Prop) : Prop := (∀ u, x = .raw u → u ≠ .non) ∧ y = .d .none ∧ opt x.isN fun b => Q (.d (.bool (!b)))
/-! ### in, not in -/
def flatD : D → Bool
  | .none => true
  | .bool _ => true
  | .int _ => true
  | .str _ => true
  | _ => false
def gIn (neg : Bool) (x y : SV) (Q : SV → Prop) : Prop := (∃ c z, x = .d (.str ⟨#[c]⟩) ∧ y = .d (.str z) ∧ Q (.d (.bool (if neg then !decide (c ∈ z.cps.toList) else decide (c ∈ z.cps.toList))))) ∨
  ∃ a xs, x = .d a ∧ y.seqd? = some xs ∧ flatD a = true ∧ xs.all flatD = true ∧ Q (.d (.bool (if neg then !(xs.any fun y => PyData.eqv y a) else xs.any fun y => PyData.eqv y a)))
end
end Z
namespace Z
open PySem L2
/-! ### items and slices -/
def SV.int? : SV → Option Int
  | .d (.int i) => some i
  | _ => none
def kAtS (Q : SV → Prop) : Option Nat → Prop
  | some c => Q (.d (sg c))
  | none => False
def kAt (Q : SV → Prop) : Option D → Prop
  | some c => Q (.d c)
  | none => False
def kIx3 (i : Int) (Q : SV → Prop) : Option (List D) → Prop
  | some xs => kAt Q (atI xs i)
  | none => False
def kIx2 (x : SV) (i : Int) (Q : SV → Prop) : Prop := match x with
  | .d (.str z) => z.length ≤ sizeLine ∧ kAtS Q (atI z.cps.toList i)
  | x => kIx3 i Q x.seqd?
def gIx (x y : SV) (Q : SV → Prop) : Prop := match y with
  | .d (.int i) => kIx2 x i Q
  | _ => False
theorem gIx_of {x y : SV} {Q : SV → Prop} (h : gIx x y Q) : ∃ i, y = .d (.int i) ∧ kIx2 x i Q := by
  unfold gIx at h
  split at h
  · exact ⟨_, rfl, h⟩
  · exact False.elim h
theorem kIx3_of {i : Int} {Q : SV → Prop} {o : Option (List D)} (h : kIx3 i Q o) : ∃ xs, o = some xs ∧ ∃ d, atI xs i = some d ∧ Q (.d d) := by
  cases o with
  | none => exact False.elim h
  | some xs =>
    have h : kAt Q (atI xs i) := h
    cases e : atI xs i with
    | none => rw [e] at h; exact False.elim h
    | some d => rw [e] at h; exact ⟨xs, rfl, d, e, h⟩
theorem atI_rp {K : PySem.W.Frag} {G : Hp} {vs : List V} {xs : List D} {i : Int} {d : D} (a : RpAll K G vs xs) (e : atI xs i = some d) : ∃ v, atI vs i = some v ∧ Rp K G v d := by
  unfold atI at e ⊢
  rw [a.length]
  cases q : ixN xs.length i with
  | none => rw [q] at e; cases e
  | some j =>
    rw [q] at e
    exact a.getD e
section
variable {X : Cx} {B : Bk} {a b e : Expr} {pos : Pos} {ta tb te : W B.T} {r : R2} {g : SV → SV → (SV → Prop) → Prop}
theorem IxR.or {r r' : R2} (h : IxR X r) (h' : IxR X r') : IxR X (fun x y H Q => r x y H Q ∨ r' x y H Q) := fun value slice pins s σ H x y v u Q I rx ry q hs =>
  q.elim (fun q => h value slice pins s σ H x y v u Q I rx ry q hs) fun q => h' value slice pins s σ H x y v u Q I rx ry q hs
def rIxA (K : PySem.W.Frag) : R2 := fun x y H Q => rIxL K x y H Q ∨ rIxT K x y H Q ∨ rIxS x y H Q
theorem ix_A : IxR X (rIxA X.K) := IxR.or ix_list (IxR.or ix_tup ix_str)
theorem od_ix (hK : X.K = B.K) : OpD B (rIxA X.K) gIx := fun x y vx vy Ha Hb G F H τ Qv Q k rx ry h0 fin => by
  rw [hK]
  obtain ⟨i, ey, h⟩ := gIx_of h0
  clear h0
  subst ey
  have go : kIx3 i Qv x.seqd? → rIxA B.K vx vy H Q := fun h => by
    obtain ⟨xs, ex, d, ed, h⟩ := kIx3_of h
    obtain ⟨p, vs, e1, hs, ra⟩ := rx.seqd k.same ex
    obtain ⟨w, ew, rw'⟩ := atI_rp ra ed
    rcases hs with hs | hs
    · exact .inl ⟨p, vs, i, w, e1, rint ry, hs, ew, fin.d k rw' h⟩
    · exact .inr (.inl ⟨p, vs, i, w, e1, rint ry, hs, ew, fin.d k rw' h⟩)
  unfold kIx2 at h
  split at h
  · obtain ⟨hz, h⟩ := h
    rename_i z
    have h : kAtS Qv (atI z.cps.toList i) := h
    cases ec : atI z.cps.toList i with
    | none => rw [ec] at h; exact False.elim h
    | some c =>
    rw [ec] at h
    exact .inr (.inr ⟨_, i, c, rstr rx, rint ry, hz, ec, fin.d k (.str _) h⟩)
  · exact go h
theorem de_ix (hr : IxR X r) (hd : OpD B r g) (ha : PE X a (lift B ta)) (hb : PE X b (lift B tb)) (hs : PlainIx b) : PE X (.Subscript a b pos) (lift B (dOp g ta tb)) := pe_imp (pe_ix hr ha hb hs) (lift_op hd)
abbrev WO (T : Type) := List SV → T → (Option Int → T → Prop) → Prop
def dNoPart {T : Type} : WO T := fun _ τ Q => Q none τ
def kPtB {T : Type} (Q : Option Int → T → Prop) (τ : T) : Option Int → Prop
  | some i => Q (some i) τ
  | none => False
def kPt {T : Type} (Q : Option Int → T → Prop) (x : SV) (τ : T) : Prop := kPtB Q τ x.int?
def dPart {T : Type} (te : W T) : WO T := fun env τ Q => te env τ (kPt Q)
def cutL {α : Type} (xs : List α) (lo hi : Option Int) : List α := (xs.drop (HT.sIx xs.length 0 lo)).take (HT.sIx xs.length xs.length hi - HT.sIx xs.length 0 lo)
def gSl (x : SV) (lo hi : Option Int) (Q : SV → Prop) : Prop := match x with
  | .d (.str z) => z.length ≤ sizeLine ∧ Q (.d (.str (cutS z lo hi)))
  | .d (.tuple xs) => Q (.d (.tuple (cutL xs lo hi)))
  | x => opt x.lst? fun xs => Q (.ol (cutL xs lo hi))
def dSl {T : Type} (te : W T) (tl th : WO T) : W T := fun env τ Q => te env τ fun x τ1 => tl env τ1 fun lo τ2 => th env τ2 fun hi τ3 => gSl x lo hi fun z => Q z τ3
end
/-! ### built-ins -/
section
variable {X : Cx} {B : Bk}
theorem ResAll.one {K : PySem.W.Frag} {Ha G F H} {x : SV} {vs : List V} (r : ResAll K Ha G F H [x] vs) : ∃ v, vs = [v] ∧ Res K Ha G F H x v := by
  cases r with
  | cons r t =>
    cases t
    exact ⟨_, rfl, r⟩
theorem ResAll.two {K : PySem.W.Frag} {Ha G F H} {x y : SV} {vs : List V} (r : ResAll K Ha G F H [x, y] vs) : ∃ v w, vs = [v, w] ∧ Res K Ha G F H x v ∧ Res K Ha G F H y w := by
  cases r with
  | cons r t =>
    cases t with
    | cons r2 t =>
      cases t
      exact ⟨_, _, rfl, r, r2⟩
def SV.size? : SV → Option Nat
  | .d (.str z) => if z.length ≤ sizeLine then some z.length else none
  | x => x.seqd?.map List.length
def gLen (rs : List SV) (Q : SV → Prop) : Prop := match rs with
  | [x] => opt x.size? fun n => Q (.d (.int n))
  | _ => False
theorem cd_len (hK : X.K = B.K) : CallD B (fun xs H Q => ∃ x n, xs = [x] ∧ LenV X.K x H n ∧ Q (.int n) H) gLen := fun rs vs Ha G F H τ Qv Q k r h fin => by
  unfold gLen at h
  split at h
  · rename_i x
    obtain ⟨n, en, h⟩ := opt_of h
    obtain ⟨v, rfl, rx⟩ := r.one
    refine ⟨v, n, rfl, ?_, fin.d k (.int _) h⟩
    rw [hK]
    have viaS : x.seqd?.map List.length = some n → LenV B.K v H n := fun e => by
      cases q : x.seqd? with
      | none => rw [q] at e; cases e
      | some xs =>
        rw [q] at e
        cases e
        obtain ⟨p, ws, e1, hs, a⟩ := rx.seqd k.same q
        subst e1
        rcases hs with hs | hs
        · exact .inl ⟨ws, hs, a.length.symm⟩
        · exact .inr ⟨ws, hs, a.length.symm⟩
    unfold SV.size? at en
    split at en
    · rename_i z
      rw [rstr rx]
      split at en
      · rename_i hz
        cases en
        exact ⟨hz, rfl⟩
      · cases en
    · exact viaS en
  · exact h.elim
/-- the type of data -/
def tyN : D → String
  | .none => "NoneType"
  | .bool _ => "bool"
  | .int _ => "int"
  | .str _ => "str"
  | .list _ => "list"
  | .tuple _ => "tuple"
  | .dict _ => "dict"
def isT (a c : String) : Bool := a == c || (a == "bool" && c == "int")
def SV.tyN : SV → Option String
  | .d .none => some "NoneType"
  | .d (.bool _) => some "bool"
  | .d (.int _) => some "int"
  | .d (.str _) => some "str"
  | .d (.list _) => some "list"
  | .d (.tuple _) => some "tuple"
  | .d (.dict []) => some "dict"
  | .ol _ => some "list"
  | .vw _ => some "list"
  | _ => none
def tyNames : List String := ["NoneType", "bool", "int", "str", "list", "tuple", "dict"]
def gIsi (rs : List SV) (Q : SV → Prop) : Prop := match rs with
  | [x, .raw (.ty c)] => tyNames.contains c = true ∧ opt x.tyN fun n => Q (.d (.bool (isT n c)))
  | _ => False
/-- data that are truths -/
def bools? : List D → Option (List Bool)
  | [] => some []
  | .bool b :: r => (bools? r).map (b :: ·)
  | _ :: _ => none
def ints? : List D → Option (List Int)
  | [] => some []
  | .int b :: r => (ints? r).map (b :: ·)
  | _ :: _ => none
theorem ints_ok0 : ∀ {xs : List D} {bs : List Int}, ints? xs = some bs → xs = bs.map PyData.int := fun {xs} => by
  induction xs with
  | nil => intro bs e; cases e; rfl
  | cons x r ih =>
    intro bs e
    cases x with
    | int b =>
      cases q : ints? r with
      | none => rw [ints?, q] at e; cases e
      | some cs => rw [ints?, q] at e; cases e; rw [ih q]; rfl
    | _ => cases e
theorem ints_ok1 {K : PySem.W.Frag} {G : Hp} : ∀ (bs : List Int) {vs : List V}, RpAll K G vs (bs.map PyData.int) → vs = bs.map V.int
  | [], _, h => by cases h; rfl
  | b :: r, _, h => by
    cases h with
    | cons h1 t1 =>
      cases h1
      rw [ints_ok1 r t1]
      rfl
theorem ints_ok {K : PySem.W.Frag} {G : Hp} {xs : List D} {vs : List V} {bs : List Int} (h : RpAll K G vs xs) (e : ints? xs = some bs) : vs = bs.map V.int := by
  rw [ints_ok0 e] at h
  exact ints_ok1 bs h
def strs? : List D → Option (List Str)
  | [] => some []
  | .str b :: r => (strs? r).map (b :: ·)
  | _ :: _ => none
theorem ints_map (bs : List Int) : ints? (bs.map PyData.int) = some bs := by
  induction bs with
  | nil => rfl
  | cons b r ih => rw [List.map_cons, ints?, ih]; rfl
def gAll (rs : List SV) (Q : SV → Prop) : Prop := match rs with
  | [x] => opt (x.lst?.bind bools?) fun bs => Q (.d (.bool (bs.all id)))
  | _ => False
def gAny (rs : List SV) (Q : SV → Prop) : Prop := match rs with
  | [x] => opt (x.lst?.bind bools?) fun bs => Q (.d (.bool (bs.any id)))
  | _ => False
/-- int(x) of an int, a truth, a text that is a number -/
theorem CallR.or {f : Value} {r r' : List V → Hp → VK → Prop} (h : CallR X f r) (h' : CallR X f r') : CallR X f (fun xs H Q => r xs H Q ∨ r' xs H Q) := fun pins s σ H xs us Q I rr q =>
  q.elim (fun q => h pins s σ H xs us Q I rr q) fun q => h' pins s σ H xs us Q I rr q
def gInt (rs : List SV) (Q : SV → Prop) : Prop := match rs with
  | [.d (.int i)] => Q (.d (.int i))
  | [.d (.bool k)] => Q (.d (.int (if k then 1 else 0)))
  | [.d (.str a)] => ∃ n, PySem.intText? a = some n ∧ a.length ≤ 640 ∧ Q (.d (.int n))
  | _ => False
def gII (f : Int → Int → Int) (rs : List SV) (Q : SV → Prop) : Prop := match rs with
  | [.d (.int i), .d (.int j)] => Q (.d (.int (f i j)))
  | _ => False
theorem cd_II {f : Int → Int → Int} : CallD B (fun xs H Q => ∃ i j, xs = [.int i, .int j] ∧ Q (.int (f i j)) H) (gII f) := fun rs vs Ha G F H τ Qv Q k r h fin => by
  unfold gII at h
  split at h
  · obtain ⟨v, w, rfl, rx, ry⟩ := r.two
    exact ⟨_, _, by rw [rint rx, rint ry], fin.d k (.int _) h⟩
  · exact h.elim
end
end Z
namespace Z
open PySem L2
/-! ### known defs -/
structure Known (P : Program) (w : World) (K : PySem.W.Frag) (mg : Str → Option Value) (base : Heap) (S : Sto) (x : Str) (ps : List Str) (k : Nat) (FF : FW S.T) : Prop where
  ex : ∃ f fd, FnOk P w K mg base CX0 k f fd ps (spD S K FF) ∧ mg x = some (.ref f) ∧ PySem.W.keepIn K (.ref f) = true ∧ Binds K fd ps []
section
variable {X : Cx} {B : Bk} {e : Expr} {es : List Expr} {pos p : Pos} {ta : WA B.T} {FF : FW B.S.T} {ps : List Str} {k : Nat} {x : Str} {te : W B.T}
theorem de_callK (hK : X.K = B.K) (h : Known X.prog X.w X.K X.mg X.base B.S x ps k FF) (hr : Room k X.A) (hg : Gl X x)
    (ha : PA X (e :: es) (liftA B ta)) (hdb : (x == ("__debug__" : Str)) = false := by decide) (he : starEach (e :: es) X.env = (false, eval e X.env) :: starEach es X.env := by rfl) (hpl : (backTo pos (starEach es X.env)).any (·.1) = false := by rfl) :
    PE X (.Call (.Name x p) (e :: es) [] pos) (lift B (dCall FF ta)) := by
  obtain ⟨f, fd, F, hm, hk, hb⟩ := h.ex
  rw [hK] at F
  exact de_call hK (by rw [hK]; exact F) hr hg hm hk hb ha hdb he hpl
/-- -a -/
def gNeg (x : SV) (Q : SV → Prop) : Prop := match x with
  | .d (.int i) => Q (.d (.int (-i)))
  | _ => False
def dUn {T : Type} (g : SV → (SV → Prop) → Prop) (ta : W T) : W T := fun env τ Q => ta env τ fun x τ1 => g x fun z => Q z τ1
/-- {} -/
def dEmp {T : Type} : W T := fun _ τ Q => Q (.d (.dict [])) τ
/-- sep.join(texts) -/
def gJoin (x y : SV) (Q : SV → Prop) : Prop := ∃ a, x = .d (.str a) ∧ opt (y.seqd?.bind strs?) fun ys => (ys.map (·.length)).sum + ys.length * a.length ≤ 16777216 ∧ Q (.d (.str (Txt.join a ys)))
def dM1 {T : Type} (g : SV → SV → (SV → Prop) → Prop) (to te : W T) : W T := fun env τ Q => to env τ fun x τ1 => (∃ a, x = .d (.str a)) ∧ te env τ1 fun y τ2 => g x y fun z => Q z τ2
/-- text.index(sign) -/
def gSIndex (x y : SV) (Q : SV → Prop) : Prop := ∃ a b i rest, x = .d (.str a) ∧ y = .d (.str b) ∧ Builtin.Str.occurrences a b 0 a.length 1 = i :: rest ∧ Q (.d (.int (i : Nat)))
/-- text * n, n from 2 on -/
def strRep (x : Str) (n : Nat) : Str := ⟨(List.replicate n x.cps).foldl (· ++ ·) #[]⟩
def gMulS (x y : SV) (Q : SV → Prop) : Prop := ∃ a n, x = .d (.str a) ∧ y = .d (.int n) ∧ (2 ≤ n ∧ n ≤ 100000 ∧ 0 < a.length ∧ a.length ≤ 100) ∧ (strRep a n.toNat).length ≤ sizeLine ∧ Q (.d (.str (strRep a n.toNat)))
def rMulS : R2 := fun x y H Q => ∃ a n, x = .str a ∧ y = .int n ∧ (2 ≤ n ∧ n ≤ 100000 ∧ 0 < a.length ∧ a.length ≤ 100) ∧ (strRep a n.toNat).length ≤ sizeLine ∧ Q (.str (strRep a n.toNat)) H
theorem op_mulS : OpR X (binaryOp .Mult) rMulS := by
  intro pins s σ H x y v u Q I rx ry h
  obtain ⟨a, n, rfl, rfl, ⟨h1, h2, h3, h4⟩, h5, q⟩ := h
  obtain ⟨t, rfl⟩ := rx
  obtain ⟨t', rfl⟩ := ry
  have hn : ¬ n < 1 := by omega
  have hb : (n == 1 || a.length == 0) = false := by
    rw [Bool.or_eq_false_iff]
    exact ⟨beq_eq_false_iff_ne.mpr (by omega), beq_eq_false_iff_ne.mpr (by omega)⟩
  refine PySem.P.mul_str ?_ (fun _ _ => ?_) (fun _ _ => ?_) ?_
  · rw [decide_eq_false (by omega), decide_eq_false (by omega)]
    rfl
  · have : (100 : Int) ≤ (2 ^ 63 - 1) / n := by
      refine Int.le_ediv_of_mul_le (by omega) ?_
      omega
    omega
  · unfold Builtin.Str.tooLong
    have : a.length * n.toNat ≤ 100 * 100000 := Nat.mul_le_mul h4 (by omega)
    have hl : sizeLine = 16777216 := sizeLine_eq
    exact decide_eq_false (by omega)
  · rw [if_neg hn, hb]
    exact ⟨h5, .str _, H, I.tok _, ⟨_, rfl⟩, q⟩
theorem od_mulS : OpD B rMulS gMulS := fun x y vx vy Ha Hb G F H τ Qv Q k rx ry h fin => by
  obtain ⟨a, n, ex, ey, h1, h2, h⟩ := h
  subst ex ey
  exact ⟨a, n, rstr rx, rint ry, h1, h2, fin.d k (.str _) h⟩
def gMul (x y : SV) (Q : SV → Prop) : Prop := gI CMul (fun i j => .int (i * j)) x y Q ∨ gMulS x y Q
theorem op_mulA : OpR X (binaryOp .Mult) (fun x y H Q => (rI CMul fun i j => .int (i * j)) x y H Q ∨ rMulS x y H Q) := op_mul.or op_mulS
theorem od_mul : OpD B (fun x y H Q => (rI CMul fun i j => .int (i * j)) x y H Q ∨ rMulS x y H Q) gMul := od_I.or od_mulS
end
end Z
namespace Z
open PySem L2
/-! ### what is drawn by: a dict that the law's own defs share -/
inductive DrT where
  | off
  | on (a : Addr) (b : Nat)
def drK (c : Addr) (i l u : Int) : List (Key × V) := [(Sum.inr ("cells" : Str), V.ref c), (Sum.inr ("at" : Str), V.int i), (Sum.inr ("left" : Str), V.int l), (Sum.inr ("used" : Str), V.int u)]
structure DrAt (K : PySem.W.Frag) (G H : Hp) (a : Addr) (b : Nat) : Prop where
  ex : ∃ (c : Addr) (cs : List Int) (i l u : Int), H a = some (.dK (drK c i l u)) ∧ SqP K G c (cs.map V.int) ∧ cs ≠ [] ∧ (0 ≤ i ∧ 0 ≤ u ∧ i + b ≤ 1152921504606846976 ∧ u + b ≤ 1152921504606846976)
def drR (K : PySem.W.Frag) (t : DrT) (G : Hp) (F : Addr → Prop) (H : Hp) : Prop := match t with
  | .off => ∀ a, ¬ F a
  | .on a b => (∀ p, F p ↔ p = a) ∧ DrAt K G H a b
def theS (Ts : List Addr) : Sto where
  T := DrT
  tb := fun a => a ∈ Ts
  R := drR
  st := fun {K t G G' F H H'} r sm e => by
    cases t with
    | off => exact r
    | on a b =>
      obtain ⟨hF, c, cs, i, l, u, h1, h2, h3, h4⟩ := r
      exact ⟨hF, ⟨c, cs, i, l, u, by rw [e a ((hF a).mpr rfl)]; exact h1, same_sqp sm h2, h3, h4⟩⟩
theorem kne1 : ¬ ("cells" : Str) = "at" := by decide +kernel
theorem kne2 : ¬ ("cells" : Str) = "left" := by decide +kernel
theorem kne3 : ¬ ("cells" : Str) = "used" := by decide +kernel
theorem kne4 : ¬ ("at" : Str) = "left" := by decide +kernel
theorem kne5 : ¬ ("at" : Str) = "used" := by decide +kernel
theorem kne6 : ¬ ("left" : Str) = "used" := by decide +kernel
section
variable {c : Addr} {i l u z : Int} {v : V}
theorem dr_cells : valV (drK c i l u) (Sum.inr ("cells" : Str)) = some (.ref c) := by simp [drK, valV]
theorem dr_at : valV (drK c i l u) (Sum.inr ("at" : Str)) = some (.int i) := by simp [drK, valV, kne1]
theorem dr_left : valV (drK c i l u) (Sum.inr ("left" : Str)) = some (.int l) := by simp [drK, valV, kne2, kne4]
theorem dr_used : valV (drK c i l u) (Sum.inr ("used" : Str)) = some (.int u) := by simp [drK, valV, kne3, kne5, kne6]
theorem dr_pat : putK (drK c i l u) (Sum.inr ("at" : Str)) (.int z) = drK c z l u := by simp [drK, putK, kne1, Ne.symm kne4, Ne.symm kne5]
theorem dr_pleft : putK (drK c i l u) (Sum.inr ("left" : Str)) (.int z) = drK c i z u := by simp [drK, putK, kne2, kne4, Ne.symm kne6]
theorem dr_pused : putK (drK c i l u) (Sum.inr ("used" : Str)) (.int z) = drK c i l z := by simp [drK, putK, kne3, kne5, kne6]
theorem dr_new : mergeK [] (drK c i l u) = drK c i l u := by
  simp [drK, mergeK, putK, kne1, kne2, kne3, kne4, kne5, kne6]
theorem dr_len : (drK c i l u).length = 4 := rfl
end
def FF__law_begin : FW DrT := fun rs τ Q => ∃ ns : List Int, rs = [.d (.list (ns.map PyData.int))] ∧ ns.length ≤ 63 ∧ τ = .off ∧ ∀ a, Q (.raw (.ref a)) (.on a 1152921504606846976)
def FF__law_mixed : FW DrT := fun rs τ Q => ∃ c k : Int, rs = [.d (.int c), .d (.int k)] ∧ (0 ≤ k ∧ k ≤ 1152921504606846976) ∧ ∀ r : Int, 0 ≤ r → Q (.d (.int r)) τ
def FF__law_next : FW DrT := fun rs τ Q => ∃ (a : Addr) (b : Nat) (n : Int), rs = [.raw (.ref a), .d (.int n)] ∧ τ = .on a (b + 1) ∧ (0 < n ∧ n < 1073741824) ∧ ∀ r : Int, 0 ≤ r → r < n → Q (.d (.int r)) (.on a b)
/-- a state of what is drawn by is another one -/
theorem dr_ok {Ts : List Addr} {K : PySem.W.Frag} {a c : Addr} {b b' : Nat} {G H : Hp} {F : Addr → Prop} {cs : List Int} {i' l' u' : Int} (k : Ok (theS Ts) K (.on a b) G F H) (h1 : SqP K G c (cs.map V.int)) (h2 : cs ≠ [])
    (h3 : 0 ≤ i' ∧ 0 ≤ u' ∧ i' + b' ≤ 1152921504606846976 ∧ u' + b' ≤ 1152921504606846976)   : Ok (theS Ts) K (.on a b') G F (upd H a (.dK (drK c i' l' u'))) ∧ Step G F H G F (upd H a (.dK (drK c i' l' u'))) := by
  have hF : ∀ p, F p ↔ p = a := k.r.1
  have fa : F a := (hF a).mpr rfl
  refine ⟨⟨fun p o e => ?_, k.gf, fun p e => ?_, ⟨hF, c, cs, i', l', u', upd_same, h1, h2, h3⟩, k.nt' (fun _ z => by cases z), k.nx' (fun _ z => by cases z)⟩, Same.refl G, fun p o nf e => ?_, fun p o e => .inl e, fun p e => .inl e, fun p e => e, fun p e => ?_⟩
  · have : p ≠ a := fun z => by
      subst z
      rw [k.gf _ fa] at e
      cases e
    rw [upd_ne this]
    exact k.same p o e
  · have := (hF p).mp e
    subst this
    rw [upd_same]
    exact fun z => by cases z
  · have : p ≠ a := fun z => nf ((hF p).mpr z)
    rw [upd_ne this]
    exact e
  · by_cases z : p = a
    · subst z
      rw [upd_same]
      exact fun z => by cases z
    · rw [upd_ne z]
      exact e
theorem Ok.less {Ts : List Addr} {K : PySem.W.Frag} {a : Addr} {b b' : Nat} {G H : Hp} {F : Addr → Prop} (k : Ok (theS Ts) K (.on a b) G F H) (h : b' ≤ b) : Ok (theS Ts) K (.on a b') G F H := by
  obtain ⟨hF, c, cs, i, l, u, h1, h2, h3, h4⟩ := k.r
  exact ⟨k.same, k.gf, k.fh, ⟨hF, c, cs, i, l, u, h1, h2, h3, by omega⟩, k.nt, k.nx⟩
end Z
namespace Z
open PySem L2
section
variable {T : Type} {t : Tg} {tt : WT T} {te : W T} {tb : WS T}
theorem forW_inv {D : DEnds T} (P : Nat → List SV → T → Prop) : ∀ (xs : List Z.D) (i : Nat) (env : List SV) (τ : T), P i env τ →
    (∀ j x env τ, xs[j]? = some x → P (i + j) env τ → ∀ kn : List SV → T → Prop, (∀ env' τ', P (i + j + 1) env' τ' → kn env' τ') → opt (tgE t x env) fun env' => tb { D with nx := kn, ct := kn, bk := D.nx } env' τ) →
    (∀ env τ, P (i + xs.length) env τ → D.nx env τ) → forW t tb D xs env τ
  | [], i, env, τ, p, _, q => q env τ p
  | x :: xs, i, env, τ, p, h, q => by
    refine h 0 x env τ rfl p _ fun env' τ' p' => ?_
    refine forW_inv P xs (i + 1) env' τ' p' (fun j y env τ e p => ?_) fun env τ p => q env τ (by rw [List.length_cons, show i + (xs.length + 1) = i + 1 + xs.length by omega]; exact p)
    have z := h (j + 1) y env τ (by simpa using e)
    rw [show i + (j + 1) = i + 1 + j by omega] at z
    exact z p
end
end Z
namespace Z
open PySem L2
/-! ### texts as lists of signs -/
abbrev cs (z : Str) : List Nat := z.cps.toList
def mkS (l : List Nat) : Str := ⟨l.toArray⟩
theorem str_len (z : Str) : z.length = (cs z).length := by
  show z.cps.size = z.cps.toList.length
  rw [Array.length_toList]
end Z
namespace Z
open PySem L2
/-! ### in use -/
theorem ixN_ok {n : Nat} {i : Int} (h0 : 0 ≤ i) (h1 : i < n) : ixN n i = some i.toNat := by
  unfold ixN
  rw [if_pos h0, if_pos h1]
theorem atI_some {α : Type} {xs : List α} {i : Int} (h0 : 0 ≤ i) (h1 : i < (xs.length : Int)) : ∃ x, atI xs i = some x ∧ xs[i.toNat]? = some x ∧ x ∈ xs := by
  have hi : i.toNat < xs.length := by omega
  refine ⟨xs[i.toNat], ?_, List.getElem?_eq_getElem hi, List.getElem_mem hi⟩
  unfold atI
  rw [ixN_ok h0 h1]
  exact List.getElem?_eq_getElem hi
/-- a text of no great length, of signs -/
def okS (s : Str) : Prop := s.length ≤ 100000 ∧ ∀ c ∈ cs s, c < 1114112
theorem okS.lay {s : Str} (h : okS s) : (PyData.str s).canLay0 = true := by
  rw [PyData.canLay0]
  unfold PyData.strOk
  rw [← Array.all_toList, List.all_eq_true]
  exact fun c hc => decide_eq_true (h.2 c hc)
theorem okS.of {l : List Nat} (h1 : l.length ≤ 100000) (h2 : ∀ c ∈ l, c < 1114112) : okS (mkS l) := ⟨by rw [str_len]; exact h1, h2⟩
theorem rgI_get {lo : Int} {n i : Nat} {x : D} (h : (rgI lo n)[i]? = some x) : i < n ∧ x = .int (lo + (i : Nat)) := by
  unfold rgI at h
  rw [List.getElem?_map] at h
  by_cases hi : i < n
  · rw [List.getElem?_range hi] at h
    exact ⟨hi, (Option.some.inj h).symm⟩
  · rw [List.getElem?_eq_none (by rw [List.length_range]; omega)] at h
    cases h
end Z
namespace Z
open PySem L2
/-! ### the readings, by named continuations -/
theorem opt_e {α : Type} {o : Option α} {P : α → Prop} {k : Option α → Prop} (h1 : ∀ a, P a = k (some a)) (h2 : k none = False) : opt o P = k o := by
  cases o with
  | none => exact h2.symm
  | some a => exact h1 a
section
variable {T : Type}
theorem dVar_k (i : Nat) (env : List SV) (τ : T) (Q : SV → T → Prop) : dVar i env τ Q = kV Q τ env[i]? := rfl
theorem dC_k (x : D) (env : List SV) (τ : T) (Q : SV → T → Prop) : dC x env τ Q = Q (.d x) τ := rfl
theorem dRaw_k (x : V) (env : List SV) (τ : T) (Q : SV → T → Prop) : dRaw x env τ Q = Q (.raw x) τ := rfl
def kOp2 (g : SV → SV → (SV → Prop) → Prop) (x : SV) (Q : SV → T → Prop) (y : SV) (τ : T) : Prop := g x y (kG Q τ)
def kOp1 (tb : W T) (env : List SV) (g : SV → SV → (SV → Prop) → Prop) (Q : SV → T → Prop) (x : SV) (τ : T) : Prop := tb env τ (kOp2 g x Q)
theorem dOp_k (g : SV → SV → (SV → Prop) → Prop) (ta tb : W T) (env : List SV) (τ : T) (Q : SV → T → Prop) : dOp g ta tb env τ Q = ta env τ (kOp1 tb env g Q) := rfl
theorem dT_k (t : W T) (env : List SV) (τ : T) (Q : Bool → T → Prop) : dT t env τ Q = t env τ (kT Q) := rfl
theorem kChB_t {tc : W T} {env : List SV} {g' : SV → SV → (SV → Prop) → Prop} {y : SV} {Q : SV → T → Prop} {τ : T} : kChB tc env g' y Q true τ = tc env τ (kCh4 g' y Q) := rfl
theorem kChB_f {tc : W T} {env : List SV} {g' : SV → SV → (SV → Prop) → Prop} {y : SV} {Q : SV → T → Prop} {τ : T} : kChB tc env g' y Q false τ = Q (.d (.bool false)) τ := rfl
theorem dChain_k (g g' : SV → SV → (SV → Prop) → Prop) (ta tb tc : W T) (env : List SV) (τ : T) (Q : SV → T → Prop) : dChain g g' ta tb tc env τ Q = ta env τ (kCh1 tb tc env g g' Q) := rfl
theorem dTru_k (t : W T) (env : List SV) (τ : T) (Q : Bool → T → Prop) : dTru t env τ Q = t env τ (kTru Q) := rfl
def kAndT (u : WT T) (env : List SV) (Q : Bool → T → Prop) (c : Bool) (τ : T) : Prop := if c = true then u env τ Q else Q false τ
def kOrT (u : WT T) (env : List SV) (Q : Bool → T → Prop) (c : Bool) (τ : T) : Prop := if c = true then Q true τ else u env τ Q
def kNotT (Q : Bool → T → Prop) (c : Bool) (τ : T) : Prop := Q (!c) τ
theorem kAndT_t {u : WT T} {env : List SV} {Q : Bool → T → Prop} {τ : T} : kAndT u env Q true τ = u env τ Q := rfl
theorem kAndT_f {u : WT T} {env : List SV} {Q : Bool → T → Prop} {τ : T} : kAndT u env Q false τ = Q false τ := rfl
theorem kOrT_t {u : WT T} {env : List SV} {Q : Bool → T → Prop} {τ : T} : kOrT u env Q true τ = Q true τ := rfl
theorem kOrT_f {u : WT T} {env : List SV} {Q : Bool → T → Prop} {τ : T} : kOrT u env Q false τ = u env τ Q := rfl
theorem dAndT_k (t u : WT T) (env : List SV) (τ : T) (Q : Bool → T → Prop) : dAndT t u env τ Q = t env τ (kAndT u env Q) := rfl
theorem dOrT_k (t u : WT T) (env : List SV) (τ : T) (Q : Bool → T → Prop) : dOrT t u env τ Q = t env τ (kOrT u env Q) := rfl
theorem dNotT_k (t : WT T) (env : List SV) (τ : T) (Q : Bool → T → Prop) : dNotT t env τ Q = t env τ (kNotT Q) := rfl
theorem dAnd_k (ta tb : W T) (env : List SV) (τ : T) (Q : SV → T → Prop) : dAnd ta tb env τ Q = ta env τ (kAnd tb env Q) := rfl
theorem dOr_k (ta tb : W T) (env : List SV) (τ : T) (Q : SV → T → Prop) : dOr ta tb env τ Q = ta env τ (kOr tb env Q) := rfl
theorem dNot_k (ta : W T) (env : List SV) (τ : T) (Q : SV → T → Prop) : dNot ta env τ Q = ta env τ (kNot Q) := rfl
def kIf (ta tb : W T) (env : List SV) (Q : SV → T → Prop) (c : Bool) (τ : T) : Prop := if c = true then ta env τ Q else tb env τ Q
theorem kIf_t {ta tb : W T} {env : List SV} {Q : SV → T → Prop} {τ : T} : kIf ta tb env Q true τ = ta env τ Q := rfl
theorem kIf_f {ta tb : W T} {env : List SV} {Q : SV → T → Prop} {τ : T} : kIf ta tb env Q false τ = tb env τ Q := rfl
theorem dIf_k (t : WT T) (ta tb : W T) (env : List SV) (τ : T) (Q : SV → T → Prop) : dIf t ta tb env τ Q = t env τ (kIf ta tb env Q) := rfl
/-! arguments -/
theorem dNil_k (env : List SV) (τ : T) (Q : List SV → T → Prop) : dNil env τ Q = Q [] τ := rfl
theorem dCons_k (t : W T) (ta : WA T) (env : List SV) (τ : T) (Q : List SV → T → Prop) : dCons t ta env τ Q = t env τ (kCo ta env Q) := rfl
theorem dTup_k (ta : WA T) (env : List SV) (τ : T) (Q : SV → T → Prop) : dTup ta env τ Q = ta env τ (kTup Q) := rfl
theorem dLst_k (ta : WA T) (env : List SV) (τ : T) (Q : SV → T → Prop) : dLst ta env τ Q = ta env τ (kLst Q) := rfl
def kCB (g : List SV → (SV → Prop) → Prop) (Q : SV → T → Prop) (rs : List SV) (τ : T) : Prop := g rs (kG Q τ)
theorem dCB_k (g : List SV → (SV → Prop) → Prop) (ta : WA T) (env : List SV) (τ : T) (Q : SV → T → Prop) : dCB g ta env τ Q = ta env τ (kCB g Q) := rfl
def kCall (FF : FW T) (Q : SV → T → Prop) (rs : List SV) (τ : T) : Prop := rs.all SV.dr = true ∧ FF rs τ Q
theorem dCall_k (FF : FW T) (ta : WA T) (env : List SV) (τ : T) (Q : SV → T → Prop) : dCall FF ta env τ Q = ta env τ (kCall FF Q) := rfl
/-! statements -/
def kNx (t : WS T) (D : DEnds T) (env : List SV) (τ : T) : Prop := t D env τ
theorem dNext_k (D : DEnds T) (env : List SV) (τ : T) : dNext D env τ = D.nx env τ := rfl
theorem dSeq_k (t u : WS T) (nx : List SV → T → Prop) (rt : SV → T → Prop) (bk ct : List SV → T → Prop) (env : List SV) (τ : T) : dSeq t u ⟨nx, rt, bk, ct⟩ env τ = t ⟨kNx u ⟨nx, rt, bk, ct⟩, rt, bk, ct⟩ env τ := rfl
theorem dBreak_k (D : DEnds T) (env : List SV) (τ : T) : dBreak D env τ = D.bk env τ := rfl
theorem dCont_k (D : DEnds T) (env : List SV) (τ : T) : dCont D env τ = D.ct env τ := rfl
theorem dNever_k (D : DEnds T) (env : List SV) (τ : T) : dNever D env τ = False := rfl
def kDrop (D : DEnds T) (env : List SV) (r : SV) (τ : T) : Prop := D.nx env τ
theorem dDrop_k (te : W T) (D : DEnds T) (env : List SV) (τ : T) : dDrop te D env τ = te env τ (kDrop D env) := rfl
def kRet (D : DEnds T) (r : SV) (τ : T) : Prop := r.out = true ∧ D.rt r τ
theorem dRet_k (te : W T) (D : DEnds T) (env : List SV) (τ : T) : dRet te D env τ = te env τ (kRet D) := rfl
theorem dRetN_k (D : DEnds T) (env : List SV) (τ : T) : dRetN D env τ = D.rt (.d .none) τ := rfl
def kIfS (t u : WS T) (D : DEnds T) (env : List SV) (b : Bool) (τ : T) : Prop := if b = true then t D env τ else u D env τ
theorem kIfS_t {t u : WS T} {D : DEnds T} {env : List SV} {τ : T} : kIfS t u D env true τ = t D env τ := rfl
theorem kIfS_f {t u : WS T} {D : DEnds T} {env : List SV} {τ : T} : kIfS t u D env false τ = u D env τ := rfl
theorem dIfS_k (c : WT T) (t u : WS T) (D : DEnds T) (env : List SV) (τ : T) : dIfS c t u D env τ = c env τ (kIfS t u D env) := rfl
theorem dSet_k (i : Nat) (te : W T) (D : DEnds T) (env : List SV) (τ : T) : dSet i te D env τ = te env τ (kSet i D env) := rfl
theorem dAsg_k (t : Tg) (te : W T) (D : DEnds T) (env : List SV) (τ : T) : dAsg t te D env τ = te env τ (kAsg t D env) := rfl
def kPar (i j : Nat) (D : DEnds T) (env : List SV) (rs : List SV) (τ : T) : Prop := match rs with
  | [.d x, .d y] => D.nx ((env.set i (.d x)).set j (.d y)) τ
  | _ => False
theorem dPar_k (i j : Nat) (ta : WA T) (D : DEnds T) (env : List SV) (τ : T) : dPar i j ta D env τ = ta env τ (kPar i j D env) := rfl
theorem kPar_k {i j : Nat} {D : DEnds T} {env : List SV} {x y : Z.D} {τ : T} : kPar i j D env [.d x, .d y] τ = D.nx ((env.set i (.d x)).set j (.d y)) τ := rfl
def kApD (i : Nat) (D : DEnds T) (env : List SV) (xs : List Z.D) (τ : T) : Option Z.D → Prop
  | some y => xs.length < sizeLine ∧ D.nx (env.set i (.ol (xs ++ [y]))) τ
  | none => False
def kAp (i : Nat) (D : DEnds T) (env : List SV) (xs : List Z.D) (r : SV) (τ : T) : Prop := kApD i D env xs τ r.dat?
def kApp (i : Nat) (te : W T) (D : DEnds T) (env : List SV) (τ : T) : Option SV → Prop
  | some (.ol xs) => te env τ (kAp i D env xs)
  | _ => False
theorem dApp_k (i : Nat) (te : W T) (D : DEnds T) (env : List SV) (τ : T) : dApp i te D env τ = kApp i te D env τ env[i]? := by
  unfold dApp
  generalize env[i]? = o
  match o with
  | some (.ol xs) =>
    show te env τ _ = te env τ (kAp i D env xs)
    congr 1
    funext r τ1
    exact opt_e (fun _ => rfl) rfl
  | some (.d _) => rfl
  | some (.vw _) => rfl
  | some (.raw _) => rfl
  | some .no => rfl
  | none => rfl
theorem dFrz_k (i : Nat) (t : WS T) (D : DEnds T) (env : List SV) (τ : T) : dFrz i t D env τ = kFrz i t D env τ env[i]? := rfl
/-! loops -/
theorem dSeqI_k (te : W T) (env : List SV) (τ : T) (Q : List D → T → Prop) : dSeqI te env τ Q = te env τ (kSq Q) := rfl
theorem dRng1_k (ta : WA T) (env : List SV) (τ : T) (Q : List D → T → Prop) : dRng1 ta env τ Q = ta env τ (kR1 Q) := rfl
theorem dRng2_k (ta : WA T) (env : List SV) (τ : T) (Q : List D → T → Prop) : dRng2 ta env τ Q = ta env τ (kR2 Q) := rfl
theorem kR1_k {Q : List D → T → Prop} {j : Int} {τ : T} : kR1 Q [.d (.int j)] τ = ((-(2 ^ 62) ≤ j ∧ j < 2 ^ 62) ∧ Q (rgI 0 j.toNat) τ) := rfl
theorem kR2_k {Q : List D → T → Prop} {i j : Int} {τ : T} : kR2 Q [.d (.int i), .d (.int j)] τ = ((-(2 ^ 62) ≤ i ∧ i < 2 ^ 62 ∧ -(2 ^ 62) ≤ j ∧ j < 2 ^ 62) ∧ Q (rgI i (j - i).toNat) τ) := rfl
def kFor (t : Tg) (tb : WS T) (D : DEnds T) (env : List SV) (xs : List Z.D) (τ : T) : Prop := forW t tb D xs env τ
theorem dFor_k (ti : WI T) (t : Tg) (tb : WS T) (D : DEnds T) (env : List SV) (τ : T) : dFor ti t tb D env τ = ti env τ (kFor t tb D env) := rfl
def kOl (Q : SV → T → Prop) (acc : List D) (τ : T) : Prop := Q (.ol acc) τ
def kLc (t : Tg) (tt : WT T) (te : W T) (Q : SV → T → Prop) (env : List SV) (xs : List D) (τ : T) : Prop := lcW t tt te (kOl Q) xs [] env τ
theorem dLc_k (ti : WI T) (t : Tg) (tt : WT T) (te : W T) (vs : List Nat) (env : List SV) (τ : T) (Q : SV → T → Prop) : dLc ti t tt te vs env τ Q = ti env τ (kLc t tt te Q (wipeE env vs)) := rfl
theorem dYes_k (env : List SV) (τ : T) (Q : Bool → T → Prop) : dYes env τ Q = Q true τ := rfl
/-- a turn of a comprehension -/
def kDt (kc : D → T → Prop) (τ : T) : Option D → Prop
  | some y => kc y τ
  | none => False
def kDat (kc : D → T → Prop) (r : SV) (τ : T) : Prop := kDt kc τ r.dat?
def kTurn (te : W T) (env : List SV) (kc : D → T → Prop) (k0 : T → Prop) (b : Bool) (τ : T) : Prop := if b = true then te env τ (kDat kc) else k0 τ
theorem kTurn_t {te : W T} {env : List SV} {kc : D → T → Prop} {k0 : T → Prop} {τ : T} : kTurn te env kc k0 true τ = te env τ (kDat kc) := rfl
theorem kTurn_f {te : W T} {env : List SV} {kc : D → T → Prop} {k0 : T → Prop} {τ : T} : kTurn te env kc k0 false τ = k0 τ := rfl
def kTgB (tt : WT T) (te : W T) (kc : D → T → Prop) (k0 : T → Prop) (τ : T) : Option (List SV) → Prop
  | some env => tt env τ (kTurn te env kc k0)
  | none => False
/-- a turn of a for -/
def kFtB (tb : WS T) (D : DEnds T) (τ : T) : Option (List SV) → Prop
  | some env => tb D env τ
  | none => False
theorem fturn_k {t : Tg} {x : Z.D} {env : List SV} {tb : WS T} {D : DEnds T} {kn : List SV → T → Prop} {τ : T} (h : kFtB tb ⟨kn, D.rt, D.nx, kn⟩ τ (tgE t x env)) :
    opt (tgE t x env) fun env' => tb { D with nx := kn, ct := kn, bk := D.nx } env' τ := by
  cases e : tgE t x env with
  | none => rw [e] at h; exact h.elim
  | some a => rw [e] at h; exact h
/-! the rules, with turns said so -/
theorem for_inv {t : Tg} {tb : WS T} {D : DEnds T} (P : Nat → List SV → T → Prop) (xs : List Z.D) (env : List SV) (τ : T) (h0 : P 0 env τ)
    (h : ∀ j x env τ, xs[j]? = some x → P j env τ → ∀ kn : List SV → T → Prop, (∀ env' τ', P (j + 1) env' τ' → kn env' τ') → kFtB tb ⟨kn, D.rt, D.nx, kn⟩ τ (tgE t x env))
    (q : ∀ env τ, P xs.length env τ → D.nx env τ) : forW t tb D xs env τ :=
  forW_inv P xs 0 env τ h0 (fun j x env τ e p kn h1 => by
    rw [Nat.zero_add] at *
    exact fturn_k (h j x env τ e p kn h1)) (by rw [Nat.zero_add]; exact q)
/-! slices and more -/
def kSl3 (x : SV) (lo : Option Int) (Q : SV → T → Prop) (hi : Option Int) (τ : T) : Prop := gSl x lo hi (kG Q τ)
def kSl2 (th : WO T) (env : List SV) (x : SV) (Q : SV → T → Prop) (lo : Option Int) (τ : T) : Prop := th env τ (kSl3 x lo Q)
def kSl1 (tl th : WO T) (env : List SV) (Q : SV → T → Prop) (x : SV) (τ : T) : Prop := tl env τ (kSl2 th env x Q)
theorem dSl_k (te : W T) (tl th : WO T) (env : List SV) (τ : T) (Q : SV → T → Prop) : dSl te tl th env τ Q = te env τ (kSl1 tl th env Q) := rfl
theorem dNoPart_k (env : List SV) (τ : T) (Q : Option Int → T → Prop) : dNoPart env τ Q = Q none τ := rfl
theorem dPart_k (te : W T) (env : List SV) (τ : T) (Q : Option Int → T → Prop) : dPart te env τ Q = te env τ (kPt Q) := rfl
def kUn (g : SV → (SV → Prop) → Prop) (Q : SV → T → Prop) (x : SV) (τ : T) : Prop := g x (kG Q τ)
theorem dUn_k (g : SV → (SV → Prop) → Prop) (ta : W T) (env : List SV) (τ : T) (Q : SV → T → Prop) : dUn g ta env τ Q = ta env τ (kUn g Q) := rfl
theorem dEmp_k (env : List SV) (τ : T) (Q : SV → T → Prop) : dEmp env τ Q = Q (.d (.dict [])) τ := rfl
def kM2 (g : SV → SV → (SV → Prop) → Prop) (x : SV) (Q : SV → T → Prop) (y : SV) (τ : T) : Prop := g x y (kG Q τ)
def kM1 (te : W T) (env : List SV) (g : SV → SV → (SV → Prop) → Prop) (Q : SV → T → Prop) (x : SV) (τ : T) : Prop := (∃ a, x = .d (.str a)) ∧ te env τ (kM2 g x Q)
theorem dM1_k (g : SV → SV → (SV → Prop) → Prop) (to te : W T) (env : List SV) (τ : T) (Q : SV → T → Prop) : dM1 g to te env τ Q = to env τ (kM1 te env g Q) := rfl
theorem kM1_k {te : W T} {env : List SV} {g : SV → SV → (SV → Prop) → Prop} {Q : SV → T → Prop} {a : Str} {τ : T} : kM1 te env g Q (.d (.str a)) τ = te env τ (kM2 g (.d (.str a)) Q) := by
  unfold kM1
  simp
end
/-! ### operators on what is known -/
theorem gI_k {C : Int → Int → Prop} {f : Int → Int → D} {i j : Int} {Q : SV → Prop} : gI C f (.d (.int i)) (.d (.int j)) Q = (C i j ∧ Q (.d (f i j))) := rfl
theorem gAdd_i {i j : Int} {Q : SV → Prop} : gAdd (.d (.int i)) (.d (.int j)) Q = Q (.d (.int (i + j))) := rfl
theorem gAdd_s {i j : Str} {Q : SV → Prop} : gAdd (.d (.str i)) (.d (.str j)) Q = (i.length + j.length ≤ sizeLine ∧ Q (.d (.str (i ++ j)))) := rfl
theorem gAdd_t {i j : List D} {Q : SV → Prop} : gAdd (.d (.tuple i)) (.d (.tuple j)) Q = (i.length + j.length ≤ sizeLine ∧ Q (.d (.tuple (i ++ j)))) := rfl
theorem gAdd_ll {i j : List D} {Q : SV → Prop} : gAdd (.d (.list i)) (.d (.list j)) Q = (i.length + j.length ≤ sizeLine ∧ Q (.ol (i ++ j))) := by simp [gAdd, SV.lst?]
theorem gAdd_lo {i j : List D} {Q : SV → Prop} : gAdd (.d (.list i)) (.ol j) Q = (i.length + j.length ≤ sizeLine ∧ Q (.ol (i ++ j))) := by simp [gAdd, SV.lst?]
theorem gAdd_ol {i j : List D} {Q : SV → Prop} : gAdd (.ol i) (.d (.list j)) Q = (i.length + j.length ≤ sizeLine ∧ Q (.ol (i ++ j))) := by simp [gAdd, SV.lst?]
theorem gAdd_oo {i j : List D} {Q : SV → Prop} : gAdd (.ol i) (.ol j) Q = (i.length + j.length ≤ sizeLine ∧ Q (.ol (i ++ j))) := by simp [gAdd, SV.lst?]
theorem gAdd_vo {i j : List D} {Q : SV → Prop} : gAdd (.vw i) (.ol j) Q = (i.length + j.length ≤ sizeLine ∧ Q (.ol (i ++ j))) := by simp [gAdd, SV.lst?]
theorem gAdd_ov {i j : List D} {Q : SV → Prop} : gAdd (.ol i) (.vw j) Q = (i.length + j.length ≤ sizeLine ∧ Q (.ol (i ++ j))) := by simp [gAdd, SV.lst?]
theorem gAdd_vv {i j : List D} {Q : SV → Prop} : gAdd (.vw i) (.vw j) Q = (i.length + j.length ≤ sizeLine ∧ Q (.ol (i ++ j))) := by simp [gAdd, SV.lst?]
theorem gEq_k (x y : SV) (Q : SV → Prop) : gEq x y Q = kEq1 false y Q x.now? := rfl
theorem gNe_k (x y : SV) (Q : SV → Prop) : gNe x y Q = kEq1 true y Q x.now? := rfl
theorem gCmp_i {f : Int → Int → Bool} {g : Str → Str → Bool} {i j : Int} {Q : SV → Prop} : gCmp f g (.d (.int i)) (.d (.int j)) Q = Q (.d (.bool (f i j))) := rfl
theorem gCmp_s {f : Int → Int → Bool} {g : Str → Str → Bool} {i j : Str} {Q : SV → Prop} : gCmp f g (.d (.str i)) (.d (.str j)) Q = Q (.d (.bool (g i j))) := rfl
def kIsB (neg : Bool) (Q : SV → Prop) : Option Bool → Prop
  | some b => Q (.d (.bool (neg ^^ b)))
  | none => False
theorem gIsN_d {x : D} {Q : SV → Prop} : gIsN (.d x) (.d .none) Q = kIsB false Q (SV.isN (.d x)) := by
  cases x <;> simp [gIsN, opt, kIsB, SV.isN]
theorem gNotN_d {x : D} {Q : SV → Prop} : gNotN (.d x) (.d .none) Q = kIsB true Q (SV.isN (.d x)) := by
  cases x <;> simp [gNotN, opt, kIsB, SV.isN]
theorem gIsN_ol {x : List D} {Q : SV → Prop} : gIsN (.ol x) (.d .none) Q = kIsB false Q (some false) := by
  simp [gIsN, opt, kIsB, SV.isN]
theorem gNotN_ol {x : List D} {Q : SV → Prop} : gNotN (.ol x) (.d .none) Q = kIsB true Q (some false) := by
  simp [gNotN, opt, kIsB, SV.isN]
theorem gIsN_vw {x : List D} {Q : SV → Prop} : gIsN (.vw x) (.d .none) Q = kIsB false Q (some false) := by
  simp [gIsN, opt, kIsB, SV.isN]
theorem gNotN_vw {x : List D} {Q : SV → Prop} : gNotN (.vw x) (.d .none) Q = kIsB true Q (some false) := by
  simp [gNotN, opt, kIsB, SV.isN]
theorem gIx_s {z : Str} {i : Int} {Q : SV → Prop} : gIx (.d (.str z)) (.d (.int i)) Q = (z.length ≤ sizeLine ∧ kAtS Q (atI z.cps.toList i)) := rfl
theorem gIx_t {z : List D} {i : Int} {Q : SV → Prop} : gIx (.d (.tuple z)) (.d (.int i)) Q = kAt Q (atI z i) := rfl
theorem gIx_l {z : List D} {i : Int} {Q : SV → Prop} : gIx (.d (.list z)) (.d (.int i)) Q = kAt Q (atI z i) := rfl
theorem gIx_ol {z : List D} {i : Int} {Q : SV → Prop} : gIx (.ol z) (.d (.int i)) Q = kAt Q (atI z i) := rfl
theorem gIx_vw {z : List D} {i : Int} {Q : SV → Prop} : gIx (.vw z) (.d (.int i)) Q = kAt Q (atI z i) := rfl
theorem gSl_s {z : Str} {lo hi : Option Int} {Q : SV → Prop} : gSl (.d (.str z)) lo hi Q = (z.length ≤ sizeLine ∧ Q (.d (.str (cutS z lo hi)))) := rfl
theorem gSl_t {z : List D} {lo hi : Option Int} {Q : SV → Prop} : gSl (.d (.tuple z)) lo hi Q = Q (.d (.tuple (cutL z lo hi))) := rfl
theorem gSl_l {z : List D} {lo hi : Option Int} {Q : SV → Prop} : gSl (.d (.list z)) lo hi Q = Q (.ol (cutL z lo hi)) := rfl
theorem gSl_ol {z : List D} {lo hi : Option Int} {Q : SV → Prop} : gSl (.ol z) lo hi Q = Q (.ol (cutL z lo hi)) := rfl
theorem gSl_vw {z : List D} {lo hi : Option Int} {Q : SV → Prop} : gSl (.vw z) lo hi Q = Q (.ol (cutL z lo hi)) := rfl
theorem gLen_s {z : Str} {Q : SV → Prop} : gLen [.d (.str z)] Q = (z.length ≤ sizeLine ∧ Q (.d (.int z.length))) := by
  unfold gLen opt SV.size?
  by_cases h : z.length ≤ sizeLine
  · simp [h]
  · simp [h]
theorem gLen_t {z : List D} {Q : SV → Prop} : gLen [.d (.tuple z)] Q = Q (.d (.int z.length)) := rfl
theorem gLen_l {z : List D} {Q : SV → Prop} : gLen [.d (.list z)] Q = Q (.d (.int z.length)) := rfl
theorem gLen_ol {z : List D} {Q : SV → Prop} : gLen [.ol z] Q = Q (.d (.int z.length)) := rfl
theorem gLen_vw {z : List D} {Q : SV → Prop} : gLen [.vw z] Q = Q (.d (.int z.length)) := rfl
def kTy (c : String) (Q : SV → Prop) : Option String → Prop
  | some n => Q (.d (.bool (isT n c)))
  | none => False
theorem gIsi_k {x : SV} {c : String} {Q : SV → Prop} : gIsi [x, .raw (.ty c)] Q = (tyNames.contains c = true ∧ kTy c Q x.tyN) := by
  show (_ ∧ (opt x.tyN fun n => Q (SV.d (PyData.bool (isT n c))))) = _
  rw [show (opt x.tyN fun n => Q (SV.d (PyData.bool (isT n c)))) = kTy c Q x.tyN from opt_e (fun _ => rfl) rfl]
def kBls (f : List Bool → Bool) (Q : SV → Prop) : Option (List Bool) → Prop
  | some bs => Q (.d (.bool (f bs)))
  | none => False
theorem gAll_d {xs : List D} {Q : SV → Prop} : gAll [.d (.list xs)] Q = kBls (·.all id) Q (bools? xs) := opt_e (fun _ => rfl) rfl
theorem gAll_ol {xs : List D} {Q : SV → Prop} : gAll [.ol xs] Q = kBls (·.all id) Q (bools? xs) := opt_e (fun _ => rfl) rfl
theorem gAny_d {xs : List D} {Q : SV → Prop} : gAny [.d (.list xs)] Q = kBls (·.any id) Q (bools? xs) := opt_e (fun _ => rfl) rfl
theorem gAny_ol {xs : List D} {Q : SV → Prop} : gAny [.ol xs] Q = kBls (·.any id) Q (bools? xs) := opt_e (fun _ => rfl) rfl
theorem gInt_i {i : Int} {Q : SV → Prop} : gInt [.d (.int i)] Q = Q (.d (.int i)) := rfl
theorem gInt_b {i : Bool} {Q : SV → Prop} : gInt [.d (.bool i)] Q = Q (.d (.int (if i then 1 else 0))) := rfl
theorem gInt_s {i : Str} {Q : SV → Prop} : gInt [.d (.str i)] Q = ∃ n, PySem.intText? i = some n ∧ i.length ≤ 640 ∧ Q (.d (.int n)) := rfl
theorem gII_k {f : Int → Int → Int} {i j : Int} {Q : SV → Prop} : gII f [.d (.int i), .d (.int j)] Q = Q (.d (.int (f i j))) := rfl
theorem gNeg_k {i : Int} {Q : SV → Prop} : gNeg (.d (.int i)) Q = Q (.d (.int (-i))) := rfl
def kJn (a : Str) (Q : SV → Prop) : Option (List Str) → Prop
  | some ys => (ys.map (·.length)).sum + ys.length * a.length ≤ 16777216 ∧ Q (.d (.str (Txt.join a ys)))
  | none => False
theorem gJoin_ol {a : Str} {xs : List D} {Q : SV → Prop} : gJoin (.d (.str a)) (.ol xs) Q = kJn a Q (strs? xs) := by
  unfold gJoin
  simp only [SV.d.injEq, PyData.str.injEq, exists_eq_left']
  exact opt_e (fun _ => rfl) rfl
theorem gJoin_l {a : Str} {xs : List D} {Q : SV → Prop} : gJoin (.d (.str a)) (.d (.list xs)) Q = kJn a Q (strs? xs) := by
  unfold gJoin
  simp only [SV.d.injEq, PyData.str.injEq, exists_eq_left']
  exact opt_e (fun _ => rfl) rfl
theorem gJoin_t {a : Str} {xs : List D} {Q : SV → Prop} : gJoin (.d (.str a)) (.d (.tuple xs)) Q = kJn a Q (strs? xs) := by
  unfold gJoin
  simp only [SV.d.injEq, PyData.str.injEq, exists_eq_left']
  exact opt_e (fun _ => rfl) rfl
theorem gJoin_vw {a : Str} {xs : List D} {Q : SV → Prop} : gJoin (.d (.str a)) (.vw xs) Q = kJn a Q (strs? xs) := by
  unfold gJoin
  simp only [SV.d.injEq, PyData.str.injEq, exists_eq_left']
  exact opt_e (fun _ => rfl) rfl
theorem gMul_i {i j : Int} {Q : SV → Prop} : gMul (.d (.int i)) (.d (.int j)) Q = (CMul i j ∧ Q (.d (.int (i * j)))) := by
  unfold gMul gMulS
  rw [gI_k]
  simp
theorem gMul_s {i : Str} {j : Int} {Q : SV → Prop} : gMul (.d (.str i)) (.d (.int j)) Q = ((2 ≤ j ∧ j ≤ 100000 ∧ 0 < i.length ∧ i.length ≤ 100) ∧ (strRep i j.toNat).length ≤ sizeLine ∧ Q (.d (.str (strRep i j.toNat)))) := by
  unfold gMul gMulS gI
  simp
theorem kV_1 {T : Type} {Q : SV → T → Prop} {τ : T} {x : _} : kV Q τ (some (.d x)) = (Q (.d x) τ) := rfl
theorem kV_2 {T : Type} {Q : SV → T → Prop} {τ : T} {xs : _} : kV Q τ (some (.ol xs)) = (Q (.vw xs) τ) := rfl
theorem kV_3 {T : Type} {Q : SV → T → Prop} {τ : T} {v : _} : kV Q τ (some (.raw v)) = (Q (.raw v) τ) := rfl
theorem kTb_1 {T : Type} {Q : Bool → T → Prop} {τ : T} {b : _} : kTb Q τ (some b) = (Q b τ) := rfl
theorem kTb_2 {T : Type} {Q : Bool → T → Prop} {τ : T}  : kTb Q τ (none) = (False) := rfl
theorem kAndB_1 {T : Type} {tb : W T} {env : List SV} {Q : SV → T → Prop} {x : SV} {τ : T}  : kAndB tb env Q x τ (some true) = (tb env τ Q) := rfl
theorem kAndB_2 {T : Type} {tb : W T} {env : List SV} {Q : SV → T → Prop} {x : SV} {τ : T}  : kAndB tb env Q x τ (some false) = (Q x τ) := rfl
theorem kAndB_3 {T : Type} {tb : W T} {env : List SV} {Q : SV → T → Prop} {x : SV} {τ : T}  : kAndB tb env Q x τ (none) = (False) := rfl
theorem kOrB_1 {T : Type} {tb : W T} {env : List SV} {Q : SV → T → Prop} {x : SV} {τ : T}  : kOrB tb env Q x τ (some true) = (Q x τ) := rfl
theorem kOrB_2 {T : Type} {tb : W T} {env : List SV} {Q : SV → T → Prop} {x : SV} {τ : T}  : kOrB tb env Q x τ (some false) = (tb env τ Q) := rfl
theorem kOrB_3 {T : Type} {tb : W T} {env : List SV} {Q : SV → T → Prop} {x : SV} {τ : T}  : kOrB tb env Q x τ (none) = (False) := rfl
theorem kNotB_1 {T : Type} {Q : SV → T → Prop} {τ : T} {b : _} : kNotB Q τ (some b) = (Q (.d (.bool (!b))) τ) := rfl
theorem kNotB_2 {T : Type} {Q : SV → T → Prop} {τ : T}  : kNotB Q τ (none) = (False) := rfl
theorem kCoB_1 {T : Type} {ta : WA T} {env : List SV} {Q : List SV → T → Prop} {τ : T} {a : _} : kCoB ta env Q τ (some a) = (ta env τ (kCo2 Q a)) := rfl
theorem kCoB_2 {T : Type} {ta : WA T} {env : List SV} {Q : List SV → T → Prop} {τ : T}  : kCoB ta env Q τ (none) = (False) := rfl
theorem kTupB_1 {T : Type} {Q : SV → T → Prop} {τ : T} {xs : _} : kTupB Q τ (some xs) = (xs.length ≤ sizeLine ∧ Q (.d (.tuple xs)) τ) := rfl
theorem kTupB_2 {T : Type} {Q : SV → T → Prop} {τ : T}  : kTupB Q τ (none) = (False) := rfl
theorem kLstB_1 {T : Type} {Q : SV → T → Prop} {τ : T} {xs : _} : kLstB Q τ (some xs) = (xs.length ≤ sizeLine ∧ Q (.ol xs) τ) := rfl
theorem kLstB_2 {T : Type} {Q : SV → T → Prop} {τ : T}  : kLstB Q τ (none) = (False) := rfl
theorem kStB_1 {T : Type} {i : Nat} {D : DEnds T} {env : List SV} {τ : T} {a : _} : kStB i D env τ (some a) = (D.nx (env.set i a) τ) := rfl
theorem kStB_2 {T : Type} {i : Nat} {D : DEnds T} {env : List SV} {τ : T}  : kStB i D env τ (none) = (False) := rfl
theorem kEnv_1 {T : Type} {D : DEnds T} {τ : T} {env : _} : kEnv D τ (some env) = (D.nx env τ) := rfl
theorem kEnv_2 {T : Type} {D : DEnds T} {τ : T}  : kEnv D τ (none) = (False) := rfl
theorem kAsB_1 {T : Type} {t : Tg} {D : DEnds T} {env : List SV} {τ : T} {x : _} : kAsB t D env τ (some x) = (kEnv D τ (tgE t x env)) := rfl
theorem kAsB_2 {T : Type} {t : Tg} {D : DEnds T} {env : List SV} {τ : T}  : kAsB t D env τ (none) = (False) := rfl
theorem kApD_1 {T : Type} {i : Nat} {D : DEnds T} {env : List SV} {xs : List Z.D} {τ : T} {y : _} : kApD i D env xs τ (some y) = (xs.length < sizeLine ∧ D.nx (env.set i (.ol (xs ++ [y]))) τ) := rfl
theorem kApD_2 {T : Type} {i : Nat} {D : DEnds T} {env : List SV} {xs : List Z.D} {τ : T}  : kApD i D env xs τ (none) = (False) := rfl
theorem kApp_1 {T : Type} {i : Nat} {te : W T} {D : DEnds T} {env : List SV} {τ : T} {xs : _} : kApp i te D env τ (some (.ol xs)) = (te env τ (kAp i D env xs)) := rfl
theorem kFrz_1 {T : Type} {i : Nat} {t : WS T} {D : DEnds T} {env : List SV} {τ : T} {xs : _} : kFrz i t D env τ (some (.ol xs)) = (t D (env.set i (.d (.list xs))) τ) := rfl
theorem kFrz_2 {T : Type} {i : Nat} {t : WS T} {D : DEnds T} {env : List SV} {τ : T} {xs : _} : kFrz i t D env τ (some (.d (.list xs))) = (t D env τ) := rfl
theorem kSqB_1 {T : Type} {Q : List D → T → Prop} {τ : T} {xs : _} : kSqB Q τ (some xs) = (Q xs τ) := rfl
theorem kSqB_2 {T : Type} {Q : List D → T → Prop} {τ : T}  : kSqB Q τ (none) = (False) := rfl
theorem kDt_1 {T : Type} {kc : D → T → Prop} {τ : T} {y : _} : kDt kc τ (some y) = (kc y τ) := rfl
theorem kDt_2 {T : Type} {kc : D → T → Prop} {τ : T}  : kDt kc τ (none) = (False) := rfl
theorem kTgB_1 {T : Type} {tt : WT T} {te : W T} {kc : D → T → Prop} {k0 : T → Prop} {τ : T} {env : _} : kTgB tt te kc k0 τ (some env) = (tt env τ (kTurn te env kc k0)) := rfl
theorem kTgB_2 {T : Type} {tt : WT T} {te : W T} {kc : D → T → Prop} {k0 : T → Prop} {τ : T}  : kTgB tt te kc k0 τ (none) = (False) := rfl
theorem kFtB_1 {T : Type} {tb : WS T} {D : DEnds T} {τ : T} {env : _} : kFtB tb D τ (some env) = (tb D env τ) := rfl
theorem kFtB_2 {T : Type} {tb : WS T} {D : DEnds T} {τ : T}  : kFtB tb D τ (none) = (False) := rfl
theorem kPtB_1 {T : Type} {Q : Option Int → T → Prop} {τ : T} {i : _} : kPtB Q τ (some i) = (Q (some i) τ) := rfl
theorem kPtB_2 {T : Type} {Q : Option Int → T → Prop} {τ : T}  : kPtB Q τ (none) = (False) := rfl
theorem kEq2_1  {neg : Bool} {a : D} {Q : SV → Prop} {b : _} : kEq2 neg a Q (some b) = (eqOk a b = true ∧ Q (.d (.bool (neg ^^ PyData.eqv a b)))) := rfl
theorem kEq2_2  {neg : Bool} {a : D} {Q : SV → Prop}  : kEq2 neg a Q (none) = (False) := rfl
theorem kEq1_1  {neg : Bool} {y : SV} {Q : SV → Prop} {a : _} : kEq1 neg y Q (some a) = (kEq2 neg a Q y.now?) := rfl
theorem kEq1_2  {neg : Bool} {y : SV} {Q : SV → Prop}  : kEq1 neg y Q (none) = (False) := rfl
theorem kIsB_1  {neg : Bool} {Q : SV → Prop} {b : _} : kIsB neg Q (some b) = (Q (.d (.bool (neg ^^ b)))) := rfl
theorem kIsB_2  {neg : Bool} {Q : SV → Prop}  : kIsB neg Q (none) = (False) := rfl
theorem kAtS_1  {Q : SV → Prop} {c : _} : kAtS Q (some c) = (Q (.d (sg c))) := rfl
theorem kAtS_2  {Q : SV → Prop}  : kAtS Q (none) = (False) := rfl
theorem kAt_1  {Q : SV → Prop} {c : _} : kAt Q (some c) = (Q (.d c)) := rfl
theorem kAt_2  {Q : SV → Prop}  : kAt Q (none) = (False) := rfl
theorem kTy_1  {c : String} {Q : SV → Prop} {n : _} : kTy c Q (some n) = (Q (.d (.bool (isT n c)))) := rfl
theorem kTy_2  {c : String} {Q : SV → Prop}  : kTy c Q (none) = (False) := rfl
theorem kBls_1  {f : List Bool → Bool} {Q : SV → Prop} {bs : _} : kBls f Q (some bs) = (Q (.d (.bool (f bs)))) := rfl
theorem kBls_2  {f : List Bool → Bool} {Q : SV → Prop}  : kBls f Q (none) = (False) := rfl
theorem kJn_1  {a : Str} {Q : SV → Prop} {ys : _} : kJn a Q (some ys) = ((ys.map (·.length)).sum + ys.length * a.length ≤ 16777216 ∧ Q (.d (.str (Txt.join a ys)))) := rfl
theorem kJn_2  {a : Str} {Q : SV → Prop}  : kJn a Q (none) = (False) := rfl
/-! ### by cases -/
section
variable {T : Type}
theorem kAt_of {Q : SV → Prop} {xs : List D} {i : Int} (h0 : 0 ≤ i) (h1 : i < (xs.length : Int)) (h : ∀ x, xs[i.toNat]? = some x → x ∈ xs → Q (.d x)) : kAt Q (atI xs i) := by
  obtain ⟨x, e, e2, hx⟩ := atI_some h0 h1
  rw [e]
  exact h x e2 hx
end
/-- a text of no more than n signs -/
def okN (n : Nat) (s : Str) : Prop := s.length ≤ n ∧ ∀ c ∈ cs s, c < 1114112
def okNb (n : Nat) (s : Str) : Bool := decide (s.length ≤ n) && (cs s).all fun c => decide (c < 1114112)
theorem okN_b {n : Nat} {s : Str} (h : okNb n s = true) : okN n s := by
  unfold okNb at h
  rw [Bool.and_eq_true, List.all_eq_true] at h
  exact ⟨of_decide_eq_true h.1, fun c hc => of_decide_eq_true (h.2 c hc)⟩
theorem okN.ok {n : Nat} {s : Str} (h : okN n s) (hn : n ≤ 100000) : okS s := ⟨Nat.le_trans h.1 hn, h.2⟩
theorem okN.le {n m : Nat} {s : Str} (h : okN n s) (hn : n ≤ m) : okN m s := ⟨Nat.le_trans h.1 hn, h.2⟩
theorem okN.mk {l : List Nat} {n : Nat} (h1 : l.length ≤ n) (h : ∀ c ∈ l, c < 1114112) : okN n (mkS l) := ⟨by rw [str_len]; exact h1, h⟩
theorem okN.sum {n m : Nat} {s t : Str} (h : okN n s) (h' : okN m t) (hn : n + m ≤ 100000) : s.length + t.length ≤ sizeLine := by
  have := h.1
  have := h'.1
  rw [sizeLine_eq]
  omega
theorem noC_t (i j : Int) : noC i j = True := rfl
theorem rep_cs (x : Array Nat) : ∀ (n : Nat) (acc : Array Nat), ((List.replicate n x).foldl (· ++ ·) acc).toList = acc.toList ++ (List.replicate n x.toList).flatten
  | 0, acc => by simp
  | n + 1, acc => by
    rw [List.replicate_succ, List.foldl_cons, rep_cs x n, List.replicate_succ, List.flatten_cons, Array.toList_append, List.append_assoc]
theorem cs_rep (a : Str) (n : Nat) : cs (strRep a n) = (List.replicate n (cs a)).flatten := by
  show ((List.replicate n a.cps).foldl (· ++ ·) #[]).toList = _
  rw [rep_cs]
  rfl
theorem okN.rep {m : Nat} {a : Str} (h : okN m a) (k : Nat) : okN (k * m) (strRep a k) := by
  constructor
  · rw [str_len, cs_rep, List.length_flatten, List.map_replicate, List.sum_replicate_nat, ← str_len]
    exact Nat.mul_le_mul_left k h.1
  · rw [cs_rep]
    intro c hc
    obtain ⟨l, hl, hc⟩ := List.mem_flatten.mp hc
    rw [List.mem_replicate] at hl
    rw [hl.2] at hc
    exact h.2 c hc
theorem szs : 1 ≤ sizeLine ∧ 2 ≤ sizeLine ∧ 3 ≤ sizeLine ∧ 4 ≤ sizeLine ∧ 5 ≤ sizeLine ∧ 6 ≤ sizeLine ∧ 7 ≤ sizeLine ∧ 8 ≤ sizeLine ∧ 9 ≤ sizeLine ∧ 10 ≤ sizeLine ∧ 11 ≤ sizeLine ∧ 12 ≤ sizeLine ∧ 13 ≤ sizeLine ∧ 14 ≤ sizeLine ∧ 15 ≤ sizeLine ∧ 16 ≤ sizeLine ∧ 17 ≤ sizeLine ∧ 18 ≤ sizeLine ∧ 19 ≤ sizeLine ∧ 20 ≤ sizeLine ∧ 21 ≤ sizeLine ∧ 22 ≤ sizeLine ∧ 23 ≤ sizeLine ∧ 24 ≤ sizeLine ∧ 25 ≤ sizeLine ∧ 26 ≤ sizeLine ∧ 27 ≤ sizeLine ∧ 28 ≤ sizeLine ∧ 29 ≤ sizeLine ∧ 30 ≤ sizeLine ∧ 31 ≤ sizeLine ∧ 32 ≤ sizeLine ∧ 33 ≤ sizeLine ∧ 34 ≤ sizeLine ∧ 35 ≤ sizeLine ∧ 36 ≤ sizeLine ∧ 37 ≤ sizeLine ∧ 38 ≤ sizeLine ∧ 39 ≤ sizeLine ∧ 40 ≤ sizeLine ∧ 41 ≤ sizeLine ∧ 42 ≤ sizeLine ∧ 43 ≤ sizeLine ∧ 44 ≤ sizeLine ∧ 45 ≤ sizeLine ∧ 46 ≤ sizeLine ∧ 47 ≤ sizeLine ∧ 48 ≤ sizeLine ∧ 49 ≤ sizeLine ∧ 50 ≤ sizeLine ∧ 51 ≤ sizeLine ∧ 52 ≤ sizeLine ∧ 53 ≤ sizeLine ∧ 54 ≤ sizeLine ∧ 55 ≤ sizeLine ∧ 56 ≤ sizeLine ∧ 57 ≤ sizeLine ∧ 58 ≤ sizeLine ∧ 59 ≤ sizeLine ∧ 60 ≤ sizeLine ∧ 61 ≤ sizeLine ∧ 62 ≤ sizeLine ∧ 63 ≤ sizeLine ∧ 64 ≤ sizeLine := by
  rw [sizeLine_eq]
  decide
/-- the rule for a def, at the store of draws -/
theorem okDr {Ts : List Addr} {P : Program} {w : World} {K : PySem.W.Frag} {mg : Str → Option Value} {base : Heap} {x qual : Str} {st : Stmt} {f : Addr} {fd : FuncData} {N ps : List Str} {k : Nat} {FF : FW DrT} (F : Fun K x qual st f fd) (Sc : FnScope N ps (defScope st)) (len : ∀ rs τ Q, FF rs τ Q → rs.length = ps.length) (hl : ps.length ≤ N.length)
    (hbody : ∀ (cdv : Value) (A : Around) (outer : List Env) (s : Shared) (H : Hp) (E : XK) (G : Hp) (Fp : Addr → Prop), Room k (A.deeper (PyProof.Rows.envOfC qual (defScope st) s.heap.objs.size f cdv)) →
      ∃ t : WS DrT, PSs (cxOf CX0 P w K mg base N qual (defScope st) f cdv A outer s H E).nox (defBody st) (liftS ⟨theS Ts, K, G, Fp, H⟩ t) ∧ ∀ (rs : List SV) (τ : DrT) (Qd : SV → DrT → Prop), FF rs τ Qd → t ⟨fun _ τ' => Qd (.d .none) τ', Qd, fun _ _ => False, fun _ _ => False⟩ (rs ++ List.replicate (N.length - rs.length) .no) τ) :
    FnOk P w K mg base CX0 (k + 1) f fd ps (spD (theS Ts) K FF) := okD (S := theS Ts) F Sc len hl hbody
/-! ### == on what is known -/
theorem eqOks_none_none   : eqOk .none .none = true := rfl
theorem eqOks_none_int  (b : Int) : eqOk .none (.int b) = true := rfl
theorem eqOks_int_none (a : Int)  : eqOk (.int a) .none = true := rfl
theorem eqOks_none_bool  (b : Bool) : eqOk .none (.bool b) = true := rfl
theorem eqOks_bool_none (a : Bool)  : eqOk (.bool a) .none = true := rfl
theorem eqOks_none_str  (b : Str) : eqOk .none (.str b) = true := rfl
theorem eqOks_str_none (a : Str)  : eqOk (.str a) .none = true := rfl
theorem eqOks_int_int (a : Int) (b : Int) : eqOk (.int a) (.int b) = true := rfl
theorem eqOks_bool_bool (a : Bool) (b : Bool) : eqOk (.bool a) (.bool b) = true := rfl
theorem eqOks_str_str (a : Str) (b : Str) : eqOk (.str a) (.str b) = true := rfl
theorem eqOks_int_str (a : Int) (b : Str) : eqOk (.int a) (.str b) = true := rfl
theorem eqOks_str_int (a : Str) (b : Int) : eqOk (.str a) (.int b) = true := rfl
theorem eqOks_bool_str (a : Bool) (b : Str) : eqOk (.bool a) (.str b) = true := rfl
theorem eqOks_str_bool (a : Str) (b : Bool) : eqOk (.str a) (.bool b) = true := rfl
theorem eqv_int (i j : Int) : PyData.eqv (.int i) (.int j) = decide (i = j) := by
  rw [PyData.eqv]
  rfl
theorem eqv_bool (i j : Bool) : PyData.eqv (.bool i) (.bool j) = (i == j) := by rw [PyData.eqv]
theorem eqv_none_none   : PyData.eqv .none .none = true := by simp [PyData.eqv]
theorem eqv_none_bool  (b : Bool) : PyData.eqv .none (.bool b) = false := by simp [PyData.eqv]
theorem eqv_none_int  (b : Int) : PyData.eqv .none (.int b) = false := by simp [PyData.eqv]
theorem eqv_none_str  (b : Str) : PyData.eqv .none (.str b) = false := by simp [PyData.eqv]
theorem eqv_none_list  (b : List D) : PyData.eqv .none (.list b) = false := by simp [PyData.eqv]
theorem eqv_none_tuple  (b : List D) : PyData.eqv .none (.tuple b) = false := by simp [PyData.eqv]
theorem eqv_bool_none (a : Bool)  : PyData.eqv (.bool a) .none = false := by simp [PyData.eqv]
theorem eqv_bool_str (a : Bool) (b : Str) : PyData.eqv (.bool a) (.str b) = false := by simp [PyData.eqv]
theorem eqv_bool_list (a : Bool) (b : List D) : PyData.eqv (.bool a) (.list b) = false := by simp [PyData.eqv]
theorem eqv_bool_tuple (a : Bool) (b : List D) : PyData.eqv (.bool a) (.tuple b) = false := by simp [PyData.eqv]
theorem eqv_int_none (a : Int)  : PyData.eqv (.int a) .none = false := by simp [PyData.eqv]
theorem eqv_int_str (a : Int) (b : Str) : PyData.eqv (.int a) (.str b) = false := by simp [PyData.eqv]
theorem eqv_int_list (a : Int) (b : List D) : PyData.eqv (.int a) (.list b) = false := by simp [PyData.eqv]
theorem eqv_int_tuple (a : Int) (b : List D) : PyData.eqv (.int a) (.tuple b) = false := by simp [PyData.eqv]
theorem eqv_str_none (a : Str)  : PyData.eqv (.str a) .none = false := by simp [PyData.eqv]
theorem eqv_str_bool (a : Str) (b : Bool) : PyData.eqv (.str a) (.bool b) = false := by simp [PyData.eqv]
theorem eqv_str_int (a : Str) (b : Int) : PyData.eqv (.str a) (.int b) = false := by simp [PyData.eqv]
theorem eqv_str_list (a : Str) (b : List D) : PyData.eqv (.str a) (.list b) = false := by simp [PyData.eqv]
theorem eqv_str_tuple (a : Str) (b : List D) : PyData.eqv (.str a) (.tuple b) = false := by simp [PyData.eqv]
theorem eqv_list_none (a : List D)  : PyData.eqv (.list a) .none = false := by simp [PyData.eqv]
theorem eqv_list_bool (a : List D) (b : Bool) : PyData.eqv (.list a) (.bool b) = false := by simp [PyData.eqv]
theorem eqv_list_int (a : List D) (b : Int) : PyData.eqv (.list a) (.int b) = false := by simp [PyData.eqv]
theorem eqv_list_str (a : List D) (b : Str) : PyData.eqv (.list a) (.str b) = false := by simp [PyData.eqv]
theorem eqv_list_tuple (a : List D) (b : List D) : PyData.eqv (.list a) (.tuple b) = false := by simp [PyData.eqv]
theorem eqv_tuple_none (a : List D)  : PyData.eqv (.tuple a) .none = false := by simp [PyData.eqv]
theorem eqv_tuple_bool (a : List D) (b : Bool) : PyData.eqv (.tuple a) (.bool b) = false := by simp [PyData.eqv]
theorem eqv_tuple_int (a : List D) (b : Int) : PyData.eqv (.tuple a) (.int b) = false := by simp [PyData.eqv]
theorem eqv_tuple_str (a : List D) (b : Str) : PyData.eqv (.tuple a) (.str b) = false := by simp [PyData.eqv]
theorem eqv_tuple_list (a : List D) (b : List D) : PyData.eqv (.tuple a) (.list b) = false := by simp [PyData.eqv]
theorem isTs : isT "NoneType" "NoneType" = true ∧ isT "NoneType" "bool" = false ∧ isT "NoneType" "int" = false ∧ isT "NoneType" "str" = false ∧ isT "NoneType" "list" = false ∧ isT "NoneType" "tuple" = false ∧ isT "NoneType" "dict" = false ∧ isT "bool" "NoneType" = false ∧ isT "bool" "bool" = true ∧ isT "bool" "int" = true ∧ isT "bool" "str" = false ∧ isT "bool" "list" = false ∧ isT "bool" "tuple" = false ∧ isT "bool" "dict" = false ∧ isT "int" "NoneType" = false ∧ isT "int" "bool" = false ∧ isT "int" "int" = true ∧ isT "int" "str" = false ∧ isT "int" "list" = false ∧ isT "int" "tuple" = false ∧ isT "int" "dict" = false ∧ isT "str" "NoneType" = false ∧ isT "str" "bool" = false ∧ isT "str" "int" = false ∧ isT "str" "str" = true ∧ isT "str" "list" = false ∧ isT "str" "tuple" = false ∧ isT "str" "dict" = false ∧ isT "list" "NoneType" = false ∧ isT "list" "bool" = false ∧ isT "list" "int" = false ∧ isT "list" "str" = false ∧ isT "list" "list" = true ∧ isT "list" "tuple" = false ∧ isT "list" "dict" = false ∧ isT "tuple" "NoneType" = false ∧ isT "tuple" "bool" = false ∧ isT "tuple" "int" = false ∧ isT "tuple" "str" = false ∧ isT "tuple" "list" = false ∧ isT "tuple" "tuple" = true ∧ isT "tuple" "dict" = false ∧ isT "dict" "NoneType" = false ∧ isT "dict" "bool" = false ∧ isT "dict" "int" = false ∧ isT "dict" "str" = false ∧ isT "dict" "list" = false ∧ isT "dict" "tuple" = false ∧ isT "dict" "dict" = true := by decide
theorem tyCs : tyNames.contains "NoneType" = true ∧ tyNames.contains "bool" = true ∧ tyNames.contains "int" = true ∧ tyNames.contains "str" = true ∧ tyNames.contains "list" = true ∧ tyNames.contains "tuple" = true ∧ tyNames.contains "dict" = true := by decide
theorem tyNs_none  : tyN .none = "NoneType" := rfl
theorem tyNs_bool (a : Bool) : tyN (.bool a) = "bool" := rfl
theorem tyNs_int (a : Int) : tyN (.int a) = "int" := rfl
theorem tyNs_str (a : Str) : tyN (.str a) = "str" := rfl
theorem tyNs_list (a : List D) : tyN (.list a) = "list" := rfl
theorem tyNs_tuple (a : List D) : tyN (.tuple a) = "tuple" := rfl
theorem tyNs_dict (a : List (D × D)) : tyN (.dict a) = "dict" := rfl
end Z
namespace Z
open PySem L2
/-! ### the law's promise, and the end -/
theorem rp_ints {K : PySem.W.Frag} {G : Hp} : ∀ ns : List Int, RpAll K G (ns.map V.int) (ns.map PyData.int)
  | [] => .nil
  | i :: r => .cons (.int i) (rp_ints r)
end Z
namespace Z
open PySem L2
/-! ### what is given back may be a list of one's own -/
def kOw {T : Type} (Q : SV → T → Prop) (τ : T) : Option SV → Prop
  | some (.d x) => Q (.d x) τ
  | some (.ol xs) => Q (.ol xs) τ
  | some (.raw v) => Q (.raw v) τ
  | _ => False
def dOwn {T : Type} (i : Nat) : W T := fun env τ Q => kOw Q τ env[i]?
/-! ### more of own lists -/
section
variable {X : Cx} {B : Bk} {pos : Pos} {te ti : W B.T} {i : Nat}
/-- x.extend(e), e a new list -/
def dExt {T : Type} (i : Nat) (te : W T) : WS T := fun D env τ => match env[i]? with
  | some (.ol xs) => te env τ fun r τ1 => ∃ zs, r = .ol zs ∧ xs.length + zs.length ≤ sizeLine ∧ D.nx (env.set i (.ol (xs ++ zs))) τ1
  | _ => False
theorem RpAll.app {K : PySem.W.Frag} {G : Hp} : ∀ {vs : List V} {xs : List D} {ws : List V} {ys : List D}, RpAll K G vs xs → RpAll K G ws ys → RpAll K G (vs ++ ws) (xs ++ ys)
  | _, _, _, _, .nil, r => r
  | _, _, _, _, .cons h t, r => .cons h (t.app r)
/-- x[k] = e -/
def dSetI {T : Type} (i : Nat) (te ti : W T) : WS T := fun D env τ => match env[i]? with
  | some (.ol xs) => te env τ fun r τ1 => opt r.dat? fun y => ti env τ1 fun z τ2 => ∃ k, z = .d (.int k) ∧ opt (ixN xs.length k) fun j => D.nx (env.set i (.ol (xs.set j y))) τ2
  | _ => False
end
/-! ### many times a list, a tuple -/
theorem RpAll.flat {K : PySem.W.Frag} {G : Hp} {vs : List V} {xs : List D} (a : RpAll K G vs xs) : ∀ n : Nat, RpAll K G (List.replicate n vs).flatten (List.replicate n xs).flatten
  | 0 => .nil
  | n + 1 => by
    rw [List.replicate_succ, List.replicate_succ, List.flatten_cons, List.flatten_cons]
    exact a.app (a.flat n)
def gMulL (x y : SV) (Q : SV → Prop) : Prop := ∃ xs k, (x = .ol xs ∨ x = .vw xs) ∧ y = .d (.int k) ∧ (-(2 ^ 63) ≤ k ∧ k < 2 ^ 63) ∧ xs.length * k.toNat ≤ sizeLine ∧ Q (.ol (List.replicate k.toNat xs).flatten)
def gMulT (x y : SV) (Q : SV → Prop) : Prop := ∃ xs k, x = .d (.tuple xs) ∧ y = .d (.int k) ∧ xs ≠ [] ∧ (2 ≤ k ∧ k ≤ 1000) ∧ xs.length ≤ 1000 ∧ Q (.d (.tuple (List.replicate k.toNat xs).flatten))
section
variable {X : Cx} {B : Bk}
theorem od_mulL : OpD B rRep gMulL := fun x y vx vy Ha Hb G F H τ Qv Q k rx ry h fin => by
  obtain ⟨xs, n, ex, ey, hn, hz, h⟩ := h
  subst ey
  have go : ∀ p vs, vx = .ref p → H p = some (.lst vs) → RpAll B.K G vs xs → rRep vx vy H Q := fun p vs e1 e2 a => by
    refine ⟨p, n, vs, e1, rint ry, e2, hn.1, hn.2, by rw [a.length]; exact hz, fun p' hp => fin.ol k hp (a.flat _) h⟩
  rcases ex with rfl | rfl
  · obtain ⟨p, e1, w⟩ := rx
    obtain ⟨vs, e2, a⟩ := w.at'
    exact go p vs e1 e2 a
  · obtain ⟨p, vs, e1, e2, a, _⟩ := rx
    exact go p vs e1 e2 a
theorem od_mulT (hK : X.K = B.K) : OpD B (rRepT X.K) gMulT := fun x y vx vy Ha Hb G F H τ Qv Q k rx ry h fin => by
  obtain ⟨xs, n, ex, ey, hne, hn, hz, h⟩ := h
  subst ex ey
  rw [hK]
  obtain ⟨p, vs, e1, hs, a⟩ := rtup rx
  have hl := a.length
  refine ⟨p, n, vs, e1, rint ry, same_seqT k.same hs, fun z => hne ?_, hn.1, hn.2, by omega, fun p' hp => fin.tup k hp (a.flat _) h⟩
  subst z
  exact List.length_eq_zero_iff.mp hl.symm
def gMulA (x y : SV) (Q : SV → Prop) : Prop := gMul x y Q ∨ gMulL x y Q ∨ gMulT x y Q
theorem op_mulB : OpR X (binaryOp .Mult) (fun x y H Q => ((rI CMul fun i j => .int (i * j)) x y H Q ∨ rMulS x y H Q) ∨ rRep x y H Q ∨ rRepT X.K x y H Q) := op_mulA.or (op_rep.or op_repT)
theorem od_mulB (hK : X.K = B.K) : OpD B (fun x y H Q => ((rI CMul fun i j => .int (i * j)) x y H Q ∨ rMulS x y H Q) ∨ rRep x y H Q ∨ rRepT X.K x y H Q) gMulA := od_mul.or (od_mulL.or (od_mulT hK))
end
/-! ### enumerate, zip -/
def enumD (xs : List D) : List D := xs.zipIdx.map fun p => .tuple [.int (p.2 : Nat), p.1]
def zipD (xs ys : List D) : List D := (xs.zip ys).map fun p => .tuple [p.1, p.2]
theorem zip_get {xs ys : List D} {i : Nat} {x : D} (h : (zipD xs ys)[i]? = some x) : ∃ a b, xs[i]? = some a ∧ ys[i]? = some b ∧ x = .tuple [a, b] := by
  unfold zipD at h
  rw [List.getElem?_map] at h
  cases e : (xs.zip ys)[i]? with
  | none => rw [e] at h; cases h
  | some p =>
    rw [e] at h
    cases h
    have e2 := List.getElem?_zip_eq_some.mp e
    exact ⟨_, _, e2.1, e2.2, rfl⟩
theorem zip_len (xs ys : List D) : (zipD xs ys).length = min xs.length ys.length := by
  unfold zipD
  rw [List.length_map, List.length_zip]
section
variable {X : Cx} {B : Bk} {tg : Expr} {pos : Pos}
/-- a new pair -/
theorem new_pair {G H : Hp} {F : Addr → Prop} {τ : B.T} {T : Addr} {a b : V} {x y : D} (k : Ok B.S B.K τ G F H) (n : H T = none) (ha : Rp B.K G a x) (hb : Rp B.K G b y) :
    ∃ G2, Fin B G F H τ G2 F (upd H T (.tup [a, b])) ∧ Rp B.K G2 (.ref T) (.tuple [x, y]) :=
  ⟨_, (new_tup k n (.cons ha (.cons hb .nil))).1, (new_tup k n (.cons ha (.cons hb .nil))).2⟩
theorem itr_z {G : Hp} {a b : Addr} {vs ws : List V} {xs ys : List D} (h : SqP B.K G a vs) (r : RpAll B.K G vs xs) (h' : SqP B.K G b ws) (r' : RpAll B.K G ws ys) : ItR B (Itz B.K a b) G (zipD xs ys) where
  go := fun G1 H1 F1 τ1 sm k i x e => by
    obtain ⟨y, z, ey, ez, ex⟩ := zip_get e
    subst ex
    obtain ⟨v, ev, rv⟩ := r.getD ey
    obtain ⟨u, eu, ru⟩ := r'.getD ez
    have hq := (same_sqp (sm.trans k.same) h).sql
    have hq' := (same_sqp (sm.trans k.same) h').sql
    refine ⟨⟨vs, ws, v, u, hq, hq', ev, eu⟩, fun w H2 ⟨T, x', y', e2, hT, e3, hx, hy⟩ => ?_⟩
    have := hx vs hq
    rw [ev] at this
    cases this
    have := hy ws hq'
    rw [eu] at this
    cases this
    subst e2 e3
    exact new_pair k hT (rv.mono sm) (ru.mono sm)
  stop := fun G1 H1 F1 τ1 sm k i hi => by
    rw [zip_len] at hi
    have h1 := r.length
    have h2 := r'.length
    exact ⟨vs, ws, (same_sqp (sm.trans k.same) h).sql, (same_sqp (sm.trans k.same) h').sql, by omega⟩
theorem itr_zt {G : Hp} {a b : Addr} {vs ws : List V} {xs ys : List D} (h : SqTP B.K G a vs) (r : RpAll B.K G vs xs) (h' : SqTP B.K G b ws) (r' : RpAll B.K G ws ys) : ItR B (RZ.ItzT B.K a b) G (zipD xs ys) where
  go := fun G1 H1 F1 τ1 sm k i x e => by
    obtain ⟨y, z, ey, ez, ex⟩ := zip_get e
    subst ex
    obtain ⟨v, ev, rv⟩ := r.getD ey
    obtain ⟨u, eu, ru⟩ := r'.getD ez
    have hq := same_seqT (sm.trans k.same) h
    have hq' := same_seqT (sm.trans k.same) h'
    refine ⟨⟨vs, ws, v, u, hq, hq', ev, eu⟩, fun w H2 ⟨T, x', y', e2, hT, e3, hx, hy⟩ => ?_⟩
    have := hx vs hq
    rw [ev] at this
    cases this
    have := hy ws hq'
    rw [eu] at this
    cases this
    subst e2 e3
    exact new_pair k hT (rv.mono sm) (ru.mono sm)
  stop := fun G1 H1 F1 τ1 sm k i hi => by
    rw [zip_len] at hi
    have h1 := r.length
    have h2 := r'.length
    exact ⟨vs, ws, same_seqT (sm.trans k.same) h, same_seqT (sm.trans k.same) h', by omega⟩
def dEnum {T : Type} (ta : WA T) : WI T := fun env τ Q => ta env τ fun rs τ1 => ∃ xs, rs = [.d (.list xs)] ∧ Q (enumD xs) τ1
def dZip {T : Type} (ta : WA T) : WI T := fun env τ Q => ta env τ fun rs τ1 => ∃ xs ys, (rs = [.d (.list xs), .d (.list ys)] ∨ rs = [.d (.tuple xs), .d (.tuple ys)]) ∧ Q (zipD xs ys) τ1
theorem di_zip (hK : X.K = B.K) {e e2 : Expr} {ta : WA B.T} {p tpos : Pos} {elts : List Expr} {kk : Nat} (hg : Gl X "zip") (hm : X.mg "zip" = none) (ha : PA X [e, e2] (liftA B ta))
    (hs : starEach [e, e2] X.env = (false, eval e X.env) :: starEach [e2] X.env := by rfl) (hpl : (backTo pos (starEach [e2] X.env)).any (·.1) = false := by rfl) :
    PI X (.Tuple elts kk tpos) (.Call (.Name "zip" p) [e, e2] [] pos) (liftI B (dZip ta)) :=
  pi_imp (RZ.pi_zipA hg hm ha hs hpl) fun σ H R z9 => ex53 z9 fun G F env τ Qd s t k => ⟨G, F, env, τ, _, s, t, fun rs τ1 G1 F1 H1 vs f1 r1 ⟨xs, ys, e, q⟩ => by
    rw [hK]
    rcases e with e | e
    · subst e
      obtain ⟨v, w, e1, r, r'⟩ := r1.two
      subst e1
      match r, r' with
      | .lst h a, .lst h' a' => exact ⟨_, _, _, _, rfl, .inl ⟨(same_sqp f1.k.same h).sql, (same_sqp f1.k.same h').sql, k _ _ _ _ _ _ f1 (itr_z h a h' a') q⟩⟩
    · subst e
      obtain ⟨v, w, e1, r, r'⟩ := r1.two
      subst e1
      obtain ⟨_, _, e2, h, a⟩ := rtup r
      obtain ⟨_, _, e3, h', a'⟩ := rtup r'
      subst e2 e3
      exact ⟨_, _, _, _, rfl, .inr ⟨same_seqT f1.k.same h, same_seqT f1.k.same h', k _ _ _ _ _ _ f1 (itr_zt h a h' a') q⟩⟩⟩
end
/-! ### the readings, by named continuations -/
section
variable {T : Type}
theorem dOwn_k (i : Nat) (env : List SV) (τ : T) (Q : SV → T → Prop) : dOwn i env τ Q = kOw Q τ env[i]? := rfl
theorem kOw_1 {Q : SV → T → Prop} {τ : T} {x : D} : kOw Q τ (some (.d x)) = Q (.d x) τ := rfl
theorem kOw_2 {Q : SV → T → Prop} {τ : T} {x : List D} : kOw Q τ (some (.ol x)) = Q (.ol x) τ := rfl
theorem kOw_3 {Q : SV → T → Prop} {τ : T} {x : V} : kOw Q τ (some (.raw x)) = Q (.raw x) τ := rfl
def kEx (i : Nat) (D : DEnds T) (env : List SV) (xs : List Z.D) (r : SV) (τ : T) : Prop := match r with
  | .ol zs => xs.length + zs.length ≤ sizeLine ∧ D.nx (env.set i (.ol (xs ++ zs))) τ
  | _ => False
theorem kEx_1 {i : Nat} {D : DEnds T} {env : List SV} {xs zs : List Z.D} {τ : T} : kEx i D env xs (.ol zs) τ = (xs.length + zs.length ≤ sizeLine ∧ D.nx (env.set i (.ol (xs ++ zs))) τ) := rfl
def kExt (i : Nat) (te : W T) (D : DEnds T) (env : List SV) (τ : T) : Option SV → Prop
  | some (.ol xs) => te env τ (kEx i D env xs)
  | _ => False
theorem kExt_1 {i : Nat} {te : W T} {D : DEnds T} {env : List SV} {τ : T} {xs : List Z.D} : kExt i te D env τ (some (.ol xs)) = te env τ (kEx i D env xs) := rfl
theorem dExt_k (i : Nat) (te : W T) (D : DEnds T) (env : List SV) (τ : T) : dExt i te D env τ = kExt i te D env τ env[i]? := by
  unfold dExt
  generalize env[i]? = o
  match o with
  | some (.ol xs) =>
    show te env τ _ = te env τ _
    congr 1
    funext r τ1
    cases r <;> simp [kEx]
  | some (.d _) => rfl
  | some (.vw _) => rfl
  | some (.raw _) => rfl
  | some .no => rfl
  | none => rfl
def kSI4 (i : Nat) (D : DEnds T) (env : List SV) (xs : List Z.D) (y : Z.D) (τ : T) : Option Nat → Prop
  | some j => D.nx (env.set i (.ol (xs.set j y))) τ
  | none => False
theorem kSI4_1 {i : Nat} {D : DEnds T} {env : List SV} {xs : List Z.D} {y : Z.D} {τ : T} {j : Nat} : kSI4 i D env xs y τ (some j) = D.nx (env.set i (.ol (xs.set j y))) τ := rfl
def kSI3 (i : Nat) (D : DEnds T) (env : List SV) (xs : List Z.D) (y : Z.D) (z : SV) (τ : T) : Prop := match z with
  | .d (.int k) => kSI4 i D env xs y τ (ixN xs.length k)
  | _ => False
theorem kSI3_1 {i : Nat} {D : DEnds T} {env : List SV} {xs : List Z.D} {y : Z.D} {k : Int} {τ : T} : kSI3 i D env xs y (.d (.int k)) τ = kSI4 i D env xs y τ (ixN xs.length k) := rfl
def kSI2 (i : Nat) (ti : W T) (D : DEnds T) (env : List SV) (xs : List Z.D) (τ : T) : Option Z.D → Prop
  | some y => ti env τ (kSI3 i D env xs y)
  | none => False
theorem kSI2_1 {i : Nat} {ti : W T} {D : DEnds T} {env : List SV} {xs : List Z.D} {τ : T} {y : Z.D} : kSI2 i ti D env xs τ (some y) = ti env τ (kSI3 i D env xs y) := rfl
def kSI1 (i : Nat) (ti : W T) (D : DEnds T) (env : List SV) (xs : List Z.D) (r : SV) (τ : T) : Prop := kSI2 i ti D env xs τ r.dat?
def kSetI (i : Nat) (te ti : W T) (D : DEnds T) (env : List SV) (τ : T) : Option SV → Prop
  | some (.ol xs) => te env τ (kSI1 i ti D env xs)
  | _ => False
theorem kSetI_1 {i : Nat} {te ti : W T} {D : DEnds T} {env : List SV} {τ : T} {xs : List Z.D} : kSetI i te ti D env τ (some (.ol xs)) = te env τ (kSI1 i ti D env xs) := rfl
theorem dSetI_k (i : Nat) (te ti : W T) (D : DEnds T) (env : List SV) (τ : T) : dSetI i te ti D env τ = kSetI i te ti D env τ env[i]? := by
  unfold dSetI
  generalize env[i]? = o
  match o with
  | some (.ol xs) =>
    show te env τ _ = te env τ (kSI1 i ti D env xs)
    congr 1
    funext r τ1
    refine opt_e (k := kSI2 i ti D env xs τ1) (fun y => ?_) rfl
    show ti env τ1 _ = ti env τ1 (kSI3 i D env xs y)
    congr 1
    funext z τ2
    match z with
    | .d (.int k) =>
      refine propext ⟨?_, fun h => ⟨k, rfl, ?_⟩⟩
      · rintro ⟨k', e, h⟩
        cases e
        obtain ⟨j, ej, h⟩ := opt_of h
        show kSI4 i D env xs y τ2 (ixN xs.length k)
        rw [ej]
        exact h
      · have h : kSI4 i D env xs y τ2 (ixN xs.length k) := h
        cases e : ixN xs.length k with
        | none => rw [e] at h; exact h.elim
        | some j => rw [e] at h; exact h
    | .d .none => exact propext ⟨fun ⟨_, e, _⟩ => (nomatch e), fun h => h.elim⟩
    | .d (.bool _) => exact propext ⟨fun ⟨_, e, _⟩ => (nomatch e), fun h => h.elim⟩
    | .d (.str _) => exact propext ⟨fun ⟨_, e, _⟩ => (nomatch e), fun h => h.elim⟩
    | .d (.list _) => exact propext ⟨fun ⟨_, e, _⟩ => (nomatch e), fun h => h.elim⟩
    | .d (.tuple _) => exact propext ⟨fun ⟨_, e, _⟩ => (nomatch e), fun h => h.elim⟩
    | .d (.dict _) => exact propext ⟨fun ⟨_, e, _⟩ => (nomatch e), fun h => h.elim⟩
    | .vw _ => exact propext ⟨fun ⟨_, e, _⟩ => (nomatch e), fun h => h.elim⟩
    | .ol _ => exact propext ⟨fun ⟨_, e, _⟩ => (nomatch e), fun h => h.elim⟩
    | .raw _ => exact propext ⟨fun ⟨_, e, _⟩ => (nomatch e), fun h => h.elim⟩
    | .no => exact propext ⟨fun ⟨_, e, _⟩ => (nomatch e), fun h => h.elim⟩
  | some (.d _) => rfl
  | some (.vw _) => rfl
  | some (.raw _) => rfl
  | some .no => rfl
  | none => rfl
def kEn (Q : List D → T → Prop) (rs : List SV) (τ : T) : Prop := ∃ xs, rs = [.d (.list xs)] ∧ Q (enumD xs) τ
theorem kEn_k {Q : List D → T → Prop} {xs : List D} {τ : T} : kEn Q [.d (.list xs)] τ = Q (enumD xs) τ := by simp [kEn]
theorem dEnum_k (ta : WA T) (env : List SV) (τ : T) (Q : List D → T → Prop) : dEnum ta env τ Q = ta env τ (kEn Q) := rfl
def kZp (Q : List D → T → Prop) (rs : List SV) (τ : T) : Prop := ∃ xs ys, (rs = [.d (.list xs), .d (.list ys)] ∨ rs = [.d (.tuple xs), .d (.tuple ys)]) ∧ Q (zipD xs ys) τ
theorem kZp_l {Q : List D → T → Prop} {xs ys : List D} {τ : T} : kZp Q [.d (.list xs), .d (.list ys)] τ = Q (zipD xs ys) τ := propext ⟨fun ⟨a, b, e, h⟩ => by
  rcases e with e | e <;> cases e
  exact h, fun h => ⟨_, _, .inl rfl, h⟩⟩
theorem kZp_u {Q : List D → T → Prop} {xs ys : List D} {τ : T} : kZp Q [.d (.tuple xs), .d (.tuple ys)] τ = Q (zipD xs ys) τ := propext ⟨fun ⟨a, b, e, h⟩ => by
  rcases e with e | e <;> cases e
  exact h, fun h => ⟨_, _, .inr rfl, h⟩⟩
theorem dZip_k (ta : WA T) (env : List SV) (τ : T) (Q : List D → T → Prop) : dZip ta env τ Q = ta env τ (kZp Q) := rfl
end
theorem gMulA_i {i j : Int} {Q : SV → Prop} : gMulA (.d (.int i)) (.d (.int j)) Q = (CMul i j ∧ Q (.d (.int (i * j)))) := by
  unfold gMulA gMulL gMulT
  rw [gMul_i]
  simp
theorem gMulA_s {i : Str} {j : Int} {Q : SV → Prop} : gMulA (.d (.str i)) (.d (.int j)) Q = ((2 ≤ j ∧ j ≤ 100000 ∧ 0 < i.length ∧ i.length ≤ 100) ∧ (strRep i j.toNat).length ≤ sizeLine ∧ Q (.d (.str (strRep i j.toNat)))) := by
  unfold gMulA gMulL gMulT
  rw [gMul_s]
  simp
end Z
namespace Z
open PySem L2
/-! ### more of what is known -/
theorem gIn_sf {c : Nat} {z : Str} {Q : SV → Prop} : gIn false (.d (.str ⟨#[c]⟩)) (.d (.str z)) Q = Q (.d (.bool (decide (c ∈ z.cps.toList)))) := by
  refine propext ⟨?_, fun h => .inl ⟨c, z, rfl, rfl, h⟩⟩
  rintro (⟨c', z', e1, e2, h⟩ | ⟨a, xs, _, e2, _⟩)
  · cases e1
    cases e2
    exact h
  · cases e2
theorem gIn_st {c : Nat} {z : Str} {Q : SV → Prop} : gIn true (.d (.str ⟨#[c]⟩)) (.d (.str z)) Q = Q (.d (.bool (!decide (c ∈ z.cps.toList)))) := by
  refine propext ⟨?_, fun h => .inl ⟨c, z, rfl, rfl, h⟩⟩
  rintro (⟨c', z', e1, e2, h⟩ | ⟨a, xs, _, e2, _⟩)
  · cases e1
    cases e2
    exact h
  · cases e2
theorem gIn_tf {a : D} {xs : List D} {Q : SV → Prop} : gIn false (.d a) (.d (.tuple xs)) Q = (flatD a = true ∧ xs.all flatD = true ∧ Q (.d (.bool (xs.any fun y => PyData.eqv y a)))) := by
  refine propext ⟨?_, fun h => .inr ⟨a, xs, rfl, rfl, h.1, h.2.1, h.2.2⟩⟩
  rintro (⟨c', z', e1, e2, h⟩ | ⟨a', xs', e1, e2, h⟩)
  · cases e2
  · cases e1
    cases e2
    exact h
theorem gIn_tt {a : D} {xs : List D} {Q : SV → Prop} : gIn true (.d a) (.d (.tuple xs)) Q = (flatD a = true ∧ xs.all flatD = true ∧ Q (.d (.bool (!(xs.any fun y => PyData.eqv y a))))) := by
  refine propext ⟨?_, fun h => .inr ⟨a, xs, rfl, rfl, h.1, h.2.1, h.2.2⟩⟩
  rintro (⟨c', z', e1, e2, h⟩ | ⟨a', xs', e1, e2, h⟩)
  · cases e2
  · cases e1
    cases e2
    exact h
theorem flatD_none : flatD .none = true := rfl
theorem flatD_int (a : Int) : flatD (.int a) = true := rfl
theorem flatD_str (a : Str) : flatD (.str a) = true := rfl
theorem flatD_bool (a : Bool) : flatD (.bool a) = true := rfl
/-! ### lists of texts -/
end Z
namespace Z
open PySem L2 PySem.Spec PyProof.Rows
/-! ### defs that are run where nothing is being told (so repr may be asked) -/
structure RoomG (k : Nat) (A : Around) : Prop where
  r : Room k A
  g : A.guards = some []
theorem RoomG.mono {j k : Nat} {A : Around} (h : RoomG k A) (l : j ≤ k) : RoomG j A := ⟨h.r.mono l, h.g⟩
structure FnG (P : Program) (w : World) (K : PySem.W.Frag) (mg : Str → Option Value) (base : Heap) (k : Nat) (f : Addr) (fd : FuncData) (ps : List Str) (sp : Sp) : Prop where
  len : ∀ vs H Q E, sp vs H Q E → vs.length = ps.length
  run : ∀ (A : Around) (st : List Env) (s : Shared) (H : Hp) (as : Args) (us : List Value) (vs : List V) (Q : VK) (E : XK), RoomG k A → Env0 P w K mg base A st s H → BindsTo s fd as (ps.zip us) → Vals vs us → sp vs H Q E →
    codeAny (model P w) A (.call (.ref f) as) (CR CX0 st P w H s Q E) s
theorem fng_of {P : Program} {w : World} {K : PySem.W.Frag} {mg : Str → Option Value} {base : Heap} {x qual : Str} {st : Stmt} {f : Addr} {fd : FuncData} {N ps : List Str} {k : Nat} {sp : Sp} (F : Fun K x qual st f fd) (Sc : FnScope N ps (defScope st)) (len : ∀ vs H Q E, sp vs H Q E → vs.length = ps.length)
    (hb : ∀ (cd : Value) (A : Around) (ev : List Env) (s : Shared) (H : Hp) (vs : List V) (Q : VK) (E : XK), fd.code = cd → RoomG k (A.deeper (envOfC qual (defScope st) s.heap.objs.size f cd)) → sp vs H Q E →
      ∃ t, PSs (cxOf CX0 P w K mg base N qual (defScope st) f cd A ev s H E).nox (defBody st) t ∧ t { nx := fun _ H' => Q .non H', rt := Q } (L2.start N vs) H) : FnG P w K mg base (k + 1) f fd ps sp := by
  obtain ⟨oc, od, kV, doc, pm, an, cd, ct, osl, rfl, lk, hcd⟩ := F.ex
  refine ⟨len, fun A ev s H as us vs Q E rg z0 hbt rv hq => ?_⟩
  have lv := len _ _ _ _ hq
  have inK : K.In s.heap := z0.mod.kin.keeps fun b o e => (z0.bs b o e).1
  have noL : s.heap.NoLimit := z0.mod.nolimit.keeps fun b o e => (z0.bs b o e).1
  have kinds : ∀ y ∈ ps.zip us, (defScope st).names.lookup y.1 = some .local ∨ ((defScope st).names.lookup y.1 = some .cell ∧ ((cellsFrom (s.heap.objs.size + 1) (defScope st).names []).lookup y.1).isSome = true) := by
    rintro ⟨n, v⟩ hy
    rcases Sc.par n (List.of_mem_zip hy).1 with e | e
    · exact Or.inl e
    · exact Or.inr ⟨e, PySem.W.cellsFrom_some _ _ _ (Or.inl e)⟩
  refine codeAny_call_function rg.r.depth (inK _ _ lk) rfl Sc.co Sc.gen rfl (PySem.W.codeRec_of inK hcd) (hbt _ _ _ _ ?_)
  refine wpAny_newFunctionEnv_cells Sc.kind kinds fun env he s2 y => ?_
  subst he
  refine ⟨noL.keeps y.toInCall.keep, codeAny_func ?_⟩
  obtain ⟨t, ht, ht2⟩ := hb cd A ev s H vs Q E rfl ⟨rg.r.deeper _, rg.g⟩ hq
  have J0 : Inv (cxOf CX0 P w K mg base N qual (defScope st) f cd A ev s H E) [] (L2.start N vs) H s2 := inv_start Sc rg.r.hd z0 lv rv y
  refine wpAny_mono (ht.nox.run [] s2 (L2.start N vs) H _ J0 ht2) (fun fl s3 hs => ?_) fun e s3 hs => hs
  cases fl with
  | ret u =>
    obtain ⟨v, _, H', J, r2, q⟩ := hs
    exact ⟨v, H', J.os, J.bare, J.base, J.hok, r2, q⟩
  | next =>
    obtain ⟨_, H', J, q⟩ := hs
    exact ⟨V.non, H', J.os, J.bare, J.base, J.hok, rfl, q⟩
  | brk => exact hs.elim fun _ h => h.elim fun _ h => h.2.elim
  | cont => exact hs.elim fun _ h => h.elim fun _ h => h.2.elim
section
variable {X : Cx} {x : Str} {f : Addr} {fd : FuncData} {ps : List Str} {k : Nat} {sp : Sp} {e : Expr} {es : List Expr} {t : TA} {p pos : Pos}
theorem run_g {pins : List (Addr × Obj)} {σ : L2.St} {H : Hp} {s : Shared} {Q : VK} {us : List Value} {vs : List V} (F : FnG X.prog X.w X.K X.mg X.base k f fd ps sp) (hr : RoomG k X.A) (hb : Binds X.K fd ps [])
    (I : Inv X pins σ H s) (r : Vals vs us) (h : sp vs H Q E0) : wpAny (model X.prog X.w) X.A (call (.ref f) us) (EP X pins σ Q) X.xe s := by
  have lu : us.length = ps.length := by rw [← r.length]; exact F.len _ _ _ _ h
  have bd : BindsTo s fd ⟨us, []⟩ (ps.zip us) := by
    have := hb s us I.kIn (by rw [List.append_nil]; exact lu)
    rwa [List.append_nil] at this
  refine wpAny_call (codeAny_mono (F.run X.A X.stack s H ⟨us, []⟩ us vs Q E0 hr I.env0 bd r h) fun res s' hq => ?_)
  cases res with
  | error ex => exact pass0 pins σ H s ex s' I hq
  | ok fl =>
    cases fl with
    | ret u => exact I.after hq
    | next => exact hq.elim
    | brk => exact hq.elim
    | cont => exact hq.elim
theorem pe_callG (F : FnG X.prog X.w X.K X.mg X.base k f fd ps sp) (hr : RoomG k X.A) (hg : Gl X x) (hm : X.mg x = some (.ref f)) (hk : PySem.W.keepIn X.K (.ref f) = true) (hb : Binds X.K fd ps [])
    (ha : PA X (e :: es) t) (hdb : (x == ("__debug__" : Str)) = false := by decide) (hst : starEach (e :: es) X.env = (false, eval e X.env) :: starEach es X.env := by rfl) (hpl : (backTo pos (starEach es X.env)).any (·.1) = false := by rfl) :
    PE X (.Call (.Name x p) (e :: es) [] pos) (fun σ H Q => t σ H fun vs H1 => sp vs H1 Q E0) := by
  refine ⟨fun pins s σ H Q I h => ?_⟩
  refine wpAny_Call_Name_kw (ld_glob I hg hm ?_ hdb)
  exact PySem.W.callWith_K (h₀ := X.base) I.ok.mod.kin hk (thn (ha.run pos pins s σ H _ I h) fun us s1 ⟨vs, H1, I1, r, q⟩ => ⟨I1.kIn, run_g F hr hb I1 r q⟩) hst hpl
end
/-! ### repr of data -/
def rRepr (K : PySem.W.Frag) : List V → Hp → VK → Prop := fun xs H Q => ∃ v d, xs = [v] ∧ Dp K H v d ∧ d.showable = true ∧ d.hasDict = false ∧ d.depth ≤ 64 ∧ d.shown.length ≤ sizeLine ∧ Q (.str d.shown) H
theorem cr_repr {X : Cx} (hg : X.A.guards = some []) (hu : X.A.units + 64 + 1 < cLine) : CallR X (.builtin "repr") (rRepr X.K) := by
  intro pins s σ H xs us Q I r h
  obtain ⟨v, d, rfl, hd, h1, h2, h3, h4, q⟩ := h
  obtain ⟨u, rfl, ru⟩ := vals1 r
  cases d with
  | none =>
    cases hd
    cases ru
    exact PySem.P.repr_of_none ⟨.str _, H, I.tok _, ⟨_, rfl⟩, q⟩
  | bool b =>
    cases hd
    cases ru
    refine PySem.P.repr_of_bool ⟨.str (if b then "True" else "False"), H, I.tok _, ⟨_, rfl⟩, q⟩
  | int i =>
    cases hd
    obtain ⟨t, rfl⟩ := ru
    rw [PyData.showable] at h1
    exact PySem.P.repr_of_int (of_decide_eq_true h1) ⟨.str _, H, I.tok _, ⟨_, rfl⟩, q⟩
  | str z =>
    cases hd
    obtain ⟨t, rfl⟩ := ru
    exact PySem.P.repr_of_str ⟨.str _, H, I.tok _, ⟨_, rfl⟩, q⟩ h4
  | dict kvs => cases hd
  | list ds =>
    obtain ⟨as, rd⟩ := Dp.reads I _ _ _ hd ru
    cases hd
    have eu : u = Value.ref _ := ru
    subst eu
    refine PySem.repr_of_reads' rd h1 (fun z => by rw [h2] at z; cases z) hg (by omega) (fun _ _ e => e) (fun h' t tk hk => ?_) h4
    exact ⟨.str _, H, I.kept hk, ⟨t, rfl⟩, q⟩
  | tuple ds =>
    obtain ⟨as, rd⟩ := Dp.reads I _ _ _ hd ru
    cases hd
    have eu : u = Value.ref _ := ru
    subst eu
    refine PySem.repr_of_reads' rd h1 (fun z => by rw [h2] at z; cases z) hg (by omega) (fun _ _ e => e) (fun h' t tk hk => ?_) h4
    exact ⟨.str _, H, I.kept hk, ⟨t, rfl⟩, q⟩
def gRepr (rs : List SV) (Q : SV → Prop) : Prop := match rs with
  | [x] => opt x.now? fun d => (d.canLay0 = true ∧ d.showable = true ∧ d.hasDict = false ∧ d.depth ≤ 64 ∧ d.shown.length ≤ sizeLine) ∧ Q (.d (.str d.shown))
  | _ => False
theorem cd_repr {X : Cx} {B : Bk} (hK : X.K = B.K) : CallD B (rRepr X.K) gRepr := fun rs vs Ha G F H τ Qv Q k r h fin => by
  unfold gRepr at h
  split at h
  · obtain ⟨d, ed, ⟨h0, h1, h2, h3, h4⟩, h⟩ := opt_of h
    obtain ⟨v, rfl, rx⟩ := r.one
    rw [hK]
    exact ⟨v, d, rfl, rx.now k.same ed h0, h1, h2, h3, h4, fin.d k (.str _) h⟩
  · exact h.elim
theorem RoomG.un {k : Nat} {A : Around} (h : RoomG k A) : A.units + 64 + 1 < cLine := by
  have := h.r.un
  omega
theorem RoomG.units {k : Nat} {A : Around} (h : RoomG k A) : A.units + 64 < cLine := by
  have := h.r.un
  omega
end Z
namespace Z
open PySem L2 PySem.Spec PyProof.Rows
structure KnownG (P : Program) (w : World) (K : PySem.W.Frag) (mg : Str → Option Value) (base : Heap) (S : Sto) (x : Str) (ps : List Str) (k : Nat) (FF : FW S.T) : Prop where
  ex : ∃ f fd, FnG P w K mg base k f fd ps (spD S K FF) ∧ mg x = some (.ref f) ∧ PySem.W.keepIn K (.ref f) = true ∧ Binds K fd ps []
section
variable {X : Cx} {B : Bk} {e : Expr} {es : List Expr} {pos p : Pos} {ta : WA B.T} {FF : FW B.S.T} {ps : List Str} {k : Nat} {x : Str}
theorem de_callG (hK : X.K = B.K) (h : KnownG X.prog X.w X.K X.mg X.base B.S x ps k FF) (hr : RoomG k X.A) (hg : Gl X x)
    (ha : PA X (e :: es) (liftA B ta)) (hdb : (x == ("__debug__" : Str)) = false := by decide) (hst : starEach (e :: es) X.env = (false, eval e X.env) :: starEach es X.env := by rfl) (hpl : (backTo pos (starEach es X.env)).any (·.1) = false := by rfl) :
    PE X (.Call (.Name x p) (e :: es) [] pos) (lift B (dCall FF ta)) := by
  obtain ⟨f, fd, F, hm, hk, hb⟩ := h.ex
  rw [hK] at F
  refine pe_imp (pe_callG (by rw [hK]; exact F) hr hg hm hk hb ha hdb hst hpl) fun σ H Q z9 => ex53 z9 fun G Fp env τ Qd s t fin => ⟨G, Fp, env, τ, _, s, t, fun rs τ1 G1 F1 H1 vs f1 r1 ⟨dr, q⟩ => ?_⟩
  exact ⟨G1, F1, τ1, rs, Qd, H, f1.k, r1, dr, q, fun r τ' G' F' H' v st ok res qd => fin r τ' G' F' H' v (f1.trans ⟨st, ok⟩) (res.back (dead f1.s.dom)) qd⟩
end
/-- a def that asks nothing of the kind -/
theorem FnG.of {P : Program} {w : World} {K : PySem.W.Frag} {mg : Str → Option Value} {base : Heap} {k : Nat} {f : Addr} {fd : FuncData} {ps : List Str} {sp : Sp} (F : FnOk P w K mg base CX0 k f fd ps sp) : FnG P w K mg base k f fd ps sp :=
  ⟨F.len, fun A st s H as us vs Q E rg => F.run A st s H as us vs Q E rg.r⟩
theorem KnownG.of {P : Program} {w : World} {K : PySem.W.Frag} {mg : Str → Option Value} {base : Heap} {S : Sto} {x : Str} {ps : List Str} {k : Nat} {FF : FW S.T} (h : Known P w K mg base S x ps k FF) : KnownG P w K mg base S x ps k FF :=
  let ⟨f, fd, F, hm, hk, hb⟩ := h.ex
  ⟨f, fd, .of F, hm, hk, hb⟩
end Z
namespace Z
open PySem L2
/-! ### more built-ins over lists -/
section
variable {X : Cx} {B : Bk}
def gTupC (rs : List SV) (Q : SV → Prop) : Prop := match rs with
  | [x] => opt x.seqd? fun xs => Q (.d (.tuple xs))
  | _ => False
def gLstC (rs : List SV) (Q : SV → Prop) : Prop := match rs with
  | [x] => opt x.seqd? fun xs => Q (.ol xs)
  | _ => False
end
/-! ### x.pop() -/
/-! ### calls without arguments, where repr may be asked -/
/-! ### the readings -/
def kSe (Q : SV → Prop) (f : List D → SV) : Option (List D) → Prop
  | some xs => Q (f xs)
  | none => False
theorem kSe_1 {Q : SV → Prop} {f : List D → SV} {xs : List D} : kSe Q f (some xs) = Q (f xs) := rfl
theorem gTupC_k (x : SV) (Q : SV → Prop) : gTupC [x] Q = kSe Q (fun xs => .d (.tuple xs)) x.seqd? := opt_e (fun _ => rfl) rfl
theorem gLstC_k (x : SV) (Q : SV → Prop) : gLstC [x] Q = kSe Q (fun xs => .ol xs) x.seqd? := opt_e (fun _ => rfl) rfl
end Z
namespace Z
open PySem L2
/-! ### x op= e, over ints -/
section
variable {T : Type}
def kAu (f : Int → Int → Int) (i : Nat) (D : DEnds T) (env : List SV) (a : Int) (r : SV) (τ : T) : Prop := ∃ b, r = .d (.int b) ∧ D.nx (env.set i (.d (.int (f a b)))) τ
theorem kAu_i {f : Int → Int → Int} {i : Nat} {D : DEnds T} {env : List SV} {a b : Int} {τ : T} : kAu f i D env a (.d (.int b)) τ = D.nx (env.set i (.d (.int (f a b)))) τ := by simp [kAu]
def kAug (f : Int → Int → Int) (i : Nat) (te : W T) (D : DEnds T) (env : List SV) (τ : T) : Option SV → Prop
  | some (.d (.int a)) => te env τ (kAu f i D env a)
  | _ => False
theorem kAug_1 {f : Int → Int → Int} {i : Nat} {te : W T} {D : DEnds T} {env : List SV} {τ : T} {a : Int} : kAug f i te D env τ (some (.d (.int a))) = te env τ (kAu f i D env a) := rfl
end
/-! ### range with a step -/
def rgC (lo c : Int) (n : Nat) : List D := (List.range n).map fun i => .int (lo + (i : Nat) * c)
section
variable {X : Cx} {B : Bk} {tg : Expr} {pos : Pos}
def dRng3 {T : Type} (ta : WA T) : WI T := fun env τ Q => ta env τ fun rs τ1 => ∃ (i j c : Int) (n : Nat), rs = [.d (.int i), .d (.int j), .d (.int c)] ∧ RgC i j c n ∧ Q (rgC i c n) τ1
end
section
variable {T : Type}
def kR3 (Q : List D → T → Prop) (rs : List SV) (τ : T) : Prop := ∃ (i j c : Int) (n : Nat), rs = [.d (.int i), .d (.int j), .d (.int c)] ∧ RgC i j c n ∧ Q (rgC i c n) τ
theorem dRng3_k (ta : WA T) (env : List SV) (τ : T) (Q : List D → T → Prop) : dRng3 ta env τ Q = ta env τ (kR3 Q) := rfl
end
end Z
namespace Z
open PySem L2
/-! ### x.bit_length() -/
section
variable {X : Cx} {B : Bk} {o : Expr} {apos pos : Pos} {te : W B.T}
def gBits (x : SV) (Q : SV → Prop) : Prop := match x with
  | .d (.int i) => Q (.d (.int (Builtin.Int.intBits i : Nat)))
  | _ => False
theorem gBits_k {i : Int} {Q : SV → Prop} : gBits (.d (.int i)) Q = Q (.d (.int (Builtin.Int.intBits i : Nat))) := rfl
end
end Z
/-! ### an exception that was caught, kept as a value -/
/-! ### a lambda without parameters handed to a def: which things stay -/
namespace Z
open PySem L2
/-! ### the store: what is drawn by, cells (dicts, lists, instances), tables of code objects -/
inductive Cel where
  | dk (m : List (Key × D))
  | dt (m : List (List Key × D))
  | ls (xs : List D)
  | dv (kvs : List (Key × V))
  | ins (C dx : Addr) (fs : List (Str × SV))
  /-- a dict with tuples for keys, being walked -/
  | lk (od : Obj) (kvs : List (List Key × V))
def Cel.own : Cel → Addr → Prop
  | .ins _ dx _, p => p = dx
  | _, _ => False
structure T2 where
  dr : DrT
  cs : List (Addr × Cel)
def FvR (K : PySem.W.Frag) (G : Hp) (v : V) : SV → Prop
  | .d x => Rp K G v x
  | .raw u => v = u
  | _ => False
theorem FvR.mono {K : PySem.W.Frag} {G G' : Hp} (e : Same G G') {v : V} : ∀ {s : SV}, FvR K G v s → FvR K G' v s
  | .d _, h => Rp.mono e h
  | .raw _, h => h
  | .no, h => h.elim
  | .ol _, h => h.elim
  | .vw _, h => h.elim
def CelR (K : PySem.W.Frag) (G H : Hp) (p : Addr) : Cel → Prop
  | .dk m => ∃ kvs : List (Key × V), H p = some (.dK kvs) ∧ Paired (fun (x : Key × V) (y : Key × D) => x.1 = y.1 ∧ Rp K G x.2 y.2) kvs m
  | .dt m => ∃ kvs : List (List Key × V), H p = some (.dT kvs) ∧ Paired (fun (x : List Key × V) (y : List Key × D) => x.1 = y.1 ∧ Rp K G x.2 y.2) kvs m
  | .ls xs => ∃ vs, H p = some (.lst vs) ∧ RpAll K G vs xs
  | .dv kvs => H p = some (HO.dK kvs)
  | .lk od kvs => H p = some (HO.frz od (HO.dT kvs))
  | .ins C dx fs => ∃ fv : List (Str × V), H p = some (.ins C dx fv) ∧ H dx = some (.own p) ∧ Paired (fun (x : Str × V) (y : Str × SV) => x.1 = y.1 ∧ FvR K G x.2 y.2) fv fs
theorem CelR.mono {K : PySem.W.Frag} {G G' H H' : Hp} {p : Addr} (e : Same G G') : ∀ {c : Cel}, CelR K G H p c → H' p = H p → (∀ q, c.own q → H' q = H q) → CelR K G' H' p c
  | .dk _, ⟨kvs, h, r⟩, q, _ => ⟨kvs, by rw [q]; exact h, Paired.mapP r fun _ _ z => ⟨z.1, z.2.mono e⟩⟩
  | .dt _, ⟨kvs, h, r⟩, q, _ => ⟨kvs, by rw [q]; exact h, Paired.mapP r fun _ _ z => ⟨z.1, z.2.mono e⟩⟩
  | .ls _, ⟨vs, h, r⟩, q, _ => ⟨vs, by rw [q]; exact h, r.mono e⟩
  | .dv kvs, h, q, _ => by
    have h : H p = Option.some (HO.dK kvs) := h
    show H' p = Option.some (HO.dK kvs)
    rw [q]; exact h
  | .lk od kvs, h, q, _ => by
    have h : H p = Option.some (HO.frz od (HO.dT kvs)) := h
    show H' p = Option.some (HO.frz od (HO.dT kvs))
    rw [q]; exact h
  | .ins _ dx _, ⟨fv, h, h2, r⟩, q, q2 => ⟨fv, by rw [q]; exact h, by rw [q2 dx rfl]; exact h2, Paired.mapP r fun _ _ z => ⟨z.1, z.2.mono e⟩⟩
theorem CelR.some {K : PySem.W.Frag} {G H : Hp} {p : Addr} : ∀ {c : Cel}, CelR K G H p c → ∃ o, H p = some o ∧ (∀ ps, o ≠ .tbl ps) ∧ ∀ x, o ≠ .own x
  | .dk _, ⟨_, h, _⟩ => ⟨_, h, (fun _ z => by cases z), (fun _ z => by cases z)⟩
  | .dt _, ⟨_, h, _⟩ => ⟨_, h, (fun _ z => by cases z), (fun _ z => by cases z)⟩
  | .ls _, ⟨_, h, _⟩ => ⟨_, h, (fun _ z => by cases z), (fun _ z => by cases z)⟩
  | .dv kvs, h => ⟨HO.dK kvs, (id h : H p = Option.some (HO.dK kvs)), (fun _ z => by cases z), (fun _ z => by cases z)⟩
  | .lk od kvs, h => ⟨HO.frz od (HO.dT kvs), (id h : H p = Option.some (HO.frz od (HO.dT kvs))), (fun _ z => by cases z), (fun _ z => by cases z)⟩
  | .ins _ _ _, ⟨_, h, _⟩ => ⟨_, h, (fun _ z => by cases z), (fun _ z => by cases z)⟩
theorem CelR.own {K : PySem.W.Frag} {G H : Hp} {p q : Addr} : ∀ {c : Cel}, CelR K G H p c → c.own q → H q = .some (.own p)
  | .ins _ _ _, ⟨_, _, h, _⟩, e => by cases e; exact h
  | .dk _, _, e => e.elim
  | .dt _, _, e => e.elim
  | .ls _, _, e => e.elim
  | .dv _, _, e => e.elim
  | .lk _ _, _, e => e.elim
def drF : DrT → Addr → Prop
  | .off, _ => False
  | .on a _, p => p = a
def celF (cs : List (Addr × Cel)) (p : Addr) : Prop := ∃ e ∈ cs, e.1 = p ∨ e.2.own p
def tF (Ts : List (Addr × Str)) (t : T2) (p : Addr) : Prop := drF t.dr p ∨ celF t.cs p ∨ p ∈ Ts.map (·.1)
def drP (K : PySem.W.Frag) (cs : List (Addr × Cel)) (G H : Hp) : DrT → Prop
  | .off => True
  | .on a b => DrAt K G H a b ∧ ∀ e ∈ cs, e.1 ≠ a
def TbR (G H : Hp) (p : Addr × Str) : Prop := ∃ ps : Array Value, H p.1 = some (.tbl ps) ∧ TriplesOk ps.toList ∧ ∀ (pos : Pos) (cv : Value), codeAmong pos ps.toList = some cv → ∃ c, cv = .ref c ∧ G c = some (LamX.CodeO c p.2)
structure TR (Ts : List (Addr × Str)) (K : PySem.W.Frag) (t : T2) (G : Hp) (F : Addr → Prop) (H : Hp) : Prop where
  f : ∀ p, F p ↔ tF Ts t p
  dr : drP K t.cs G H t.dr
  cs : ∀ e ∈ t.cs, CelR K G H e.1 e.2
  nd : (t.cs.map (·.1)).Nodup
  tb : ∀ p ∈ Ts, TbR G H p
theorem DrAt.mono {K : PySem.W.Frag} {G G' H H' : Hp} {a : Addr} {b : Nat} (h : DrAt K G H a b) (e : Same G G') (q : H' a = H a) : DrAt K G' H' a b := by
  obtain ⟨c, cs, i, l, u, h1, h2, h3, h4⟩ := h
  exact ⟨c, cs, i, l, u, by rw [q]; exact h1, same_sqp e h2, h3, h4⟩
theorem DrAt.some {K : PySem.W.Frag} {G H : Hp} {a : Addr} {b : Nat} (h : DrAt K G H a b) : ∃ kvs, H a = some (.dK kvs) := by
  obtain ⟨c, cs, i, l, u, h1, h2, h3, h4⟩ := h
  exact ⟨_, h1⟩
theorem drP.mono {K : PySem.W.Frag} {cs : List (Addr × Cel)} {G G' H H' : Hp} (e : Same G G') : ∀ {d : DrT}, drP K cs G H d → (∀ p, drF d p → H' p = H p) → drP K cs G' H' d
  | .off, _, _ => trivial
  | .on a b, ⟨h, n⟩, q => ⟨h.mono e (q a rfl), n⟩
theorem TbR.mono {G G' H H' : Hp} {p : Addr × Str} (h : TbR G H p) (e : Same G G') (q : H' p.1 = H p.1) : TbR G' H' p := by
  obtain ⟨ps, h1, h2, h3⟩ := h
  exact ⟨ps, by rw [q]; exact h1, h2, fun pos cv hc => let ⟨c, a, b⟩ := h3 pos cv hc; ⟨c, a, e _ _ b⟩⟩
def theT (Ts : List (Addr × Str)) : Sto where
  T := T2
  tb := fun a => a ∈ Ts.map (·.1)
  R := fun K t G F H => TR Ts K t G F H
  st := fun {K t G G' F H H'} r sm e => by
    have e : ∀ a, tF Ts t a → H' a = H a := fun a h => e a ((r.f a).mpr h)
    refine ⟨r.f, r.dr.mono sm fun p h => e p (.inl h), fun x hx => (r.cs x hx).mono sm (e _ (.inr (.inl ⟨x, hx, .inl rfl⟩))) fun q hq => e q (.inr (.inl ⟨x, hx, .inr hq⟩)), r.nd, fun p hp => (r.tb p hp).mono sm (e _ (.inr (.inr (List.mem_map.mpr ⟨p, hp, rfl⟩))))⟩
/-! ### a def that knows of nothing but what is drawn by -/
def frm (FF : FW DrT) : FW T2 := fun rs τ Q => FF rs τ.dr fun r d => r.out = true ∧ Q r ⟨d, τ.cs⟩
section
variable {Ts : List (Addr × Str)} {K : PySem.W.Frag} {τ : T2} {G H : Hp} {F : Addr → Prop}
/-- no tuple is the store's -/
theorem Ok.notup {vs : List V} {a : Addr} (k : Ok (theT Ts) K τ G F H) (e : H a = some (.tup vs)) : ¬ F a := fun z => by
  have r : TR Ts K τ G F H := k.r
  rcases (r.f a).mp z with z | ⟨x, hx, q⟩ | z
  · have hd := r.dr
    cases q : τ.dr with
    | off => rw [q] at z; exact z
    | on b n =>
      rw [q] at z hd
      have z : a = b := z
      subst z
      obtain ⟨kvs, h⟩ := hd.1.some
      rw [e] at h
      cases h
  · have c := r.cs x hx
    rcases q with q | q
    · rw [← q] at e
      cases x2 : x.2 with
      | dk m => rw [x2] at c; obtain ⟨_, h, _⟩ := c; rw [e] at h; cases h
      | dt m => rw [x2] at c; obtain ⟨_, h, _⟩ := c; rw [e] at h; cases h
      | ls m => rw [x2] at c; obtain ⟨_, h, _⟩ := c; rw [e] at h; cases h
      | dv m =>
        rw [x2] at c
        have h : H x.1 = Option.some (HO.dK m) := c
        rw [e] at h
        cases h
      | lk od m =>
        rw [x2] at c
        have h : H x.1 = Option.some (HO.frz od (HO.dT m)) := c
        rw [e] at h
        cases h
      | ins _ _ m => rw [x2] at c; obtain ⟨_, h, _⟩ := c; rw [e] at h; cases h
    · have h := c.own q
      rw [e] at h
      cases h
  · obtain ⟨x, hx, q⟩ := List.mem_map.mp z
    obtain ⟨ps, h, _⟩ := r.tb x hx
    have q : x.1 = a := q
    rw [q, e] at h
    cases h
theorem Ok.fr (k : Ok (theT Ts) K τ G F H) : Ok (theS (Ts.map (·.1))) K τ.dr G (drF τ.dr) H := by
  have r : TR Ts K τ G F H := k.r
  refine ⟨k.same, fun a h => k.gf a ((r.f a).mpr (.inl h)), fun a h => k.fh a ((r.f a).mpr (.inl h)), ?_, k.nt, k.nx⟩
  show drR K τ.dr G (drF τ.dr) H
  have hd := r.dr
  cases e : τ.dr with
  | off => exact fun a h => h
  | on a b =>
    rw [e] at hd
    exact ⟨fun p => Iff.rfl, hd.1⟩
theorem Ok.unfr (k : Ok (theT Ts) K τ G F H) {d : DrT} {G' H' : Hp} {F0 : Addr → Prop} (st : Step G (drF τ.dr) H G' F0 H') (ok : Ok (theS (Ts.map (·.1))) K d G' F0 H') :
    Step G F H G' (tF Ts ⟨d, τ.cs⟩) H' ∧ Ok (theT Ts) K ⟨d, τ.cs⟩ G' (tF Ts ⟨d, τ.cs⟩) H' := by
  have r : TR Ts K τ G F H := k.r
  have eF : ∀ p, F0 p ↔ drF d p := by
    have h : drR K d G' F0 H' := ok.r
    cases d with
    | off => exact fun p => ⟨fun z => (h p z).elim, fun z => z.elim⟩
    | on a b => exact h.1
  have inF : ∀ p, celF τ.cs p ∨ p ∈ Ts.map (·.1) → F p := fun p h => (r.f p).mpr (.inr h)
  -- what stands in cells and tables is none of what is drawn by
  have noDr : ∀ p o, H p = some o → (∀ kvs, o ≠ .dK kvs) → ¬ drF τ.dr p := fun p o e n z => by
    have hd := r.dr
    cases q : τ.dr with
    | off => rw [q] at z; exact z
    | on a b =>
      rw [q] at z hd
      have z : p = a := z
      subst z
      obtain ⟨kvs, h⟩ := hd.1.some
      rw [e] at h
      exact n _ (Option.some.inj h)
  have cellNo : ∀ e ∈ τ.cs, ¬ drF τ.dr e.1 := fun e he z => by
    have hd := r.dr
    cases q : τ.dr with
    | off => rw [q] at z; exact z
    | on a b =>
      rw [q] at z hd
      exact hd.2 e he z
  have stay : ∀ p, ¬ drF τ.dr p → ∀ o, H p = some o → H' p = H p := fun p n o e => by rw [e]; exact st.h p o n e
  have cellS : ∀ e ∈ τ.cs, H' e.1 = H e.1 ∧ ∀ q, e.2.own q → H' q = H q := fun e he => by
    obtain ⟨o, h1, _⟩ := (r.cs e he).some
    refine ⟨stay _ (cellNo e he) o h1, fun q hq => ?_⟩
    have h2 := (r.cs e he).own hq
    exact stay q (noDr q _ h2 fun _ z => by cases z) _ h2
  have tabS : ∀ p ∈ Ts, H' p.1 = H p.1 := fun p hp => by
    obtain ⟨ps, h, _⟩ := r.tb p hp
    exact stay _ (noDr _ _ h fun _ z => by cases z) _ h
  refine ⟨⟨st.g, fun a o n e => st.h a o (fun z => n ((r.f a).mpr (.inl z))) e, fun a o e => (st.gn a o e).imp id fun z => z.imp id fun ⟨⟨vs, z⟩, _⟩ => ⟨⟨vs, z⟩, k.notup z⟩, fun a h => ?_, fun a h => ?_, st.dom⟩, ⟨ok.same, fun a h => ?_, fun a h => ?_, ⟨fun p => Iff.rfl, ?_, fun e he => (r.cs e he).mono st.g (cellS e he).1 (cellS e he).2, r.nd, fun p hp => (r.tb p hp).mono st.g (tabS p hp)⟩, ok.nt, ok.nx⟩⟩
  · rcases h with h | h
    · rcases st.fn a ((eF a).mpr h) with z | z
      · exact .inl ((r.f a).mpr (.inl z))
      · exact .inr z
    · exact .inl (inF a h)
  · rcases (r.f a).mp h with z | z
    · exact .inl ((eF a).mp (st.ff a z))
    · exact .inr z
  · rcases h with h | h
    · exact ok.gf a ((eF a).mpr h)
    · have hF := inF a h
      cases q : G' a with
      | none => rfl
      | some o =>
        rcases st.gn a o q with z | z
        · rw [k.gf a hF] at z; cases z
        · rcases z with z | ⟨⟨vs, z⟩, _⟩
          · exact absurd z (k.fh a hF)
          · exact (k.notup z hF).elim
  · rcases h with h | h
    · exact ok.fh a ((eF a).mpr h)
    · exact st.dom a (k.fh a (inF a h))
  · have h : drR K d G' F0 H' := ok.r
    cases d with
    | off => trivial
    | on a b =>
      refine ⟨h.2, fun e he z => ?_⟩
      rcases st.fn a ((h.1 a).mpr rfl) with y | y
      · exact cellNo e he (by rw [z]; exact y)
      · obtain ⟨o, h1, _⟩ := (r.cs e he).some
        rw [z, y] at h1
        cases h1
/-- the promise at the wider store -/
theorem spD_fr {FF : FW DrT} {vs : List V} {Q : VK} {E : XK} (h : spD (theT Ts) K (frm FF) vs H Q E) : spD (theS (Ts.map (·.1))) K FF vs H Q E := by
  obtain ⟨G, F, τ, rs, Qd, Ha, k, r, dr, hf, fin⟩ := h
  refine ⟨G, drF τ.dr, τ.dr, rs, fun r d => r.out = true ∧ Qd r ⟨d, τ.cs⟩, Ha, k.fr, ?_, dr, hf, fun r' d' G' F' H' v st ok res q => ?_⟩
  · clear hf fin
    induction r with
    | nil => exact .nil
    | @cons a as v vs h t ih =>
      have d2 : (a.dr && as.all SV.dr) = true := dr
      rw [Bool.and_eq_true] at d2
      refine .cons ?_ (ih d2.2)
      cases a with
      | d x => exact h
      | raw v => exact h
      | no => exact h.elim
      | ol _ => cases d2.1
      | vw _ => cases d2.1
  · obtain ⟨st2, ok2⟩ := k.unfr st ok
    obtain ⟨qo, q⟩ := q
    refine fin r' ⟨d', τ.cs⟩ G' _ H' v st2 ok2 ?_ q
    have r : TR Ts K τ G F H := k.r
    have eF : ∀ p, F' p → tF Ts ⟨d', τ.cs⟩ p := fun p hp => by
      have h : drR K d' G' F' H' := ok.r
      cases d' with
      | off => exact (h p hp).elim
      | on a b => exact .inl ((h.1 p).mp hp)
    cases r' with
    | no => exact res
    | d x => exact res
    | raw v => exact res
    | ol xs =>
      obtain ⟨p, e, w⟩ := res
      refine ⟨p, e, w.at', w.g, fun z => ?_, w.new⟩
      rcases st2.fn p z with y | y
      · exact k.fh p y w.new
      · rcases z with z | z | z
        · have h : drR K d' G' F' H' := ok.r
          refine w.f ?_
          cases d' with
          | off => exact z.elim
          | on a b => exact (h.1 p).mpr z
        · exact k.fh p ((r.f p).mpr (.inr (.inl z))) w.new
        · exact k.fh p ((r.f p).mpr (.inr (.inr z))) w.new
    | vw xs => cases qo
end
end Z
namespace Z
open PySem L2
/-! ### exceptions as data -/
/-- an exception of the class at C, without fields -/
def exD (C : Addr) : D := .dict [(.none, .int (C : Nat))]
/-- what flies, told as data -/
def XR (K : PySem.W.Frag) (G : Hp) (x : D) (cls : Value) (d : Option Addr) : Prop :=
  (∃ C : Addr, x = exD C ∧ cls = .ref C ∧ d = none) ∨
  ∃ (C dx : Addr) (ks : List Str) (vs : List V) (ds : List D), x = .dict ((.none, .int (C : Nat)) :: (ks.map PyData.str).zip ds) ∧ cls = .ref C ∧ d = some dx ∧ G dx = some (.xd (ks.zip vs)) ∧ RpAll K G vs ds
/-- a promise with a way out by an exception -/
abbrev FWX (T : Type) := List SV → T → (SV → T → Prop) → (D → T → Prop) → Prop
def spDX (S : Sto) (K : PySem.W.Frag) (FX : FWX S.T) : Sp := fun vs H Q E => ∃ G F τ rs Qd Ed Ha, Ok S K τ G F H ∧ ResAll K Ha G F H rs vs ∧ rs.all SV.dr = true ∧ FX rs τ Qd Ed ∧
  (∀ r τ' G' F' H' v, Step G F H G' F' H' → Ok S K τ' G' F' H' → Res K H G' F' H' r v → Qd r τ' → Q v H') ∧
  ∀ x τ' G' F' H' cls d, Step G F H G' F' H' → Ok S K τ' G' F' H' → XR K G' x cls d → Ed x τ' → E cls d H'
def dCallX {T : Type} (FX : FWX T) (Ed : D → T → Prop) (ta : WA T) : W T := fun env τ Q => ta env τ fun rs τ1 => rs.all SV.dr = true ∧ FX rs τ1 Q Ed
structure KnownX (P : Program) (w : World) (K : PySem.W.Frag) (mg : Str → Option Value) (base : Heap) (S : Sto) (x : Str) (ps : List Str) (k : Nat) (FX : FWX S.T) : Prop where
  ex : ∃ f fd, FnOk P w K mg base (L2.CX P w) k f fd ps (spDX S K FX) ∧ mg x = some (.ref f) ∧ PySem.W.keepIn K (.ref f) = true ∧ Binds K fd ps []
section
variable {X : Cx} {B : Bk} {e : Expr} {es : List Expr} {pos p : Pos} {ta : WA B.T} {FX : FWX B.S.T} {Ed : D → B.T → Prop} {E : XK} {ps : List Str} {k : Nat} {x : Str}
/-! raise -/
structure ClsX (K : PySem.W.Frag) (mg : Str → Option Value) (x : Str) (C : Addr) : Prop where
  g : mg x = some (.ref C)
  x : PySem.W.excIn K C [.type "ValueError", .type "Exception", .type "BaseException", .type "object"] "ValueError.__new__" = true
  k : PySem.W.keepIn K (.ref C) = true
  b : PySem.W.subIn K (.ref C) (.type "BaseException") = some true
  t : PySem.W.typeIn K (.ref C) = some (.type "type")
def dRaise {T : Type} (x : D) (Ed : D → T → Prop) : WS T := fun _ _ τ => Ed x τ
end
/-! ### isinstance of an exception -/
structure ExC (K : PySem.W.Frag) (D : Addr) : Prop where
  c : (PySem.W.clsIn K D).isSome = true
  hg : PySem.W.findIn K (.ref D) "__getattribute__" = some (some (.builtin "BaseException.__getattribute__"))
  hk : PySem.W.findIn K (.ref D) "__getattr__" = some none
  hs : PySem.W.subIn K (.ref D) (.type "BaseException") = some true
  ha : PySem.W.findIn K (.ref D) "__class__" = some (some (.builtin "object.__class__"))
  hn : PySem.W.specialIn K (.builtin "object.__class__") "__get__" = some (some (.builtin "getset_descriptor.__get__"))
  ht : PySem.W.takesIn K (.builtin "object.__class__") = some true
  hm : PySem.W.mroIn K D (.type "object") = some true
/-- the class of an exception's data -/
def exC? : D → Option Int
  | .dict ((.none, .int c) :: _) => some c
  | _ => none
section
variable {X : Cx} {B : Bk} {e : Expr} {cs : List Expr} {p q q2 pos : Pos} {te : W B.T} {us : List Value} {cv : List V} {kk : Nat}
theorem isx_run {pins : List (Addr × Obj)} {σ : L2.St} {H : Hp} {s : Shared} {v : V} {u : Value} {x : D} {C : Addr} {G : Hp} (I : Inv X pins σ H s) (r : RelV v u) (sm : Same G H) (rp : Rp X.K G v x) (ex : exC? x = some (C : Nat)) (c : ExC X.K C) :
    ∃ (Pz : Heap → Prop), PySem.W.KitX X.K u (.ref C) Pz ∧ Pz s.heap ∧ u ≠ .builtin "__main__.__loader__#opaque" := by
  have kit : ∀ {a : Addr} {ox : Obj} {od : Option Obj}, PySem.W.KitX X.K (.ref a) (.ref C) (fun h => PySem.W.InstAt h a ox C od) := fun {a ox od} => PySem.W.kitx_exc c.c c.hg c.hk c.hs c.ha c.hn c.ht c.hm
  cases rp with
  | @exc a C' φ h z =>
    have e2 : C' = C := by
      have := Option.some.inj ex
      exact Int.ofNat.inj this
    subst e2
    cases (show u = Value.ref a from r)
    obtain ⟨ob, fs, e1, ⟨e2, e3⟩, e4⟩ := z _ (I.hok a _ (sm _ _ h)).1
    refine ⟨_, kit (ox := ob) (od := none), ⟨e1, e2, ?_, ?_⟩, fun z => nomatch z⟩
    · unfold PySem.W.notCls; rw [e4] <;> rfl
    · rw [e3]; trivial
  | @exf a dx C' φ ks vs ds h z hx ra =>
    have e2 : C' = C := by
      have := Option.some.inj ex
      exact Int.ofNat.inj this
    subst e2
    cases (show u = Value.ref a from r)
    obtain ⟨ob, fs, e1, ⟨e2, e3⟩, e4⟩ := z _ (I.hok a _ (sm _ _ h)).1
    obtain ⟨mA, ⟨od, es, ep, hd, _⟩, _⟩ := (I.hok dx _ (sm _ _ hx))
    refine ⟨_, kit (ox := ob) (od := some od), ⟨e1, e2, ?_, ?_⟩, fun z => nomatch z⟩
    · unfold PySem.W.notCls; rw [e4] <;> rfl
    · rw [e3]; exact hd
  | emp h => cases ex
  | fn => cases ex
  | non => cases ex
  | bl b => cases ex
  | int i => cases ex
  | str x => cases ex
  | lst h a => cases ex
  | tup h a => cases ex
/-- isinstance(e, C), isinstance(e, (C1, C2, ..)): classes of the program, or built-in ones -/
def dIsX {T : Type} (K : PySem.W.Frag) (us : List Value) (te : W T) : W T := fun env τ Q => te env τ fun r τ1 => ∃ (x : D) (C : Addr) (b : Bool), r = .d x ∧ exC? x = some (C : Nat) ∧ ExC K C ∧ PySem.W.kitAny K (.ref C) us = some b ∧ Q (.d (.bool b)) τ1
def rIsX (K : PySem.W.Frag) (c : V) (u : Value) : List V → Hp → VK → Prop := fun xs H Q => ∃ (v : V) (x : D) (C : Addr) (b : Bool) (G : Hp), xs = [v, c] ∧ Same G H ∧ Rp K G v x ∧ exC? x = some (C : Nat) ∧ ExC K C ∧ PySem.W.kitAny K (.ref C) [u] = some b ∧ Q (.bl b) H
theorem call_isX {c : V} {u : Value} (hc : ClsV c u) : CallR X (.builtin "isinstance") (rIsX X.K c u) := by
  intro pins s σ H xs ws Q I r h
  obtain ⟨v, x, C, b, G, rfl, sm, rp, ex, cc, kt, hq⟩ := h
  obtain ⟨u1, u2, rfl, r1, r2⟩ := vals2 r
  have e2 := hc.eq r2
  subst e2
  obtain ⟨Pz, Z, p, hx⟩ := isx_run I r1 sm rp ex cc
  have k1 : PySem.W.kitOne X.K (.ref C) u2 = some b := by
    unfold PySem.W.kitAny at kt
    cases z : PySem.W.kitOne X.K (.ref C) u2 with
    | none => rw [z] at kt; cases kt
    | some y =>
      rw [z] at kt
      cases y with
      | true => exact kt
      | false => unfold PySem.W.kitAny at kt; exact kt
  exact PySem.W.kia_one Z I.kIn p k1 hx fun tk => ⟨.bl b, H, I.tok tk, rfl, hq⟩
variable (hK : X.K = B.K) (hgi : Gl X "isinstance") (hmi : X.mg "isinstance" = none) (hvi : bootBuiltins "isinstance" = some (.builtin "isinstance"))
include hK hgi hmi hvi
theorem de_isx {y : Expr} {c : V} {u : Value} (he : PE X e (lift B te)) (hy : PE X y (tC c)) (hc : ClsV c u)
    (h1 : starEach (e :: [y]) X.env = (false, eval e X.env) :: starEach [y] X.env := by rfl) (h2 : (backTo pos (starEach [y] X.env)).any (·.1) = false := by rfl) (h3 : starEach (y :: []) X.env = (false, eval y X.env) :: starEach [] X.env := by rfl) :
    PE X (.Call (.Name "isinstance" p) [e, y] [] pos) (lift B (dIsX B.K [u] te)) :=
  pe_imp (pe_callB (call_isX hc) hgi hmi hvi (pa_cons he (pa_cons hy pa_nil h3) h1) (by decide) (by decide) h1 h2) fun σ H Q z9 => ex53 z9 fun G F env τ Qd s t fin =>
    ⟨G, F, env, τ, _, s, t, fun r τ1 G1 F1 H1 v f1 r1 ⟨x, C, b, er, ex, cc, kt, hq⟩ => by
      subst er
      refine ⟨v, x, C, b, G1, rfl, f1.k.same, by rw [hK]; exact r1, ex, by rw [hK]; exact cc, by rw [hK]; exact kt, fin (.d (.bool b)) τ1 G1 F1 H1 (.bl b) f1 (.bl b) hq⟩⟩
end
end Z
namespace Z
open PySem PySem.Spec PyProof.Rows L2 LamX
/-! ### a lambda handed to a def that calls it and catches -/
/-- what a lambda does, by data -/
abbrev LD (T : Type) := T → (SV → T → Prop) → (D → T → Prop) → Prop
/-- a promise of a def that calls what it got -/
abbrev FC (T : Type) := LD T → T → (SV → T → Prop) → Prop
/-- what a lambda sees of its maker's slots -/
def capS : SV → SV
  | .ol _ => .no
  | s => s
def dLam {T : Type} (fc : FC T) (tb : (D → T → Prop) → W T) : W T := fun env τ Q => fc (fun τ' Q' Ed' => tb Ed' (env.map capS) τ' Q') τ Q
end Z
namespace Z
open PySem PySem.Spec PyProof.Rows L2 LamX
/-! ### try: told = deed() / except C as n: kept = n -/
theorem XR.cls {K : PySem.W.Frag} {G : Hp} {x : D} {cls : Value} {d : Option Addr} {C : Addr} (h : XR K G x cls d) (e : exC? x = some (C : Nat)) : cls = .ref C := by
  rcases h with ⟨C', rfl, rfl, _⟩ | ⟨C', dx, ks, vs, ds, rfl, rfl, _⟩
  · have e := Option.some.inj e
    rw [Int.ofNat.inj e]
  · have e := Option.some.inj e
    rw [Int.ofNat.inj e]
end Z
namespace Z
open PySem PySem.Spec PyProof.Rows L2 LamX
/-! ### the end, with the tables of those defs that make lambdas -/
abbrev lamQ (x : Str) : Str := (x ++ ".<locals>.") ++ "<lambda>"
/-- a def's name, its code object, its table -/
abbrev TN := Str × Addr × Addr
abbrev tsOf (Tn : List TN) : List (Addr × Str) := Tn.map fun e => (e.2.2, lamQ e.1)
def FF_lawT : FW T2 := fun rs τ Q => ∃ ns : List Int, rs = [.d (.list (ns.map PyData.int))] ∧ ns.length ≤ 63 ∧ τ = ⟨.off, []⟩ ∧ ∀ τ', Q (.d (.bool true)) τ'
theorem law_startT {Tn : List TN} {K : PySem.W.Frag} {H : Hp} {a : Addr} {ns : List Int} (hl : ns.length ≤ 63) (h : SqP K H a (ns.map V.int)) (ht : ∀ p ∈ tsOf Tn, H p.1 = some (.tbl #[])) (hnt : ∀ b ps, H b = some (.tbl ps) → b ∈ (tsOf Tn).map (·.1)) (hnx : ∀ b φ, H b ≠ some (.ext φ)) :
    spD (theT (tsOf Tn)) K FF_lawT [.ref a] H (fun v _ => v = .bl true) fun _ _ _ => False := by
  classical
  have isT : ∀ b, b ∈ (tsOf Tn).map (·.1) → H b = some (.tbl #[]) := fun b hb => by
    obtain ⟨p, hp, e⟩ := List.mem_map.mp hb
    rw [← e]; exact ht p hp
  have sm : Same (fun b => if b ∈ (tsOf Tn).map (·.1) then none else H b) H := fun b o e => by
    have e : (if b ∈ (tsOf Tn).map (·.1) then none else H b) = some o := e
    by_cases h : b ∈ (tsOf Tn).map (·.1)
    · rw [if_pos h] at e; cases e
    · rw [if_neg h] at e; exact e
  have hS : SqP K (fun b => if b ∈ (tsOf Tn).map (·.1) then none else H b) a (ns.map V.int) := by
    have na : ∀ o, H a = some o → (∀ ps, o ≠ .tbl ps) → (if a ∈ (tsOf Tn).map (·.1) then none else H a) = some o := fun o e n => by
      rw [if_neg fun z => n _ (Option.some.inj (e.symm.trans (isT a z)))]; exact e
    rcases h with (h | ⟨o, h⟩) | h
    · exact .inl (.inl (na _ h fun _ z => by cases z))
    · exact .inl (.inr ⟨o, na _ h fun _ z => by cases z⟩)
    · exact .inr h
  refine ⟨_, fun b => b ∈ (tsOf Tn).map (·.1), ⟨.off, []⟩, [.d (.list (ns.map PyData.int))], fun r _ => r = .d (.bool true), H, ⟨sm, fun b hb => if_pos hb, (fun b hb => by rw [isT b hb]; exact fun z => by cases z), ⟨fun p => ⟨fun h => .inr (.inr h), fun h => ?_⟩, trivial, fun e he => (nomatch he), List.nodup_nil, fun p hp => ⟨#[], ht p hp, True.intro, fun pos cv hc => ?_⟩⟩, hnt, fun b φ e => absurd e (hnx b φ)⟩,
    .cons (.lst hS (rp_ints ns)) .nil, rfl, ⟨ns, rfl, hl, rfl, fun _ => rfl⟩, ?_⟩
  · rcases h with h | ⟨e, he, _⟩ | h
    · exact h.elim
    · exact nomatch he
    · exact h
  · have z : codeAmong pos [] = some cv := hc
    simp [codeAmong] at z
  · rintro r τ' G' F' H' v _ _ res rfl
    exact rbl res
section
variable {P : Program} {w : World} {K : PySem.W.Frag} {mg mb : Str → Option Value} {k : Nat} {fa a : Addr} {fd : FuncData} {x : Str} {sp : Sp} {s₁ : Shared} {vs : List Value} {ns : List Int} {Tn : List TN}
theorem law_gT (KX : K.In s₁.heap) (nsM : s₁.heap.Ns mainGlobals mg) (nsB : s₁.heap.Ns builtinsNs mb) (bb : ∀ x : Str, x ≠ "__name__" → mb x = bootBuiltins x) (lim : s₁.heap.NoLimit) (noG : s₁.gens = #[])
    (hT : ∀ e ∈ Tn, PySem.W.CodeHd s₁.heap e.2.1 e.2.2 ∧ s₁.heap.get? e.2.2 = some (PySem.W.tabObj #[])) (nT : ∀ e ∈ Tn, K.lookup e.2.2 = none)
    (hbm : ∃ (bm : Addr) (ob : Obj), mg "__builtins__" = some (.ref bm) ∧ bm ≠ builtinsNs ∧ s₁.heap.get? bm = some ob ∧ ob.cls = .type "module" ∧ ob.dict = some builtinsNs ∧ ob.data = .plain)
    (ha : s₁.heap.get? a = some { cls := .type "list", data := .seq vs.toArray }) (hi : IntsAre vs ns) (hl : ns.length ≤ sizeLine) (hr : Room k callerA)
    (F : ∀ base : Heap, K.In base → base.Ns mainGlobals mg → (∀ e ∈ Tn, TabB base mg e.2.1 e.2.2) → FnG P w K mg base k fa fd [x] sp) (bd : ∀ (s : Shared) (u : Value), BindsTo s fd ⟨[u], []⟩ [(x, u)])
    (start : ∀ H : Hp, SqP K H a (ns.map V.int) → (∀ p ∈ tsOf Tn, H p.1 = some (.tbl #[])) → (∀ b ps, H b = some (.tbl ps) → b ∈ (tsOf Tn).map (·.1)) → (∀ b φ, H b ≠ some (.ext φ)) → sp [.ref a] H (fun v _ => v = .bl true) fun _ _ _ => False) :
    codeAny (model P w) callerA (.call (.ref fa) ⟨[.ref a], []⟩) (fun r s' => r = .ok (.ret (.bool true)) ∧ OldK s₁.heap s'.heap ∧ s'.os = s₁.os ∧ AllBare s'.gens) s₁ := by
  classical
  have rv := vals_ints hi
  have lv := hi.length
  have hz : (ns.map V.int).length ≤ sizeLine := by rw [List.length_map]; exact hl
  let obj : Obj := { cls := .type "list", data := .seq vs.toArray }
  let tbs : List Addr := Tn.map fun e => e.2.2
  have etb : (tsOf Tn).map (·.1) = tbs := by show (Tn.map fun e => (e.2.2, lamQ e.1)).map (·.1) = _; rw [List.map_map]; rfl
  have atT : ∀ b, b ∈ tbs → s₁.heap.get? b = some (PySem.W.tabObj #[]) := fun b hb => by
    obtain ⟨e, he, q⟩ := List.mem_map.mp hb
    rw [← q]; exact (hT e he).2
  have aT : a ∉ tbs := fun z => by
    have q := atT a z
    rw [ha] at q
    have z2 : Data.seq vs.toArray _ = Data.fields #[] := congrArg Obj.data (Option.some.inj q)
    cases z2
  have main : ∀ H : Hp, SqP K H a (ns.map V.int) → (∀ b ∈ tbs, H b = some (.tbl #[])) → HOk P w H s₁.heap → (∀ b u, H b = some u → (b = a ∧ u = .frz obj (.lst (ns.map V.int)) ∧ K.lookup a = none) ∨ (b ∈ tbs ∧ u = .tbl #[])) →
      codeAny (model P w) callerA (.call (.ref fa) ⟨[.ref a], []⟩) (fun r s' => r = .ok (.ret (.bool true)) ∧ OldK s₁.heap s'.heap ∧ s'.os = s₁.os ∧ AllBare s'.gens) s₁ := by
    intro H hS hTb ok only
    -- what is neither the script nor a table is untracked
    have free : ∀ {b : Addr} {o : Obj}, s₁.heap.get? b = some o → o.data ≠ obj.data → o.data ≠ .fields #[] → H b = none := fun {b o} e n1 n2 => by
      cases q : H b with
      | none => rfl
      | some u =>
        rcases only b u q with ⟨z, _⟩ | ⟨z, _⟩
        · subst z
          rw [ha] at e
          exact (n1 (congrArg Obj.data (Option.some.inj e)).symm).elim
        · rw [atT b z] at e
          exact (n2 (congrArg Obj.data (Option.some.inj e)).symm).elim
    have stay : ∀ {b : Addr} {o : Obj}, s₁.heap.get? b = some o → H b = none → (hidT s₁.heap H).get? b = some o := fun e n => hidT_get e n
    have freeD : ∀ {b : Addr} {o : Obj} {es : Array DictEntry} {ep : Nat}, s₁.heap.get? b = some o → o.data = .dict es ep → H b = none := fun {b o es ep} e d =>
      free e (fun z => by rw [d] at z; cases z) fun z => by rw [d] at z; cases z
    have nsH : ∀ {b : Addr} {m : Str → Option Value}, s₁.heap.Ns b m → (hidT s₁.heap H).Ns b m := fun {b m} ⟨o, es, ep, e, d, r⟩ => ⟨o, es, ep, stay e (freeD e d), d, r⟩
    have inH : K.In (hidT s₁.heap H) := fun b o e => stay (KX b o e) (by
      cases q : H b with
      | none => rfl
      | some u =>
        rcases only b u q with ⟨z, _, n⟩ | ⟨z, _⟩
        · subst z
          rw [n] at e
          cases e
        · obtain ⟨t, ht, et⟩ := List.mem_map.mp z
          rw [← et, nT t ht] at e
          cases e)
    have md : Mod K mg (hidT s₁.heap H) := ⟨inH, nsH nsM, ⟨mb, nsH nsB, bb⟩, let ⟨mc, h1, h2⟩ := lim; ⟨mc, nsH h1, h2⟩⟩
    have tabB : ∀ e ∈ Tn, TabB (hidT s₁.heap H) mg e.2.1 e.2.2 := fun e he => by
      obtain ⟨hc, hp⟩ := hT e he
      refine ⟨?_, ?_, fun z => ?_⟩
      · obtain ⟨o, us, file, tf, flags, tg, inF, text, tt, e1, r1, r2, r3, r⟩ := hc
        refine ⟨o, us, file, tf, flags, tg, inF, text, tt, stay e1 (free e1 (fun z => ?_) fun z => ?_), r1, r2, r3, r⟩
        · rw [r2] at z; cases z
        · rw [r2] at z
          cases z
          simp at r3
      · obtain ⟨bm, ob, b1, b2, b3, b4, b5, b6⟩ := hbm
        refine ⟨bm, ob, b1, b2, fun q => ?_, fun q => ?_, stay b3 (free b3 (fun z => ?_) fun z => ?_), b4, b5, b6⟩
        · obtain ⟨o, es, ep, e2, d2, _⟩ := nsM
          rw [q, e2] at b3
          cases b3
          rw [d2] at b6
          cases b6
        · rw [q, hp] at b3
          cases b3
          cases b6
        · rw [b6] at z; cases z
        · rw [b6] at z; cases z
      · obtain ⟨o, es, ep, e2, d2, _⟩ := nsM
        rw [z, hp] at e2
        cases e2
        cases d2
    have z0 : Env0 P w K mg (hidT s₁.heap H) callerA [] s₁ H := ⟨rfl, md, fun b o e => of_hidT e, Nat.le_of_eq (hidT_size _ _), trivial, fun b hb => (nomatch hb), ok, .of_eq noG⟩
    have st := start H hS (fun p hp => hTb _ (by rw [← etb]; exact List.mem_map.mpr ⟨p, hp, rfl⟩)) (fun b ps e => by
      rcases only b _ e with ⟨_, z, _⟩ | ⟨z, _⟩
      · cases z
      · rw [etb]; exact z) (fun b φ e => by
      rcases only b _ e with ⟨_, z, _⟩ | ⟨_, z⟩ <;> cases z)
    refine codeAny_mono ((F _ inH (nsH nsM) tabB).run callerA [] s₁ H ⟨[.ref a], []⟩ [.ref a] [.ref a] _ _ ⟨hr, rfl⟩ z0 (bd s₁ (.ref a)) (.cons rfl .nil) st) fun r s2 h => ?_
    match r, h with
    | .error e, h => exact False.elim h
    | .ok .next, h => exact False.elim h
    | .ok .brk, h => exact False.elim h
    | .ok .cont, h => exact False.elim h
    | .ok (.ret u), ⟨v, H2, os, bare, un, ok2, rr, q⟩ =>
      have q : v = .bl true := q
      subst q
      have eu : u = Value.bool true := rr
      subst eu
      have key : ∀ b o, b ∉ tbs → s₁.heap.get? b = some o → s2.heap.get? b = some o := fun b o nb e => by
        cases q : H b with
        | none => exact un.keep b o e q (fun z => nomatch z) (fun z => nomatch z)
        | some u =>
          rcases only b u q with ⟨z, eu, _⟩ | ⟨z, _⟩
          · subst eu
            obtain ⟨e1, _⟩ := ok b _ q
            obtain ⟨e2, _⟩ := ok2 b _ (un.frzs b obj _ q)
            rw [e] at e1
            cases e1
            exact e2
          · exact (nb z).elim
      have grown : ∀ b ∈ tbs, ∃ more : Array Value, s2.heap.get? b = some (PySem.W.tabObj more) := fun b hb => by
        obtain ⟨more, z⟩ := un.tbls b #[] (hTb b hb)
        exact ⟨_, ok2 b _ z⟩
      refine ⟨rfl, ⟨fun b o e => ?_, fun b o e => ?_⟩, os, bare⟩
      · by_cases hb : b ∈ tbs
        · obtain ⟨t, ht, et⟩ := List.mem_map.mp hb
          obtain ⟨more, hm⟩ := grown b hb
          rw [atT b hb] at e
          cases e
          have hc := ((hT t ht).1.tab (hT t ht).2).isCodeTable
          rw [et] at hc
          exact .inr (.inl ⟨hc, rfl, #[], more, rfl, by rw [Array.empty_append]; exact hm⟩)
        · exact .inl (key b o hb e)
      · by_cases hb : b ∈ tbs
        · obtain ⟨more, hm⟩ := grown b hb
          exact ⟨_, hm⟩
        · exact ⟨o, key b o hb e⟩
  cases hk : K.lookup a with
  | some o =>
    have e := KX a o hk
    rw [ha] at e
    cases e
    refine main (fun b => if b ∈ tbs then some (.tbl #[]) else none) (.inr ⟨vs, hk, hz, rv⟩) (fun b hb => if_pos hb) (fun b u z => ?_) fun b u z => ?_
    · by_cases hb : b ∈ tbs
      · have z2 := (if_pos hb).symm.trans z
        cases z2
        exact atT b hb
      · have z2 := (if_neg hb).symm.trans z
        cases z2
    · by_cases hb : b ∈ tbs
      · have z2 := (if_pos hb).symm.trans z
        cases z2
        exact .inr ⟨hb, rfl⟩
      · have z2 := (if_neg hb).symm.trans z
        cases z2
  | none =>
    refine main (fun b => if b = a then some (.frz obj (.lst (ns.map V.int))) else if b ∈ tbs then some (.tbl #[]) else none) (.inl (.inr ⟨obj, if_pos rfl⟩)) (fun b hb => (if_neg fun z => aT (by rw [← z]; exact hb)).trans (if_pos hb)) (fun b u z => ?_) fun b u z => ?_
    · by_cases hb : b = a
      · have z2 := (if_pos hb).symm.trans z
        cases z2
        subst hb
        exact ⟨ha, hz, vs, _, rv, ha⟩
      · have z1 := (if_neg hb).symm.trans z
        by_cases hb2 : b ∈ tbs
        · have z2 := (if_pos hb2).symm.trans z1
          cases z2
          exact atT b hb2
        · have z2 := (if_neg hb2).symm.trans z1
          cases z2
    · by_cases hb : b = a
      · have z2 := (if_pos hb).symm.trans z
        cases z2
        exact .inl ⟨hb, rfl, hk⟩
      · have z1 := (if_neg hb).symm.trans z
        by_cases hb2 : b ∈ tbs
        · have z2 := (if_pos hb2).symm.trans z1
          cases z2
          exact .inr ⟨hb2, rfl⟩
        · have z2 := (if_neg hb2).symm.trans z1
          cases z2
end
/-- the table of the code object at c -/
def codeTab (K : PySem.W.Frag) (c : Addr) : Option Addr := match K.lookup c with
  | some ⟨_, _, .fields vs, _⟩ => (match (vs[11]? : Option Value) with
    | some (.ref P) => some P
    | _ => none)
  | _ => none
/-- what the top tells of a def that makes lambdas -/
structure TabK (K : PySem.W.Frag) (e : TN) : Prop where
  t : codeTab K e.2.1 = some e.2.2
  c : PySem.W.codeHdIn K e.2.1 e.2.2 = true
  n : K.lookup e.2.2 = none
theorem walk_ofT {l : PySem.W.OpenLaw} {k : Nat} {q : Program} {loose : List Str} {XP : (Str → Option Value) → Heap → Prop} {YP : World → Heap → Prop} {d : DefRec} {K : Params → PySem.W.Frag} {x : Str} {Tn : List TN}
    (hn : l.most = some 63) (hdf : d.params.defaults = []) (hr : Room k callerA)
    (hY : ∀ (w : World) (h : Heap), YP w h → (K w.params).In h) (hTn : ∀ (w : World), ∀ e ∈ Tn, TabK (K w.params) e) (hTab : ∀ (w : World) (h : Heap), YP w h → ∀ e ∈ Tn, h.get? e.2.2 = some (PySem.W.tabObj #[]))
    (F : ∀ (w : World) (mg : Str → Option Value) (fa : Addr) (h : Heap), (K w.params).In h → h.Ns mainGlobals mg → mg d.name = some (.ref fa) →
      ∃ fd : FuncData, (∀ (s : Shared) (u : Value), BindsTo s fd ⟨[u], []⟩ [(x, u)]) ∧
        ∀ base : Heap, (K w.params).In base → base.Ns mainGlobals mg → (∀ e ∈ Tn, TabB base mg e.2.1 e.2.2) → FnG l.prog w (K w.params) mg base k fa fd [x] (spD (theT (tsOf Tn)) (K w.params) FF_lawT))
    : PySem.W.WalkO q loose XP YP l.row.toRowW d [] (fun f vs => PySem.call f vs) := by
  refine Att.attach_call hn hdf fun w s₀ s₁ mg mb fa o pm cd doc a vs ns G Y ho hd hcd hmg hobj hints hlen hg => ?_
  have KX := hY w _ Y
  obtain ⟨fd, hb, hF⟩ := F w mg fa _ KX G.T.g hmg
  have h63 : 63 ≤ sizeLine := by rw [sizeLine_eq]; decide
  have hT : ∀ e ∈ Tn, PySem.W.CodeHd s₁.heap e.2.1 e.2.2 ∧ s₁.heap.get? e.2.2 = some (PySem.W.tabObj #[]) := fun e he => by
    exact ⟨PySem.W.codeHd_of_K KX (hTn w e he).c, hTab w _ Y e he⟩
  exact law_gT KX G.T.g G.T.b G.T.builtins G.T.nolimit hg hT (fun e he => (hTn w e he).n) G.T.bmain hobj hints (Nat.le_trans hlen h63) hr hF hb fun H hS h1 h2 h3 => law_startT hlen hS h1 h2 h3
end Z
namespace Z
open PySem PySem.Spec PyProof.Rows L2
/-! ### defs at the wider store -/
section
variable {P : Program} {w : World} {K : PySem.W.Frag} {mg : Str → Option Value} {base : Heap} {Ts : List (Addr × Str)}
/-- a def of the law (repr may be asked in it, lambdas made) -/
theorem okG {x qual : Str} {st : Stmt} {f : Addr} {fd : FuncData} {N ps : List Str} {k : Nat} {FF : FW T2} (F : Fun K x qual st f fd) (Sc : FnScope N ps (defScope st)) (len : ∀ rs τ Q, FF rs τ Q → rs.length = ps.length) (hl : ps.length ≤ N.length)
    (hbody : ∀ (cdv : Value) (A : Around) (outer : List Env) (s : Shared) (H : Hp) (E : XK) (G : Hp) (Fp : Addr → Prop), fd.code = cdv → RoomG k (A.deeper (PyProof.Rows.envOfC qual (defScope st) s.heap.objs.size f cdv)) →
      ∃ t : WS T2, PSs (cxOf CX0 P w K mg base N qual (defScope st) f cdv A outer s H E).nox (defBody st) (liftS ⟨theT Ts, K, G, Fp, H⟩ t) ∧ ∀ (rs : List SV) (τ : T2) (Qd : SV → T2 → Prop), FF rs τ Qd → t ⟨fun _ τ' => Qd (.d .none) τ', Qd, fun _ _ => False, fun _ _ => False⟩ (rs ++ List.replicate (N.length - rs.length) .no) τ) :
    FnG P w K mg base (k + 1) f fd ps (spD (theT Ts) K FF) := by
  refine fng_of F Sc (fun vs H Q E z9 => by obtain ⟨G, F, τ, rs, Qd, Ha, ok, r, dr, h, fin⟩ := z9; rw [← r.length]; exact len _ _ _ h) fun cdv A outer s H vs Q E hcd hr z9 => ?_
  obtain ⟨G, Fp, τ, rs, Qd, Ha, ok, r, dr, h, fin⟩ := z9
  obtain ⟨t, d, sem⟩ := hbody cdv A outer s H E G Fp hcd hr
  have hle : rs.length ≤ N.length := by rw [len _ _ _ h]; exact hl
  exact ⟨_, d, G, Fp, _, τ, _, ⟨Step.refl _ _ _, ok, env_start (B := ⟨theT Ts, K, G, Fp, H⟩) r dr hle⟩, sem rs τ Qd h,
    ⟨fun G' F' σ' H' env' τ' _ st q => fin (.d .none) τ' G' F' H' .non st.s st.k Rp.non q, fun r τ' G' F' H' v f res q => fin r τ' G' F' H' v f.s f.k res q, fun _ _ _ _ _ _ _ _ q => q.elim, fun _ _ _ _ _ _ _ _ q => q.elim⟩⟩
/-! what is drawn by, at the wider store -/
def FF_begin : FW T2 := fun rs τ Q => ∃ (ns : List Int) (cs : List (Addr × Cel)), rs = [.d (.list (ns.map PyData.int))] ∧ ns.length ≤ 63 ∧ τ = ⟨.off, cs⟩ ∧ ∀ a, Q (.raw (.ref a)) ⟨.on a 1152921504606846976, cs⟩
def FF_next : FW T2 := fun rs τ Q => ∃ (a : Addr) (b : Nat) (n : Int) (cs : List (Addr × Cel)), rs = [.raw (.ref a), .d (.int n)] ∧ τ = ⟨.on a (b + 1), cs⟩ ∧ (0 < n ∧ n < 1073741824) ∧ ∀ r : Int, 0 ≤ r → r < n → Q (.d (.int r)) ⟨.on a b, cs⟩
theorem imp_fr {CX : CXT} {k : Nat} {f : Addr} {fd : FuncData} {ps : List Str} {FF : FW DrT} {FT : FW T2} (F : FnOk P w K mg base CX k f fd ps (spD (theS (Ts.map (·.1))) K FF)) (h : ∀ rs τ Q, FT rs τ Q → frm FF rs τ Q) : FnOk P w K mg base CX k f fd ps (spD (theT Ts) K FT) :=
  F.imp fun vs H Q E z9 => by
    obtain ⟨G, F, τ, rs, Qd, Ha, ok, r, dr, hf, fin⟩ := z9
    exact spD_fr ⟨G, F, τ, rs, Qd, Ha, ok, r, dr, h _ _ _ hf, fin⟩
theorem begin_fr (rs : List SV) (τ : T2) (Q : SV → T2 → Prop) : FF_begin rs τ Q → frm FF__law_begin rs τ Q := by
  rintro ⟨ns, cs, rfl, h, rfl, q⟩
  exact ⟨ns, rfl, h, rfl, fun a => ⟨rfl, q a⟩⟩
theorem next_fr (rs : List SV) (τ : T2) (Q : SV → T2 → Prop) : FF_next rs τ Q → frm FF__law_next rs τ Q := by
  rintro ⟨a, b, n, cs, rfl, rfl, h, q⟩
  exact ⟨a, b, n, rfl, rfl, h, fun r r0 r1 => ⟨rfl, q r r0 r1⟩⟩
end
theorem nextT {a : Addr} {b : Nat} {n : Int} {cs : List (Addr × Cel)} {Q : SV → T2 → Prop} (hb : 1 ≤ b) (h0 : 0 < n) (h1 : n < 1073741824) (h : ∀ r : Int, 0 ≤ r → r < n → Q (.d (.int r)) ⟨.on a (b - 1), cs⟩) : FF_next [.raw (.ref a), .d (.int n)] ⟨.on a b, cs⟩ Q :=
  ⟨a, b - 1, n, cs, rfl, by rw [Nat.sub_add_cancel hb], ⟨h0, h1⟩, h⟩
/-! ### how many there are of a tuple of ints, each once -/
def dis : List Int → List Int
  | [] => []
  | a :: r => if a ∈ r then dis r else a :: dis r
def tupI? : SV → Option (List Int)
  | .d (.tuple xs) => ints? xs
  | _ => none
def dLenSet {T : Type} (te : W T) : W T := fun env τ Q => te env τ fun r τ1 => ∃ ns, tupI? r = some ns ∧ ns.length ≤ 4000 ∧ Q (.d (.int ((dis ns).length : Nat))) τ1
section
variable {X : Cx} {B : Bk} {e : Expr} {te : W B.T}
/-! ### xs[::-1] of a list -/
def dRev {T : Type} (te : W T) : W T := fun env τ Q => te env τ fun r τ1 => opt r.lst? fun xs => Q (.ol xs.reverse) τ1
end
/-! ### repr, of {} too -/
def rReprE (K : PySem.W.Frag) : List V → Hp → VK → Prop := fun xs H Q => rRepr K xs H Q ∨ ∃ a, xs = [.ref a] ∧ H a = some (.dK []) ∧ Q (.str (PyData.dict []).shown) H
theorem cr_reprE {X : Cx} (hg : X.A.guards = some []) (hu : X.A.units + 64 + 1 < cLine) : CallR X (.builtin "repr") (rReprE X.K) := by
  intro pins s σ H xs us Q I r h
  rcases h with h | ⟨a, rfl, hd, q⟩
  · exact cr_repr hg hu pins s σ H xs us Q I r h
  · obtain ⟨u, rfl, ru⟩ := vals1 r
    cases (show u = Value.ref a from ru)
    obtain ⟨_, hsys, vs, kv, o, es, ep, ho, hex, hdt, _, hp, _⟩ := (show ObjOk X.prog X.w H s.heap a (.dK []) from I.hok a _ hd)
    cases kv
    have e0 : es.toList = [] := by
      cases hq : es.toList with
      | nil => rfl
      | cons x r => rw [hq] at hp; cases hp
    have rd : Reads s.heap (.ref a) (.dict []) [a] := by
      have := Reads.dict (h := s.heap) (kvs := []) (as := []) (bs := []) ho hex.1 hdt (by rw [e0]; exact .nil) (by rw [e0]; exact .nil)
      simpa using this
    have hdp : PyData.depth (.dict []) = 1 := by decide
    refine PySem.repr_of_reads' rd rfl (fun _ z => ?_) hg (by rw [hdp]; omega) (fun _ _ e => e) (fun h' t tk hk => ?_) (by decide)
    · rw [List.mem_singleton] at z
      rw [← z] at hsys
      simp at hsys
    · exact ⟨.str _, H, I.kept hk, ⟨t, rfl⟩, q⟩
def gReprE (rs : List SV) (Q : SV → Prop) : Prop := match rs with
  | [.d (.dict [])] => Q (.d (.str (PyData.dict []).shown))
  | rs => gRepr rs Q
theorem cd_reprE {X : Cx} {B : Bk} (hK : X.K = B.K) : CallD B (rReprE X.K) gReprE := fun rs vs Ha G F H τ Qv Q k r h fin => by
  unfold gReprE at h
  split at h
  · obtain ⟨v, rfl, rx⟩ := r.one
    cases (rx : Rp B.K G v (.dict [])) with
    | emp e => exact .inr ⟨_, rfl, k.same _ _ e, fin.d k (.str _) h⟩
  · exact .inl (cd_repr hK rs vs Ha G F H τ Qv Q k r h fin)
end Z
namespace Z
open PySem L2
/-! ### equations for the new readings -/
section
variable {T : Type}
def kCallX (FX : FWX T) (Ed : Z.D → T → Prop) (Q : SV → T → Prop) (rs : List SV) (τ : T) : Prop := rs.all SV.dr = true ∧ FX rs τ Q Ed
theorem dCallX_k (FX : FWX T) (Ed : Z.D → T → Prop) (ta : WA T) (env : List SV) (τ : T) (Q : SV → T → Prop) : dCallX FX Ed ta env τ Q = ta env τ (kCallX FX Ed Q) := rfl
def kIsX (K : PySem.W.Frag) (us : List Value) (Q : SV → T → Prop) (r : SV) (τ : T) : Prop := ∃ (x : Z.D) (C : Addr) (b : Bool), r = .d x ∧ exC? x = some (C : Nat) ∧ ExC K C ∧ PySem.W.kitAny K (.ref C) us = some b ∧ Q (.d (.bool b)) τ
theorem dIsX_k (K : PySem.W.Frag) (us : List Value) (te : W T) (env : List SV) (τ : T) (Q : SV → T → Prop) : dIsX K us te env τ Q = te env τ (kIsX K us Q) := rfl
theorem kIsX_of {K : PySem.W.Frag} {us : List Value} {Q : SV → T → Prop} {x : Z.D} {τ : T} {C : Addr} (b : Bool) (ex : exC? x = some (C : Nat)) (c : ExC K C) (k : PySem.W.kitAny K (.ref C) us = some b) (h : Q (.d (.bool b)) τ) : kIsX K us Q (.d x) τ := ⟨x, C, b, rfl, ex, c, k, h⟩
/-- a lambda, by data -/
def ldOf (tb : (Z.D → T → Prop) → W T) (env : List SV) : LD T := fun τ Q Ed => tb Ed env τ Q
theorem dLam_k (fc : FC T) (tb : (Z.D → T → Prop) → W T) (env : List SV) (τ : T) (Q : SV → T → Prop) : dLam fc tb env τ Q = fc (ldOf tb (env.map capS)) τ Q := rfl
theorem dRaise_k (x : Z.D) (Ed : Z.D → T → Prop) (D : DEnds T) (env : List SV) (τ : T) : dRaise x Ed D env τ = Ed x τ := rfl
def kLenSet (Q : SV → T → Prop) (r : SV) (τ : T) : Prop := ∃ ns, tupI? r = some ns ∧ ns.length ≤ 4000 ∧ Q (.d (.int ((dis ns).length : Nat))) τ
theorem dLenSet_k (te : W T) (env : List SV) (τ : T) (Q : SV → T → Prop) : dLenSet te env τ Q = te env τ (kLenSet Q) := rfl
def kRev (Q : SV → T → Prop) (r : SV) (τ : T) : Prop := opt r.lst? fun xs => Q (.ol xs.reverse) τ
theorem dRev_k (te : W T) (env : List SV) (τ : T) (Q : SV → T → Prop) : dRev te env τ Q = te env τ (kRev Q) := rfl
theorem kRev_1 (Q : SV → T → Prop) (xs : List Z.D) (τ : T) : kRev Q (.vw xs) τ = Q (.ol xs.reverse) τ := rfl
theorem kRev_2 (Q : SV → T → Prop) (xs : List Z.D) (τ : T) : kRev Q (.ol xs) τ = Q (.ol xs.reverse) τ := rfl
theorem kRev_3 (Q : SV → T → Prop) (xs : List Z.D) (τ : T) : kRev Q (.d (.list xs)) τ = Q (.ol xs.reverse) τ := rfl
end
theorem gReprE_e (Q : SV → Prop) : gReprE [.d (.dict [])] Q = Q (.d (.str (PyData.dict []).shown)) := rfl
/-- what can be told -/
def reprOk (d : Z.D) : Prop := d.canLay0 = true ∧ d.showable = true ∧ d.hasDict = false ∧ d.depth ≤ 64 ∧ d.shown.length ≤ sizeLine
theorem gReprE_n (Q : SV → Prop) : gReprE [.d .none] Q = (reprOk .none ∧ Q (.d (.str (PyData.none).shown))) := rfl
theorem gReprE_b (b : Bool) (Q : SV → Prop) : gReprE [.d (.bool b)] Q = (reprOk (.bool b) ∧ Q (.d (.str (PyData.bool b).shown))) := rfl
theorem gReprE_i (i : Int) (Q : SV → Prop) : gReprE [.d (.int i)] Q = (reprOk (.int i) ∧ Q (.d (.str (PyData.int i).shown))) := rfl
theorem gReprE_s (i : Str) (Q : SV → Prop) : gReprE [.d (.str i)] Q = (reprOk (.str i) ∧ Q (.d (.str (PyData.str i).shown))) := rfl
theorem gReprE_l (i : List Z.D) (Q : SV → Prop) : gReprE [.d (.list i)] Q = (reprOk (.list i) ∧ Q (.d (.str (PyData.list i).shown))) := rfl
theorem gReprE_t (i : List Z.D) (Q : SV → Prop) : gReprE [.d (.tuple i)] Q = (reprOk (.tuple i) ∧ Q (.d (.str (PyData.tuple i).shown))) := rfl
theorem gReprE_ol (i : List Z.D) (Q : SV → Prop) : gReprE [.ol i] Q = (reprOk (.list i) ∧ Q (.d (.str (PyData.list i).shown))) := rfl
theorem gReprE_vw (i : List Z.D) (Q : SV → Prop) : gReprE [.vw i] Q = (reprOk (.list i) ∧ Q (.d (.str (PyData.list i).shown))) := rfl
/-! ### a tuple of the module, of ints, truths and texts -/
end Z
namespace Z
open PySem L2
/-! ### what can be told by repr: data of a depth and a weight -/
structure Rb (m w : Nat) (d : D) : Prop where
  lay : d.canLay0 = true
  sh : d.showable = true
  dp : d.depth ≤ m
  st : PyData.intsShort 64 d = true
  wt : d.weight ≤ w
theorem Rb.le {m w m' w' : Nat} {d : D} (h : Rb m w d) (hm : m ≤ m') (hw : w ≤ w') : Rb m' w' d := ⟨h.lay, h.sh, Nat.le_trans h.dp hm, h.st, Nat.le_trans h.wt hw⟩
theorem Rb.rep {m w : Nat} {d : D} (h : Rb m w d) (hm : m ≤ 64) (hw : w ≤ 200000) : reprOk d := by
  refine ⟨h.lay, h.sh, PyData.hasDict_of_canLay d h.lay, Nat.le_trans h.dp hm, ?_⟩
  have := PyData.shown_le 64 (by decide) d (PyData.leavesShort_of_canLay0 64 d h.lay h.st)
  have := h.wt
  rw [sizeLine_eq]
  omega
theorem Rb.none : Rb 0 0 .none := ⟨by rfl, by rfl, by decide, by rfl, by decide⟩
theorem Rb.bool (b : Bool) : Rb 0 0 (.bool b) := ⟨by rfl, by rfl, by simp [PyData.depth], by rfl, by simp [PyData.weight]⟩
theorem Rb.str {s : Str} {n : Nat} (h : okN n s) : Rb 0 n (.str s) := by
  refine ⟨?_, by rfl, by simp [PyData.depth], by rfl, ?_⟩
  · show PyData.strOk s = true
    unfold PyData.strOk
    rw [Array.all_eq_true']
    intro c hc
    exact decide_eq_true (h.2 c (by simpa [cs] using hc))
  · show s.cps.size ≤ n
    have := h.1
    rw [str_len] at this
    simpa [cs] using this
theorem Rb.int {i : Int} (h : i.natAbs < 10 ^ 60) : Rb 0 200 (.int i) := by
  have hl : i.natAbs.log2 < 200 := by
    by_cases h0 : i.natAbs = 0
    · rw [h0]; decide
    · exact (Nat.log2_lt h0).mpr (Nat.lt_trans h (by decide))
  refine ⟨by rfl, ?_, by simp [PyData.depth], ?_, ?_⟩
  · show decide (i.natAbs.log2 < 1920) = true
    exact decide_eq_true (by omega)
  · show decide ((PyData.shown (.int i)).length ≤ 64) = true
    refine decide_eq_true ?_
    have := int_text_length_le10 (k := 60) (by decide) h
    show (Str.ofString (toString i)).length ≤ 64
    rw [ofString_length]
    omega
  · show (if i == 0 then 0 else i.natAbs.log2 + 1) ≤ 200
    split <;> omega
theorem Rb.all {m w : Nat} : ∀ {xs : List D}, (∀ x ∈ xs, Rb m w x) → PyData.canLayAll0 xs = true ∧ PyData.showableAll xs = true ∧ PyData.depthAll xs ≤ m ∧ PyData.intsShortAll 64 xs = true ∧ PyData.weightAll xs ≤ (w + 1) * xs.length
  | [], _ => ⟨rfl, rfl, Nat.zero_le _, rfl, Nat.zero_le _⟩
  | x :: r, h => by
    have hx := h x List.mem_cons_self
    obtain ⟨h1, h2, h3, h4, h5⟩ := Rb.all (xs := r) fun y hy => h y (List.mem_cons_of_mem _ hy)
    refine ⟨?_, ?_, ?_, ?_, ?_⟩
    · rw [PyData.canLayAll0, hx.lay, h1]; rfl
    · rw [PyData.showableAll, hx.sh, h2]; rfl
    · rw [PyData.depthAll]; exact Nat.max_le.mpr ⟨hx.dp, h3⟩
    · rw [PyData.intsShortAll, hx.st, h4]; rfl
    · rw [PyData.weightAll, List.length_cons, Nat.mul_add]
      have := hx.wt
      omega
theorem Rb.tup {m w n : Nat} {xs : List D} (h : ∀ x ∈ xs, Rb m w x) (hl : xs.length ≤ n) : Rb (m + 1) ((w + 1) * n) (.tuple xs) := by
  obtain ⟨h1, h2, h3, h4, h5⟩ := Rb.all h
  have := Nat.mul_le_mul_left (w + 1) hl
  exact ⟨by rw [PyData.canLay0]; exact h1, by rw [PyData.showable]; exact h2, by rw [PyData.depth]; omega, by rw [PyData.intsShort]; exact h4, by rw [PyData.weight]; omega⟩
theorem Rb.lst {m w n : Nat} {xs : List D} (h : ∀ x ∈ xs, Rb m w x) (hl : xs.length ≤ n) : Rb (m + 1) ((w + 1) * n) (.list xs) := by
  obtain ⟨h1, h2, h3, h4, h5⟩ := Rb.all h
  have := Nat.mul_le_mul_left (w + 1) hl
  exact ⟨by rw [PyData.canLay0]; exact h1, by rw [PyData.showable]; exact h2, by rw [PyData.depth]; omega, by rw [PyData.intsShort]; exact h4, by rw [PyData.weight]; omega⟩
end Z
namespace Z
open PySem L2
/-! ### plain lemmas: cuts, pairs, all -/
theorem ints_of {α : Type} (f : α → Int) (l : List α) : ints? (l.map fun x => PyData.int (f x)) = some (l.map f) := by
  induction l with
  | nil => rfl
  | cons a r ih => rw [List.map_cons, ints?, ih]; rfl
theorem ints_mapI (l : List Int) : ints? (l.map PyData.int) = some l := by
  have := ints_of (fun x => x) l
  simpa using this
/-- each number of a row beside each one behind it -/
def pairsB (r : Int → Int → Bool) : List Int → Bool
  | [] => true
  | a :: l => l.all (r a) && pairsB r l
end Z
namespace Z
open PySem PySem.Spec PyProof.Rows L2
/-! ### enumerate(tuple) -/
section
variable {X : Cx} {B : Bk}
def dEnum2 {T : Type} (ta : WA T) : WI T := fun env τ Q => ta env τ fun rs τ1 => ∃ xs, (rs = [.d (.list xs)] ∨ rs = [.d (.tuple xs)]) ∧ Q (enumD xs) τ1
end
section
variable {T : Type}
def kEn2 (Q : List D → T → Prop) (rs : List SV) (τ : T) : Prop := ∃ xs, (rs = [.d (.list xs)] ∨ rs = [.d (.tuple xs)]) ∧ Q (enumD xs) τ
theorem kEn2_l {Q : List D → T → Prop} {xs : List D} {τ : T} : kEn2 Q [.d (.list xs)] τ = Q (enumD xs) τ := by simp [kEn2]
theorem kEn2_t {Q : List D → T → Prop} {xs : List D} {τ : T} : kEn2 Q [.d (.tuple xs)] τ = Q (enumD xs) τ := by simp [kEn2]
theorem dEnum2_k (ta : WA T) (env : List SV) (τ : T) (Q : List D → T → Prop) : dEnum2 ta env τ Q = ta env τ (kEn2 Q) := rfl
end
end Z
namespace Z
open PySem L2
/-! ### tuple.index(text), abs -/
section
variable {X : Cx} {B : Bk} {e : Expr}
def gAbs (rs : List SV) (Q : SV → Prop) : Prop := match rs with
  | [.d (.int i)] => Q (.d (.int (if i < 0 then -i else i)))
  | _ => False
end
/-- NAME.index(text), NAME a tuple of texts of the module -/
def dGIndex {T : Type} (ys : List Str) (te : W T) : W T := fun env τ Q => te env τ fun y τ1 => ∃ (z : Str) (j : Nat), y = .d (.str z) ∧ ys[j]? = some z ∧ (∀ m, m < j → ys[m]? ≠ some z) ∧ Q (.d (.int (j : Nat))) τ1
section
variable {T : Type}
def kGIx (ys : List Str) (Q : SV → T → Prop) (y : SV) (τ : T) : Prop := ∃ (z : Str) (j : Nat), y = .d (.str z) ∧ ys[j]? = some z ∧ (∀ m, m < j → ys[m]? ≠ some z) ∧ Q (.d (.int (j : Nat))) τ
theorem dGIndex_k (ys : List Str) (te : W T) (env : List SV) (τ : T) (Q : SV → T → Prop) : dGIndex ys te env τ Q = te env τ (kGIx ys Q) := rfl
end
theorem gAbs_i (i : Int) (Q : SV → Prop) : gAbs [.d (.int i)] Q = Q (.d (.int (if i < 0 then -i else i))) := rfl
end Z
namespace Z
open PySem PySem.Spec PyProof.Rows L2 PySem.W
/-! ### min, max of a tuple of ints with default= -/
/-- min(row, default=d) -/
def dMnD {T : Type} (f : Int → List Int → Int) (d : Int) (te : W T) : W T := fun env τ Q => te env τ fun r τ1 => ∃ ns, tupI? r = some ns ∧ Q (.d (.int (f d ns))) τ1
section
variable {T : Type}
def kMnD (f : Int → List Int → Int) (d : Int) (Q : SV → T → Prop) (r : SV) (τ : T) : Prop := ∃ ns, tupI? r = some ns ∧ Q (.d (.int (f d ns))) τ
theorem dMnD_k (f : Int → List Int → Int) (d : Int) (te : W T) (env : List SV) (τ : T) (Q : SV → T → Prop) : dMnD f d te env τ Q = te env τ (kMnD f d Q) := rfl
end
end Z
namespace Z
open PySem PySem.Spec PyProof.Rows L2
/-! ### sum, sorted of a list or a tuple of ints -/
section
variable {X : Cx} {B : Bk}
def gSumA (rs : List SV) (Q : SV → Prop) : Prop := match rs with
  | [x] => opt (x.seqd?.bind ints?) fun ns => Q (.d (.int ns.sum))
  | _ => False
end
theorem gSumA_t {ns : List Int} {Q : SV → Prop} : gSumA [.d (.tuple (ns.map .int))] Q = Q (.d (.int ns.sum)) := by
  unfold gSumA
  show opt (ints? (ns.map PyData.int)) _ = _
  rw [ints_mapI]
  rfl
theorem gSumA_ol {ns : List Int} {Q : SV → Prop} : gSumA [.ol (ns.map .int)] Q = Q (.d (.int ns.sum)) := by
  unfold gSumA
  show opt (ints? (ns.map PyData.int)) _ = _
  rw [ints_mapI]
  rfl
theorem gSumA_l {ns : List Int} {Q : SV → Prop} : gSumA [.d (.list (ns.map .int))] Q = Q (.d (.int ns.sum)) := gSumA_ol
theorem gSumA_vw {ns : List Int} {Q : SV → Prop} : gSumA [.vw (ns.map .int)] Q = Q (.d (.int ns.sum)) := gSumA_ol
end Z
namespace Z
open PySem PySem.Spec PyProof.Rows L2
/-! ### list(range(a, b)), tuple(range(a, b)) -/
section
variable {T : Type}
def kRgB (f : List D → SV) (x : SV) (Q : SV → T → Prop) (y : SV) (τ : T) : Prop := ∃ i j : Int, x = .d (.int i) ∧ y = .d (.int j) ∧ RgOk i j ∧ Q (f (rgI i (j - i).toNat)) τ
def kRgA (f : List D → SV) (tb : W T) (env : List SV) (Q : SV → T → Prop) (x : SV) (τ : T) : Prop := tb env τ (kRgB f x Q)
def dRg (f : List D → SV) (ta tb : W T) : W T := fun env τ Q => ta env τ (kRgA f tb env Q)
theorem dRg_k (f : List D → SV) (ta tb : W T) (env : List SV) (τ : T) (Q : SV → T → Prop) : dRg f ta tb env τ Q = ta env τ (kRgA f tb env Q) := rfl
theorem kRgB_k {f : List D → SV} {i j : Int} {Q : SV → T → Prop} {τ : T} : kRgB f (.d (.int i)) Q (.d (.int j)) τ = (RgOk i j ∧ Q (f (rgI i (j - i).toNat)) τ) := by
  refine propext ⟨?_, fun h => ⟨i, j, rfl, rfl, h⟩⟩
  rintro ⟨i', j', e1, e2, h⟩
  cases e1
  cases e2
  exact h
end
section
variable {X : Cx} {B : Bk} {a b c : Expr} {ta : TA} {i j k : Nat} {x y z : Str} {px py pz pt pt2 pos : Pos} {kt k2 : _}
def dNil3 {T : Type} (i j k : Nat) : WS T := fun D env τ => D.nx (((env.set i (.ol [])).set j (.ol [])).set k (.ol [])) τ
end
theorem dNil3_k {T : Type} (i j k : Nat) (D : DEnds T) (env : List SV) (τ : T) : dNil3 i j k D env τ = D.nx (((env.set i (.ol [])).set j (.ol [])).set k (.ol [])) τ := rfl
end Z
namespace Z
open PySem PySem.Spec PyProof.Rows L2
/-! ### t[::-1] of a tuple -/
section
variable {X : Cx} {B : Bk} {e : Expr} {te : W B.T}
def kRevT {T : Type} (Q : SV → T → Prop) (r : SV) (τ : T) : Prop := ∃ xs, r = .d (.tuple xs) ∧ Q (.d (.tuple xs.reverse)) τ
def dRevT {T : Type} (te : W T) : W T := fun env τ Q => te env τ (kRevT Q)
theorem dRevT_k {T : Type} (te : W T) (env : List SV) (τ : T) (Q : SV → T → Prop) : dRevT te env τ Q = te env τ (kRevT Q) := rfl
theorem kRevT_k {T : Type} {Q : SV → T → Prop} {xs : List D} {τ : T} : kRevT Q (.d (.tuple xs)) τ = Q (.d (.tuple xs.reverse)) τ := by
  refine propext ⟨?_, fun h => ⟨xs, rfl, h⟩⟩
  rintro ⟨ys, e, h⟩
  cases e
  exact h
end
end Z
namespace Z
open PySem PySem.Spec PyProof.Rows L2
/-! ### d.update(e), both dicts with keys of the kind of texts and ints -/
/-! ### d != {} -/
/-! ### tables as data -/
def putD (m : List (Key × D)) (k : Key) (v : D) : List (Key × D) := if (m.any fun kv => decide (kv.1 = k)) = true then m.map (fun kv => if kv.1 = k then (kv.1, v) else kv) else m ++ [(k, v)]
def mergeD (m more : List (Key × D)) : List (Key × D) := more.foldl (fun acc kv => putD acc kv.1 kv.2) m
abbrev PrK (K : PySem.W.Frag) (G : Hp) : List (Key × V) → List (Key × D) → Prop := Paired fun (x : Key × V) (y : Key × D) => x.1 = y.1 ∧ Rp K G x.2 y.2
section
variable {K : PySem.W.Frag} {G G' : Hp}
theorem PrK.any : ∀ {kvs : List (Key × V)} {m : List (Key × D)} (k : Key), PrK K G kvs m → (kvs.any fun kv => decide (kv.1 = k)) = m.any fun kv => decide (kv.1 = k)
  | _, _, _, .nil => rfl
  | _, _, k, .cons h t => by rw [List.any_cons, List.any_cons, h.1, PrK.any k t]
theorem PrK.app : ∀ {a b : List (Key × V)} {m n : List (Key × D)}, PrK K G a m → PrK K G b n → PrK K G (a ++ b) (m ++ n)
  | _, _, _, _, .nil, s => s
  | _, _, _, _, .cons h t, s => .cons h (PrK.app t s)
theorem PrK.mono (e : Same G G') {kvs : List (Key × V)} {m : List (Key × D)} (h : PrK K G kvs m) : PrK K G' kvs m := Paired.mapP h fun _ _ z => ⟨z.1, z.2.mono e⟩
theorem PrK.length : ∀ {kvs : List (Key × V)} {m : List (Key × D)}, PrK K G kvs m → kvs.length = m.length
  | _, _, .nil => rfl
  | _, _, .cons _ t => congrArg Nat.succ (PrK.length t)
end
def dKey : D → Option Key
  | .int i => some (.inl i)
  | .str x => some (.inr x)
  | _ => none
def pairD : D → Option (Key × D)
  | .tuple [a, b] => (dKey a).map fun k => (k, b)
  | _ => none
def pairsD : List D → Option (List (Key × D))
  | [] => some []
  | x :: r => (pairD x).bind fun p => (pairsD r).map fun ps => p :: ps
/-! ### dicts of one's own, in the store -/
section
variable {Ts : List (Addr × Str)} {K : PySem.W.Frag} {τ τ' : T2} {G H G' H' : Hp} {F F' : Addr → Prop} {p : Addr}
/-! what was made within a def is forgotten at its end -/
theorem Step.less (s : Step G F H G' F' H') : Step G F H G' F H' := ⟨s.g, s.h, s.gn, fun a h => .inl h, fun a h => h, s.dom⟩
theorem Res.less {Ha : Hp} {F2 : Addr → Prop} (h : ∀ a, F2 a → F a) : ∀ {r : SV} {v : V}, Res K Ha G F H r v → Res K Ha G F2 H r v
  | .no, _, z => z.elim
  | .d _, _, z => z
  | .ol _, _, ⟨p, e, w⟩ => ⟨p, e, w.at', w.g, fun z => w.f (h p z), w.new⟩
  | .vw _, _, ⟨p, vs, e, e2, a, nf⟩ => ⟨p, vs, e, e2, a, fun z => nf (h p z)⟩
  | .raw _, _, z => z
theorem Ok.fewer (k : Ok (theT Ts) K τ G F H) (s : Step G F H G' F' H') (k' : Ok (theT Ts) K τ' G' F' H') (hd : τ'.dr = τ.dr) (hc : ∃ new, τ'.cs = new ++ τ.cs) : Ok (theT Ts) K τ G' F H' := by
  have r : TR Ts K τ G F H := k.r
  have r' : TR Ts K τ' G' F' H' := k'.r
  obtain ⟨new, hc⟩ := hc
  have mem : ∀ e ∈ τ.cs, e ∈ τ'.cs := fun e he => by rw [hc]; exact List.mem_append_right _ he
  refine ⟨k'.same, fun a h => k'.gf a (s.ff a h), fun a h => k'.fh a (s.ff a h), ⟨r.f, ?_, fun e he => r'.cs e (mem e he), r.nd, r'.tb⟩, k'.nt, k'.nx⟩
  have h := r'.dr
  rw [hd] at h
  cases q : τ.dr with
  | off => trivial
  | on a b =>
    rw [q] at h
    exact ⟨h.1, fun e he => h.2 e (mem e he)⟩
def dropF (FF : FW T2) : FW T2 := fun rs τ Q2 => ∃ Q, FF rs τ Q ∧ Q2 = fun r τ' => τ'.dr = τ.dr ∧ (∃ new, τ'.cs = new ++ τ.cs) ∧ Q r τ
theorem spD_drop {FF : FW T2} {vs : List V} {Q : VK} {E : XK} (h : spD (theT Ts) K FF vs H Q E) : spD (theT Ts) K (dropF FF) vs H Q E := by
  obtain ⟨G, F, τ, rs, Qd, Ha, ok, r, dr, hf, fin⟩ := h
  exact ⟨G, F, τ, rs, _, Ha, ok, r, dr, ⟨Qd, hf, rfl⟩, fun r τ' G' F' H' v st ok' res ⟨e1, e2, q⟩ => fin r τ G' F H' v st.less (ok.fewer st ok' e1 e2) (res.less st.ff) q⟩
end
theorem FnG.drop {P : Program} {w : World} {K : PySem.W.Frag} {mg : Str → Option Value} {base : Heap} {Ts : List (Addr × Str)} {k : Nat} {f : Addr} {fd : FuncData} {ps : List Str} {FF : FW T2} (F : FnG P w K mg base k f fd ps (spD (theT Ts) K (dropF FF))) : FnG P w K mg base k f fd ps (spD (theT Ts) K FF) :=
  ⟨fun vs H Q E h => F.len vs H Q E (spD_drop h), fun A st s H as us vs Q E rg z b v h => F.run A st s H as us vs Q E rg z b v (spD_drop h)⟩
/-! ### readings -/
def kNewD (Q : SV → T2 → Prop) (τ : T2) : Prop := ∀ p, p ∉ τ.cs.map (·.1) → Q (.raw (.ref p)) ⟨τ.dr, (p, .dk []) :: τ.cs⟩
def dNewD : W T2 := fun env τ Q => kNewD Q τ
theorem dNewD_k (env : List SV) (τ : T2) (Q : SV → T2 → Prop) : dNewD env τ Q = kNewD Q τ := rfl
/-- d.update(dict(e)) -/
def kUpdD (p : Addr) (m : List (Key × D)) (cs : List (Addr × Cel)) (Q : SV → T2 → Prop) (rs : List SV) (τ1 : T2) : Prop :=
  ∃ xs ps, rs = [.d (.list xs)] ∧ pairsD xs = some ps ∧ τ1.cs = (p, .dk m) :: cs ∧ m.length + ps.length ≤ sizeLine ∧ Q (.d .none) ⟨τ1.dr, (p, .dk (mergeD m (mergeD [] ps))) :: cs⟩
def kUpd0 (ta : WA T2) (env : List SV) (Q : SV → T2 → Prop) (τ : T2) : Option SV → Prop
  | some (.raw (.ref p)) => match τ.cs with
    | (q, .dk m) :: cs => q = p ∧ ta env τ (kUpdD p m cs Q)
    | _ => False
  | _ => False
def dUpdD (i : Nat) (ta : WA T2) : W T2 := fun env τ Q => kUpd0 ta env Q τ env[i]?
theorem dUpdD_k (i : Nat) (ta : WA T2) (env : List SV) (τ : T2) (Q : SV → T2 → Prop) : dUpdD i ta env τ Q = kUpd0 ta env Q τ env[i]? := rfl
theorem kUpd0_1 {ta : WA T2} {env : List SV} {Q : SV → T2 → Prop} {d : DrT} {p : Addr} {m : List (Key × D)} {cs : List (Addr × Cel)} : kUpd0 ta env Q ⟨d, (p, .dk m) :: cs⟩ (some (.raw (.ref p))) = ta env ⟨d, (p, .dk m) :: cs⟩ (kUpdD p m cs Q) := by
  show (p = p ∧ _) = _
  simp
/-- sorted(d) -/
def kSrtD (Q : SV → T2 → Prop) (τ : T2) (m : List (Key × D)) : Prop := ∃ ks : List Int, m.map (·.1) = ks.map Sum.inl ∧ ks.length < 64 ∧ ∀ ys : List Int, ys.Perm ks → ys.Pairwise (· ≤ ·) → Q (.ol (ys.map .int)) τ
def kSrt0 (Q : SV → T2 → Prop) (τ : T2) : Option SV → Prop
  | some (.raw (.ref p)) => match τ.cs with
    | (q, .dk m) :: cs => q = p ∧ kSrtD Q τ m
    | _ => False
  | _ => False
def dSrtD (i : Nat) : W T2 := fun env τ Q => kSrt0 Q τ env[i]?
theorem dSrtD_k (i : Nat) (env : List SV) (τ : T2) (Q : SV → T2 → Prop) : dSrtD i env τ Q = kSrt0 Q τ env[i]? := rfl
theorem kSrt0_1 {Q : SV → T2 → Prop} {d : DrT} {p : Addr} {m : List (Key × D)} {cs : List (Addr × Cel)} : kSrt0 Q ⟨d, (p, .dk m) :: cs⟩ (some (.raw (.ref p))) = kSrtD Q ⟨d, (p, .dk m) :: cs⟩ m := by
  show (p = p ∧ _) = _
  simp
/-- d != {} -/
def kNe0 (Q : Bool → T2 → Prop) (τ : T2) : Option SV → Prop
  | some (.raw (.ref p)) => match τ.cs with
    | (q, .dk m) :: cs => q = p ∧ Q (!m.isEmpty) τ
    | _ => False
  | _ => False
def dNe0 (i : Nat) : WT T2 := fun env τ Q => kNe0 Q τ env[i]?
theorem dNe0_k (i : Nat) (env : List SV) (τ : T2) (Q : Bool → T2 → Prop) : dNe0 i env τ Q = kNe0 Q τ env[i]? := rfl
theorem kNe0_1 {Q : Bool → T2 → Prop} {d : DrT} {p : Addr} {m : List (Key × D)} {cs : List (Addr × Cel)} : kNe0 Q ⟨d, (p, .dk m) :: cs⟩ (some (.raw (.ref p))) = Q (!m.isEmpty) ⟨d, (p, .dk m) :: cs⟩ := by
  show (p = p ∧ _) = _
  simp
end Z
namespace Z
open PySem PySem.Spec PyProof.Rows L2
/-! ### defs as values -/
def fnD (a : Addr) : D := .dict [(.bool true, .int (a : Nat))]
/-- what is known of a def that stands at f -/
structure FunV (P : Program) (w : World) (K : PySem.W.Frag) (mg : Str → Option Value) (base : Heap) (S : Sto) (k : Nat) (f : Addr) (FF : FW S.T) : Prop where
  ex : ∃ j fd ps, j ≤ k ∧ FnOk P w K mg base CX0 j f fd ps (spD S K FF) ∧ PySem.W.keepIn K (.ref f) = true ∧ Binds K fd ps []
structure FunX (P : Program) (w : World) (K : PySem.W.Frag) (mg : Str → Option Value) (base : Heap) (S : Sto) (k : Nat) (f : Addr) (FX : FWX S.T) : Prop where
  ex : ∃ j fd ps, j ≤ k ∧ FnOk P w K mg base (L2.CX P w) j f fd ps (spDX S K FX) ∧ PySem.W.keepIn K (.ref f) = true ∧ Binds K fd ps []
theorem FunV.of {P : Program} {w : World} {K : PySem.W.Frag} {mg : Str → Option Value} {base : Heap} {S : Sto} {x : Str} {ps : List Str} {j k : Nat} {f : Addr} {FF : FW S.T} (h : Known P w K mg base S x ps j FF) (e : mg x = some (.ref f)) (l : j ≤ k) : FunV P w K mg base S k f FF := by
  obtain ⟨f', fd, F, hm, hk, hb⟩ := h.ex
  rw [e] at hm
  cases hm
  exact ⟨j, fd, ps, l, F, hk, hb⟩
theorem FunX.of {P : Program} {w : World} {K : PySem.W.Frag} {mg : Str → Option Value} {base : Heap} {S : Sto} {x : Str} {ps : List Str} {j k : Nat} {f : Addr} {FX : FWX S.T} (h : KnownX P w K mg base S x ps j FX) (e : mg x = some (.ref f)) (l : j ≤ k) : FunX P w K mg base S k f FX := by
  obtain ⟨f', fd, F, hm, hk, hb⟩ := h.ex
  rw [e] at hm
  cases hm
  exact ⟨j, fd, ps, l, F, hk, hb⟩
def kCallV {T : Type} (fs : List (Addr × FW T)) (ta : WA T) (env : List SV) (Q : SV → T → Prop) (τ : T) (sv : Option SV) : Prop := ∃ f FF, sv = some (.d (fnD f)) ∧ (f, FF) ∈ fs ∧ dCall FF ta env τ Q
def dCallV {T : Type} (i : Nat) (fs : List (Addr × FW T)) (ta : WA T) : W T := fun env τ Q => kCallV fs ta env Q τ env[i]?
theorem dCallV_k {T : Type} (i : Nat) (fs : List (Addr × FW T)) (ta : WA T) (env : List SV) (τ : T) (Q : SV → T → Prop) : dCallV i fs ta env τ Q = kCallV fs ta env Q τ env[i]? := rfl
def kCallVX {T : Type} (fs : List (Addr × FWX T)) (Ed : D → T → Prop) (ta : WA T) (env : List SV) (Q : SV → T → Prop) (τ : T) (sv : Option SV) : Prop := ∃ f FF, sv = some (.d (fnD f)) ∧ (f, FF) ∈ fs ∧ dCallX FF Ed ta env τ Q
def dCallVX {T : Type} (i : Nat) (fs : List (Addr × FWX T)) (Ed : D → T → Prop) (ta : WA T) : W T := fun env τ Q => kCallVX fs Ed ta env Q τ env[i]?
theorem dCallVX_k {T : Type} (i : Nat) (fs : List (Addr × FWX T)) (Ed : D → T → Prop) (ta : WA T) (env : List SV) (τ : T) (Q : SV → T → Prop) : dCallVX i fs Ed ta env τ Q = kCallVX fs Ed ta env Q τ env[i]? := rfl
/-! ### walks over what α's tell -/
end Z
namespace Z
open PySem PySem.Spec PyProof.Rows L2
/-! ### xs.count(d) of a list -/
def dCnt {T : Type} (te : W T) (ta : WA T) : W T := fun env τ Q => te env τ fun r τ1 => ∃ xs, r.lst? = some xs ∧ ta env τ1 fun rs τ2 => ∃ d, rs = [.d d] ∧ PyData.canLayAll0 xs = true ∧ d.canLay0 = true ∧ d.depth ≤ 8 ∧ Q (.d (.int (xs.countP fun y => PyData.eqv y d : Nat))) τ2
def kCnt2 {T : Type} (xs : List D) (Q : SV → T → Prop) (rs : List SV) (τ2 : T) : Prop := ∃ d, rs = [.d d] ∧ PyData.canLayAll0 xs = true ∧ d.canLay0 = true ∧ d.depth ≤ 8 ∧ Q (.d (.int (xs.countP fun y => PyData.eqv y d : Nat))) τ2
def kCntB {T : Type} (ta : WA T) (env : List SV) (Q : SV → T → Prop) (τ1 : T) : Option (List D) → Prop
  | some xs => ta env τ1 (kCnt2 xs Q)
  | none => False
def kCnt1 {T : Type} (ta : WA T) (env : List SV) (Q : SV → T → Prop) (r : SV) (τ1 : T) : Prop := kCntB ta env Q τ1 r.lst?
theorem dCnt_k {T : Type} (te : W T) (ta : WA T) (env : List SV) (τ : T) (Q : SV → T → Prop) : dCnt te ta env τ Q = te env τ (kCnt1 ta env Q) := by
  unfold dCnt
  congr 1
  funext r τ1
  unfold kCnt1 kCntB
  cases r.lst? with
  | none => simp
  | some xs =>
    simp only [Option.some.injEq, exists_eq_left']
    rfl
theorem kCnt1_1 {T : Type} {ta : WA T} {env : List SV} {Q : SV → T → Prop} {xs : List D} {τ : T} : kCnt1 ta env Q (.ol xs) τ = ta env τ (kCnt2 xs Q) := rfl
theorem kCnt1_2 {T : Type} {ta : WA T} {env : List SV} {Q : SV → T → Prop} {xs : List D} {τ : T} : kCnt1 ta env Q (.vw xs) τ = ta env τ (kCnt2 xs Q) := rfl
theorem kCnt1_3 {T : Type} {ta : WA T} {env : List SV} {Q : SV → T → Prop} {xs : List D} {τ : T} : kCnt1 ta env Q (.d (.list xs)) τ = ta env τ (kCnt2 xs Q) := rfl
/-! ### walks over what stands there, turn by turn -/
section
variable {T : Type} {t : Tg} {tt : WT T} {te : W T} {Q : List D → T → Prop} {x y : Z.D} {xs acc : List Z.D} {env : List SV} {τ : T} {tb : WS T} {D : DEnds T}
def kLcY (t : Tg) (tt : WT T) (te : W T) (Q : List Z.D → T → Prop) (xs acc : List Z.D) (env : List SV) : Z.D → T → Prop := fun y τ => acc.length < sizeLine ∧ lcW t tt te Q xs (acc ++ [y]) env τ
def kLcN (t : Tg) (tt : WT T) (te : W T) (Q : List Z.D → T → Prop) (xs acc : List Z.D) (env : List SV) : T → Prop := fun τ => lcW t tt te Q xs acc env τ
theorem lcW_c : lcW t tt te Q (x :: xs) acc env τ = kTgB tt te (kLcY t tt te Q xs acc env) (kLcN t tt te Q xs acc env) τ (tgE t x env) := by
  show opt (tgE t x env) _ = _
  cases e : tgE t x env with
  | none => rfl
  | some a =>
    show tt a τ _ = tt a τ _
    congr 1
    funext b τ1
    unfold kTurn
    congr 1
    congr 1
    funext r τ2
    exact opt_e (fun _ => rfl) rfl
theorem lcW_n : lcW t tt te Q [] acc env τ = Q acc τ := rfl
theorem kLcY_e : kLcY t tt te Q xs acc env y τ = (acc.length < sizeLine ∧ lcW t tt te Q xs (acc ++ [y]) env τ) := rfl
theorem kLcN_e : kLcN t tt te Q xs acc env τ = lcW t tt te Q xs acc env τ := rfl
def kForN (t : Tg) (tb : WS T) (D : DEnds T) (xs : List Z.D) : List SV → T → Prop := fun env τ => forW t tb D xs env τ
theorem forW_c : forW t tb D (x :: xs) env τ = kFtB tb ⟨kForN t tb D xs, D.rt, D.nx, kForN t tb D xs⟩ τ (tgE t x env) := by
  show opt (tgE t x env) _ = _
  cases e : tgE t x env with
  | none => rfl
  | some a => rfl
theorem forW_n : forW t tb D [] env τ = D.nx env τ := rfl
theorem kForN_e : kForN t tb D xs env τ = forW t tb D xs env τ := rfl
theorem szl : 0 < sizeLine ∧ 1 < sizeLine ∧ 2 < sizeLine ∧ 3 < sizeLine ∧ 4 < sizeLine ∧ 5 < sizeLine ∧ 6 < sizeLine ∧ 7 < sizeLine ∧ 8 < sizeLine ∧ 9 < sizeLine := by
  rw [sizeLine_eq]
  decide
end
/-! ### a, b, .. = a list -/
def kUnl2 {T : Type} (D : DEnds T) (τ : T) : Option (List SV) → Prop
  | some env => D.nx env τ
  | none => False
def kUnl1 {T : Type} (ts : List Tg) (D : DEnds T) (env : List SV) (τ : T) : Option (List Z.D) → Prop
  | some xs => kUnl2 D τ (tgEs ts xs env)
  | none => False
def kUnl {T : Type} (ts : List Tg) (D : DEnds T) (env : List SV) (r : SV) (τ : T) : Prop := kUnl1 ts D env τ r.lst?
def dAsgL {T : Type} (ts : List Tg) (te : W T) : WS T := fun D env τ => te env τ (kUnl ts D env)
theorem dAsgL_k {T : Type} (ts : List Tg) (te : W T) (D : DEnds T) (env : List SV) (τ : T) : dAsgL ts te D env τ = te env τ (kUnl ts D env) := rfl
theorem kUnl_1 {T : Type} {ts : List Tg} {D : DEnds T} {env : List SV} {xs : List Z.D} {τ : T} : kUnl ts D env (.ol xs) τ = kUnl2 D τ (tgEs ts xs env) := rfl
theorem kUnl_2 {T : Type} {ts : List Tg} {D : DEnds T} {env : List SV} {xs : List Z.D} {τ : T} : kUnl ts D env (.d (.list xs)) τ = kUnl2 D τ (tgEs ts xs env) := rfl
theorem kUnl2_1 {T : Type} {D : DEnds T} {env : List SV} {τ : T} : kUnl2 D τ (some env) = D.nx env τ := rfl
end Z
namespace Z
open PySem PySem.Spec PyProof.Rows L2
/-! ### list(range(n)), tuple(range(n)) -/
def kRg1B {T : Type} (f : List D → SV) (Q : SV → T → Prop) (x : SV) (τ : T) : Prop := ∃ j : Int, x = .d (.int j) ∧ RgOk 0 j ∧ Q (f (rgI 0 (j - 0).toNat)) τ
def dRg1 {T : Type} (f : List D → SV) (ta : W T) : W T := fun env τ Q => ta env τ (kRg1B f Q)
theorem dRg1_k {T : Type} (f : List D → SV) (ta : W T) (env : List SV) (τ : T) (Q : SV → T → Prop) : dRg1 f ta env τ Q = ta env τ (kRg1B f Q) := rfl
theorem kRg1B_k {T : Type} {f : List D → SV} {j : Int} {Q : SV → T → Prop} {τ : T} : kRg1B f Q (.d (.int j)) τ = (RgOk 0 j ∧ Q (f (rgI 0 (j - 0).toNat)) τ) := by
  refine propext ⟨?_, fun h => ⟨j, rfl, h⟩⟩
  rintro ⟨j', e1, h⟩
  cases e1
  exact h
/-! ### (x,) * n, n 0 and 1 too -/
end Z
namespace Z
open PySem PySem.Spec PyProof.Rows L2
/-! ### cells found by where they stand -/
def cget : List (Addr × Cel) → Addr → Option Cel
  | [], _ => none
  | (q, c) :: r, p => if q = p then some c else cget r p
def cset : List (Addr × Cel) → Addr → Cel → List (Addr × Cel)
  | [], _, _ => []
  | (q, c0) :: r, p, c => if q = p then (q, c) :: r else (q, c0) :: cset r p c
/-! ### tables with tuples of ints as keys -/
abbrev PrT (K : PySem.W.Frag) (G : Hp) : List (List Key × V) → List (List Key × D) → Prop := Paired fun (x : List Key × V) (y : List Key × D) => x.1 = y.1 ∧ Rp K G x.2 y.2
def putT (m : List (List Key × D)) (k : List Key) (v : D) : List (List Key × D) := if (m.any fun kv => decide (kv.1 = k)) = true then m.map (fun kv => if kv.1 = k then (kv.1, v) else kv) else m ++ [(k, v)]
section
variable {K : PySem.W.Frag} {G G' : Hp}
theorem PrT.any : ∀ {kvs : List (List Key × V)} {m : List (List Key × D)} (k : List Key), PrT K G kvs m → (kvs.any fun kv => decide (kv.1 = k)) = m.any fun kv => decide (kv.1 = k)
  | _, _, _, .nil => rfl
  | _, _, k, .cons h t => by rw [List.any_cons, List.any_cons, h.1, PrT.any k t]
theorem PrT.app : ∀ {a b : List (List Key × V)} {m n : List (List Key × D)}, PrT K G a m → PrT K G b n → PrT K G (a ++ b) (m ++ n)
  | _, _, _, _, .nil, s => s
  | _, _, _, _, .cons h t, s => .cons h (PrT.app t s)
theorem PrT.length : ∀ {kvs : List (List Key × V)} {m : List (List Key × D)}, PrT K G kvs m → kvs.length = m.length
  | _, _, .nil => rfl
  | _, _, .cons _ t => congrArg Nat.succ (PrT.length t)
theorem PrK.val : ∀ {kvs : List (Key × V)} {m : List (Key × D)} (k : Key), PrK K G kvs m → (valV kvs k).isSome = m.any fun kv => decide (kv.1 = k)
  | kvs, m, k, h => by rw [← valV_any, h.any k]
end
/-! ### a def that is never called -/
theorem u1 {n : Nat} (h : n + 64 + 1 < cLine) : n + 1 < cLine := by omega
end Z
namespace Z
open PySem PySem.Spec PyProof.Rows L2
/-! ### a table of two tables: {a: {}, b: {}} -/
/-- what is put into the table at q -/
def kPutC (Q : List (Addr × Cel) → Prop) (cs : List (Addr × Cel)) (q : Addr) (key v : D) : Prop := match cget cs q with
  | some (.dt m) => ∃ ks : List Int, key = .tuple (ks.map .int) ∧ m.length < sizeLine ∧ Q (cset cs q (.dt (putT m (ks.map Sum.inl) v)))
  | some (.dk m) => ∃ k, dKey key = some k ∧ m.length < sizeLine ∧ Q (cset cs q (.dk (putD m k v)))
  | _ => False
/-! ### what is never come to -/
/-! ### x in a list of data -/
/-! ### a, b = [], e -/
end Z
/-! DnC: calls by the arguments' names, nothing by position -/
namespace Z
open PySem PySem.Spec PyProof.Rows L2
/-- the values in the parameters' order -/
def kwg (sw : Bool) {α : Type} (l : List α) : List α := if sw then l.reverse else l
def KwB (K : PySem.W.Frag) (fd : FuncData) (ps ks : List Str) (sw : Bool) : Prop := KBinds K fd ps ks (fun us ws => us ++ kwg sw ws) (fun us ws => us ++ kwg sw ws)
structure KnKX (P : Program) (w : World) (K : PySem.W.Frag) (mg : Str → Option Value) (base : Heap) (S : Sto) (x : Str) (ps ks : List Str) (sw : Bool) (k : Nat) (FX : FWX S.T) : Prop where
  ex : ∃ f fd, FnOk P w K mg base (L2.CX P w) k f fd ps (spDX S K FX) ∧ mg x = some (.ref f) ∧ PySem.W.keepIn K (.ref f) = true ∧ KwB K fd ps ks sw
structure FunKX (P : Program) (w : World) (K : PySem.W.Frag) (mg : Str → Option Value) (base : Heap) (S : Sto) (ks : List Str) (sw : Bool) (k : Nat) (f : Addr) (FX : FWX S.T) : Prop where
  ex : ∃ j fd ps, j ≤ k ∧ FnOk P w K mg base (L2.CX P w) j f fd ps (spDX S K FX) ∧ PySem.W.keepIn K (.ref f) = true ∧ KwB K fd ps ks sw
theorem FunKX.of {P : Program} {w : World} {K : PySem.W.Frag} {mg : Str → Option Value} {base : Heap} {S : Sto} {x : Str} {ps ks : List Str} {sw : Bool} {j k : Nat} {f : Addr} {FX : FWX S.T} (h : KnKX P w K mg base S x ps ks sw j FX) (e : mg x = some (.ref f)) (l : j ≤ k) : FunKX P w K mg base S ks sw k f FX := by
  obtain ⟨f', fd, F, hm, hk, hb⟩ := h.ex
  rw [e] at hm
  cases hm
  exact ⟨j, fd, ps, l, F, hk, hb⟩
section
variable {X : Cx} {B : Bk} {e : Expr} {pos p kpos : Pos} {kws : List Keyword} {t : W B.T} {ta tk : WA B.T} {FX : FWX B.S.T} {Ed : Z.D → B.T → Prop} {E : XK} {ps ks : List Str} {k : Nat} {x : Str} {sw : Bool} {nm : Option Str}
theorem ResAll.append {K : PySem.W.Frag} {Ha G : Hp} {F : Addr → Prop} {H : Hp} : ∀ {rs qs : List SV} {vs us : List V}, ResAll K Ha G F H rs vs → ResAll K Ha G F H qs us → ResAll K Ha G F H (rs ++ qs) (vs ++ us)
  | _, _, _, _, .nil, h => h
  | _, _, _, _, .cons a t, h => .cons a (t.append h)
end
end Z
/-! DnD: repr of tuples with {} inside -/
namespace Z
open PySem PySem.Spec PyProof.Rows L2
mutual
/-- no list within, each dict is empty -/
def tdk : Z.D → Bool
  | .list _ => false
  | .dict [] => true
  | .dict (_ :: _) => false
  | .tuple xs => tdkAll xs
  | .none => true
  | .bool _ => true
  | .int _ => true
  | .str _ => true
def tdkAll : List Z.D → Bool
  | [] => true
  | x :: xs => tdk x && tdkAll xs
end
structure reprT (d : Z.D) : Prop where
  tup : ∃ xs, d = .tuple xs
  tk : tdk d = true
  sh : d.showable = true
  dp : d.depth ≤ 64
  sz : d.shown.length ≤ sizeLine
/-! ### what can be told so -/
structure Rt (m w : Nat) (d : Z.D) : Prop where
  tk : tdk d = true
  sh : d.showable = true
  dp : d.depth ≤ m
  st : d.leavesShort 64 = true
  wt : d.weight ≤ w
theorem Rt.le {m w m' w' : Nat} {d : Z.D} (h : Rt m w d) (hm : m ≤ m') (hw : w ≤ w') : Rt m' w' d := ⟨h.tk, h.sh, Nat.le_trans h.dp hm, h.st, Nat.le_trans h.wt hw⟩
theorem Rt.of {m w : Nat} {d : Z.D} (h : Rb m w d) (t : tdk d = true) : Rt m w d := ⟨t, h.sh, h.dp, PyData.leavesShort_of_canLay0 64 d h.lay h.st, h.wt⟩
theorem Rt.emp : Rt 1 0 (.dict []) := ⟨by rfl, by rfl, by decide, by rfl, by decide⟩
theorem Rt.all {m w : Nat} : ∀ {xs : List Z.D}, (∀ x ∈ xs, Rt m w x) → tdkAll xs = true ∧ PyData.showableAll xs = true ∧ PyData.depthAll xs ≤ m ∧ PyData.leavesShortAll 64 xs = true ∧ PyData.weightAll xs ≤ (w + 1) * xs.length
  | [], _ => ⟨rfl, rfl, Nat.zero_le _, rfl, Nat.zero_le _⟩
  | x :: r, h => by
    have hx := h x List.mem_cons_self
    obtain ⟨h1, h2, h3, h4, h5⟩ := Rt.all (xs := r) fun y hy => h y (List.mem_cons_of_mem _ hy)
    have := hx.dp
    have := hx.wt
    refine ⟨by rw [tdkAll, hx.tk, h1]; rfl, by rw [PyData.showableAll, hx.sh, h2]; rfl, by rw [PyData.depthAll]; omega, by rw [PyData.leavesShortAll, hx.st, h4]; rfl, ?_⟩
    rw [PyData.weightAll, List.length_cons, Nat.mul_add, Nat.mul_one]
    omega
theorem Rt.tup {m w n : Nat} {xs : List Z.D} (h : ∀ x ∈ xs, Rt m w x) (hl : xs.length ≤ n) : Rt (m + 1) ((w + 1) * n) (.tuple xs) := by
  obtain ⟨h1, h2, h3, h4, h5⟩ := Rt.all h
  have := Nat.mul_le_mul_left (w + 1) hl
  exact ⟨by rw [tdk]; exact h1, by rw [PyData.showable]; exact h2, by rw [PyData.depth]; omega, by rw [PyData.leavesShort]; exact h4, by rw [PyData.weight]; omega⟩
theorem Rt.rep {m w : Nat} {xs : List Z.D} (h : Rt m w (.tuple xs)) (hm : m ≤ 64) (hw : w ≤ 200000) : reprT (.tuple xs) := by
  refine ⟨⟨xs, rfl⟩, h.tk, h.sh, Nat.le_trans h.dp hm, ?_⟩
  have := PyData.shown_le 64 (by decide) _ h.st
  have := h.wt
  rw [sizeLine_eq]
  omega
end Z
/-! DnE: instances of the program's own classes, as cells -/
namespace Z
open PySem PySem.Spec PyProof.Rows L2
/-! ### fields -/
abbrev PrI (K : PySem.W.Frag) (G : Hp) : List (Str × V) → List (Str × SV) → Prop := Paired (fun (x : Str × V) (y : Str × SV) => x.1 = y.1 ∧ FvR K G x.2 y.2)
theorem PrI.length {K : PySem.W.Frag} {G : Hp} : ∀ {fv : List (Str × V)} {fs : List (Str × SV)}, PrI K G fv fs → fv.length = fs.length
  | _, _, .nil => rfl
  | _, _, .cons _ t => congrArg Nat.succ (PrI.length t)
theorem PrI.mono {K : PySem.W.Frag} {G G' : Hp} (sm : Same G G') {fv : List (Str × V)} {fs : List (Str × SV)} (h : PrI K G fv fs) : PrI K G' fv fs := Paired.mapP h fun _ _ z => ⟨z.1, z.2.mono sm⟩
/-! ### cells of its own are forgotten at a def's end -/
theorem FnOk.drop {P : Program} {w : World} {K : PySem.W.Frag} {mg : Str → Option Value} {base : Heap} {Ts : List (Addr × Str)} {k : Nat} {f : Addr} {fd : FuncData} {ps : List Str} {FF : FW T2} (F : FnOk P w K mg base CX0 k f fd ps (spD (theT Ts) K (dropF FF))) : FnOk P w K mg base CX0 k f fd ps (spD (theT Ts) K FF) :=
  ⟨fun vs H Q E h => F.len vs H Q E (spD_drop h), fun A st s H as us vs Q E rg z b v h => F.run A st s H as us vs Q E rg z b v (spD_drop h)⟩
end Z
/-! DnF: fields that hold a list of one's own -/
namespace Z
open PySem PySem.Spec PyProof.Rows L2
/-- a statement of a class's body -/
def subS (s : Stmt) (j : Nat) : Stmt := match s with
  | .ClassDef (body := b) .. => b.getD j (.Pass ⟨0, 0, 0, 0⟩)
  | _ => .Pass ⟨0, 0, 0, 0⟩
end Z
/-! DnG: three comparisons in a row, text.split(sign), {..}[w], X(), o.f == [] -/
/-! ### set(xs), xs a list of ints, in an order that is known -/
namespace Z
open PySem PySem.Spec PySem.Calls PyProof.Rows L2
/-! ### sorted(set(xs)) -/
def kSrtSet {T : Type} (Q : SV → T → Prop) (r : SV) (τ : T) : Prop := ∃ ns : List Int, r.lst? = some (ns.map .int) ∧ ns.length < 64 ∧ ∀ ms : List Int, ms.Pairwise (· < ·) → (∀ k, k ∈ ms ↔ k ∈ ns) → Q (.ol (ms.map .int)) τ
def dSrtSet {T : Type} (te : W T) : W T := fun env τ Q => te env τ (kSrtSet Q)
theorem dSrtSet_k {T : Type} (te : W T) (env : List SV) (τ : T) (Q : SV → T → Prop) : dSrtSet te env τ Q = te env τ (kSrtSet Q) := rfl
/-! ### x[k], x[j] = (a, b) -/
end Z
/-! ### `a if c else b` as a test -/
namespace L2
open PySem PySem.Spec PyProof.Rows
end L2
namespace Z
open PySem PySem.Spec PyProof.Rows L2 LamX
/-! ### try: any statements / except C as n: kept = n -/
theorem SvR.back {K : PySem.W.Frag} {H0 H1 G F H o} (b : ∀ a, H0 a = none → H1 a = none) : ∀ {s : SV}, SvR K H0 G F H s o → SvR K H1 G F H s o
  | .no, _ => trivial
  | .d _, h => h
  | .ol _, ⟨p, e, w⟩ => ⟨p, e, w.at', w.g, w.f, b p w.new⟩
  | .vw _, h => h.elim
  | .raw _, h => h
theorem EnvR.back {K : PySem.W.Frag} {H0 H1 G F H σ env} (b : ∀ a, H0 a = none → H1 a = none) (e : EnvR K H0 G F H σ env) : EnvR K H1 G F H σ env :=
  ⟨e.len, fun i s h => (e.at' i s h).back b, e.sep⟩
end Z
namespace Z
open PySem PySem.Spec PyProof.Rows L2
/-! ### d[k] = v for a dict of one's own with numbers for keys -/
def kPutN2 (p : Addr) (D : DEnds T2) (env : List SV) (xv : Z.D) (y : SV) (τ2 : T2) : Prop :=
  ∃ n m cs, y = .d (.int n) ∧ τ2.cs = (p, .dk m) :: cs ∧ m.length < sizeLine ∧ D.nx env ⟨τ2.dr, (p, .dk (putD m (.inl n) xv)) :: cs⟩
def kPutN1 (i : Nat) (te : W T2) (D : DEnds T2) (env : List SV) (v : SV) (τ1 : T2) : Prop :=
  ∃ xv p, v = .d xv ∧ env[i]? = some (.raw (.ref p)) ∧ te env τ1 (kPutN2 p D env xv)
def dPutN (i : Nat) (te tv : W T2) : WS T2 := fun D env τ => tv env τ (kPutN1 i te D env)
theorem dPutN_k (i : Nat) (te tv : W T2) (D : DEnds T2) (env : List SV) (τ : T2) : dPutN i te tv D env τ = tv env τ (kPutN1 i te D env) := rfl
theorem kPutN1_1 {i : Nat} {te : W T2} {D : DEnds T2} {env : List SV} {xv : Z.D} {τ1 : T2} : kPutN1 i te D env (.d xv) τ1 = ∃ p, env[i]? = some (.raw (.ref p)) ∧ te env τ1 (kPutN2 p D env xv) := by
  unfold kPutN1
  apply propext
  constructor
  · rintro ⟨x, p, e, h⟩
    cases e
    exact ⟨p, h⟩
  · rintro ⟨p, h⟩
    exact ⟨xv, p, rfl, h⟩
theorem kPutN2_1 {p : Addr} {D : DEnds T2} {env : List SV} {xv : Z.D} {n : Int} {d : DrT} {m : List (Key × Z.D)} {cs : List (Addr × Cel)} : kPutN2 p D env xv (.d (.int n)) ⟨d, (p, .dk m) :: cs⟩ = (m.length < sizeLine ∧ D.nx env ⟨d, (p, .dk (putD m (.inl n) xv)) :: cs⟩) := by
  unfold kPutN2
  apply propext
  constructor
  · rintro ⟨n, m, cs, e, e2, h⟩
    cases e
    cases e2
    exact h
  · exact fun h => ⟨n, m, cs, rfl, rfl, h⟩
/-! ### d[k] = v, d any dict of one's own (kPutC: numbers, texts, or tuples of numbers for keys) -/
def kPutV2 (p : Addr) (D : DEnds T2) (env : List SV) (dv : Z.D) (rk : SV) (τ2 : T2) : Prop := ∃ key, rk = .d key ∧ kPutC (fun cs => D.nx env ⟨τ2.dr, cs⟩) τ2.cs p key dv
def kPutV1 (i : Nat) (tk : W T2) (D : DEnds T2) (env : List SV) (rv : SV) (τ1 : T2) : Prop := ∃ dv p, rv = .d dv ∧ env[i]? = some (.raw (.ref p)) ∧ tk env τ1 (kPutV2 p D env dv)
def dPutV (i : Nat) (tk tv : W T2) : WS T2 := fun D env τ => tv env τ (kPutV1 i tk D env)
theorem dPutV_k (i : Nat) (tk tv : W T2) (D : DEnds T2) (env : List SV) (τ : T2) : dPutV i tk tv D env τ = tv env τ (kPutV1 i tk D env) := rfl
end Z
namespace Z
open PySem PySem.Spec PyProof.Rows L2
/-! ### a dict with tuples for keys is walked -/
/-! ### calls by the arguments' names of what lets nothing out: two the other way round, or four as sums_of has them -/
def kwx {α : Type} (l : List α) : List α := match l with
  | [a, b] => [b, a]
  | [a, b, c, d] => [d, a, c, b]
  | _ => []
def kwxA {T : Type} (ta : WA T) : WA T := fun env τ Q => ta env τ fun rs τ1 => Q (kwx rs) τ1
def kKwx {T : Type} (Q : List SV → T → Prop) (rs : List SV) (τ : T) : Prop := Q (kwx rs) τ
theorem kwxA_k {T : Type} (ta : WA T) (env : List SV) (τ : T) (Q : List SV → T → Prop) : kwxA ta env τ Q = ta env τ (kKwx Q) := rfl
theorem kKwx_2 {T : Type} (Q : List SV → T → Prop) (a b : SV) (τ : T) : kKwx Q [a, b] τ = Q [b, a] τ := rfl
theorem kKwx_4 {T : Type} (Q : List SV → T → Prop) (a b c d : SV) (τ : T) : kKwx Q [a, b, c, d] τ = Q [d, a, c, b] τ := rfl
/-! ### what was made within a def that draws is forgotten at its end -/
/-! ### the rules for walks over such a dict -/
end Z
/-! DnO: exceptions made as values; classes of exceptions with an own __init__; their fields read -/
namespace Z
open PySem PySem.Spec PyProof.Rows L2
section
variable {X : Cx} {o e : Expr} {es : List Expr} {te : TE} {ta : TA} {f x : Str} {p p1 p2 pos : Pos} {C R : Addr} {mc : Value}
/-- R.__init__(self, ..), R a class of the program whose __init__ is ValueError's -/
theorem pe_rinit {pl : Sem Bool} (hg : Gl X x) (hm : X.mg x = some (.ref R)) (rd : PySem.W.readsIn X.K R mc = true) (ga : PySem.W.specialIn X.K (.ref R) "__getattribute__" = some (some (.builtin "type.__getattribute__")))
    (at_ : PySem.W.findCls X.K (.ref R) mc "__init__" = some (.val (.builtin "ValueError.__init__"))) (ha : PA X (e :: es) ta)
    (hdb : (x == ("__debug__" : Str)) = false := by decide)
    (hc : eval (.Call (.Attribute (.Name x p1) "__init__" p2) (e :: es) [] pos) X.env = (do
      let ov ← eval (.Name x p1) X.env
      standAt p2.atName
      let (f, first) ← holding [ov] (getMethod ov "__init__" pl)
      callWith pos f first (backTo pos (starEach (e :: es) X.env)) (backToKw pos (keywordEach [] X.env))) := by rfl)
    (he : starEach (e :: es) X.env = (false, eval e X.env) :: starEach es X.env := by rfl) (hpl : (backTo pos (starEach es X.env)).any (·.1) = false := by rfl) :
    PE X (.Call (.Attribute (.Name x p1) "__init__" p2) (e :: es) [] pos) (tVeI X.K ta) := by
  refine ⟨fun pins s σ H Q I h => ?_⟩
  refine PySem.W.methodCall_KW (ld_glob I hg hm ?_ hdb) hc
  refine PySem.W.method_cls I.kIn ga (PySem.W.cls_value I.kIn rd at_ (by rfl) ?_)
  refine PyProof.Rows.callWith_method1 (thn (ha.run pos pins _ σ H _ (I.tok _) h) fun us s1 ⟨vs, H1, I1, r1, a, C, ws, ev, hl, T, ea, q⟩ => ?_) he hpl
  subst ev
  cases r1 with
  | @cons _ u0 _ ur ra rw' =>
    obtain rfl : u0 = Value.ref a := ra
    have hlen : ur.length ≤ sizeLine := by
      rw [← Paired.length rw', sizeLine_eq]
      omega
    exact oinit_ok T I1 ea hlen fun s' J => ⟨.non, H1, J, rfl, q⟩
/-- C(e, ..) as a value, C's own __init__ keeping sp -/
def tMkV (C : Addr) (sp : Sp) (ta : TA) : TE := fun σ H Q => ta σ H fun vs H1 => vs.length ≤ 1000 ∧ ∀ a, H1 a = none → sp (.ref a :: vs) (upd H1 a (exo a C none))
  (fun v H2 => v = .non ∧ ∃ (d : Addr) (fs : List (Str × V)), H2 a = some (exo a C (some d)) ∧ H2 d = some (exd d fs) ∧ Q (.ref a) (upd H2 d (.xd fs))) (fun _ _ _ => False)
theorem pe_oex {CX : CXT} {fI : Addr} {k : Nat} {fd : FuncData} {ps : List Str} {sp : Sp} (T : OexC X.K C) (iC : PySem.W.findIn X.K (.ref C) "__init__" = some (some (.ref fI))) (tI : PySem.W.typeIn X.K (.ref fI) = some (.type "function"))
    (F1 : FnOk X.prog X.w X.K X.mg X.base CX k fI fd ps sp) (hr : Room (k + 1) X.A) (hb : Binds X.K fd ps []) (hx : Passes CX X (fun _ _ _ => False)) (hg : Gl X x) (hm : X.mg x = some (.ref C)) (ha : PA X (e :: es) ta)
    (hdb : (x == ("__debug__" : Str)) = false := by decide) (he : starEach (e :: es) X.env = (false, eval e X.env) :: starEach es X.env := by rfl) (hpl : (backTo pos (starEach es X.env)).any (·.1) = false := by rfl) :
    PE X (.Call (.Name x p) (e :: es) [] pos) (tMkV C sp ta) := by
  refine ⟨fun pins s σ H Q I h => ?_⟩
  obtain ⟨nm, q, N, bs, bm, sn, sub, ab, col, dd, k0, k1, k2, k3, k5, hC, hbm⟩ := T.cls
  refine wpAny_Call_Name_kw (ld_glob I hg hm ?_ hdb)
  refine PySem.W.callWith_K (h₀ := X.base) I.ok.mod.kin T.kC (thn (ha.run pos pins s σ H _ I h) fun us s1 ⟨vs, H1, I1, r1, hz, q1⟩ => ⟨I1.kIn, ?_⟩) he hpl
  show wpAny _ _ (call (.ref C) us) _ _ _
  obtain ⟨hp, g, dr, tk, os⟩ := s1
  have hsz : hp.objs.size ≤ hp.objs.size + 1 := Nat.le_succ _
  have hn : H1 (hp.objs.size + 1) = none := I1.hok.fresh hsz
  have hq := q1 (hp.objs.size + 1) hn
  have kk : ∀ b o, hp.get? b = some o → ((hp.push (PySem.W.kdv_tup us)).push (PySem.HandSPX.excO C hp.objs.size)).get? b = some o := fun b o e => Heap.get?_push_of_some _ (Heap.get?_push_of_some _ e)
  have hget : ((hp.push (PySem.W.kdv_tup us)).push (PySem.HandSPX.excO C hp.objs.size)).get? (hp.objs.size + 1) = some (PySem.HandSPX.excO C hp.objs.size) := by heap_get
  have I2 : Inv X pins σ (upd H1 (hp.objs.size + 1) (exo (hp.objs.size + 1) C none)) ⟨(hp.push (PySem.W.kdv_tup us)).push (PySem.HandSPX.excO C hp.objs.size), g, dr, tk, os⟩ :=
    I1.laid (t' := tk) (a := hp.objs.size + 1) (o := exo (hp.objs.size + 1) C none) (h' := (hp.push (PySem.W.kdv_tup us)).push (PySem.HandSPX.excO C hp.objs.size)) kk hsz (exo_ok hget)
  have r2 : Vals (V.ref (hp.objs.size + 1) :: vs) (Value.ref (hp.objs.size + 1) :: us) := .cons rfl r1
  have hl : (Value.ref (hp.objs.size + 1) :: us ++ []).length = ps.length := by
    have e := r2.length
    rw [F1.len _ _ _ _ hq] at e
    rw [List.append_nil]
    exact e.symm
  have hus : us.length ≤ sizeLine := by
    rw [← Paired.length r1, sizeLine_eq]
    omega
  have hb' := hb ⟨(hp.push (PySem.W.kdv_tup us)).push (PySem.HandSPX.excO C hp.objs.size), g, dr, tk, os⟩ (Value.ref (hp.objs.size + 1) :: us) I2.kIn hl
  rw [List.append_nil] at hb'
  refine wpAny_call (PySem.HandSPX.call_own F.excBase_ValueError (fun Y => PySem.HandSPX.refsVE_contains Y bm hbm) (I1.kIn _ _ hC) (PySem.W.looks_findIn I1.kIn iC) (fun self => PySem.W.bind_fn I1.kIn self tI) hus
    (codeAny_mono (F1.run _ X.stack _ _ ⟨Value.ref (hp.objs.size + 1) :: us, []⟩ (Value.ref (hp.objs.size + 1) :: us) _ _ (fun _ _ _ => False) (hr.make C us []) (I2.env0.make C us []) hb' r2 hq) fun r s' hq' => ?_))
  cases r with
  | error er => exact hx pins σ _ _ er s' I2 hq'
  | ok fl =>
    cases fl with
    | ret u =>
      obtain ⟨v, H2, I3, rv, ev, d, fs, ea, ed, q2⟩ := I2.after hq'
      subst ev
      refine ⟨rv, .ref (hp.objs.size + 1), _, ?_, rfl, q2⟩
      obtain ⟨mA, hns, rel⟩ := exd_at I3.hok ed
      have hd : ∃ q, s'.heap.get? d = some q := let ⟨q, _, _, hq, _⟩ := hns; ⟨q, hq⟩
      exact I3.write (h' := s'.heap) (t' := s'.toks) (x := d) (e := d) (o := .xd fs) (by rw [ed]; exact True.intro) (.inl rfl) (fun b q hb z => z) hd ⟨mA, hns, rel⟩
    | next => exact False.elim hq'
    | brk => exact False.elim hq'
    | cont => exact False.elim hq'
/-- e.f, e an exception that is held -/
def tXa (K : PySem.W.Frag) (f : Str) (te : TE) : TE := fun σ H Q => te σ H fun x H1 => ∃ (a d C : Addr) (φ : Heap → Prop) (fs : List (Str × V)) (v : V), x = .ref a ∧ H1 a = some (.ext φ) ∧
  (∀ h, φ h → ∃ (ob : Obj) (gs : Array Value), h.get? a = some ob ∧ (ob.cls = .ref C ∧ ob.dict = some d) ∧ ob.data = .fields gs) ∧ XfC K C ∧ PySem.W.findIn K (.ref C) f = some none ∧ H1 d = some (.xd fs) ∧ fs.lookup f = some v ∧ Q v H1
theorem pe_xat (he : PE X e te) (hb : attributeBase e f X.env (eval e X.env) = eval e X.env := by rfl) : PE X (.Attribute e f pos) (tXa X.K f te) := by
  refine ⟨fun pins s σ H Q I h => ?_⟩
  refine attr_of hb (thn (he.run pins s σ H _ I h) fun u s1 hh => ?_)
  obtain ⟨x, H1, I1, rx, a, d, C, φ, fs, v, ex, ea, hφ, T, hno, ed, l, q⟩ := hh
  subst ex
  obtain rfl : u = Value.ref a := rx
  obtain ⟨ob, gs, e1, ⟨e2, e3⟩, e4⟩ := hφ _ (I1.hok a _ ea).1
  have hx : ObjOk X.prog X.w H1 s1.heap d (.xd fs) := I1.hok d _ ed
  obtain ⟨mA, hns, hr⟩ := hx
  obtain ⟨od, ho, hl⟩ := lookIn_ns hns
  obtain ⟨u, hu, ru⟩ := RelO.some_of (v := v) (o := mA f) (by rw [← l]; exact hr f)
  have J : PySem.W.InstAt s1.heap a ob C (some od) := ⟨e1, e2, by unfold PySem.W.notCls; rw [e4] <;> rfl, by rw [e3]; exact ho⟩
  exact HandSPX.exc_get I1.kIn J T.ga T.gg T.exC (PySem.W.findObj_own T.hdC hno rfl (by rw [hl, hu])) (handed_of ru) ⟨v, H1, I1.tok _, ru, q⟩
end
/-- what an __init__ that keeps its arguments in fields ks (the last one first) does -/
def spI (K : PySem.W.Frag) (C : Addr) (ks : List Str) : Sp := fun vs H Q _ => ∃ (a : Addr) (ws : List V), vs = .ref a :: ws ∧ OexC K C ∧ (∀ f ∈ ks, PySem.W.findIn K (.ref C) f = some none) ∧ H a = some (exo a C none) ∧ ws.length = ks.length ∧
  ∀ (d : Addr) (H' : Hp), d ≠ a → H d = none → H' a = some (exo a C (some d)) → H' d = some (exd d (ks.zip ws.reverse)) → (∀ b, b ≠ a → b ≠ d → H' b = H b) → Q .non H'
/-- a class of exceptions with such an __init__ -/
structure KnownE (P : Program) (w : World) (K : PySem.W.Frag) (mg : Str → Option Value) (base : Heap) (x : Str) (C : Addr) (ps ks : List Str) (k : Nat) : Prop where
  ex : ∃ f fd, FnOk P w K mg base CX0 k f fd ps (spI K C ks) ∧ PySem.W.findIn K (.ref C) "__init__" = some (some (.ref f)) ∧ PySem.W.typeIn K (.ref f) = some (.type "function") ∧ Binds K fd ps []
  t : OexC K C
  g : mg x = some (.ref C)
  n : ∀ f ∈ ks, PySem.W.findIn K (.ref C) f = some none
  xf : XfC K C
/-- C(e), C without an own __init__ -/
def dExc {T : Type} (C : Addr) (te : W T) : W T := fun env τ Q => te env τ fun _ τ1 => Q (.d (exD C)) τ1
def kExc {T : Type} (C : Addr) (Q : SV → T → Prop) (_ : SV) (τ : T) : Prop := Q (.d (exD C)) τ
theorem dExc_k {T : Type} (C : Addr) (te : W T) (env : List SV) (τ : T) (Q : SV → T → Prop) : dExc C te env τ Q = te env τ (kExc C Q) := rfl
theorem kExc_k {T : Type} (C : Addr) (Q : SV → T → Prop) (r : SV) (τ : T) : kExc C Q r τ = Q (.d (exD C)) τ := rfl
/-- an exception's data with fields -/
def exF (C : Addr) (ks : List Str) (ds : List D) : D := .dict ((.none, .int (C : Nat)) :: (ks.map PyData.str).zip ds)
def kOex {T : Type} (C : Addr) (ks : List Str) (Q : SV → T → Prop) (rs : List SV) (τ : T) : Prop := ∃ ds : List D, rs = ds.map SV.d ∧ ds.length = ks.length ∧ Q (.d (exF C ks ds.reverse)) τ
def dOex {T : Type} (C : Addr) (ks : List Str) (ta : WA T) : W T := fun env τ Q => ta env τ (kOex C ks Q)
theorem dOex_k {T : Type} (C : Addr) (ks : List Str) (ta : WA T) (env : List SV) (τ : T) (Q : SV → T → Prop) : dOex C ks ta env τ Q = ta env τ (kOex C ks Q) := rfl
/-- e.f -/
def fldE (f : Str) : List (D × D) → Option D
  | (.str k, v) :: r => if k = f then some v else fldE f r
  | _ => none
def kXat {T : Type} (C : Addr) (f : Str) (Q : SV → T → Prop) (r : SV) (τ : T) : Prop := ∃ l v, r = .d (.dict ((.none, .int (C : Nat)) :: l)) ∧ fldE f l = some v ∧ Q (.d v) τ
def dXat {T : Type} (C : Addr) (f : Str) (te : W T) : W T := fun env τ Q => te env τ (kXat C f Q)
theorem dXat_k {T : Type} (C : Addr) (f : Str) (te : W T) (env : List SV) (τ : T) (Q : SV → T → Prop) : dXat C f te env τ Q = te env τ (kXat C f Q) := rfl
theorem fld_zip {K : PySem.W.Frag} {G : Hp} {f : Str} {x : D} : ∀ {ks : List Str} {vs : List V} {ds : List D}, RpAll K G vs ds → fldE f ((ks.map PyData.str).zip ds) = some x → ∃ v, (ks.zip vs).lookup f = some v ∧ Rp K G v x
  | [], _, _, _, e => by cases e
  | k :: ks, vs, ds, ra, e => by
    cases ra with
    | nil => cases e
    | @cons v vs d ds r t =>
      have e : (if k = f then some d else fldE f ((ks.map PyData.str).zip ds)) = some x := e
      rw [List.zip_cons_cons, List.lookup_cons]
      by_cases h : k = f
      · rw [if_pos h] at e
        cases e
        subst h
        rw [beq_self_eq_true]
        exact ⟨v, rfl, r⟩
      · rw [if_neg h] at e
        rw [show (f == k) = false from beq_eq_false_iff_ne.mpr (Ne.symm h)]
        exact fld_zip t e
theorem resAll_d {K : PySem.W.Frag} {Ha G : Hp} {F : Addr → Prop} {H : Hp} : ∀ {ds : List D} {vs : List V}, ResAll K Ha G F H (ds.map SV.d) vs → RpAll K G vs ds
  | [], vs, h => by cases h; exact .nil
  | d :: ds, vs, h => by
    cases h with
    | cons a t => exact .cons a (resAll_d t)
section
variable {X : Cx} {B : Bk} {e : Expr} {es : List Expr} {te : W B.T} {ta : WA B.T} {f x : Str} {p pos : Pos} {C : Addr} {ps ks : List Str} {k : Nat}
theorem de_exc1 (hK : X.K = B.K) (c : ClsX X.K X.mg x C) (hg : Gl X x) (he : PE X e (lift B te)) (hs : starEach [e] X.env = (false, eval e X.env) :: starEach [] X.env := by rfl) (hdb : (x == ("__debug__" : Str)) = false := by decide) :
    PE X (.Call (.Name x p) [e] [] pos) (lift B (dExc C te)) :=
  pe_imp (pe_exc1 PySem.F.excBase_ValueError c.x c.g c.k hg he hs hdb) fun σ H Q z9 => ex53 z9 fun G F env τ Qd s t fin => ⟨G, F, env, τ, _, s, t, fun r τ1 G1 F1 H1 v f1 r1 q => fun a ha => by
    have st := Step.new (o := ExO (.ref C) a) ha f1.k.same f1.k.fh
    have ok := Ok.new (o := ExO (.ref C) a) f1.k ha (fun _ z => by unfold ExO at z; cases z)
    exact fin (.d (exD C)) τ1 _ _ _ (.ref a) (f1.trans ⟨st, ok⟩) (.exc (φ := _) upd_same fun h ⟨oe, vs, e1, z, d, _⟩ => ⟨oe, vs, e1, z, d⟩) q⟩
theorem de_oex (hK : X.K = B.K) (h : KnownE X.prog X.w X.K X.mg X.base x C ps ks k) (hr : Room (k + 1) X.A) (hg : Gl X x) (ha : PA X (e :: es) (liftA B ta)) (hz : ks.length ≤ 900 := by decide)
    (hdb : (x == ("__debug__" : Str)) = false := by decide) (he : starEach (e :: es) X.env = (false, eval e X.env) :: starEach es X.env := by rfl) (hpl : (backTo pos (starEach es X.env)).any (·.1) = false := by rfl) :
    PE X (.Call (.Name x p) (e :: es) [] pos) (lift B (dOex C ks ta)) := by
  obtain ⟨fI, fd, FO, iC, tI, hb⟩ := h.ex
  refine pe_imp (pe_oex h.t iC tI FO hr hb (pass0 (X := X)) hg h.g ha hdb he hpl) fun σ H Q z9 => ex53 z9 fun G F env τ Qd s t fin => ⟨G, F, env, τ, _, s, t, fun rs τ1 G1 F1 H1 vs f1 r1 q => ?_⟩
  obtain ⟨ds, rfl, hl, q⟩ := q
  have ra := resAll_d r1
  have lv : vs.length = ks.length := ra.length.trans hl
  refine ⟨by omega, fun a ha => ⟨a, vs, rfl, h.t, h.n, upd_same, lv, fun d H' hda hd e1 e2 rest => ⟨rfl, d, _, e1, e2, ?_⟩⟩⟩
  have hd1 : H1 d = none := by rw [upd_ne hda] at hd; exact hd
  have eH : upd H' d (.xd (ks.zip vs.reverse)) = upd (upd H1 a (exo a C (some d))) d (.xd (ks.zip vs.reverse)) := by
    funext b
    by_cases hb : b = d
    · rw [hb, upd_same, upd_same]
    · rw [upd_ne hb, upd_ne hb]
      by_cases hb2 : b = a
      · rw [hb2, upd_same, e1]
      · rw [upd_ne hb2, rest b hb2 hb, upd_ne hb2]
  rw [eH]
  have st1 := Step.new (o := exo a C (some d)) ha f1.k.same f1.k.fh
  have ok1 := Ok.new (o := exo a C (some d)) f1.k ha (fun _ z => by unfold exo at z; cases z)
  have n2 : (upd H1 a (exo a C (some d))) d = none := by rw [upd_ne hda]; exact hd1
  have st2 := Step.new (o := .xd (ks.zip vs.reverse)) n2 ok1.same ok1.fh
  have ok2 := Ok.new (o := .xd (ks.zip vs.reverse)) ok1 n2 (fun _ z => by cases z)
  have fN := f1.trans ⟨st1.trans st2, ok2⟩
  refine fin (.d _) τ1 _ _ _ (.ref a) fN ?_ q
  exact .exf (φ := fun h => ∃ t1 : Addr, h.get? a = some ({ cls := .ref C, dict := some d, data := .fields #[.ref t1, .none, .none, .none, .bool false, .none] } : Obj)) (by rw [upd_ne (Ne.symm hda), upd_same]; rfl)
    (fun h ⟨t1, e1⟩ => ⟨_, _, e1, ⟨rfl, rfl⟩, rfl⟩) upd_same (ra.reverse.mono (st1.trans st2).g)
theorem de_xat (hK : X.K = B.K) (T : XfC X.K C) (hno : PySem.W.findIn X.K (.ref C) f = some none) (he : PE X e (lift B te)) (hb : attributeBase e f X.env (eval e X.env) = eval e X.env := by rfl) :
    PE X (.Attribute e f pos) (lift B (dXat C f te)) :=
  pe_imp (pe_xat he hb) fun σ H Q z9 => ex53 z9 fun G F env τ Qd s t fin => ⟨G, F, env, τ, _, s, t, fun r τ1 G1 F1 H1 v f1 r1 q => by
    obtain ⟨l, x, rfl, hl, q⟩ := q
    have hr : Rp B.K G1 v (.dict ((.none, .int (C : Nat)) :: l)) := r1
    clear r1
    generalize hy : PyData.dict ((PyData.none, PyData.int (C : Nat)) :: l) = y at hr
    cases hr with
    | @exf a dx C' φ ks vs ds h z hx ra =>
      have hy := PyData.dict.inj hy
      rw [List.cons.injEq] at hy
      obtain ⟨h1, rfl⟩ := hy
      have ec : C = C' := by
        have h1 := (Prod.mk.inj h1).2
        exact Int.ofNat.inj (PyData.int.inj h1)
      subst ec
      obtain ⟨w, e1, rw'⟩ := fld_zip ra hl
      exact ⟨a, dx, C, φ, _, w, rfl, f1.k.same _ _ h, z, T, hno, f1.k.same _ _ hx, e1, fin (.d x) τ1 G1 F1 H1 w f1 rw' q⟩
    | exc h z =>
      have hy := PyData.dict.inj hy
      rw [List.cons.injEq] at hy
      rw [hy.2] at hl
      cases hl
    | emp h => cases hy
    | fn =>
      have hy := PyData.dict.inj hy
      rw [List.cons.injEq] at hy
      cases (Prod.mk.inj hy.1).1
    | _ => cases hy⟩
end
end Z
namespace Z
open PySem L2
/-! the simplest steps of a reading -/
/-! the simplest steps of a reading -/
local macro_rules | `(tactic| walk_at "y") => do
  let xs ← ("dAsgL_k kUnl_1 kUnl_2 kUnl2_1 dCnt_k kCnt1_1 kCnt1_2 kCnt1_3 dNewD_k dUpdD_k kUpd0_1 dSrtD_k kSrt0_1 dNe0_k kNe0_1 dCallV_k dCallVX_k dRg_k kRgA kRgB_k dNil3_k dRevT_k kRevT_k gSumA_t gSumA_l gSumA_ol gSumA_vw dGIndex_k gAbs_i dMnD_k dCallX_k kCallX dIsX_k dLam_k dRaise_k dLenSet_k kLenSet dRev_k kRev_1 kRev_2 kRev_3 gReprE_e gReprE_s gReprE_i gReprE_b gReprE_n gReprE_l gReprE_t gReprE_ol gReprE_vw gBits_k dRng3_k kAu_i kAug_1 gTupC_k gLstC_k kSe_1 gIn_sf gIn_st gIn_tf gIn_tt flatD_none flatD_int flatD_str flatD_bool List.any_cons List.any_nil Bool.or_false dOwn_k kOw_1 kOw_2 kOw_3 kEx_1 kExt_1 dExt_k kSI4_1 kSI3_1 kSI2_1 kSI1 kSetI_1 dSetI_k kEn_k dEnum_k kEn2_l kEn2_t dEnum2_k kZp_l kZp_u dZip_k gMulA_i gMulA_s dVar_k dC_k dRaw_k dOp_k dT_k kChB_t kChB_f dChain_k dTru_k kAndT_t kAndT_f kOrT_t kOrT_f dAndT_k dOrT_k dNotT_k dAnd_k dOr_k dNot_k kIf_t kIf_f dIf_k dNil_k dCons_k dTup_k dLst_k dCB_k dCall_k dNext_k dSeq_k dBreak_k dCont_k dNever_k dDrop_k dRet_k dRetN_k kIfS_t kIfS_f dIfS_k dSet_k dAsg_k dPar_k kPar_k dApp_k dFrz_k dSeqI_k dRng1_k dRng2_k kR1_k kR2_k dFor_k dLc_k dYes_k kTurn_t kTurn_f dSl_k dNoPart_k dPart_k dUn_k dEmp_k dM1_k kM1_k gI_k gAdd_i gAdd_s gAdd_t gAdd_ll gAdd_lo gAdd_ol gAdd_oo gAdd_vo gAdd_ov gAdd_vv gEq_k gNe_k gCmp_i gCmp_s gIsN_d gNotN_d gIsN_ol gNotN_ol gIsN_vw gNotN_vw gIx_s gIx_t gIx_l gIx_ol gIx_vw gSl_s gSl_t gSl_l gSl_ol gSl_vw gLen_s gLen_t gLen_l gLen_ol gLen_vw gIsi_k gAll_d gAll_ol gAny_d gAny_ol gInt_i gInt_b gInt_s gII_k gNeg_k gJoin_ol gJoin_l gJoin_t gJoin_vw gMul_i gMul_s kG kV_1 kV_2 kV_3 kOp2 kOp1 kTb_1 kTb_2 kT kCh3 kCh4 kCh2 kCh1 kTru kNotT kAndB_1 kAndB_2 kAndB_3 kOrB_1 kOrB_2 kOrB_3 kAnd kOr kNotB_1 kNotB_2 kNot kCo2 kCoB_1 kCoB_2 kCo kTupB_1 kTupB_2 kTup kLstB_1 kLstB_2 kLst kCB kCall kNx kDrop kRet kStB_1 kStB_2 kSet kEnv_1 kEnv_2 kAsB_1 kAsB_2 kAsg kApD_1 kApD_2 kAp kApp_1 kFrz_1 kFrz_2 kSqB_1 kSqB_2 kSq kFor kOl kLc kDt_1 kDt_2 kDat kTgB_1 kTgB_2 kFtB_1 kFtB_2 kSl3 kSl2 kSl1 kPtB_1 kPtB_2 kPt kUn kM2 kEq2_1 kEq2_2 kEq1_1 kEq1_2 kIsB_1 kIsB_2 kAtS_1 kAtS_2 kAt_1 kAt_2 kTy_1 kTy_2 kBls_1 kBls_2 kJn_1 kJn_2 SV.arg SV.dat? SV.sto SV.out SV.dr SV.truth SV.lst? SV.seqd? SV.now? SV.seq? SV.isN SV.size? SV.tyN SV.bl? SV.int? tyNs_none tyNs_bool tyNs_int tyNs_str tyNs_list tyNs_tuple tyNs_dict tyCs isTs szs noC_t eqOks_none_none eqOks_none_int eqOks_int_none eqOks_none_bool eqOks_bool_none eqOks_none_str eqOks_str_none eqOks_int_int eqOks_bool_bool eqOks_str_str eqOks_int_str eqOks_str_int eqOks_bool_str eqOks_str_bool eqv_int eqv_bool eqv_none_none eqv_none_bool eqv_none_int eqv_none_str eqv_none_list eqv_none_tuple eqv_bool_none eqv_bool_str eqv_bool_list eqv_bool_tuple eqv_int_none eqv_int_str eqv_int_list eqv_int_tuple eqv_str_none eqv_str_bool eqv_str_int eqv_str_list eqv_str_tuple eqv_list_none eqv_list_bool eqv_list_int eqv_list_str eqv_list_tuple eqv_tuple_none eqv_tuple_bool eqv_tuple_int eqv_tuple_str eqv_tuple_list allD tgE tgEs wipeE List.map_cons List.map_nil List.getElem?_cons_zero List.getElem?_cons_succ List.set_cons_zero List.set_cons_succ List.all_cons List.all_nil Bool.and_true Bool.and_self Option.map_some Option.bind_some List.cons_append List.nil_append List.length_cons List.length_nil List.replicate Nat.reduceAdd Nat.reduceSub Nat.reduceLeDiff Nat.reduceMul Bool.not_true Bool.not_false Bool.false_xor Bool.true_xor true_and and_true beq_self_eq_true eq_self decide_true Bool.true_and Bool.false_and Nat.zero_le List.isEmpty_cons List.isEmpty_nil".splitOn " ").toArray.mapM fun s => `(Lean.Parser.Tactic.simpLemma| $(Lean.mkIdent s.toName):ident)
  `(tactic| simp only [$xs,*])
/-! the simplest steps of a reading -/
local macro_rules | `(tactic| walk_at "x") => `(tactic| (try walk_at "y"))
local macro_rules | `(tactic| walk_at "i") => `(tactic| (refine kAt_of (by decide) (by simp only [List.length_cons, List.length_nil]; decide) (fun z ez _ => ?_); cases ez; walk_at "x"))
local macro_rules | `(tactic| walk_at "len") => `(tactic| first | (rintro ⟨e, _⟩; rw [e]; rfl) | (rintro ⟨_, h⟩; revert h; walk_at "len"))
local macro_rules | `(tactic| walk_at "v") => `(tactic| (intro rs τ Q; walk_at "len"))
local macro_rules | `(tactic| walk_at "u") => `(tactic| (intro rs τ Q Ed; walk_at "len"))
local macro_rules | `(tactic| walk_at "w") => `(tactic| (rintro rs τ Q ⟨_, h, _⟩; revert h; walk_at "len"))
def plainD : D → Prop
  | .dict (_ :: _) => False
  | _ => True
/-- plain, and if a tuple, of plain things -/
def pl (x : D) : Prop := plainD x ∧ ∀ xs, x = .tuple xs → ∀ y ∈ xs, plainD y
def shD (y : D) : Prop := y.canLay0 = true ∧ y.depth ≤ 60
theorem canAll_mem : ∀ {xs : List D}, PyData.canLayAll0 xs = true → ∀ y ∈ xs, y.canLay0 = true
  | x :: r, h, y, hy => by
    rw [PyData.canLayAll0, Bool.and_eq_true] at h
    rcases List.mem_cons.mp hy with rfl | hy
    · exact h.1
    · exact canAll_mem h.2 y hy
theorem depAll_mem : ∀ {xs : List D}, ∀ y ∈ xs, y.depth ≤ PyData.depthAll xs
  | x :: r, y, hy => by
    rw [PyData.depthAll]
    rcases List.mem_cons.mp hy with rfl | hy
    · exact Nat.le_max_left _ _
    · exact Nat.le_trans (depAll_mem y hy) (Nat.le_max_right _ _)
def tI (ns : List Int) : D := .tuple (ns.map .int)
def kD (lo hi fe ma : Int) (u d n : Bool) (fr to : Int) : D := .tuple [.int lo, .int hi, .int fe, .int ma, .bool u, .bool d, .bool n, .int fr, .int to]
/-- what may be looked at, and told -/
def fineD (x : D) : Prop := pl x ∧ (x = .dict [] ∨ Rb 10 100000 x)
theorem fineD.sh {x : D} (h : fineD x) : ∀ xs, x = .tuple xs → ∀ y ∈ xs, shD y := by
  rintro xs rfl y hy
  rcases h.2 with h | h
  · cases h
  · have h1 := h.lay
    have h2 := h.dp
    rw [PyData.canLay0] at h1
    rw [PyData.depth] at h2
    exact ⟨canAll_mem h1 y hy, by have := depAll_mem y hy; omega⟩
/-- a scalar -/
def scD (x : D) : Prop := plainD x ∧ Rb 0 200 x
theorem scD.to {x : D} (h : scD x) : plainD x ∧ Rb 1 300 x := ⟨h.1, h.2.le (by decide) (by decide)⟩
def geB (a b : Int) : Bool := decide (b ≤ a)
def leB (a b : Int) : Bool := decide (a ≤ b)
/-! ### lots of sums as bits: bit s + 160 of a number stands for the sum s -/
/-- the number b holds the sum s -/
def hasS (b : Int) (s : Int) : Prop := 0 ≤ b ∧ 0 ≤ s + 160 ∧ b.toNat.testBit (s + 160).toNat = true
/-- the same number holds the same sums -/
theorem has_ext {a b : Int} (ha : 0 ≤ a) (hb : 0 ≤ b) (h : ∀ s : Int, hasS a s ↔ hasS b s) : a = b := by
  have e : a.toNat = b.toNat := by
    apply Nat.eq_of_testBit_eq
    intro i
    have := h ((i : Int) - 160)
    unfold hasS at this
    rw [show ((i : Int) - 160 + 160).toNat = i by omega] at this
    rw [Bool.eq_iff_iff]
    exact ⟨fun z => (this.mp ⟨ha, by omega, z⟩).2.2, fun z => (this.mpr ⟨hb, by omega, z⟩).2.2⟩
  omega
/-! ### lots of numbers, plain -/
/-- l is a lot of the numbers ns: all alike where lvl, no two alike where unl -/
def IsLot (ns : List Int) (lvl unl : Bool) (l : List Int) : Prop := (∀ x ∈ l, x ∈ ns) ∧ (unl = true → l.Nodup) ∧ (lvl = true → ∀ x ∈ l, ∀ y ∈ l, x = y)
theorem IsLot.nil {ns : List Int} {lvl unl : Bool} : IsLot ns lvl unl [] := ⟨by simp, by simp, by simp⟩
theorem sum_perm {l k : List Int} (h : l.Perm k) : l.sum = k.sum := by
  induction h with
  | nil => rfl
  | cons x _ ih => rw [List.sum_cons, List.sum_cons, ih]
  | swap x y l => simp only [List.sum_cons]; omega
  | trans _ _ a b => rw [a, b]
/-! ### rows of a kind and lots; the least kind of some rows -/
theorem pairs_pw {r : Int → Int → Bool} : ∀ {l : List Int}, pairsB r l = true ↔ l.Pairwise fun a b => r a b = true
  | [] => by simp [pairsB]
  | a :: l => by
    rw [pairsB, Bool.and_eq_true, pairs_pw, List.pairwise_cons, List.all_eq_true]
def span (lo hi : Int) : List Int := (List.range (hi + 1 - lo).toNat).map fun (i : Nat) => lo + (i : Int)
theorem mem_span {lo hi x : Int} : x ∈ span lo hi ↔ lo ≤ x ∧ x ≤ hi := by
  unfold span
  rw [List.mem_map]
  constructor
  · rintro ⟨i, hi, rfl⟩
    rw [List.mem_range] at hi
    omega
  · rintro ⟨h1, h2⟩
    exact ⟨(x - lo).toNat, by rw [List.mem_range]; omega, by omega⟩
/-- the rows of a kind -/
def RowOf (lo hi fe ma : Int) (u d n : Bool) (fr to : Int) (r : List Int) : Prop :=
  (fe ≤ (r.length : Int) ∧ (r.length : Int) ≤ ma) ∧ (fr ≤ r.sum ∧ r.sum ≤ to) ∧ (∀ x ∈ r, lo ≤ x ∧ x ≤ hi) ∧ (n = true → r.Nodup) ∧ (u = true → pairsB leB r = true) ∧ (d = true → pairsB geB r = true)
theorem leB_same {l : List Int} (h : ∀ x ∈ l, ∀ y ∈ l, x = y) : pairsB leB l = true := pairs_pw.mpr (List.pairwise_of_forall_mem_list fun x hx y hy => by unfold leB; rw [h x hx y hy]; simp)
theorem geB_same {l : List Int} (h : ∀ x ∈ l, ∀ y ∈ l, x = y) : pairsB geB l = true := pairs_pw.mpr (List.pairwise_of_forall_mem_list fun x hx y hy => by unfold geB; rw [h x hx y hy]; simp)
/-- the rising and the falling row of a lot -/
def up (l : List Int) : List Int := l.mergeSort leB
theorem up_perm (l : List Int) : (up l).Perm l := List.mergeSort_perm l leB
theorem up_le (l : List Int) : pairsB leB (up l) = true := by
  rw [pairs_pw]
  refine List.pairwise_mergeSort (le := leB) (fun a b c h1 h2 => ?_) (fun a b => ?_) l
  · have h1 := of_decide_eq_true h1
    have h2 := of_decide_eq_true h2
    exact decide_eq_true (by omega)
  · unfold leB
    simp only [Bool.or_eq_true, decide_eq_true_eq]
    omega
theorem dn_ge (l : List Int) : pairsB geB (up l).reverse = true := by
  rw [pairs_pw, List.pairwise_reverse]
  exact (pairs_pw.mp (up_le l)).imp fun {a b} z => by
    unfold geB leB at *
    exact z
theorem dn_perm (l : List Int) : ((up l).reverse).Perm l := (List.reverse_perm _).trans (up_perm l)
section
variable {lo hi fe ma : Int} {u d n : Bool} {fr to : Int}
/-- any order of a lot that the words let -/
theorem rowOf_perm {l r : List Int} (hl : IsLot (span lo hi) (u && d) n l) (hp : r.Perm l) (h1 : fe ≤ (l.length : Int) ∧ (l.length : Int) ≤ ma) (h2 : fr ≤ l.sum ∧ l.sum ≤ to)
    (hu : u = true → d = false → pairsB leB r = true) (hd : d = true → u = false → pairsB geB r = true) : RowOf lo hi fe ma u d n fr to r := by
  have hs : (u && d) = true → ∀ x ∈ r, ∀ y ∈ r, x = y := fun e x hx y hy => hl.2.2 e x (hp.mem_iff.mp hx) y (hp.mem_iff.mp hy)
  refine ⟨by rw [hp.length_eq]; exact h1, by rw [sum_perm hp]; exact h2, fun x hx => mem_span.mp (hl.1 x (hp.mem_iff.mp hx)), fun hn => hp.nodup_iff.mpr (hl.2.1 hn), fun e => ?_, fun e => ?_⟩
  · cases ed : d with
    | true => exact leB_same (hs (by rw [e, ed]; rfl))
    | false => exact hu e ed
  · cases eu : u with
    | true => exact geB_same (hs (by rw [e, eu]; rfl))
    | false => exact hd e eu
/-- a lot laid in a row -/
theorem lay {l : List Int} (hl : IsLot (span lo hi) (u && d) n l) (h1 : fe ≤ (l.length : Int) ∧ (l.length : Int) ≤ ma) (h2 : fr ≤ l.sum ∧ l.sum ≤ to) : ∃ r, r.Perm l ∧ RowOf lo hi fe ma u d n fr to r := by
  cases hu : u with
  | true =>
    refine ⟨up l, up_perm l, ?_⟩
    rw [← hu]
    exact rowOf_perm hl (up_perm l) h1 h2 (fun _ _ => up_le l) (fun _ e => by rw [hu] at e; cases e)
  | false =>
    refine ⟨(up l).reverse, dn_perm l, ?_⟩
    rw [← hu]
    exact rowOf_perm hl (dn_perm l) h1 h2 (fun e => by rw [hu] at e; cases e) (fun _ _ => dn_ge l)
end
/-! the least kind -/
structure IsLeast (R : List Int → Prop) (lo hi fe ma : Int) (u d n : Bool) (fr to : Int) : Prop where
  lo : ((∀ r, R r → r = []) ∧ lo = 0) ∨ (∃ r, R r ∧ lo ∈ r) ∧ ∀ r, R r → ∀ x ∈ r, lo ≤ x
  hi : ((∀ r, R r → r = []) ∧ hi = 0) ∨ (∃ r, R r ∧ hi ∈ r) ∧ ∀ r, R r → ∀ x ∈ r, x ≤ hi
  fe : (∃ r, R r ∧ (r.length : Int) = fe) ∧ ∀ r, R r → fe ≤ (r.length : Int)
  ma : (∃ r, R r ∧ (r.length : Int) = ma) ∧ ∀ r, R r → (r.length : Int) ≤ ma
  u : u = true ↔ ∀ r, R r → pairsB leB r = true
  d : d = true ↔ ∀ r, R r → pairsB geB r = true
  n : n = true ↔ ∀ r, R r → r.Nodup
  fr : (∃ r, R r ∧ r.sum = fr) ∧ ∀ r, R r → fr ≤ r.sum
  to : (∃ r, R r ∧ r.sum = to) ∧ ∀ r, R r → r.sum ≤ to
def nothingD : D := kD 20 (-20) 8 0 true true true 160 (-160)
def LeastD (R : List Int → Prop) (k : D) : Prop := ((∀ r, ¬ R r) ∧ k = nothingD) ∨ ∃ lo hi fe ma u d n fr to, IsLeast R lo hi fe ma u d n fr to ∧ k = kD lo hi fe ma u d n fr to
theorem end_eq {R : List Int → Prop} {f : Int → Int → Prop} (hf : ∀ a b, f a b → f b a → a = b) {a b : Int}
    (ha : ((∀ r, R r → r = []) ∧ a = 0) ∨ (∃ r, R r ∧ a ∈ r) ∧ ∀ r, R r → ∀ x ∈ r, f a x) (hb : ((∀ r, R r → r = []) ∧ b = 0) ∨ (∃ r, R r ∧ b ∈ r) ∧ ∀ r, R r → ∀ x ∈ r, f b x) : a = b := by
  have no : ∀ {c : Int}, (∀ r, R r → r = []) → (∃ r, R r ∧ c ∈ r) → False := fun h ⟨r, h1, h2⟩ => by
    rw [h r h1] at h2
    cases h2
  rcases ha with ⟨h1, rfl⟩ | ⟨⟨r, h1, h2⟩, h3⟩ <;> rcases hb with ⟨g1, rfl⟩ | ⟨⟨q, g1, g2⟩, g3⟩
  · rfl
  · exact (no h1 ⟨q, g1, g2⟩).elim
  · exact (no g1 ⟨r, h1, h2⟩).elim
  · exact hf _ _ (h3 q g1 _ g2) (g3 r h1 _ h2)
theorem LeastD.eq {R : List Int → Prop} {k k' : D} (h : LeastD R k) (h' : LeastD R k') : k = k' := by
  rcases h with ⟨h1, rfl⟩ | ⟨lo, hi, fe, ma, u, d, n, fr, to, h, rfl⟩ <;> rcases h' with ⟨g1, rfl⟩ | ⟨lo', hi', fe', ma', u', d', n', fr', to', g, rfl⟩
  · rfl
  · obtain ⟨r, hr, _⟩ := g.fe.1
    exact (h1 r hr).elim
  · obtain ⟨r, hr, _⟩ := h.fe.1
    exact (g1 r hr).elim
  · have le : ∀ a b : Int, a ≤ b → b ≤ a → a = b := fun a b h1 h2 => by omega
    have e1 := end_eq (f := fun a b => a ≤ b) le h.lo g.lo
    have e2 := end_eq (f := fun a b => b ≤ a) (fun a b h1 h2 => by omega) h.hi g.hi
    have be : ∀ {P : Prop} {a b : Bool}, (a = true ↔ P) → (b = true ↔ P) → a = b := fun h1 h2 => Bool.eq_iff_iff.mpr (h1.trans h2.symm)
    have e3 := be h.u g.u
    have e4 := be h.d g.d
    have e5 := be h.n g.n
    have e6 : fe = fe' := by
      obtain ⟨⟨r, h1, rfl⟩, h2⟩ := h.fe
      obtain ⟨⟨q, g1, rfl⟩, g2⟩ := g.fe
      have := h2 q g1
      have := g2 r h1
      omega
    have e7 : ma = ma' := by
      obtain ⟨⟨r, h1, rfl⟩, h2⟩ := h.ma
      obtain ⟨⟨q, g1, rfl⟩, g2⟩ := g.ma
      have := h2 q g1
      have := g2 r h1
      omega
    have e8 : fr = fr' := by
      obtain ⟨⟨r, h1, rfl⟩, h2⟩ := h.fr
      obtain ⟨⟨q, g1, rfl⟩, g2⟩ := g.fr
      have := h2 q g1
      have := g2 r h1
      omega
    have e9 : to = to' := by
      obtain ⟨⟨r, h1, rfl⟩, h2⟩ := h.to
      obtain ⟨⟨q, g1, rfl⟩, g2⟩ := g.to
      have := h2 q g1
      have := g2 r h1
      omega
    subst e1 e2 e3 e4 e5 e6 e7 e8 e9
    rfl
/-! ### the narrow form -/
/-! ### the least and the greatest sum that bits tell; what two have in common -/
/-! ### sums of lots of numbers side by side -/
/-! ### texts of kinds: unlike kinds have unlike texts -/
/-- the number f holds just the sums that P lets -/
def BitsOf (f : Int) (P : Int → Prop) : Prop := 0 ≤ f ∧ ∀ s, hasS f s ↔ P s
theorem BitsOf.eq {f g : Int} {P : Int → Prop} (h : BitsOf f P) (h' : BitsOf g P) : f = g := has_ext h.1 h'.1 fun s => (h.2 s).trans (h'.2 s).symm
theorem ixN_at {n j : Nat} (hj : j < n) : ixN n (j : Int) = some j := by
  have h0 : (0 : Int) ≤ (j : Int) := Int.natCast_nonneg j
  have h1 : (j : Int) < (n : Int) := Int.ofNat_lt.mpr hj
  simp [ixN, h0, h1]
/-! the law's own look -/
/-! kinds as they are -/
structure Kd where
  lo : Int
  hi : Int
  fe : Int
  ma : Int
  u : Bool
  d : Bool
  n : Bool
  fr : Int
  to : Int
def Kd.D (k : Kd) : D := kD k.lo k.hi k.fe k.ma k.u k.d k.n k.fr k.to
def Kd.R (k : Kd) : List Int → Prop := RowOf k.lo k.hi k.fe k.ma k.u k.d k.n k.fr k.to
theorem Kd.inj {k j : Kd} (h : k.D = j.D) : k = j := by
  cases k
  cases j
  simp only [Kd.D, kD, PyData.tuple.injEq, List.cons.injEq, PyData.int.injEq, PyData.bool.injEq, and_true] at h
  obtain ⟨rfl, rfl, rfl, rfl, rfl, rfl, rfl, rfl, rfl⟩ := h
  rfl
/-! ### whether the rows of a least kind are of another kind -/
/-! ### rows of both kinds, rows of either -/
def noneK : Kd := ⟨20, -20, 8, 0, true, true, true, 160, -160⟩
theorem kAt_at {xs : List D} {k : Nat} {a : D} {Q : SV → Prop} (h : xs[k]? = some a) : kAt Q (atI xs (k : Int)) = Q (.d a) := by
  have hk := (List.getElem?_eq_some_iff.mp h).1
  unfold atI
  rw [ixN_at hk]
  show kAt Q (xs[k]?) = _
  rw [h]
  rfl
section
variable {a0 a1 a2 a3 a4 a5 a6 a7 a8 : D} {t : List D} {Q : SV → Prop}
theorem at_0 : kAt Q (atI (a0 :: t) 0) = Q (.d a0) := kAt_at (k := 0) rfl
theorem at_1 : kAt Q (atI (a0 :: a1 :: t) 1) = Q (.d a1) := kAt_at (k := 1) rfl
theorem at_2 : kAt Q (atI (a0 :: a1 :: a2 :: t) 2) = Q (.d a2) := kAt_at (k := 2) rfl
theorem at_3 : kAt Q (atI (a0 :: a1 :: a2 :: a3 :: t) 3) = Q (.d a3) := kAt_at (k := 3) rfl
theorem at_4 : kAt Q (atI (a0 :: a1 :: a2 :: a3 :: a4 :: t) 4) = Q (.d a4) := kAt_at (k := 4) rfl
theorem at_5 : kAt Q (atI (a0 :: a1 :: a2 :: a3 :: a4 :: a5 :: t) 5) = Q (.d a5) := kAt_at (k := 5) rfl
theorem at_6 : kAt Q (atI (a0 :: a1 :: a2 :: a3 :: a4 :: a5 :: a6 :: t) 6) = Q (.d a6) := kAt_at (k := 6) rfl
theorem at_7 : kAt Q (atI (a0 :: a1 :: a2 :: a3 :: a4 :: a5 :: a6 :: a7 :: t) 7) = Q (.d a7) := kAt_at (k := 7) rfl
theorem at_8 : kAt Q (atI (a0 :: a1 :: a2 :: a3 :: a4 :: a5 :: a6 :: a7 :: a8 :: t) 8) = Q (.d a8) := kAt_at (k := 8) rfl
end
section
variable {g : Kd} {Q : SV → Prop}
theorem kdIx_0 : gIx (.d g.D) (.d (.int 0)) Q = Q (.d (.int g.lo)) := gIx_t.trans at_0
theorem kdIx_1 : gIx (.d g.D) (.d (.int 1)) Q = Q (.d (.int g.hi)) := gIx_t.trans at_1
theorem kdIx_2 : gIx (.d g.D) (.d (.int 2)) Q = Q (.d (.int g.fe)) := gIx_t.trans at_2
theorem kdIx_3 : gIx (.d g.D) (.d (.int 3)) Q = Q (.d (.int g.ma)) := gIx_t.trans at_3
theorem kdIx_4 : gIx (.d g.D) (.d (.int 4)) Q = Q (.d (.bool g.u)) := gIx_t.trans at_4
theorem kdIx_5 : gIx (.d g.D) (.d (.int 5)) Q = Q (.d (.bool g.d)) := gIx_t.trans at_5
theorem kdIx_6 : gIx (.d g.D) (.d (.int 6)) Q = Q (.d (.bool g.n)) := gIx_t.trans at_6
theorem kdIx_7 : gIx (.d g.D) (.d (.int 7)) Q = Q (.d (.int g.fr)) := gIx_t.trans at_7
theorem kdIx_8 : gIx (.d g.D) (.d (.int 8)) Q = Q (.d (.int g.to)) := gIx_t.trans at_8
theorem kdSl_2 : gSl (.d g.D) none (some 2) Q = Q (.d (.tuple [.int g.lo, .int g.hi])) := rfl
end
section
variable {r : List Int} {Q : SV → Prop}
theorem gSumA_tI : gSumA [.d (tI r)] Q = Q (.d (.int r.sum)) := gSumA_t
theorem gLen_tI : gLen [.d (tI r)] Q = Q (.d (.int r.length)) := by rw [tI, gLen_t, List.length_map]
theorem seq_tI : SV.seq? (.d (tI r)) = some (r.map .int) := rfl
theorem seqd_1 {xs : List D} : SV.seqd? (.d (.list xs)) = some xs := rfl
theorem seqd_2 {xs : List D} : SV.seqd? (.d (.tuple xs)) = some xs := rfl
theorem seqd_3 {xs : List D} : SV.seqd? (.ol xs) = some xs := rfl
theorem seqd_4 {xs : List D} : SV.seqd? (.vw xs) = some xs := rfl
theorem seq_1 {xs : List D} : SV.seq? (.d (.list xs)) = some xs := rfl
theorem seq_2 {xs : List D} : SV.seq? (.d (.tuple xs)) = some xs := rfl
theorem seq_3 {z : Str} : SV.seq? (.d (.str z)) = some (z.cps.toList.map sg) := rfl
theorem seq_4 {xs : List D} : SV.seq? (.ol xs) = some xs := rfl
theorem seqd_tI : SV.seqd? (.d (tI r)) = some (r.map .int) := rfl
theorem lenSet_tI {T : Type} {Q : SV → T → Prop} {τ : T} : kLenSet Q (.d (tI r)) τ = (r.length ≤ 4000 ∧ Q (.d (.int ((dis r).length : Nat))) τ) := by
  unfold kLenSet
  have e : tupI? (.d (tI r)) = some r := by
    show ints? (r.map .int) = some r
    exact ints_map r
  rw [e]
  simp only [Option.some.injEq, exists_eq_left']
end
/-! tables of numbers -/
/-! the least kind of the rows of several kinds -/
def allK : Kd := ⟨-20, 20, 0, 8, false, false, false, -160, 160⟩
theorem allK_lit : PyData.tuple [.int (-20), .int 20, .int 0, .int 8, .bool false, .bool false, .bool false, .int (-160), .int 160] = allK.D := rfl
theorem noneK_lit : PyData.tuple [.int 20, .int (-20), .int 8, .int 0, .bool true, .bool true, .bool true, .int 160, .int (-160)] = noneK.D := rfl
local macro_rules | `(tactic| walk_at "Y") => do
  let xs ← ("allK_lit gSumA_tI gLen_tI seq_tI seqd_tI lenSet_tI Int.reduceEq Int.reduceLT Int.reduceLE Int.reduceAdd Int.reduceSub decide_false Bool.or_true Bool.false_or szl kForN_e kLcY_e kLcN_e lcW_n forW_n at_0 at_1 at_2 at_3 at_4 at_5 at_6 at_7 at_8 kdIx_0 kdIx_1 kdIx_2 kdIx_3 kdIx_4 kdIx_5 kdIx_6 kdIx_7 kdIx_8 kdSl_2 noneK_lit dExc_k kExc_k dOex_k dXat_k dSrtSet_k dPutN_k kPutN1_1 kPutN2_1 dPutV_k kwxA_k kKwx_2 kKwx_4 dRg1_k kRg1B_k dAsgL_k kUnl_1 kUnl_2 kUnl2_1 dCnt_k kCnt1_1 kCnt1_2 kCnt1_3 dNewD_k dUpdD_k kUpd0_1 dSrtD_k kSrt0_1 dNe0_k kNe0_1 dCallV_k dCallVX_k dRg_k kRgA kRgB_k dNil3_k dRevT_k kRevT_k gSumA_t gSumA_l gSumA_ol gSumA_vw dGIndex_k gAbs_i dMnD_k dCallX_k kCallX dIsX_k dLam_k dRaise_k dLenSet_k dRev_k kRev_1 kRev_2 kRev_3 gReprE_e gReprE_s gReprE_i gReprE_b gReprE_n gReprE_l gReprE_t gReprE_ol gReprE_vw gBits_k dRng3_k kAu_i kAug_1 gTupC_k gLstC_k kSe_1 gIn_sf gIn_st gIn_tf gIn_tt flatD_none flatD_int flatD_str flatD_bool List.any_cons List.any_nil Bool.or_false dOwn_k kOw_1 kOw_2 kOw_3 kEx_1 kExt_1 dExt_k kSI4_1 kSI3_1 kSI2_1 kSI1 kSetI_1 dSetI_k kEn_k dEnum_k kEn2_l kEn2_t dEnum2_k kZp_l kZp_u dZip_k gMulA_i gMulA_s dVar_k dC_k dRaw_k dOp_k dT_k kChB_t kChB_f dChain_k dTru_k kAndT_t kAndT_f kOrT_t kOrT_f dAndT_k dOrT_k dNotT_k dAnd_k dOr_k dNot_k kIf_t kIf_f dIf_k dNil_k dCons_k dTup_k dLst_k dCB_k dCall_k dNext_k dSeq_k dBreak_k dCont_k dNever_k dDrop_k dRet_k dRetN_k kIfS_t kIfS_f dIfS_k dSet_k dAsg_k dPar_k kPar_k dApp_k dFrz_k dSeqI_k dRng1_k dRng2_k kR1_k kR2_k dFor_k dLc_k dYes_k kTurn_t kTurn_f dSl_k dNoPart_k dPart_k dUn_k dEmp_k dM1_k kM1_k gI_k gAdd_i gAdd_s gAdd_t gAdd_ll gAdd_lo gAdd_ol gAdd_oo gAdd_vo gAdd_ov gAdd_vv gEq_k gNe_k gCmp_i gCmp_s gIsN_d gNotN_d gIsN_ol gNotN_ol gIsN_vw gNotN_vw gIx_s gIx_t gIx_l gIx_ol gIx_vw gSl_s gSl_t gSl_l gSl_ol gSl_vw gLen_s gLen_t gLen_l gLen_ol gLen_vw gIsi_k gAll_d gAll_ol gAny_d gAny_ol gInt_i gInt_b gInt_s gII_k gNeg_k gJoin_ol gJoin_l gJoin_t gJoin_vw gMul_i gMul_s kG kV_1 kV_2 kV_3 kOp2 kOp1 kTb_1 kTb_2 kT kCh3 kCh4 kCh2 kCh1 kTru kNotT kAndB_1 kAndB_2 kAndB_3 kOrB_1 kOrB_2 kOrB_3 kAnd kOr kNotB_1 kNotB_2 kNot kCo2 kCoB_1 kCoB_2 kCo kTupB_1 kTupB_2 kTup kLstB_1 kLstB_2 kLst kCB kCall kNx kDrop kRet kStB_1 kStB_2 kSet kEnv_1 kEnv_2 kAsB_1 kAsB_2 kAsg kApD_1 kApD_2 kAp kApp_1 kFrz_1 kFrz_2 kSqB_1 kSqB_2 kSq kFor kOl kLc kDt_1 kDt_2 kDat kTgB_1 kTgB_2 kFtB_1 kFtB_2 kSl3 kSl2 kSl1 kPtB_1 kPtB_2 kPt kUn kM2 kEq2_1 kEq2_2 kEq1_1 kEq1_2 kIsB_1 kIsB_2 kAtS_1 kAtS_2 kAt_1 kAt_2 kTy_1 kTy_2 kBls_1 kBls_2 kJn_1 kJn_2 SV.arg SV.dat? SV.sto SV.out SV.dr SV.truth SV.lst? seqd_1 seqd_2 seqd_3 seqd_4 SV.now? seq_1 seq_2 seq_3 seq_4 SV.isN SV.size? SV.tyN SV.bl? SV.int? tyNs_none tyNs_bool tyNs_int tyNs_str tyNs_list tyNs_tuple tyNs_dict tyCs isTs szs noC_t eqOks_none_none eqOks_none_int eqOks_int_none eqOks_none_bool eqOks_bool_none eqOks_none_str eqOks_str_none eqOks_int_int eqOks_bool_bool eqOks_str_str eqOks_int_str eqOks_str_int eqOks_bool_str eqOks_str_bool eqv_int eqv_bool eqv_none_none eqv_none_bool eqv_none_int eqv_none_str eqv_none_list eqv_none_tuple eqv_bool_none eqv_bool_str eqv_bool_list eqv_bool_tuple eqv_int_none eqv_int_str eqv_int_list eqv_int_tuple eqv_str_none eqv_str_bool eqv_str_int eqv_str_list eqv_str_tuple eqv_list_none eqv_list_bool eqv_list_int eqv_list_str eqv_list_tuple eqv_tuple_none eqv_tuple_bool eqv_tuple_int eqv_tuple_str eqv_tuple_list allD tgE tgEs wipeE List.map_cons List.map_nil List.getElem?_cons_zero List.getElem?_cons_succ List.set_cons_zero List.set_cons_succ List.all_cons List.all_nil Bool.and_true Bool.and_self Option.map_some Option.bind_some List.cons_append List.nil_append List.length_cons List.length_nil List.replicate Nat.reduceAdd Nat.reduceSub Nat.reduceLeDiff Nat.reduceMul Bool.not_true Bool.not_false Bool.false_xor Bool.true_xor true_and and_true beq_self_eq_true eq_self decide_true Bool.true_and Bool.false_and Nat.zero_le List.isEmpty_cons List.isEmpty_nil".splitOn " ").toArray.mapM fun s => `(Lean.Parser.Tactic.simpLemma| $(Lean.mkIdent s.toName):ident)
  `(tactic| simp only [$xs,*])
/-! the simplest steps of a reading -/
local macro_rules | `(tactic| walk_at "X") => `(tactic| (try walk_at "Y"))
local macro_rules | `(tactic| walk_at "I") => `(tactic| (refine kAt_of (by decide) (by simp only [List.length_cons, List.length_nil]; decide) (fun z ez _ => ?_); cases ez; walk_at "X"))
def top (i : Nat) : Stmt := PySem.Challenge.pw_rowkinds_k02_refusals_by_hand.main.body.getD i (.Pass ⟨0, 0, 0, 0⟩)
abbrev s_BadText_init : Stmt := subS (top 2) 0
theorem sc_BadText_init : FnScope ["self", "word"] ["self", "word"] (defScope s_BadText_init) :=
  ⟨rfl, rfl, rfl, by decide +kernel, rfl, by decide +kernel, by decide +kernel⟩
abbrev s_Unsound_init : Stmt := subS (top 7) 0
theorem sc_Unsound_init : FnScope ["self", "place", "what"] ["self", "place", "what"] (defScope s_Unsound_init) :=
  ⟨rfl, rfl, rfl, by decide +kernel, rfl, by decide +kernel, by decide +kernel⟩
abbrev s__law_begin : Stmt := top 15
theorem sc__law_begin : FnScope ["_law_script"] ["_law_script"] (defScope s__law_begin) :=
  ⟨rfl, rfl, rfl, by decide +kernel, rfl, by decide +kernel, by decide +kernel⟩
abbrev s__law_mixed : Stmt := top 16
theorem sc__law_mixed : FnScope ["_law_cell", "_law_k", "_law_number"] ["_law_cell", "_law_k"] (defScope s__law_mixed) :=
  ⟨rfl, rfl, rfl, by decide +kernel, rfl, by decide +kernel, by decide +kernel⟩
abbrev s__law_next : Stmt := top 17
theorem sc__law_next : FnScope ["_law_draw", "_law_many", "_law_found", "_law_cells", "_law_cell"] ["_law_draw", "_law_many"] (defScope s__law_next) :=
  ⟨rfl, rfl, rfl, by decide +kernel, rfl, by decide +kernel, by decide +kernel⟩
abbrev s__law_made : Stmt := top 18
theorem sc__law_made : FnScope ["_law_number", "_law_place", "_law_what", "_law_found"] ["_law_number", "_law_place", "_law_what"] (defScope s__law_made) :=
  ⟨rfl, rfl, rfl, by decide +kernel, rfl, by decide +kernel, by decide +kernel⟩
abbrev s__law_words : Stmt := top 19
theorem sc__law_words : FnScope ["_law_e", "_law_some", "_law_word", "_law_fits"] ["_law_e"] (defScope s__law_words) :=
  ⟨rfl, rfl, rfl, by decide +kernel, rfl, by decide +kernel, by decide +kernel⟩
abbrev s_law : Stmt := top 20
theorem sc_law : FnScope ["_law_script", "_law_draw", "_law_due", "_law_k", "_law_number", "_law_place", "_law_what", "_law_some", "_law_one", "_law_word"] ["_law_script"] (defScope s_law) :=
  ⟨rfl, rfl, rfl, by decide +kernel, rfl, by decide +kernel, by decide +kernel⟩
/-- where the classes stand, the code objects and the tables of defs that make lambdas -/
structure Cas where
  nil : Unit := ()
  RowError : Addr
  BadText : Addr
  BadRow : Addr
  BadKind : Addr
  BadDeed : Addr
  BadProgram : Addr
  Unsound : Addr
  BadInput : Addr
  BadPlace : Addr
  BadPaper : Addr
  BadAsked : Addr
  TooMany : Addr
  BadLine : Addr
abbrev tn (ca : Cas) : List TN := []
abbrev Ts (ca : Cas) : List (Addr × Str) := tsOf (tn ca)
/-! what the top has for the defs -/
structure Txt (K : PySem.W.Frag) (mg : Str → Option Value) (ca : Cas) : Prop where
  nil : True := trivial
  b_len : mg "len" = none
  b_isinstance : mg "isinstance" = none
  b_range : mg "range" = none
  b_min : mg "min" = none
  b_zip : mg "zip" = none
  b_ValueError : mg "ValueError" = none
  b_repr : mg "repr" = none
  g_RowError : mg "RowError" = some (.ref ca.RowError)
  g_BadText : mg "BadText" = some (.ref ca.BadText)
  g_BadRow : mg "BadRow" = some (.ref ca.BadRow)
  g_BadKind : mg "BadKind" = some (.ref ca.BadKind)
  g_BadDeed : mg "BadDeed" = some (.ref ca.BadDeed)
  g_BadProgram : mg "BadProgram" = some (.ref ca.BadProgram)
  g_Unsound : mg "Unsound" = some (.ref ca.Unsound)
  g_BadInput : mg "BadInput" = some (.ref ca.BadInput)
  g_BadPlace : mg "BadPlace" = some (.ref ca.BadPlace)
  g_BadPaper : mg "BadPaper" = some (.ref ca.BadPaper)
  g_BadAsked : mg "BadAsked" = some (.ref ca.BadAsked)
  g_TooMany : mg "TooMany" = some (.ref ca.TooMany)
  g_BadLine : mg "BadLine" = some (.ref ca.BadLine)
  e_BadText : ExC K ca.BadText
  k_BadText_RowError : PySem.W.kitOne K (.ref ca.BadText) (.ref ca.RowError) = some true
  k_BadText_BadText : PySem.W.kitOne K (.ref ca.BadText) (.ref ca.BadText) = some true
  k_BadText_BadRow : PySem.W.kitOne K (.ref ca.BadText) (.ref ca.BadRow) = some false
  k_BadText_BadKind : PySem.W.kitOne K (.ref ca.BadText) (.ref ca.BadKind) = some false
  k_BadText_BadDeed : PySem.W.kitOne K (.ref ca.BadText) (.ref ca.BadDeed) = some false
  k_BadText_BadProgram : PySem.W.kitOne K (.ref ca.BadText) (.ref ca.BadProgram) = some false
  k_BadText_Unsound : PySem.W.kitOne K (.ref ca.BadText) (.ref ca.Unsound) = some false
  k_BadText_BadInput : PySem.W.kitOne K (.ref ca.BadText) (.ref ca.BadInput) = some false
  k_BadText_BadPlace : PySem.W.kitOne K (.ref ca.BadText) (.ref ca.BadPlace) = some false
  k_BadText_BadPaper : PySem.W.kitOne K (.ref ca.BadText) (.ref ca.BadPaper) = some false
  k_BadText_BadAsked : PySem.W.kitOne K (.ref ca.BadText) (.ref ca.BadAsked) = some false
  k_BadText_TooMany : PySem.W.kitOne K (.ref ca.BadText) (.ref ca.TooMany) = some false
  k_BadText_BadLine : PySem.W.kitOne K (.ref ca.BadText) (.ref ca.BadLine) = some false
  k_BadText_ValueError : PySem.W.kitOne K (.ref ca.BadText) (.type "ValueError") = some true
  x_BadRow : ClsX K mg "BadRow" ca.BadRow
  e_BadRow : ExC K ca.BadRow
  k_BadRow_RowError : PySem.W.kitOne K (.ref ca.BadRow) (.ref ca.RowError) = some true
  k_BadRow_BadText : PySem.W.kitOne K (.ref ca.BadRow) (.ref ca.BadText) = some false
  k_BadRow_BadRow : PySem.W.kitOne K (.ref ca.BadRow) (.ref ca.BadRow) = some true
  k_BadRow_BadKind : PySem.W.kitOne K (.ref ca.BadRow) (.ref ca.BadKind) = some false
  k_BadRow_BadDeed : PySem.W.kitOne K (.ref ca.BadRow) (.ref ca.BadDeed) = some false
  k_BadRow_BadProgram : PySem.W.kitOne K (.ref ca.BadRow) (.ref ca.BadProgram) = some false
  k_BadRow_Unsound : PySem.W.kitOne K (.ref ca.BadRow) (.ref ca.Unsound) = some false
  k_BadRow_BadInput : PySem.W.kitOne K (.ref ca.BadRow) (.ref ca.BadInput) = some false
  k_BadRow_BadPlace : PySem.W.kitOne K (.ref ca.BadRow) (.ref ca.BadPlace) = some false
  k_BadRow_BadPaper : PySem.W.kitOne K (.ref ca.BadRow) (.ref ca.BadPaper) = some false
  k_BadRow_BadAsked : PySem.W.kitOne K (.ref ca.BadRow) (.ref ca.BadAsked) = some false
  k_BadRow_TooMany : PySem.W.kitOne K (.ref ca.BadRow) (.ref ca.TooMany) = some false
  k_BadRow_BadLine : PySem.W.kitOne K (.ref ca.BadRow) (.ref ca.BadLine) = some false
  k_BadRow_ValueError : PySem.W.kitOne K (.ref ca.BadRow) (.type "ValueError") = some true
  x_BadKind : ClsX K mg "BadKind" ca.BadKind
  e_BadKind : ExC K ca.BadKind
  k_BadKind_RowError : PySem.W.kitOne K (.ref ca.BadKind) (.ref ca.RowError) = some true
  k_BadKind_BadText : PySem.W.kitOne K (.ref ca.BadKind) (.ref ca.BadText) = some false
  k_BadKind_BadRow : PySem.W.kitOne K (.ref ca.BadKind) (.ref ca.BadRow) = some false
  k_BadKind_BadKind : PySem.W.kitOne K (.ref ca.BadKind) (.ref ca.BadKind) = some true
  k_BadKind_BadDeed : PySem.W.kitOne K (.ref ca.BadKind) (.ref ca.BadDeed) = some false
  k_BadKind_BadProgram : PySem.W.kitOne K (.ref ca.BadKind) (.ref ca.BadProgram) = some false
  k_BadKind_Unsound : PySem.W.kitOne K (.ref ca.BadKind) (.ref ca.Unsound) = some false
  k_BadKind_BadInput : PySem.W.kitOne K (.ref ca.BadKind) (.ref ca.BadInput) = some false
  k_BadKind_BadPlace : PySem.W.kitOne K (.ref ca.BadKind) (.ref ca.BadPlace) = some false
  k_BadKind_BadPaper : PySem.W.kitOne K (.ref ca.BadKind) (.ref ca.BadPaper) = some false
  k_BadKind_BadAsked : PySem.W.kitOne K (.ref ca.BadKind) (.ref ca.BadAsked) = some false
  k_BadKind_TooMany : PySem.W.kitOne K (.ref ca.BadKind) (.ref ca.TooMany) = some false
  k_BadKind_BadLine : PySem.W.kitOne K (.ref ca.BadKind) (.ref ca.BadLine) = some false
  k_BadKind_ValueError : PySem.W.kitOne K (.ref ca.BadKind) (.type "ValueError") = some true
  x_BadDeed : ClsX K mg "BadDeed" ca.BadDeed
  e_BadDeed : ExC K ca.BadDeed
  k_BadDeed_RowError : PySem.W.kitOne K (.ref ca.BadDeed) (.ref ca.RowError) = some true
  k_BadDeed_BadText : PySem.W.kitOne K (.ref ca.BadDeed) (.ref ca.BadText) = some false
  k_BadDeed_BadRow : PySem.W.kitOne K (.ref ca.BadDeed) (.ref ca.BadRow) = some false
  k_BadDeed_BadKind : PySem.W.kitOne K (.ref ca.BadDeed) (.ref ca.BadKind) = some false
  k_BadDeed_BadDeed : PySem.W.kitOne K (.ref ca.BadDeed) (.ref ca.BadDeed) = some true
  k_BadDeed_BadProgram : PySem.W.kitOne K (.ref ca.BadDeed) (.ref ca.BadProgram) = some false
  k_BadDeed_Unsound : PySem.W.kitOne K (.ref ca.BadDeed) (.ref ca.Unsound) = some false
  k_BadDeed_BadInput : PySem.W.kitOne K (.ref ca.BadDeed) (.ref ca.BadInput) = some false
  k_BadDeed_BadPlace : PySem.W.kitOne K (.ref ca.BadDeed) (.ref ca.BadPlace) = some false
  k_BadDeed_BadPaper : PySem.W.kitOne K (.ref ca.BadDeed) (.ref ca.BadPaper) = some false
  k_BadDeed_BadAsked : PySem.W.kitOne K (.ref ca.BadDeed) (.ref ca.BadAsked) = some false
  k_BadDeed_TooMany : PySem.W.kitOne K (.ref ca.BadDeed) (.ref ca.TooMany) = some false
  k_BadDeed_BadLine : PySem.W.kitOne K (.ref ca.BadDeed) (.ref ca.BadLine) = some false
  k_BadDeed_ValueError : PySem.W.kitOne K (.ref ca.BadDeed) (.type "ValueError") = some true
  x_BadProgram : ClsX K mg "BadProgram" ca.BadProgram
  e_BadProgram : ExC K ca.BadProgram
  k_BadProgram_RowError : PySem.W.kitOne K (.ref ca.BadProgram) (.ref ca.RowError) = some true
  k_BadProgram_BadText : PySem.W.kitOne K (.ref ca.BadProgram) (.ref ca.BadText) = some false
  k_BadProgram_BadRow : PySem.W.kitOne K (.ref ca.BadProgram) (.ref ca.BadRow) = some false
  k_BadProgram_BadKind : PySem.W.kitOne K (.ref ca.BadProgram) (.ref ca.BadKind) = some false
  k_BadProgram_BadDeed : PySem.W.kitOne K (.ref ca.BadProgram) (.ref ca.BadDeed) = some false
  k_BadProgram_BadProgram : PySem.W.kitOne K (.ref ca.BadProgram) (.ref ca.BadProgram) = some true
  k_BadProgram_Unsound : PySem.W.kitOne K (.ref ca.BadProgram) (.ref ca.Unsound) = some false
  k_BadProgram_BadInput : PySem.W.kitOne K (.ref ca.BadProgram) (.ref ca.BadInput) = some false
  k_BadProgram_BadPlace : PySem.W.kitOne K (.ref ca.BadProgram) (.ref ca.BadPlace) = some false
  k_BadProgram_BadPaper : PySem.W.kitOne K (.ref ca.BadProgram) (.ref ca.BadPaper) = some false
  k_BadProgram_BadAsked : PySem.W.kitOne K (.ref ca.BadProgram) (.ref ca.BadAsked) = some false
  k_BadProgram_TooMany : PySem.W.kitOne K (.ref ca.BadProgram) (.ref ca.TooMany) = some false
  k_BadProgram_BadLine : PySem.W.kitOne K (.ref ca.BadProgram) (.ref ca.BadLine) = some false
  k_BadProgram_ValueError : PySem.W.kitOne K (.ref ca.BadProgram) (.type "ValueError") = some true
  e_Unsound : ExC K ca.Unsound
  k_Unsound_RowError : PySem.W.kitOne K (.ref ca.Unsound) (.ref ca.RowError) = some true
  k_Unsound_BadText : PySem.W.kitOne K (.ref ca.Unsound) (.ref ca.BadText) = some false
  k_Unsound_BadRow : PySem.W.kitOne K (.ref ca.Unsound) (.ref ca.BadRow) = some false
  k_Unsound_BadKind : PySem.W.kitOne K (.ref ca.Unsound) (.ref ca.BadKind) = some false
  k_Unsound_BadDeed : PySem.W.kitOne K (.ref ca.Unsound) (.ref ca.BadDeed) = some false
  k_Unsound_BadProgram : PySem.W.kitOne K (.ref ca.Unsound) (.ref ca.BadProgram) = some false
  k_Unsound_Unsound : PySem.W.kitOne K (.ref ca.Unsound) (.ref ca.Unsound) = some true
  k_Unsound_BadInput : PySem.W.kitOne K (.ref ca.Unsound) (.ref ca.BadInput) = some false
  k_Unsound_BadPlace : PySem.W.kitOne K (.ref ca.Unsound) (.ref ca.BadPlace) = some false
  k_Unsound_BadPaper : PySem.W.kitOne K (.ref ca.Unsound) (.ref ca.BadPaper) = some false
  k_Unsound_BadAsked : PySem.W.kitOne K (.ref ca.Unsound) (.ref ca.BadAsked) = some false
  k_Unsound_TooMany : PySem.W.kitOne K (.ref ca.Unsound) (.ref ca.TooMany) = some false
  k_Unsound_BadLine : PySem.W.kitOne K (.ref ca.Unsound) (.ref ca.BadLine) = some false
  k_Unsound_ValueError : PySem.W.kitOne K (.ref ca.Unsound) (.type "ValueError") = some true
  x_BadInput : ClsX K mg "BadInput" ca.BadInput
  e_BadInput : ExC K ca.BadInput
  k_BadInput_RowError : PySem.W.kitOne K (.ref ca.BadInput) (.ref ca.RowError) = some true
  k_BadInput_BadText : PySem.W.kitOne K (.ref ca.BadInput) (.ref ca.BadText) = some false
  k_BadInput_BadRow : PySem.W.kitOne K (.ref ca.BadInput) (.ref ca.BadRow) = some false
  k_BadInput_BadKind : PySem.W.kitOne K (.ref ca.BadInput) (.ref ca.BadKind) = some false
  k_BadInput_BadDeed : PySem.W.kitOne K (.ref ca.BadInput) (.ref ca.BadDeed) = some false
  k_BadInput_BadProgram : PySem.W.kitOne K (.ref ca.BadInput) (.ref ca.BadProgram) = some false
  k_BadInput_Unsound : PySem.W.kitOne K (.ref ca.BadInput) (.ref ca.Unsound) = some false
  k_BadInput_BadInput : PySem.W.kitOne K (.ref ca.BadInput) (.ref ca.BadInput) = some true
  k_BadInput_BadPlace : PySem.W.kitOne K (.ref ca.BadInput) (.ref ca.BadPlace) = some false
  k_BadInput_BadPaper : PySem.W.kitOne K (.ref ca.BadInput) (.ref ca.BadPaper) = some false
  k_BadInput_BadAsked : PySem.W.kitOne K (.ref ca.BadInput) (.ref ca.BadAsked) = some false
  k_BadInput_TooMany : PySem.W.kitOne K (.ref ca.BadInput) (.ref ca.TooMany) = some false
  k_BadInput_BadLine : PySem.W.kitOne K (.ref ca.BadInput) (.ref ca.BadLine) = some false
  k_BadInput_ValueError : PySem.W.kitOne K (.ref ca.BadInput) (.type "ValueError") = some true
  x_BadPlace : ClsX K mg "BadPlace" ca.BadPlace
  e_BadPlace : ExC K ca.BadPlace
  k_BadPlace_RowError : PySem.W.kitOne K (.ref ca.BadPlace) (.ref ca.RowError) = some true
  k_BadPlace_BadText : PySem.W.kitOne K (.ref ca.BadPlace) (.ref ca.BadText) = some false
  k_BadPlace_BadRow : PySem.W.kitOne K (.ref ca.BadPlace) (.ref ca.BadRow) = some false
  k_BadPlace_BadKind : PySem.W.kitOne K (.ref ca.BadPlace) (.ref ca.BadKind) = some false
  k_BadPlace_BadDeed : PySem.W.kitOne K (.ref ca.BadPlace) (.ref ca.BadDeed) = some false
  k_BadPlace_BadProgram : PySem.W.kitOne K (.ref ca.BadPlace) (.ref ca.BadProgram) = some false
  k_BadPlace_Unsound : PySem.W.kitOne K (.ref ca.BadPlace) (.ref ca.Unsound) = some false
  k_BadPlace_BadInput : PySem.W.kitOne K (.ref ca.BadPlace) (.ref ca.BadInput) = some false
  k_BadPlace_BadPlace : PySem.W.kitOne K (.ref ca.BadPlace) (.ref ca.BadPlace) = some true
  k_BadPlace_BadPaper : PySem.W.kitOne K (.ref ca.BadPlace) (.ref ca.BadPaper) = some false
  k_BadPlace_BadAsked : PySem.W.kitOne K (.ref ca.BadPlace) (.ref ca.BadAsked) = some false
  k_BadPlace_TooMany : PySem.W.kitOne K (.ref ca.BadPlace) (.ref ca.TooMany) = some false
  k_BadPlace_BadLine : PySem.W.kitOne K (.ref ca.BadPlace) (.ref ca.BadLine) = some false
  k_BadPlace_ValueError : PySem.W.kitOne K (.ref ca.BadPlace) (.type "ValueError") = some true
  x_BadPaper : ClsX K mg "BadPaper" ca.BadPaper
  e_BadPaper : ExC K ca.BadPaper
  k_BadPaper_RowError : PySem.W.kitOne K (.ref ca.BadPaper) (.ref ca.RowError) = some true
  k_BadPaper_BadText : PySem.W.kitOne K (.ref ca.BadPaper) (.ref ca.BadText) = some false
  k_BadPaper_BadRow : PySem.W.kitOne K (.ref ca.BadPaper) (.ref ca.BadRow) = some false
  k_BadPaper_BadKind : PySem.W.kitOne K (.ref ca.BadPaper) (.ref ca.BadKind) = some false
  k_BadPaper_BadDeed : PySem.W.kitOne K (.ref ca.BadPaper) (.ref ca.BadDeed) = some false
  k_BadPaper_BadProgram : PySem.W.kitOne K (.ref ca.BadPaper) (.ref ca.BadProgram) = some false
  k_BadPaper_Unsound : PySem.W.kitOne K (.ref ca.BadPaper) (.ref ca.Unsound) = some false
  k_BadPaper_BadInput : PySem.W.kitOne K (.ref ca.BadPaper) (.ref ca.BadInput) = some false
  k_BadPaper_BadPlace : PySem.W.kitOne K (.ref ca.BadPaper) (.ref ca.BadPlace) = some false
  k_BadPaper_BadPaper : PySem.W.kitOne K (.ref ca.BadPaper) (.ref ca.BadPaper) = some true
  k_BadPaper_BadAsked : PySem.W.kitOne K (.ref ca.BadPaper) (.ref ca.BadAsked) = some false
  k_BadPaper_TooMany : PySem.W.kitOne K (.ref ca.BadPaper) (.ref ca.TooMany) = some false
  k_BadPaper_BadLine : PySem.W.kitOne K (.ref ca.BadPaper) (.ref ca.BadLine) = some false
  k_BadPaper_ValueError : PySem.W.kitOne K (.ref ca.BadPaper) (.type "ValueError") = some true
  x_BadAsked : ClsX K mg "BadAsked" ca.BadAsked
  e_BadAsked : ExC K ca.BadAsked
  k_BadAsked_RowError : PySem.W.kitOne K (.ref ca.BadAsked) (.ref ca.RowError) = some true
  k_BadAsked_BadText : PySem.W.kitOne K (.ref ca.BadAsked) (.ref ca.BadText) = some false
  k_BadAsked_BadRow : PySem.W.kitOne K (.ref ca.BadAsked) (.ref ca.BadRow) = some false
  k_BadAsked_BadKind : PySem.W.kitOne K (.ref ca.BadAsked) (.ref ca.BadKind) = some false
  k_BadAsked_BadDeed : PySem.W.kitOne K (.ref ca.BadAsked) (.ref ca.BadDeed) = some false
  k_BadAsked_BadProgram : PySem.W.kitOne K (.ref ca.BadAsked) (.ref ca.BadProgram) = some false
  k_BadAsked_Unsound : PySem.W.kitOne K (.ref ca.BadAsked) (.ref ca.Unsound) = some false
  k_BadAsked_BadInput : PySem.W.kitOne K (.ref ca.BadAsked) (.ref ca.BadInput) = some false
  k_BadAsked_BadPlace : PySem.W.kitOne K (.ref ca.BadAsked) (.ref ca.BadPlace) = some false
  k_BadAsked_BadPaper : PySem.W.kitOne K (.ref ca.BadAsked) (.ref ca.BadPaper) = some false
  k_BadAsked_BadAsked : PySem.W.kitOne K (.ref ca.BadAsked) (.ref ca.BadAsked) = some true
  k_BadAsked_TooMany : PySem.W.kitOne K (.ref ca.BadAsked) (.ref ca.TooMany) = some false
  k_BadAsked_BadLine : PySem.W.kitOne K (.ref ca.BadAsked) (.ref ca.BadLine) = some false
  k_BadAsked_ValueError : PySem.W.kitOne K (.ref ca.BadAsked) (.type "ValueError") = some true
  x_TooMany : ClsX K mg "TooMany" ca.TooMany
  e_TooMany : ExC K ca.TooMany
  k_TooMany_RowError : PySem.W.kitOne K (.ref ca.TooMany) (.ref ca.RowError) = some true
  k_TooMany_BadText : PySem.W.kitOne K (.ref ca.TooMany) (.ref ca.BadText) = some false
  k_TooMany_BadRow : PySem.W.kitOne K (.ref ca.TooMany) (.ref ca.BadRow) = some false
  k_TooMany_BadKind : PySem.W.kitOne K (.ref ca.TooMany) (.ref ca.BadKind) = some false
  k_TooMany_BadDeed : PySem.W.kitOne K (.ref ca.TooMany) (.ref ca.BadDeed) = some false
  k_TooMany_BadProgram : PySem.W.kitOne K (.ref ca.TooMany) (.ref ca.BadProgram) = some false
  k_TooMany_Unsound : PySem.W.kitOne K (.ref ca.TooMany) (.ref ca.Unsound) = some false
  k_TooMany_BadInput : PySem.W.kitOne K (.ref ca.TooMany) (.ref ca.BadInput) = some false
  k_TooMany_BadPlace : PySem.W.kitOne K (.ref ca.TooMany) (.ref ca.BadPlace) = some false
  k_TooMany_BadPaper : PySem.W.kitOne K (.ref ca.TooMany) (.ref ca.BadPaper) = some false
  k_TooMany_BadAsked : PySem.W.kitOne K (.ref ca.TooMany) (.ref ca.BadAsked) = some false
  k_TooMany_TooMany : PySem.W.kitOne K (.ref ca.TooMany) (.ref ca.TooMany) = some true
  k_TooMany_BadLine : PySem.W.kitOne K (.ref ca.TooMany) (.ref ca.BadLine) = some false
  k_TooMany_ValueError : PySem.W.kitOne K (.ref ca.TooMany) (.type "ValueError") = some true
  x_BadLine : ClsX K mg "BadLine" ca.BadLine
  e_BadLine : ExC K ca.BadLine
  k_BadLine_RowError : PySem.W.kitOne K (.ref ca.BadLine) (.ref ca.RowError) = some true
  k_BadLine_BadText : PySem.W.kitOne K (.ref ca.BadLine) (.ref ca.BadText) = some false
  k_BadLine_BadRow : PySem.W.kitOne K (.ref ca.BadLine) (.ref ca.BadRow) = some false
  k_BadLine_BadKind : PySem.W.kitOne K (.ref ca.BadLine) (.ref ca.BadKind) = some false
  k_BadLine_BadDeed : PySem.W.kitOne K (.ref ca.BadLine) (.ref ca.BadDeed) = some false
  k_BadLine_BadProgram : PySem.W.kitOne K (.ref ca.BadLine) (.ref ca.BadProgram) = some false
  k_BadLine_Unsound : PySem.W.kitOne K (.ref ca.BadLine) (.ref ca.Unsound) = some false
  k_BadLine_BadInput : PySem.W.kitOne K (.ref ca.BadLine) (.ref ca.BadInput) = some false
  k_BadLine_BadPlace : PySem.W.kitOne K (.ref ca.BadLine) (.ref ca.BadPlace) = some false
  k_BadLine_BadPaper : PySem.W.kitOne K (.ref ca.BadLine) (.ref ca.BadPaper) = some false
  k_BadLine_BadAsked : PySem.W.kitOne K (.ref ca.BadLine) (.ref ca.BadAsked) = some false
  k_BadLine_TooMany : PySem.W.kitOne K (.ref ca.BadLine) (.ref ca.TooMany) = some false
  k_BadLine_BadLine : PySem.W.kitOne K (.ref ca.BadLine) (.ref ca.BadLine) = some true
  k_BadLine_ValueError : PySem.W.kitOne K (.ref ca.BadLine) (.type "ValueError") = some true
  rd_X : PySem.W.readsIn K ca.RowError (.type "type") = true
  ga_X : PySem.W.specialIn K (.ref ca.RowError) "__getattribute__" = some (some (.builtin "type.__getattribute__"))
  at_X : PySem.W.findCls K (.ref ca.RowError) (.type "type") "__init__" = some (.val (.builtin "ValueError.__init__"))
def clsL (ca : Cas) : List Addr := [ca.BadText, ca.Unsound, ca.BadRow, ca.BadKind, ca.BadDeed, ca.BadProgram, ca.BadInput, ca.BadPlace, ca.BadPaper, ca.BadAsked, ca.TooMany, ca.BadLine]
def wordL : List Str := ["text", "unsound", "row", "kind", "deed", "program", "input", "place", "paper", "asked", "many", "line"]
def madeD (ca : Cas) (n p w : D) : List D := [exF ca.BadText ["word"] [n], exF ca.Unsound ["what", "place"] [w, p], exD ca.BadRow, exD ca.BadKind, exD ca.BadDeed, exD ca.BadProgram, exD ca.BadInput, exD ca.BadPlace, exD ca.BadPaper, exD ca.BadAsked, exD ca.TooMany, exD ca.BadLine]
def FF__law_made (ca : Cas) : FW T2 := fun rs τ Q => ∃ n p w : D, rs = [.d n, .d p, .d w] ∧ Q (.ol (madeD ca n p w)) τ
def FF__law_words (ca : Cas) : FW T2 := fun rs τ Q => ∃ (x : D) (i : Nat) (C : Addr) (u : Str), rs = [.d x] ∧ (clsL ca)[i]? = some C ∧ wordL[i]? = some u ∧ exC? x = some ((C : Nat) : Int) ∧ Q (.ol [.str u]) τ
section
variable {P : Program} {w : World} {K : PySem.W.Frag} {mg : Str → Option Value} {base : Heap} {ca : Cas}
theorem ok_BadText_init {f : Addr} {fd : FuncData} (T : Txt K mg ca) (F : Fun K "__init__" "BadText.__init__" s_BadText_init f fd) :
    FnOk P w K mg base CX0 1 f fd ["self", "word"] (spI K ca.BadText ["word"]) := by
  refine F.ok sc_BadText_init (fun vs H Q E h => ?_) fun cdv A outer s H vs Q E hr h => ?_
  · obtain ⟨a, ws, rfl, _, _, _, hl, _⟩ := h
    simpa using hl
  · obtain ⟨a, ws, rfl, TC, hno, ea, hl, q⟩ := h
    obtain ⟨u0, rfl⟩ : ∃ u0, ws = [u0] := by
      rcases ws with _ | ⟨w1, _ | ⟨w2, _ | ⟨w3, ws⟩⟩⟩
      all_goals first | exact ⟨_, rfl⟩ | exact ⟨_, _, rfl⟩ | (exfalso; simp at hl)
    refine ⟨_, (pss_cons (ps_expr (pe_rinit (by rfl) T.g_RowError T.rd_X T.ga_X T.at_X (pa_cons (pv 0) (pa_cons pe_str pa_nil)))) (pss_one (ps_ost (pv 0) (pv 1)))), ?_⟩
    refine ⟨.ref a, rfl, a, ca.BadText, [.str _], rfl, by decide, TC, ea, ?_⟩
    refine ⟨u0, rfl, .ref a, rfl, a, ca.BadText, rfl, TC, hno _ (by simp), .inl ⟨ea, fun dx hdx hne => ?_⟩⟩
    exact q dx _ hne hdx upd_same (by rw [upd_ne hne, upd_same]; rfl) fun b h1 h2 => by rw [upd_ne h1, upd_ne h2]
theorem ok_Unsound_init {f : Addr} {fd : FuncData} (T : Txt K mg ca) (F : Fun K "__init__" "Unsound.__init__" s_Unsound_init f fd) :
    FnOk P w K mg base CX0 1 f fd ["self", "place", "what"] (spI K ca.Unsound ["what", "place"]) := by
  refine F.ok sc_Unsound_init (fun vs H Q E h => ?_) fun cdv A outer s H vs Q E hr h => ?_
  · obtain ⟨a, ws, rfl, _, _, _, hl, _⟩ := h
    simpa using hl
  · obtain ⟨a, ws, rfl, TC, hno, ea, hl, q⟩ := h
    obtain ⟨u0, u1, rfl⟩ : ∃ u0 u1, ws = [u0, u1] := by
      rcases ws with _ | ⟨w1, _ | ⟨w2, _ | ⟨w3, ws⟩⟩⟩
      all_goals first | exact ⟨_, rfl⟩ | exact ⟨_, _, rfl⟩ | (exfalso; simp at hl)
    refine ⟨_, (pss_cons (ps_expr (pe_rinit (by rfl) T.g_RowError T.rd_X T.ga_X T.at_X (pa_cons (pv 0) (pa_cons pe_str pa_nil)))) (pss_cons (ps_ost (pv 0) (pv 1)) (pss_one (ps_ost (pv 0) (pv 2))))), ?_⟩
    refine ⟨.ref a, rfl, a, ca.Unsound, [.str _], rfl, by decide, TC, ea, ?_⟩
    refine ⟨u0, rfl, .ref a, rfl, a, ca.Unsound, rfl, TC, hno _ (by simp), .inl ⟨ea, fun dx hdx hne => ?_⟩⟩
    refine ⟨u1, rfl, .ref a, rfl, a, ca.Unsound, rfl, TC, hno _ (by simp), .inr ⟨dx, _, upd_same, by rw [upd_ne hne, upd_same], by simp, ?_⟩⟩
    exact q dx _ hne hdx (by rw [upd_ne (Ne.symm hne), upd_same]) upd_same fun b h1 h2 => by rw [upd_ne h2, upd_ne h1, upd_ne h2]
theorem ok__law_begin {f : Addr} {fd : FuncData} (T : Txt K mg ca) (F : Fun K "_law_begin" "_law_begin" s__law_begin f fd) : FnOk P w K mg base CX0 1 f fd ["_law_script"] (spD (theS ((Ts ca).map (·.1))) K FF__law_begin) := by
  refine F.ok sc__law_begin (fun vs H Q E h => ?_) (fun cdv A outer s H vs Q E hr h => ?_)
  · obtain ⟨G, Fp, τ, rs, Qd, Ha, k, r, dr, ⟨ns, e, hl, ht, q⟩, fin⟩ := h
    subst e
    obtain ⟨v, e1, _⟩ := r.one
    subst e1
    rfl
  · obtain ⟨G, Fp, τ, rs, Qd, Ha, k, r, dr, ⟨ns, e, hl, ht, q⟩, fin⟩ := h
    subst e ht
    obtain ⟨v, e1, rv⟩ := r.one
    subst e1
    obtain ⟨p, ws, ev, hp, ra⟩ := rv.sql (xs := ns.map PyData.int) k.same rfl
    subst ev
    have ew := ints_ok ra (ints_map ns)
    subst ew
    have noF : ∀ b, ¬ Fp b := k.r
    refine ⟨_, pss_one (ps_ret (pe_disp (pps_cons pe_str (pe_op op_addA (pv 0) (pe_lst (pa_cons pe_int pa_nil))) (pps_cons pe_str pe_int (pps_cons pe_str pe_int (pps_cons pe_str pe_int pps_nil)))) (by rfl) (by rfl) (fun z => by cases z) (by decide))), ?_⟩
    intro d hd
    refine ⟨_, rfl, (by show 1 ≤ sizeLine; decide), fun x hx => ?_⟩
    have s1 : Same H (upd H d (.dK [])) := fun b o e => by rw [upd_ne (ne_of_none e hd)]; exact e
    have s2 : Same (upd H d (.dK [])) (upd (upd H d (.dK [])) x (.lst [.int 0])) := fun b o e => by rw [upd_ne (ne_of_none e hx)]; exact e
    refine .inr (.inr (.inr ⟨p, x, _, _, rfl, rfl, same_sqp (s1.trans s2) hp, .inl (.inl upd_same), ?_, fun c hc => ?_⟩))
    · rw [List.length_map]
      show ns.length + 1 ≤ sizeLine
      rw [sizeLine_eq]
      omega
    have s3 : Same (upd (upd H d (.dK [])) x (.lst [.int 0])) (upd (upd (upd H d (.dK [])) x (.lst [.int 0])) c (.lst (ns.map V.int ++ [.int 0]))) := fun b o e => by rw [upd_ne (ne_of_none e hc)]; exact e
    have dx : d ≠ x := fun z => by
      subst z
      rw [upd_same] at hx
      cases hx
    have dc : d ≠ c := fun z => by
      subst z
      rw [upd_ne dx, upd_same] at hc
      cases hc
    have hc0 : H c = none := by
      cases z : H c with
      | none => rfl
      | some o =>
        rw [s2 c o (s1 c o z)] at hc
        cases hc
    refine ⟨by rw [upd_ne dc, upd_ne dx, upd_same], drK c 0 0 0, rfl, by show 4 ≤ 15; decide, ?_⟩
    rw [dr_new]
    have hG : G c = none := by
      cases z : G c with
      | none => rfl
      | some o =>
        rw [k.same c o z] at hc0
        cases hc0
    have ec : ns.map V.int ++ [V.int 0] = (ns ++ [0]).map V.int := by rw [List.map_append]; rfl
    have sG : Same G (upd G c (.lst (ns.map V.int ++ [.int 0]))) := fun b o e => by rw [upd_ne (ne_of_none e hG)]; exact e
    refine fin (.raw (.ref d)) (.on d 1152921504606846976) (upd G c (.lst (ns.map V.int ++ [.int 0]))) (fun b => b = d) _ (.ref d) ⟨sG, fun b o _ e => ?_, fun b o e => ?_, fun b e => ?_, fun b e => (noF b e).elim, fun b e => ?_⟩ ⟨fun b o e => ?_, fun b e => ?_, fun b e => ?_, ⟨fun b => Iff.rfl, c, ns ++ [0], 0, 0, 0, upd_same, ?_, by simp, by omega⟩, fun b ps e => ?_, fun b φ e => ?_⟩ rfl (q d)
    · rw [upd_ne (ne_of_none e hd)]
      exact s3 b o (s2 b o (s1 b o e))
    · by_cases z : b = c
      · subst z; exact .inr (.inl hc0)
      · rw [upd_ne z] at e; exact .inl e
    · subst e; exact .inr hd
    · intro z
      by_cases zd : b = d
      · subst zd; exact e hd
      · rw [upd_ne zd] at z
        cases y : H b with
        | none => exact e y
        | some o =>
          rw [s3 b o (s2 b o (s1 b o y))] at z
          cases z
    · by_cases z : b = c
      · subst z
        rw [upd_same] at e
        rw [upd_ne (Ne.symm dc), upd_same]
        exact e
      · rw [upd_ne z] at e
        have hb := k.same b o e
        rw [upd_ne (ne_of_none hb hd)]
        exact s3 b o (s2 b o (s1 b o hb))
    · subst e
      rw [upd_ne dc]
      cases z : G b with
      | none => rfl
      | some o =>
        rw [k.same b o z] at hd
        cases hd
    · subst e
      rw [upd_same]
      exact fun z => by cases z
    · rw [← ec]
      exact .inl (.inl upd_same)
    · by_cases h1 : b = d
      · subst h1; rw [upd_same] at e; cases e
      rw [upd_ne h1] at e
      by_cases h2 : b = c
      · subst h2; rw [upd_same] at e; cases e
      rw [upd_ne h2] at e
      by_cases h3 : b = x
      · subst h3; rw [upd_same] at e; cases e
      rw [upd_ne h3, upd_ne h1] at e
      exact k.nt b ps e
    · by_cases h1 : b = d
      · subst h1; rw [upd_same] at e; cases e
      rw [upd_ne h1] at e
      by_cases h2 : b = c
      · subst h2; rw [upd_same] at e; cases e
      rw [upd_ne h2] at e
      by_cases h3 : b = x
      · subst h3; rw [upd_same] at e; cases e
      rw [upd_ne h3, upd_ne h1] at e
      rw [upd_ne h2]
      exact k.nx b φ e
theorem ok__law_mixed {f : Addr} {fd : FuncData} (T : Txt K mg ca) (F : Fun K "_law_mixed" "_law_mixed" s__law_mixed f fd) :
    FnOk P w K mg base CX0 1 f fd ["_law_cell", "_law_k"] (spD (theS ((Ts ca).map (·.1))) K FF__law_mixed) := by
  refine okDr F sc__law_mixed (by walk_at "v") (by decide) fun cdv A outer s H E G Fp hr => ⟨_, (dss_cons (ds_set (i := 2) sc__law_mixed.nd rfl (by first | exact .inl rfl | exact .inr rfl) (de_op op_mod od_I (de_op op_mulB (od_mulB rfl) (de_op op_addA (od_add rfl) (de_op op_addA (od_add rfl) (de_op op_addA (od_add rfl) (de_op op_mod od_I (de_var (pv 0)) de_int) (de_op op_mulB (od_mulB rfl) (de_op op_mulB (od_mulB rfl) de_int (de_var (pv 1))) (de_var (pv 1)))) (de_op op_mulB (od_mulB rfl) de_int (de_var (pv 1)))) de_int) de_int) de_int))
      (dss_one (ds_ret (de_op op_fdiv od_I (de_op op_mod od_I (de_op op_mulB (od_mulB rfl) (de_var (pv 2)) (de_op op_addA (od_add rfl) de_int (de_op op_mulB (od_mulB rfl) de_int (de_op op_mod od_I (de_var (pv 1)) de_int)))) de_int) de_int)))), ?_⟩
  dsimp only [Bk.T, theS]
  rintro rs τ Q ⟨c, k, rfl, hk, h⟩
  walk_at "y"
  refine ⟨by decide, .inl ⟨by decide, by decide⟩, .inr ⟨by omega, by omega⟩, .inl ⟨by decide, by decide⟩, .inr ⟨by decide, by decide⟩, by decide, by decide, .inl ⟨by decide, by decide⟩, .inr ⟨by omega, by omega⟩, by decide, ⟨by decide, by decide⟩, h _ ?_⟩
  exact Int.ediv_nonneg (Int.emod_nonneg _ (by decide)) (by decide)
theorem ok__law_words {f : Addr} {fd : FuncData} (T : Txt K mg ca) (F : Fun K "_law_words" "_law_words" s__law_words f fd)  :
    FnG P w K mg base 1 f fd ["_law_e"] (spD (theT (Ts ca)) K (FF__law_words ca)) := by
  refine okG F sc__law_words (by walk_at "v") (by decide) fun cdv A outer s H E G Fp hcd hr => ⟨_, (dss_cons (ds_set (i := 1) sc__law_words.nd rfl (by first | exact .inl rfl | exact .inr rfl) (de_lst (da_cons (de_tup (da_cons de_str (da_cons (de_isx rfl (by rfl) T.b_isinstance (by decide +kernel) (de_var (pv 0)) (pe_glob (v := .ref ca.BadText) (by rfl) T.g_BadText rfl) (.own _)) da_nil))) (da_cons (de_tup (da_cons de_str (da_cons (de_isx rfl (by rfl) T.b_isinstance (by decide +kernel) (de_var (pv 0)) (pe_glob (v := .ref ca.Unsound) (by rfl) T.g_Unsound rfl) (.own _)) da_nil))) (da_cons (de_tup (da_cons de_str (da_cons (de_isx rfl (by rfl) T.b_isinstance (by decide +kernel) (de_var (pv 0)) (pe_glob (v := .ref ca.BadRow) (by rfl) T.g_BadRow rfl) (.own _)) da_nil))) da_nil)))))
      (dss_cons (ds_set (i := 1) sc__law_words.nd rfl (by first | exact .inl rfl | exact .inr rfl) (de_op op_addA (od_add rfl) (de_var (pv 1)) (de_lst (da_cons (de_tup (da_cons de_str (da_cons (de_isx rfl (by rfl) T.b_isinstance (by decide +kernel) (de_var (pv 0)) (pe_glob (v := .ref ca.BadKind) (by rfl) T.g_BadKind rfl) (.own _)) da_nil))) (da_cons (de_tup (da_cons de_str (da_cons (de_isx rfl (by rfl) T.b_isinstance (by decide +kernel) (de_var (pv 0)) (pe_glob (v := .ref ca.BadDeed) (by rfl) T.g_BadDeed rfl) (.own _)) da_nil))) da_nil)))))
      (dss_cons (ds_set (i := 1) sc__law_words.nd rfl (by first | exact .inl rfl | exact .inr rfl) (de_op op_addA (od_add rfl) (de_var (pv 1)) (de_lst (da_cons (de_tup (da_cons de_str (da_cons (de_isx rfl (by rfl) T.b_isinstance (by decide +kernel) (de_var (pv 0)) (pe_glob (v := .ref ca.BadProgram) (by rfl) T.g_BadProgram rfl) (.own _)) da_nil))) (da_cons (de_tup (da_cons de_str (da_cons (de_isx rfl (by rfl) T.b_isinstance (by decide +kernel) (de_var (pv 0)) (pe_glob (v := .ref ca.BadInput) (by rfl) T.g_BadInput rfl) (.own _)) da_nil))) da_nil)))))
      (dss_cons (ds_set (i := 1) sc__law_words.nd rfl (by first | exact .inl rfl | exact .inr rfl) (de_op op_addA (od_add rfl) (de_var (pv 1)) (de_lst (da_cons (de_tup (da_cons de_str (da_cons (de_isx rfl (by rfl) T.b_isinstance (by decide +kernel) (de_var (pv 0)) (pe_glob (v := .ref ca.BadPlace) (by rfl) T.g_BadPlace rfl) (.own _)) da_nil))) (da_cons (de_tup (da_cons de_str (da_cons (de_isx rfl (by rfl) T.b_isinstance (by decide +kernel) (de_var (pv 0)) (pe_glob (v := .ref ca.BadPaper) (by rfl) T.g_BadPaper rfl) (.own _)) da_nil))) da_nil)))))
      (dss_cons (ds_set (i := 1) sc__law_words.nd rfl (by first | exact .inl rfl | exact .inr rfl) (de_op op_addA (od_add rfl) (de_var (pv 1)) (de_lst (da_cons (de_tup (da_cons de_str (da_cons (de_isx rfl (by rfl) T.b_isinstance (by decide +kernel) (de_var (pv 0)) (pe_glob (v := .ref ca.BadAsked) (by rfl) T.g_BadAsked rfl) (.own _)) da_nil))) (da_cons (de_tup (da_cons de_str (da_cons (de_isx rfl (by rfl) T.b_isinstance (by decide +kernel) (de_var (pv 0)) (pe_glob (v := .ref ca.TooMany) (by rfl) T.g_TooMany rfl) (.own _)) da_nil))) da_nil)))))
      (dss_cons (ds_set (i := 1) sc__law_words.nd rfl (by first | exact .inl rfl | exact .inr rfl) (de_op op_addA (od_add rfl) (de_var (pv 1)) (de_lst (da_cons (de_tup (da_cons de_str (da_cons (de_isx rfl (by rfl) T.b_isinstance (by decide +kernel) (de_var (pv 0)) (pe_glob (v := .ref ca.BadLine) (by rfl) T.g_BadLine rfl) (.own _)) da_nil))) da_nil))))
      (dss_one (ds_frz (i := 1) (ds_ret (de_lc (own := [("_law_word", 2), ("_law_fits", 3)]) rfl sc__law_words.nd (di_seq rfl (de_var (pv 1))) (blkOk_by (by kernel_rfl)) (by decide) (fun _ _ _ _ _ => (dg_tp rfl rfl (dg_cons (dg_nm (i := 2) sc__law_words.nd rfl (by first | exact .inl rfl | exact .inr rfl)) (dg_cons (dg_nm (i := 3) sc__law_words.nd rfl (by first | exact .inl rfl | exact .inr rfl)) dg_nil)))) (fun _ _ _ _ _ => (dts_one (dt_tru rfl (de_var (pv 3))))) (fun _ _ _ _ _ => (de_var (pv 2))))))))))))), ?_⟩
  dsimp only [Bk.T, theT]
  rintro rs τ Q ⟨x, i, C, u, rfl, hC, hu, hx, q⟩
  rcases i with _ | _ | _ | _ | _ | _ | _ | _ | _ | _ | _ | _ | i
  · cases hC
    cases hu
    walk_at "Y"
    refine kIsX_of (C := ca.BadText) true hx T.e_BadText (by simp only [PySem.W.kitAny, T.k_BadText_BadText]) ?_
    walk_at "X"
    refine kIsX_of (C := ca.BadText) false hx T.e_BadText (by simp only [PySem.W.kitAny, T.k_BadText_Unsound]) ?_
    walk_at "X"
    refine kIsX_of (C := ca.BadText) false hx T.e_BadText (by simp only [PySem.W.kitAny, T.k_BadText_BadRow]) ?_
    walk_at "X"
    refine kIsX_of (C := ca.BadText) false hx T.e_BadText (by simp only [PySem.W.kitAny, T.k_BadText_BadKind]) ?_
    walk_at "X"
    refine kIsX_of (C := ca.BadText) false hx T.e_BadText (by simp only [PySem.W.kitAny, T.k_BadText_BadDeed]) ?_
    walk_at "X"
    refine kIsX_of (C := ca.BadText) false hx T.e_BadText (by simp only [PySem.W.kitAny, T.k_BadText_BadProgram]) ?_
    walk_at "X"
    refine kIsX_of (C := ca.BadText) false hx T.e_BadText (by simp only [PySem.W.kitAny, T.k_BadText_BadInput]) ?_
    walk_at "X"
    refine kIsX_of (C := ca.BadText) false hx T.e_BadText (by simp only [PySem.W.kitAny, T.k_BadText_BadPlace]) ?_
    walk_at "X"
    refine kIsX_of (C := ca.BadText) false hx T.e_BadText (by simp only [PySem.W.kitAny, T.k_BadText_BadPaper]) ?_
    walk_at "X"
    refine kIsX_of (C := ca.BadText) false hx T.e_BadText (by simp only [PySem.W.kitAny, T.k_BadText_BadAsked]) ?_
    walk_at "X"
    refine kIsX_of (C := ca.BadText) false hx T.e_BadText (by simp only [PySem.W.kitAny, T.k_BadText_TooMany]) ?_
    walk_at "X"
    refine kIsX_of (C := ca.BadText) false hx T.e_BadText (by simp only [PySem.W.kitAny, T.k_BadText_BadLine]) ?_
    walk_at "X"
    repeat (rw [lcW_c]; walk_at "X")
    exact q
  · cases hC
    cases hu
    walk_at "Y"
    refine kIsX_of (C := ca.Unsound) false hx T.e_Unsound (by simp only [PySem.W.kitAny, T.k_Unsound_BadText]) ?_
    walk_at "X"
    refine kIsX_of (C := ca.Unsound) true hx T.e_Unsound (by simp only [PySem.W.kitAny, T.k_Unsound_Unsound]) ?_
    walk_at "X"
    refine kIsX_of (C := ca.Unsound) false hx T.e_Unsound (by simp only [PySem.W.kitAny, T.k_Unsound_BadRow]) ?_
    walk_at "X"
    refine kIsX_of (C := ca.Unsound) false hx T.e_Unsound (by simp only [PySem.W.kitAny, T.k_Unsound_BadKind]) ?_
    walk_at "X"
    refine kIsX_of (C := ca.Unsound) false hx T.e_Unsound (by simp only [PySem.W.kitAny, T.k_Unsound_BadDeed]) ?_
    walk_at "X"
    refine kIsX_of (C := ca.Unsound) false hx T.e_Unsound (by simp only [PySem.W.kitAny, T.k_Unsound_BadProgram]) ?_
    walk_at "X"
    refine kIsX_of (C := ca.Unsound) false hx T.e_Unsound (by simp only [PySem.W.kitAny, T.k_Unsound_BadInput]) ?_
    walk_at "X"
    refine kIsX_of (C := ca.Unsound) false hx T.e_Unsound (by simp only [PySem.W.kitAny, T.k_Unsound_BadPlace]) ?_
    walk_at "X"
    refine kIsX_of (C := ca.Unsound) false hx T.e_Unsound (by simp only [PySem.W.kitAny, T.k_Unsound_BadPaper]) ?_
    walk_at "X"
    refine kIsX_of (C := ca.Unsound) false hx T.e_Unsound (by simp only [PySem.W.kitAny, T.k_Unsound_BadAsked]) ?_
    walk_at "X"
    refine kIsX_of (C := ca.Unsound) false hx T.e_Unsound (by simp only [PySem.W.kitAny, T.k_Unsound_TooMany]) ?_
    walk_at "X"
    refine kIsX_of (C := ca.Unsound) false hx T.e_Unsound (by simp only [PySem.W.kitAny, T.k_Unsound_BadLine]) ?_
    walk_at "X"
    repeat (rw [lcW_c]; walk_at "X")
    trace_state
    exact q
  · cases hC
    cases hu
    walk_at "Y"
    refine kIsX_of (C := ca.BadRow) false hx T.e_BadRow (by simp only [PySem.W.kitAny, T.k_BadRow_BadText]) ?_
    walk_at "X"
    refine kIsX_of (C := ca.BadRow) false hx T.e_BadRow (by simp only [PySem.W.kitAny, T.k_BadRow_Unsound]) ?_
    walk_at "X"
    refine kIsX_of (C := ca.BadRow) true hx T.e_BadRow (by simp only [PySem.W.kitAny, T.k_BadRow_BadRow]) ?_
    walk_at "X"
    refine kIsX_of (C := ca.BadRow) false hx T.e_BadRow (by simp only [PySem.W.kitAny, T.k_BadRow_BadKind]) ?_
    walk_at "X"
    refine kIsX_of (C := ca.BadRow) false hx T.e_BadRow (by simp only [PySem.W.kitAny, T.k_BadRow_BadDeed]) ?_
    walk_at "X"
    refine kIsX_of (C := ca.BadRow) false hx T.e_BadRow (by simp only [PySem.W.kitAny, T.k_BadRow_BadProgram]) ?_
    walk_at "X"
    refine kIsX_of (C := ca.BadRow) false hx T.e_BadRow (by simp only [PySem.W.kitAny, T.k_BadRow_BadInput]) ?_
    walk_at "X"
    refine kIsX_of (C := ca.BadRow) false hx T.e_BadRow (by simp only [PySem.W.kitAny, T.k_BadRow_BadPlace]) ?_
    walk_at "X"
    refine kIsX_of (C := ca.BadRow) false hx T.e_BadRow (by simp only [PySem.W.kitAny, T.k_BadRow_BadPaper]) ?_
    walk_at "X"
    refine kIsX_of (C := ca.BadRow) false hx T.e_BadRow (by simp only [PySem.W.kitAny, T.k_BadRow_BadAsked]) ?_
    walk_at "X"
    refine kIsX_of (C := ca.BadRow) false hx T.e_BadRow (by simp only [PySem.W.kitAny, T.k_BadRow_TooMany]) ?_
    walk_at "X"
    refine kIsX_of (C := ca.BadRow) false hx T.e_BadRow (by simp only [PySem.W.kitAny, T.k_BadRow_BadLine]) ?_
    walk_at "X"
    repeat (rw [lcW_c]; walk_at "X")
    exact q
  · cases hC
    cases hu
    walk_at "Y"
    refine kIsX_of (C := ca.BadKind) false hx T.e_BadKind (by simp only [PySem.W.kitAny, T.k_BadKind_BadText]) ?_
    walk_at "X"
    refine kIsX_of (C := ca.BadKind) false hx T.e_BadKind (by simp only [PySem.W.kitAny, T.k_BadKind_Unsound]) ?_
    walk_at "X"
    refine kIsX_of (C := ca.BadKind) false hx T.e_BadKind (by simp only [PySem.W.kitAny, T.k_BadKind_BadRow]) ?_
    walk_at "X"
    refine kIsX_of (C := ca.BadKind) true hx T.e_BadKind (by simp only [PySem.W.kitAny, T.k_BadKind_BadKind]) ?_
    walk_at "X"
    refine kIsX_of (C := ca.BadKind) false hx T.e_BadKind (by simp only [PySem.W.kitAny, T.k_BadKind_BadDeed]) ?_
    walk_at "X"
    refine kIsX_of (C := ca.BadKind) false hx T.e_BadKind (by simp only [PySem.W.kitAny, T.k_BadKind_BadProgram]) ?_
    walk_at "X"
    refine kIsX_of (C := ca.BadKind) false hx T.e_BadKind (by simp only [PySem.W.kitAny, T.k_BadKind_BadInput]) ?_
    walk_at "X"
    refine kIsX_of (C := ca.BadKind) false hx T.e_BadKind (by simp only [PySem.W.kitAny, T.k_BadKind_BadPlace]) ?_
    walk_at "X"
    refine kIsX_of (C := ca.BadKind) false hx T.e_BadKind (by simp only [PySem.W.kitAny, T.k_BadKind_BadPaper]) ?_
    walk_at "X"
    refine kIsX_of (C := ca.BadKind) false hx T.e_BadKind (by simp only [PySem.W.kitAny, T.k_BadKind_BadAsked]) ?_
    walk_at "X"
    refine kIsX_of (C := ca.BadKind) false hx T.e_BadKind (by simp only [PySem.W.kitAny, T.k_BadKind_TooMany]) ?_
    walk_at "X"
    refine kIsX_of (C := ca.BadKind) false hx T.e_BadKind (by simp only [PySem.W.kitAny, T.k_BadKind_BadLine]) ?_
    walk_at "X"
    repeat (rw [lcW_c]; walk_at "X")
    exact q
  · cases hC
    cases hu
    walk_at "Y"
    refine kIsX_of (C := ca.BadDeed) false hx T.e_BadDeed (by simp only [PySem.W.kitAny, T.k_BadDeed_BadText]) ?_
    walk_at "X"
    refine kIsX_of (C := ca.BadDeed) false hx T.e_BadDeed (by simp only [PySem.W.kitAny, T.k_BadDeed_Unsound]) ?_
    walk_at "X"
    refine kIsX_of (C := ca.BadDeed) false hx T.e_BadDeed (by simp only [PySem.W.kitAny, T.k_BadDeed_BadRow]) ?_
    walk_at "X"
    refine kIsX_of (C := ca.BadDeed) false hx T.e_BadDeed (by simp only [PySem.W.kitAny, T.k_BadDeed_BadKind]) ?_
    walk_at "X"
    refine kIsX_of (C := ca.BadDeed) true hx T.e_BadDeed (by simp only [PySem.W.kitAny, T.k_BadDeed_BadDeed]) ?_
    walk_at "X"
    refine kIsX_of (C := ca.BadDeed) false hx T.e_BadDeed (by simp only [PySem.W.kitAny, T.k_BadDeed_BadProgram]) ?_
    walk_at "X"
    refine kIsX_of (C := ca.BadDeed) false hx T.e_BadDeed (by simp only [PySem.W.kitAny, T.k_BadDeed_BadInput]) ?_
    walk_at "X"
    refine kIsX_of (C := ca.BadDeed) false hx T.e_BadDeed (by simp only [PySem.W.kitAny, T.k_BadDeed_BadPlace]) ?_
    walk_at "X"
    refine kIsX_of (C := ca.BadDeed) false hx T.e_BadDeed (by simp only [PySem.W.kitAny, T.k_BadDeed_BadPaper]) ?_
    walk_at "X"
    refine kIsX_of (C := ca.BadDeed) false hx T.e_BadDeed (by simp only [PySem.W.kitAny, T.k_BadDeed_BadAsked]) ?_
    walk_at "X"
    refine kIsX_of (C := ca.BadDeed) false hx T.e_BadDeed (by simp only [PySem.W.kitAny, T.k_BadDeed_TooMany]) ?_
    walk_at "X"
    refine kIsX_of (C := ca.BadDeed) false hx T.e_BadDeed (by simp only [PySem.W.kitAny, T.k_BadDeed_BadLine]) ?_
    walk_at "X"
    repeat (rw [lcW_c]; walk_at "X")
    exact q
  · cases hC
    cases hu
    walk_at "Y"
    refine kIsX_of (C := ca.BadProgram) false hx T.e_BadProgram (by simp only [PySem.W.kitAny, T.k_BadProgram_BadText]) ?_
    walk_at "X"
    refine kIsX_of (C := ca.BadProgram) false hx T.e_BadProgram (by simp only [PySem.W.kitAny, T.k_BadProgram_Unsound]) ?_
    walk_at "X"
    refine kIsX_of (C := ca.BadProgram) false hx T.e_BadProgram (by simp only [PySem.W.kitAny, T.k_BadProgram_BadRow]) ?_
    walk_at "X"
    refine kIsX_of (C := ca.BadProgram) false hx T.e_BadProgram (by simp only [PySem.W.kitAny, T.k_BadProgram_BadKind]) ?_
    walk_at "X"
    refine kIsX_of (C := ca.BadProgram) false hx T.e_BadProgram (by simp only [PySem.W.kitAny, T.k_BadProgram_BadDeed]) ?_
    walk_at "X"
    refine kIsX_of (C := ca.BadProgram) true hx T.e_BadProgram (by simp only [PySem.W.kitAny, T.k_BadProgram_BadProgram]) ?_
    walk_at "X"
    refine kIsX_of (C := ca.BadProgram) false hx T.e_BadProgram (by simp only [PySem.W.kitAny, T.k_BadProgram_BadInput]) ?_
    walk_at "X"
    refine kIsX_of (C := ca.BadProgram) false hx T.e_BadProgram (by simp only [PySem.W.kitAny, T.k_BadProgram_BadPlace]) ?_
    walk_at "X"
    refine kIsX_of (C := ca.BadProgram) false hx T.e_BadProgram (by simp only [PySem.W.kitAny, T.k_BadProgram_BadPaper]) ?_
    walk_at "X"
    refine kIsX_of (C := ca.BadProgram) false hx T.e_BadProgram (by simp only [PySem.W.kitAny, T.k_BadProgram_BadAsked]) ?_
    walk_at "X"
    refine kIsX_of (C := ca.BadProgram) false hx T.e_BadProgram (by simp only [PySem.W.kitAny, T.k_BadProgram_TooMany]) ?_
    walk_at "X"
    refine kIsX_of (C := ca.BadProgram) false hx T.e_BadProgram (by simp only [PySem.W.kitAny, T.k_BadProgram_BadLine]) ?_
    walk_at "X"
    repeat (rw [lcW_c]; walk_at "X")
    exact q
  · cases hC
    cases hu
    walk_at "Y"
    refine kIsX_of (C := ca.BadInput) false hx T.e_BadInput (by simp only [PySem.W.kitAny, T.k_BadInput_BadText]) ?_
    walk_at "X"
    refine kIsX_of (C := ca.BadInput) false hx T.e_BadInput (by simp only [PySem.W.kitAny, T.k_BadInput_Unsound]) ?_
    walk_at "X"
    refine kIsX_of (C := ca.BadInput) false hx T.e_BadInput (by simp only [PySem.W.kitAny, T.k_BadInput_BadRow]) ?_
    walk_at "X"
    refine kIsX_of (C := ca.BadInput) false hx T.e_BadInput (by simp only [PySem.W.kitAny, T.k_BadInput_BadKind]) ?_
    walk_at "X"
    refine kIsX_of (C := ca.BadInput) false hx T.e_BadInput (by simp only [PySem.W.kitAny, T.k_BadInput_BadDeed]) ?_
    walk_at "X"
    refine kIsX_of (C := ca.BadInput) false hx T.e_BadInput (by simp only [PySem.W.kitAny, T.k_BadInput_BadProgram]) ?_
    walk_at "X"
    refine kIsX_of (C := ca.BadInput) true hx T.e_BadInput (by simp only [PySem.W.kitAny, T.k_BadInput_BadInput]) ?_
    walk_at "X"
    refine kIsX_of (C := ca.BadInput) false hx T.e_BadInput (by simp only [PySem.W.kitAny, T.k_BadInput_BadPlace]) ?_
    walk_at "X"
    refine kIsX_of (C := ca.BadInput) false hx T.e_BadInput (by simp only [PySem.W.kitAny, T.k_BadInput_BadPaper]) ?_
    walk_at "X"
    refine kIsX_of (C := ca.BadInput) false hx T.e_BadInput (by simp only [PySem.W.kitAny, T.k_BadInput_BadAsked]) ?_
    walk_at "X"
    refine kIsX_of (C := ca.BadInput) false hx T.e_BadInput (by simp only [PySem.W.kitAny, T.k_BadInput_TooMany]) ?_
    walk_at "X"
    refine kIsX_of (C := ca.BadInput) false hx T.e_BadInput (by simp only [PySem.W.kitAny, T.k_BadInput_BadLine]) ?_
    walk_at "X"
    repeat (rw [lcW_c]; walk_at "X")
    exact q
  · cases hC
    cases hu
    walk_at "Y"
    refine kIsX_of (C := ca.BadPlace) false hx T.e_BadPlace (by simp only [PySem.W.kitAny, T.k_BadPlace_BadText]) ?_
    walk_at "X"
    refine kIsX_of (C := ca.BadPlace) false hx T.e_BadPlace (by simp only [PySem.W.kitAny, T.k_BadPlace_Unsound]) ?_
    walk_at "X"
    refine kIsX_of (C := ca.BadPlace) false hx T.e_BadPlace (by simp only [PySem.W.kitAny, T.k_BadPlace_BadRow]) ?_
    walk_at "X"
    refine kIsX_of (C := ca.BadPlace) false hx T.e_BadPlace (by simp only [PySem.W.kitAny, T.k_BadPlace_BadKind]) ?_
    walk_at "X"
    refine kIsX_of (C := ca.BadPlace) false hx T.e_BadPlace (by simp only [PySem.W.kitAny, T.k_BadPlace_BadDeed]) ?_
    walk_at "X"
    refine kIsX_of (C := ca.BadPlace) false hx T.e_BadPlace (by simp only [PySem.W.kitAny, T.k_BadPlace_BadProgram]) ?_
    walk_at "X"
    refine kIsX_of (C := ca.BadPlace) false hx T.e_BadPlace (by simp only [PySem.W.kitAny, T.k_BadPlace_BadInput]) ?_
    walk_at "X"
    refine kIsX_of (C := ca.BadPlace) true hx T.e_BadPlace (by simp only [PySem.W.kitAny, T.k_BadPlace_BadPlace]) ?_
    walk_at "X"
    refine kIsX_of (C := ca.BadPlace) false hx T.e_BadPlace (by simp only [PySem.W.kitAny, T.k_BadPlace_BadPaper]) ?_
    walk_at "X"
    refine kIsX_of (C := ca.BadPlace) false hx T.e_BadPlace (by simp only [PySem.W.kitAny, T.k_BadPlace_BadAsked]) ?_
    walk_at "X"
    refine kIsX_of (C := ca.BadPlace) false hx T.e_BadPlace (by simp only [PySem.W.kitAny, T.k_BadPlace_TooMany]) ?_
    walk_at "X"
    refine kIsX_of (C := ca.BadPlace) false hx T.e_BadPlace (by simp only [PySem.W.kitAny, T.k_BadPlace_BadLine]) ?_
    walk_at "X"
    repeat (rw [lcW_c]; walk_at "X")
    exact q
  · cases hC
    cases hu
    walk_at "Y"
    refine kIsX_of (C := ca.BadPaper) false hx T.e_BadPaper (by simp only [PySem.W.kitAny, T.k_BadPaper_BadText]) ?_
    walk_at "X"
    refine kIsX_of (C := ca.BadPaper) false hx T.e_BadPaper (by simp only [PySem.W.kitAny, T.k_BadPaper_Unsound]) ?_
    walk_at "X"
    refine kIsX_of (C := ca.BadPaper) false hx T.e_BadPaper (by simp only [PySem.W.kitAny, T.k_BadPaper_BadRow]) ?_
    walk_at "X"
    refine kIsX_of (C := ca.BadPaper) false hx T.e_BadPaper (by simp only [PySem.W.kitAny, T.k_BadPaper_BadKind]) ?_
    walk_at "X"
    refine kIsX_of (C := ca.BadPaper) false hx T.e_BadPaper (by simp only [PySem.W.kitAny, T.k_BadPaper_BadDeed]) ?_
    walk_at "X"
    refine kIsX_of (C := ca.BadPaper) false hx T.e_BadPaper (by simp only [PySem.W.kitAny, T.k_BadPaper_BadProgram]) ?_
    walk_at "X"
    refine kIsX_of (C := ca.BadPaper) false hx T.e_BadPaper (by simp only [PySem.W.kitAny, T.k_BadPaper_BadInput]) ?_
    walk_at "X"
    refine kIsX_of (C := ca.BadPaper) false hx T.e_BadPaper (by simp only [PySem.W.kitAny, T.k_BadPaper_BadPlace]) ?_
    walk_at "X"
    refine kIsX_of (C := ca.BadPaper) true hx T.e_BadPaper (by simp only [PySem.W.kitAny, T.k_BadPaper_BadPaper]) ?_
    walk_at "X"
    refine kIsX_of (C := ca.BadPaper) false hx T.e_BadPaper (by simp only [PySem.W.kitAny, T.k_BadPaper_BadAsked]) ?_
    walk_at "X"
    refine kIsX_of (C := ca.BadPaper) false hx T.e_BadPaper (by simp only [PySem.W.kitAny, T.k_BadPaper_TooMany]) ?_
    walk_at "X"
    refine kIsX_of (C := ca.BadPaper) false hx T.e_BadPaper (by simp only [PySem.W.kitAny, T.k_BadPaper_BadLine]) ?_
    walk_at "X"
    repeat (rw [lcW_c]; walk_at "X")
    exact q
  · cases hC
    cases hu
    walk_at "Y"
    refine kIsX_of (C := ca.BadAsked) false hx T.e_BadAsked (by simp only [PySem.W.kitAny, T.k_BadAsked_BadText]) ?_
    walk_at "X"
    refine kIsX_of (C := ca.BadAsked) false hx T.e_BadAsked (by simp only [PySem.W.kitAny, T.k_BadAsked_Unsound]) ?_
    walk_at "X"
    refine kIsX_of (C := ca.BadAsked) false hx T.e_BadAsked (by simp only [PySem.W.kitAny, T.k_BadAsked_BadRow]) ?_
    walk_at "X"
    refine kIsX_of (C := ca.BadAsked) false hx T.e_BadAsked (by simp only [PySem.W.kitAny, T.k_BadAsked_BadKind]) ?_
    walk_at "X"
    refine kIsX_of (C := ca.BadAsked) false hx T.e_BadAsked (by simp only [PySem.W.kitAny, T.k_BadAsked_BadDeed]) ?_
    walk_at "X"
    refine kIsX_of (C := ca.BadAsked) false hx T.e_BadAsked (by simp only [PySem.W.kitAny, T.k_BadAsked_BadProgram]) ?_
    walk_at "X"
    refine kIsX_of (C := ca.BadAsked) false hx T.e_BadAsked (by simp only [PySem.W.kitAny, T.k_BadAsked_BadInput]) ?_
    walk_at "X"
    refine kIsX_of (C := ca.BadAsked) false hx T.e_BadAsked (by simp only [PySem.W.kitAny, T.k_BadAsked_BadPlace]) ?_
    walk_at "X"
    refine kIsX_of (C := ca.BadAsked) false hx T.e_BadAsked (by simp only [PySem.W.kitAny, T.k_BadAsked_BadPaper]) ?_
    walk_at "X"
    refine kIsX_of (C := ca.BadAsked) true hx T.e_BadAsked (by simp only [PySem.W.kitAny, T.k_BadAsked_BadAsked]) ?_
    walk_at "X"
    refine kIsX_of (C := ca.BadAsked) false hx T.e_BadAsked (by simp only [PySem.W.kitAny, T.k_BadAsked_TooMany]) ?_
    walk_at "X"
    refine kIsX_of (C := ca.BadAsked) false hx T.e_BadAsked (by simp only [PySem.W.kitAny, T.k_BadAsked_BadLine]) ?_
    walk_at "X"
    repeat (rw [lcW_c]; walk_at "X")
    exact q
  · cases hC
    cases hu
    walk_at "Y"
    refine kIsX_of (C := ca.TooMany) false hx T.e_TooMany (by simp only [PySem.W.kitAny, T.k_TooMany_BadText]) ?_
    walk_at "X"
    refine kIsX_of (C := ca.TooMany) false hx T.e_TooMany (by simp only [PySem.W.kitAny, T.k_TooMany_Unsound]) ?_
    walk_at "X"
    refine kIsX_of (C := ca.TooMany) false hx T.e_TooMany (by simp only [PySem.W.kitAny, T.k_TooMany_BadRow]) ?_
    walk_at "X"
    refine kIsX_of (C := ca.TooMany) false hx T.e_TooMany (by simp only [PySem.W.kitAny, T.k_TooMany_BadKind]) ?_
    walk_at "X"
    refine kIsX_of (C := ca.TooMany) false hx T.e_TooMany (by simp only [PySem.W.kitAny, T.k_TooMany_BadDeed]) ?_
    walk_at "X"
    refine kIsX_of (C := ca.TooMany) false hx T.e_TooMany (by simp only [PySem.W.kitAny, T.k_TooMany_BadProgram]) ?_
    walk_at "X"
    refine kIsX_of (C := ca.TooMany) false hx T.e_TooMany (by simp only [PySem.W.kitAny, T.k_TooMany_BadInput]) ?_
    walk_at "X"
    refine kIsX_of (C := ca.TooMany) false hx T.e_TooMany (by simp only [PySem.W.kitAny, T.k_TooMany_BadPlace]) ?_
    walk_at "X"
    refine kIsX_of (C := ca.TooMany) false hx T.e_TooMany (by simp only [PySem.W.kitAny, T.k_TooMany_BadPaper]) ?_
    walk_at "X"
    refine kIsX_of (C := ca.TooMany) false hx T.e_TooMany (by simp only [PySem.W.kitAny, T.k_TooMany_BadAsked]) ?_
    walk_at "X"
    refine kIsX_of (C := ca.TooMany) true hx T.e_TooMany (by simp only [PySem.W.kitAny, T.k_TooMany_TooMany]) ?_
    walk_at "X"
    refine kIsX_of (C := ca.TooMany) false hx T.e_TooMany (by simp only [PySem.W.kitAny, T.k_TooMany_BadLine]) ?_
    walk_at "X"
    repeat (rw [lcW_c]; walk_at "X")
    exact q
  · cases hC
    cases hu
    walk_at "Y"
    refine kIsX_of (C := ca.BadLine) false hx T.e_BadLine (by simp only [PySem.W.kitAny, T.k_BadLine_BadText]) ?_
    walk_at "X"
    refine kIsX_of (C := ca.BadLine) false hx T.e_BadLine (by simp only [PySem.W.kitAny, T.k_BadLine_Unsound]) ?_
    walk_at "X"
    refine kIsX_of (C := ca.BadLine) false hx T.e_BadLine (by simp only [PySem.W.kitAny, T.k_BadLine_BadRow]) ?_
    walk_at "X"
    refine kIsX_of (C := ca.BadLine) false hx T.e_BadLine (by simp only [PySem.W.kitAny, T.k_BadLine_BadKind]) ?_
    walk_at "X"
    refine kIsX_of (C := ca.BadLine) false hx T.e_BadLine (by simp only [PySem.W.kitAny, T.k_BadLine_BadDeed]) ?_
    walk_at "X"
    refine kIsX_of (C := ca.BadLine) false hx T.e_BadLine (by simp only [PySem.W.kitAny, T.k_BadLine_BadProgram]) ?_
    walk_at "X"
    refine kIsX_of (C := ca.BadLine) false hx T.e_BadLine (by simp only [PySem.W.kitAny, T.k_BadLine_BadInput]) ?_
    walk_at "X"
    refine kIsX_of (C := ca.BadLine) false hx T.e_BadLine (by simp only [PySem.W.kitAny, T.k_BadLine_BadPlace]) ?_
    walk_at "X"
    refine kIsX_of (C := ca.BadLine) false hx T.e_BadLine (by simp only [PySem.W.kitAny, T.k_BadLine_BadPaper]) ?_
    walk_at "X"
    refine kIsX_of (C := ca.BadLine) false hx T.e_BadLine (by simp only [PySem.W.kitAny, T.k_BadLine_BadAsked]) ?_
    walk_at "X"
    refine kIsX_of (C := ca.BadLine) false hx T.e_BadLine (by simp only [PySem.W.kitAny, T.k_BadLine_TooMany]) ?_
    walk_at "X"
    refine kIsX_of (C := ca.BadLine) true hx T.e_BadLine (by simp only [PySem.W.kitAny, T.k_BadLine_BadLine]) ?_
    walk_at "X"
    repeat (rw [lcW_c]; walk_at "X")
    exact q
  
  cases hC
theorem ok__law_next {f : Addr} {fd : FuncData} (T : Txt K mg ca) (F : Fun K "_law_next" "_law_next" s__law_next f fd) (k__law_mixed : Known P w K mg base (theS ((Ts ca).map (·.1))) "_law_mixed" ["_law_cell", "_law_k"] 1 FF__law_mixed) :
    FnOk P w K mg base CX0 2 f fd ["_law_draw", "_law_many"] (spD (theS ((Ts ca).map (·.1))) K FF__law_next) := by
  obtain ⟨fM, fdM, GM, gM, kM, bM⟩ := k__law_mixed.ex
  refine F.ok sc__law_next (fun vs H Q E h => ?_) (fun cdv A outer s H vs Q E hr h => ?_)
  · obtain ⟨G, Fp, τ, rs, Qd, Ha, k, r, dr, ⟨a, b, n, e, ht, hn, q⟩, fin⟩ := h
    subst e
    obtain ⟨v, w', e1, _, _⟩ := r.two
    subst e1
    rfl
  · obtain ⟨G, Fp, τ, rs, Qd, Ha, k, r, dr, ⟨a, b, n, e, ht, hn, q⟩, fin⟩ := h
    subst e ht
    obtain ⟨v, w', e1, rv, rw'⟩ := r.two
    have rv : v = .ref a := rv
    have rw' := rint rw'
    subst e1 rv rw'
    have hu := hu_of hr
    obtain ⟨hF, c, cs, i, l, u, hd, hc, hne, h0⟩ := id k.r
    have hcH : SqP K H c (cs.map V.int) := same_sqp k.same hc
    refine ⟨_, pss_cons (ps_if (pt_cmpR op_gt (pe_dget hu (pv 0) pe_str (fun _ _ => rfl)) pe_int (nomark _))
        (pss_cons (ps_set (i := 2) sc__law_next.nd rfl (.inl rfl) (pe_op op_mod (pe_dget hu (pv 0) pe_str (fun _ _ => rfl)) (pv 1)))
        (pss_cons (ps_dput hu (pv 0) pe_str (pe_op op_fdiv (pe_dget hu (pv 0) pe_str (fun _ _ => rfl)) (pv 1)) rfl)
        (pss_one (ps_ret (pv 2))))) pss_nil)
      (pss_cons (ps_set (i := 3) sc__law_next.nd rfl (.inl rfl) (pe_dget hu (pv 0) pe_str (fun _ _ => rfl)))
      (pss_cons (ps_set (i := 4) sc__law_next.nd rfl (.inl rfl) (pe_ix ix_list (pv 3) (pe_op op_mod (pe_dget hu (pv 0) pe_str (fun _ _ => rfl)) (pe_callB call_len_seq (by rfl) T.b_len PySem.boot_len (pa_cons (pv 3) pa_nil))) (fun _ _ => rfl)))
      (pss_cons (ps_dput hu (pv 0) pe_str (pe_op op_add (pe_dget hu (pv 0) pe_str (fun _ _ => rfl)) pe_int) rfl)
      (pss_cons (ps_if (PW.pt (pw_and (pt_cmpR op_ge (pv 4) (pe_op op_pow pe_int pe_int) (nomark _)) (pw_and1 (pt_cmpR op_le (pe_dget hu (pv 0) pe_str (fun _ _ => rfl)) (pe_callB call_len_seq (by rfl) T.b_len PySem.boot_len (pa_cons (pv 3) pa_nil)) (nomark _)))))
        (pss_cons (ps_dput hu (pv 0) pe_str (pe_op op_fdiv (pv 4) (pv 1)) rfl) (pss_one (ps_ret (pe_op op_mod (pv 4) (pv 1))))) pss_nil)
      (pss_cons (ps_dput hu (pv 0) pe_str (pe_op op_add (pe_dget hu (pv 0) pe_str (fun _ _ => rfl)) pe_int) rfl)
      (pss_one (ps_ret (pe_op op_mod (pe_call GM hr (by rfl) gM kM bM .nil pass0 (pa_cons (pe_call GM hr (by rfl) gM kM bM .nil pass0 (pa_cons (pv 4) (pa_cons (pe_dget hu (pv 0) pe_str (fun _ _ => rfl)) pa_nil)))
        (pa_cons (pe_dget hu (pv 0) pe_str (fun _ _ => rfl)) pa_nil))) (pv 1))))))))), ?_⟩
    have gL : DGet H a (.str "left") (some (.int l)) := by
      have z := DGet.k (k := Sum.inr ("left" : Str)) hd
      rw [dr_left] at z
      exact z
    have gA : DGet H a (.str "at") (some (.int i)) := by
      have z := DGet.k (k := Sum.inr ("at" : Str)) hd
      rw [dr_at] at z
      exact z
    have gC : DGet H a (.str "cells") (some (.ref c)) := by
      have z := DGet.k (k := Sum.inr ("cells" : Str)) hd
      rw [dr_cells] at z
      exact z
    have put : ∀ {H' : Hp} {i l u : Int} (x : Str) (z : Int) (K' : List (Key × V)), H' a = some (.dK (drK c i l u)) → putK (drK c i l u) (Sum.inr x) (.int z) = K' → DPut H' a (.str x) (.int z) (upd H' a (.dK K')) := fun {H' i l u} x z K' e ek => by
      have y := DPut.k (k := Sum.inr x) (v := .int z) e (by rw [dr_len]; decide)
      rw [ek] at y
      exact y
    -- if left > 0
    refine ⟨_, rfl, a, _, rfl, gL, _, _, rfl, rfl, _, rfl, ite2 (fun _ => ?_) (fun _ => ?_)⟩
    · refine ⟨_, rfl, a, _, rfl, gL, _, rfl, _, _, rfl, rfl, hn.1, ?_⟩
      refine ⟨_, rfl, a, _, rfl, gL, _, rfl, _, _, rfl, rfl, hn, _, rfl, a, _, rfl, put "left" _ _ hd dr_pleft, _, rfl, ?_⟩
      obtain ⟨k2, st2⟩ := dr_ok (b' := b) (i' := i) (l' := l / n) (u' := u) k hc hne (by omega)
      exact fin (.d (.int (l % n))) (.on a b) G Fp _ _ st2 k2 (Rp.int _) (q _ (Int.emod_nonneg _ (by omega)) (Int.emod_lt_of_pos _ hn.1))
    -- cells; the cell at hand
    refine ⟨_, rfl, a, _, rfl, gC, ?_⟩
    have hlen : 0 < cs.length := List.length_pos_iff.mpr hne
    have hix : (i % (cs.length : Int)).toNat < cs.length := by
      have h1 := Int.emod_nonneg i (show (cs.length : Int) ≠ 0 by omega)
      have h2 := Int.emod_lt_of_pos i (show (0 : Int) < cs.length by omega)
      omega
    have hat : atI (cs.map V.int) (i % (cs.length : Int)) = some (.int cs[(i % (cs.length : Int)).toNat]) := by
      have e : i % (cs.length : Int) = ((i % (cs.length : Int)).toNat : Int) := (Int.toNat_of_nonneg (Int.emod_nonneg i (by omega))).symm
      exact at_of e (by rw [List.getElem?_map, List.getElem?_eq_getElem hix]; rfl)
    refine ⟨_, rfl, _, rfl, a, _, rfl, gA, _, rfl, c, _, rfl, .inl hcH.sql, i, (((cs.map V.int).length : Nat) : Int), rfl, rfl, by rw [List.length_map]; show (0 : Int) < cs.length; omega, c, cs.map V.int, _, _, rfl, rfl, hcH.sql, by rw [List.length_map]; exact hat, ?_⟩
    -- at + 1
    refine ⟨_, rfl, a, _, rfl, gA, _, _, rfl, rfl, _, rfl, a, _, rfl, put "at" _ _ hd dr_pat, ?_⟩
    obtain ⟨k2, st2⟩ := dr_ok (b' := b) (i' := i + 1) (l' := l) (u' := u) k hc hne (by omega)
    generalize cs[(i % (cs.length : Int)).toNat] = cell
    have hcH2 : SqP K (upd H a (.dK (drK c (i + 1) l u))) c (cs.map V.int) := same_sqp k2.same hc
    have gA2 : DGet (upd H a (.dK (drK c (i + 1) l u))) a (.str "at") (some (.int (i + 1))) := by
      have z := DGet.k (k := Sum.inr ("at" : Str)) (show (upd H a (.dK (drK c (i + 1) l u))) a = _ from upd_same)
      rw [dr_at] at z
      exact z
    have gU2 : DGet (upd H a (.dK (drK c (i + 1) l u))) a (.str "used") (some (.int u)) := by
      have z := DGet.k (k := Sum.inr ("used" : Str)) (show (upd H a (.dK (drK c (i + 1) l u))) a = _ from upd_same)
      rw [dr_used] at z
      exact z
    have lastR : ∀ (D : Ends) (σ0 : L2.St), σ0[0]? = some (some (.ref a)) → σ0[1]? = some (some (.int n)) → σ0[4]? = some (some (.int cell)) → (∀ v H', Q v H' → D.rt v H') → tSeq (sDPut (tVar 0) (tC (.str "used")) (tOp (rI0 fun i j => .int (i + j)) (tDGet (tVar 0) (tC (.str "used"))) (tC (.int 1))))
        (tRet (tOp (rI (fun _ j => 0 < j) fun i j => .int (i % j)) (tCall (spD (theS ((Ts ca).map (·.1))) K FF__law_mixed) [] E0 (tCons (tCall (spD (theS ((Ts ca).map (·.1))) K FF__law_mixed) [] E0 (tCons (tVar 4) (tCons (tDGet (tVar 0) (tC (.str "at"))) tNil))) (tCons (tDGet (tVar 0) (tC (.str "used"))) tNil))) (tVar 1))) D
        σ0 (upd H a (.dK (drK c (i + 1) l u))) := fun D σ0 z0 z1 z4 hD => by
      refine ⟨_, z0, a, _, rfl, gU2, _, _, rfl, rfl, _, z0, a, _, rfl, put "used" _ _ upd_same dr_pused, ?_⟩
      rw [upd_upd]
      obtain ⟨k3, st3⟩ := dr_ok (b' := b) (i' := i + 1) (l' := l) (u' := u + 1) k hc hne (by omega)
      have gA3 : DGet (upd H a (.dK (drK c (i + 1) l (u + 1)))) a (.str "at") (some (.int (i + 1))) := by
        have z := DGet.k (k := Sum.inr ("at" : Str)) (show (upd H a (.dK (drK c (i + 1) l (u + 1)))) a = _ from upd_same)
        rw [dr_at] at z
        exact z
      have fa : Fp a := (hF a).mpr rfl
      refine ⟨_, z4, _, z0, a, _, rfl, gA3, G, Fp, .on a b, [.d (.int cell), .d (.int (i + 1))], fun r τ => (∃ m : Int, 0 ≤ m ∧ r = .d (.int m)) ∧ τ = .on a b, H, k3, .cons (Rp.int _) (.cons (Rp.int _) .nil), rfl, ⟨cell, i + 1, rfl, by omega, fun m hm => ⟨⟨m, hm, rfl⟩, rfl⟩⟩, fun r1 τ4 G4 F4 H4 v4 st4 ok4 res4 q4 => ?_⟩
      obtain ⟨⟨m, hm, e1⟩, e2⟩ := q4
      subst e1 e2
      have e3 := rint res4
      subst e3
      obtain ⟨hF4, c4, cs4, i4, l4, u4, hd4, hc4, hne4, h4⟩ := id ok4.r
      have gU4 : DGet H4 a (.str "used") (some (.int u4)) := by
        have z := DGet.k (k := Sum.inr ("used" : Str)) hd4
        rw [dr_used] at z
        exact z
      refine ⟨_, z0, a, _, rfl, gU4, G4, F4, .on a b, [.d (.int m), .d (.int u4)], fun r τ => (∃ m : Int, 0 ≤ m ∧ r = .d (.int m)) ∧ τ = .on a b, H4, ok4, .cons (Rp.int _) (.cons (Rp.int _) .nil), rfl, ⟨m, u4, rfl, by omega, fun m hm => ⟨⟨m, hm, rfl⟩, rfl⟩⟩, fun r1 τ5 G5 F5 H5 v5 st5 ok5 res5 q5 => ?_⟩
      obtain ⟨⟨m5, hm5, e1⟩, e2⟩ := q5
      subst e1 e2
      have e3 := rint res5
      subst e3
      refine ⟨_, z1, _, _, rfl, rfl, hn.1, hD _ _ ?_⟩
      exact fin (.d (.int (m5 % n))) (.on a b) G5 F5 H5 _ (st3.trans (st4.trans st5)) ok5 (Rp.int _) (q _ (Int.emod_nonneg _ (by omega)) (Int.emod_lt_of_pos _ hn.1))
    refine ⟨_, rfl, _, _, rfl, rfl, (by refine ⟨by decide, by decide, by decide⟩), _, _, rfl, rfl, _, rfl, ite2 (fun _ => ?_) (fun _ => ?_)⟩
    · refine ⟨_, rfl, a, _, rfl, gA2, _, rfl, c, _, rfl, .inl hcH2.sql, _, _, rfl, rfl, _, rfl, ite2 (fun _ => ?_) (fun _ => ?_)⟩
      · refine ⟨_, rfl, _, rfl, _, _, rfl, rfl, hn, _, rfl, a, _, rfl, put "left" _ _ upd_same dr_pleft, _, rfl, _, rfl, _, _, rfl, rfl, hn.1, ?_⟩
        rw [upd_upd]
        obtain ⟨k3, st3⟩ := dr_ok (b' := b) (i' := i + 1) (l' := cell / n) (u' := u) k hc hne (by omega)
        exact fin (.d (.int (cell % n))) (.on a b) G Fp _ _ st3 k3 (Rp.int _) (q _ (Int.emod_nonneg _ (by omega)) (Int.emod_lt_of_pos _ hn.1))
      · exact lastR _ _ rfl rfl rfl fun _ _ h => h
    · exact iteF (lastR _ _ rfl rfl rfl fun _ _ h => h)
theorem ok__law_made {f : Addr} {fd : FuncData} (T : Txt K mg ca) (F : Fun K "_law_made" "_law_made" s__law_made f fd) (k_Unsound_init : KnownE P w K mg base "Unsound" ca.Unsound ["self", "place", "what"] ["what", "place"] 1) (k_BadText_init : KnownE P w K mg base "BadText" ca.BadText ["self", "word"] ["word"] 1) :
    FnG P w K mg base 3 f fd ["_law_number", "_law_place", "_law_what"] (spD (theT (Ts ca)) K (FF__law_made ca)) := by
  refine okG F sc__law_made (by walk_at "v") (by decide) fun cdv A outer s H E G Fp hcd hr => ⟨_, (dss_cons (ds_set (i := 3) sc__law_made.nd rfl (by first | exact .inl rfl | exact .inr rfl) (de_lst (da_cons (de_oex rfl k_BadText_init (hr.r.mono (by decide)) (by rfl) (da_cons (de_var (pv 0)) da_nil)) (da_cons (de_oex rfl k_Unsound_init (hr.r.mono (by decide)) (by rfl) (da_cons (de_var (pv 1)) (da_cons (de_var (pv 2)) da_nil))) (da_cons (de_exc1 rfl T.x_BadRow (by rfl) de_str) (da_cons (de_exc1 rfl T.x_BadKind (by rfl) de_str) (da_cons (de_exc1 rfl T.x_BadDeed (by rfl) de_str) (da_cons (de_exc1 rfl T.x_BadProgram (by rfl) de_str) da_nil))))))))
      (dss_cons (ds_set (i := 3) sc__law_made.nd rfl (by first | exact .inl rfl | exact .inr rfl) (de_op op_addA (od_add rfl) (de_var (pv 3)) (de_lst (da_cons (de_exc1 rfl T.x_BadInput (by rfl) de_str) (da_cons (de_exc1 rfl T.x_BadPlace (by rfl) de_str) (da_cons (de_exc1 rfl T.x_BadPaper (by rfl) de_str) (da_cons (de_exc1 rfl T.x_BadAsked (by rfl) de_str) (da_cons (de_exc1 rfl T.x_TooMany (by rfl) de_str) da_nil))))))))
      (dss_one (ds_ret (de_op op_addA (od_add rfl) (de_var (pv 3)) (de_lst (da_cons (de_exc1 rfl T.x_BadLine (by rfl) de_str) da_nil))))))), ?_⟩
  dsimp only [Bk.T, theT]
  rintro rs τ Q ⟨n, p, w, rfl, q⟩
  walk_at "Y"
  refine ⟨[n], rfl, rfl, ?_⟩
  walk_at "Y"
  refine ⟨[p, w], rfl, rfl, ?_⟩
  walk_at "Y"
  exact q
theorem ok_law {f : Addr} {fd : FuncData} (T : Txt K mg ca) (F : Fun K "law" "law" s_law f fd) (k__law_begin : Known P w K mg base (theT (Ts ca)) "_law_begin" ["_law_script"] 1 (FF_begin)) (k__law_next : Known P w K mg base (theT (Ts ca)) "_law_next" ["_law_draw", "_law_many"] 2 (FF_next)) (k__law_made : KnownG P w K mg base (theT (Ts ca)) "_law_made" ["_law_number", "_law_place", "_law_what"] 3 (FF__law_made ca)) (k__law_words : KnownG P w K mg base (theT (Ts ca)) "_law_words" ["_law_e"] 1 (FF__law_words ca)) (k_Unsound_init : KnownE P w K mg base "Unsound" ca.Unsound ["self", "place", "what"] ["what", "place"] 1) (k_BadText_init : KnownE P w K mg base "BadText" ca.BadText ["self", "word"] ["word"] 1) :
    FnG P w K mg base 4 f fd ["_law_script"] (spD (theT (Ts ca)) K (FF_lawT)) := by
  refine okG F sc_law (by walk_at "v") (by decide) fun cdv A outer s H E G Fp hcd hr => ⟨_, (dss_cons (ds_set (i := 1) sc_law.nd rfl (by first | exact .inl rfl | exact .inr rfl) (de_callK rfl k__law_begin (hr.r.mono (by decide)) (by rfl) (da_cons (de_var (pv 0)) da_nil)))
      (dss_cons (ds_set (i := 2) sc_law.nd rfl (by first | exact .inl rfl | exact .inr rfl) (de_lst (da_cons de_str (da_cons de_str (da_cons de_str (da_cons de_str (da_cons de_str (da_cons de_str (da_cons de_str (da_cons de_str (da_cons de_str (da_cons de_str (da_cons de_str (da_cons de_str da_nil))))))))))))))
      (dss_cons (ds_frz (i := 2) (ds_for PassesOwn.never rfl (di_range1 (by rfl) T.b_range (da_cons (de_op op_addA (od_add rfl) (de_callB (call_min2 rfl) cd_II (by rfl) T.b_min (by decide +kernel) (da_cons de_int (da_cons (de_callB call_len (cd_len rfl) (by rfl) T.b_len (by decide +kernel) (da_cons (de_var (pv 0)) da_nil)) da_nil))) de_int) da_nil)) (dg_nm (i := 3) sc_law.nd rfl (by first | exact .inl rfl | exact .inr rfl))
        (dss_cons (ds_par (i := 4) (j := 5) rfl sc_law.nd rfl rfl (by decide) rfl rfl (da_cons (de_callK rfl k__law_next (hr.r.mono (by decide)) (by rfl) (da_cons (de_var (pv 1)) (da_cons (de_op op_pow od_I de_int de_int) da_nil))) (da_cons (de_callK rfl k__law_next (hr.r.mono (by decide)) (by rfl) (da_cons (de_var (pv 1)) (da_cons de_int da_nil))) da_nil)) rfl)
        (dss_cons (ds_set (i := 6) sc_law.nd rfl (by first | exact .inl rfl | exact .inr rfl) (de_ix ix_A (od_ix rfl) (de_lst (da_cons de_str (da_cons de_str (da_cons de_str (da_cons de_str (da_cons de_str (da_cons de_str (da_cons de_str da_nil)))))))) (de_callK rfl k__law_next (hr.r.mono (by decide)) (by rfl) (da_cons (de_var (pv 1)) (da_cons de_int da_nil))) (fun _ _ => rfl)))
        (dss_cons (ds_set (i := 7) sc_law.nd rfl (by first | exact .inl rfl | exact .inr rfl) (de_callG rfl k__law_made (hr.mono (by decide)) (by rfl) (da_cons (de_var (pv 4)) (da_cons (de_var (pv 5)) (da_cons (de_var (pv 6)) da_nil)))))
        (dss_cons (ds_frz (i := 7) (ds_for PassesOwn.never rfl (di_zip rfl (by rfl) T.b_zip (da_cons (de_var (pv 7)) (da_cons (de_var (pv 2)) da_nil))) (dg_tp rfl rfl (dg_cons (dg_nm (i := 8) sc_law.nd rfl (by first | exact .inl rfl | exact .inr rfl)) (dg_cons (dg_nm (i := 9) sc_law.nd rfl (by first | exact .inl rfl | exact .inr rfl)) dg_nil)))
          (dss_one (ds_if (dt_w (dw_or (dt_cmp (op_neA hr.units) (od_ne rfl) (de_callG rfl k__law_words (hr.mono (by decide)) (by rfl) (da_cons (de_var (pv 8)) da_nil)) (de_lst (da_cons (de_var (pv 9)) da_nil)) (nomark _)) (dw_or (dt_not (dt_tru rfl (de_isx rfl (by rfl) T.b_isinstance (by decide +kernel) (de_var (pv 8)) (pe_glob (v := .ref ca.RowError) (by rfl) T.g_RowError rfl) (.own _)))) (dw_or1 (dt_not (dt_tru rfl (de_isx rfl (by rfl) T.b_isinstance (by decide +kernel) (de_var (pv 8)) (pe_bltn (v := .ty "ValueError") (by rfl) T.b_ValueError (by decide +kernel) rfl) (.ty _))))))))
            (dss_one (ds_ret de_bl))
            dss_nil))))
        (dss_one (ds_if (dt_cmp (op_neA hr.units) (od_ne rfl) (de_callB (cr_reprE hr.g hr.un) (cd_reprE rfl) (by rfl) T.b_repr (by decide +kernel) (da_cons (de_lst (da_cons (de_xat rfl k_BadText_init.xf (k_BadText_init.n _ (by simp)) (de_ix ix_A (od_ix rfl) (de_var (pv 7)) de_int (fun _ _ => rfl))) (da_cons (de_xat rfl k_Unsound_init.xf (k_Unsound_init.n _ (by simp)) (de_ix ix_A (od_ix rfl) (de_var (pv 7)) de_int (fun _ _ => rfl))) (da_cons (de_xat rfl k_Unsound_init.xf (k_Unsound_init.n _ (by simp)) (de_ix ix_A (od_ix rfl) (de_var (pv 7)) de_int (fun _ _ => rfl))) da_nil)))) da_nil)) (de_callB (cr_reprE hr.g hr.un) (cd_reprE rfl) (by rfl) T.b_repr (by decide +kernel) (da_cons (de_lst (da_cons (de_var (pv 4)) (da_cons (de_var (pv 5)) (da_cons (de_var (pv 6)) da_nil)))) da_nil)) (nomark _))
          (dss_one (ds_ret de_bl))
          dss_nil))))))))
      (dss_one (ds_ret de_bl))))), ?_⟩
  dsimp only [Bk.T, theT]
  rintro rs τ Q ⟨sc, rfl, hsc, rfl, q⟩
  walk_at "Y"
  refine ⟨sc, [], rfl, hsc, rfl, fun a => ?_⟩
  walk_at "Y"
  rw [List.length_map]
  generalize hN : (if (sc.length : Int) < 40 then (sc.length : Int) else 40) + 1 = N
  have hN2 : 0 ≤ N ∧ N ≤ 41 := by rw [← hN]; split <;> omega
  refine ⟨by omega, ?_⟩
  refine for_inv (fun j env τ => (∃ x3 x4 x5 x6 x7 x8 x9, env = [SV.d (.list (sc.map .int)), .raw (.ref a), .d (.list (wordL.map .str)), x3, x4, x5, x6, x7, x8, x9]) ∧ ∃ b', τ = ⟨.on a b', []⟩ ∧ 1152921504606846976 ≤ b' + 3 * j) _ _ _ ⟨⟨_, _, _, _, _, _, _, rfl⟩, _, rfl, by omega⟩ ?_ ?_
  · rintro j x env τ ej ⟨⟨x3, x4, x5, x6, x7, x8, x9, rfl⟩, b, rfl, hb⟩ kn hkn
    obtain ⟨hj, rfl⟩ := rgI_get ej
    walk_at "Y"
    refine ⟨by unfold CPow; omega, ?_⟩
    refine nextT (by omega) (by decide) (by decide) fun n n0 n1 => ?_
    walk_at "Y"
    refine nextT (by omega) (by omega) (by omega) fun p p0 p1 => ?_
    walk_at "Y"
    refine nextT (by omega) (by omega) (by omega) fun r r0 r1 => ?_
    walk_at "Y"
    refine kAt_of (by omega) (by simp only [List.length_cons, List.length_nil]; omega) (fun z _ hz => ?_)
    obtain ⟨wd, rfl, hwd⟩ : ∃ wd : Str, z = .str wd ∧ wd ∈ (["far", "none", "long", "one", "kept", "told", "x"] : List Str) := by
      simp only [List.mem_cons, List.not_mem_nil, or_false] at hz
      rcases hz with rfl | rfl | rfl | rfl | rfl | rfl | rfl
      all_goals exact ⟨_, rfl, by simp⟩
    walk_at "Y"
    refine ⟨_, _, _, rfl, ?_⟩
    unfold madeD
    walk_at "Y"
    rw [show zipD [exF ca.BadText ["word"] [.int n], exF ca.Unsound ["what", "place"] [.str wd, .int p], exD ca.BadRow, exD ca.BadKind, exD ca.BadDeed, exD ca.BadProgram, exD ca.BadInput, exD ca.BadPlace, exD ca.BadPaper, exD ca.BadAsked, exD ca.TooMany, exD ca.BadLine] (List.map .str wordL) =
      [.tuple [exF ca.BadText ["word"] [.int n], .str "text"], .tuple [exF ca.Unsound ["what", "place"] [.str wd, .int p], .str "unsound"], .tuple [exD ca.BadRow, .str "row"], .tuple [exD ca.BadKind, .str "kind"], .tuple [exD ca.BadDeed, .str "deed"], .tuple [exD ca.BadProgram, .str "program"], .tuple [exD ca.BadInput, .str "input"], .tuple [exD ca.BadPlace, .str "place"], .tuple [exD ca.BadPaper, .str "paper"], .tuple [exD ca.BadAsked, .str "asked"], .tuple [exD ca.TooMany, .str "many"], .tuple [exD ca.BadLine, .str "line"]] from rfl]
    first | rw [forW_c] | (rw [kForN_k]; rw [forW_c])
    walk_at "X"
    refine ⟨_, 0, _, _, rfl, rfl, rfl, rfl, ?_⟩
    walk_at "X"
    refine ⟨by decide +kernel, ?_⟩
    rw [show PyData.eqv (PyData.list [PyData.str "text"]) (PyData.list [PyData.str "text"]) = true by decide +kernel]
    walk_at "X"
    refine kIsX_of (C := ca.BadText) true rfl T.e_BadText (by simp only [PySem.W.kitAny, T.k_BadText_RowError]) ?_
    walk_at "X"
    refine kIsX_of (C := ca.BadText) true rfl T.e_BadText (by simp only [PySem.W.kitAny, T.k_BadText_ValueError]) ?_
    walk_at "X"
    first | rw [forW_c] | (rw [kForN_k]; rw [forW_c])
    walk_at "X"
    refine ⟨_, 1, _, _, rfl, rfl, rfl, rfl, ?_⟩
    walk_at "X"
    refine ⟨by decide +kernel, ?_⟩
    rw [show PyData.eqv (PyData.list [PyData.str "unsound"]) (PyData.list [PyData.str "unsound"]) = true by decide +kernel]
    walk_at "X"
    refine kIsX_of (C := ca.Unsound) true rfl T.e_Unsound (by simp only [PySem.W.kitAny, T.k_Unsound_RowError]) ?_
    walk_at "X"
    refine kIsX_of (C := ca.Unsound) true rfl T.e_Unsound (by simp only [PySem.W.kitAny, T.k_Unsound_ValueError]) ?_
    walk_at "X"
    first | rw [forW_c] | (rw [kForN_k]; rw [forW_c])
    walk_at "X"
    refine ⟨_, 2, _, _, rfl, rfl, rfl, rfl, ?_⟩
    walk_at "X"
    refine ⟨by decide +kernel, ?_⟩
    rw [show PyData.eqv (PyData.list [PyData.str "row"]) (PyData.list [PyData.str "row"]) = true by decide +kernel]
    walk_at "X"
    refine kIsX_of (C := ca.BadRow) true rfl T.e_BadRow (by simp only [PySem.W.kitAny, T.k_BadRow_RowError]) ?_
    walk_at "X"
    refine kIsX_of (C := ca.BadRow) true rfl T.e_BadRow (by simp only [PySem.W.kitAny, T.k_BadRow_ValueError]) ?_
    walk_at "X"
    first | rw [forW_c] | (rw [kForN_k]; rw [forW_c])
    walk_at "X"
    refine ⟨_, 3, _, _, rfl, rfl, rfl, rfl, ?_⟩
    walk_at "X"
    refine ⟨by decide +kernel, ?_⟩
    rw [show PyData.eqv (PyData.list [PyData.str "kind"]) (PyData.list [PyData.str "kind"]) = true by decide +kernel]
    walk_at "X"
    refine kIsX_of (C := ca.BadKind) true rfl T.e_BadKind (by simp only [PySem.W.kitAny, T.k_BadKind_RowError]) ?_
    walk_at "X"
    refine kIsX_of (C := ca.BadKind) true rfl T.e_BadKind (by simp only [PySem.W.kitAny, T.k_BadKind_ValueError]) ?_
    walk_at "X"
    first | rw [forW_c] | (rw [kForN_k]; rw [forW_c])
    walk_at "X"
    refine ⟨_, 4, _, _, rfl, rfl, rfl, rfl, ?_⟩
    walk_at "X"
    refine ⟨by decide +kernel, ?_⟩
    rw [show PyData.eqv (PyData.list [PyData.str "deed"]) (PyData.list [PyData.str "deed"]) = true by decide +kernel]
    walk_at "X"
    refine kIsX_of (C := ca.BadDeed) true rfl T.e_BadDeed (by simp only [PySem.W.kitAny, T.k_BadDeed_RowError]) ?_
    walk_at "X"
    refine kIsX_of (C := ca.BadDeed) true rfl T.e_BadDeed (by simp only [PySem.W.kitAny, T.k_BadDeed_ValueError]) ?_
    walk_at "X"
    first | rw [forW_c] | (rw [kForN_k]; rw [forW_c])
    walk_at "X"
    refine ⟨_, 5, _, _, rfl, rfl, rfl, rfl, ?_⟩
    walk_at "X"
    refine ⟨by decide +kernel, ?_⟩
    rw [show PyData.eqv (PyData.list [PyData.str "program"]) (PyData.list [PyData.str "program"]) = true by decide +kernel]
    walk_at "X"
    refine kIsX_of (C := ca.BadProgram) true rfl T.e_BadProgram (by simp only [PySem.W.kitAny, T.k_BadProgram_RowError]) ?_
    walk_at "X"
    refine kIsX_of (C := ca.BadProgram) true rfl T.e_BadProgram (by simp only [PySem.W.kitAny, T.k_BadProgram_ValueError]) ?_
    walk_at "X"
    first | rw [forW_c] | (rw [kForN_k]; rw [forW_c])
    walk_at "X"
    refine ⟨_, 6, _, _, rfl, rfl, rfl, rfl, ?_⟩
    walk_at "X"
    refine ⟨by decide +kernel, ?_⟩
    rw [show PyData.eqv (PyData.list [PyData.str "input"]) (PyData.list [PyData.str "input"]) = true by decide +kernel]
    walk_at "X"
    refine kIsX_of (C := ca.BadInput) true rfl T.e_BadInput (by simp only [PySem.W.kitAny, T.k_BadInput_RowError]) ?_
    walk_at "X"
    refine kIsX_of (C := ca.BadInput) true rfl T.e_BadInput (by simp only [PySem.W.kitAny, T.k_BadInput_ValueError]) ?_
    walk_at "X"
    first | rw [forW_c] | (rw [kForN_k]; rw [forW_c])
    walk_at "X"
    refine ⟨_, 7, _, _, rfl, rfl, rfl, rfl, ?_⟩
    walk_at "X"
    refine ⟨by decide +kernel, ?_⟩
    rw [show PyData.eqv (PyData.list [PyData.str "place"]) (PyData.list [PyData.str "place"]) = true by decide +kernel]
    walk_at "X"
    refine kIsX_of (C := ca.BadPlace) true rfl T.e_BadPlace (by simp only [PySem.W.kitAny, T.k_BadPlace_RowError]) ?_
    walk_at "X"
    refine kIsX_of (C := ca.BadPlace) true rfl T.e_BadPlace (by simp only [PySem.W.kitAny, T.k_BadPlace_ValueError]) ?_
    walk_at "X"
    first | rw [forW_c] | (rw [kForN_k]; rw [forW_c])
    walk_at "X"
    refine ⟨_, 8, _, _, rfl, rfl, rfl, rfl, ?_⟩
    walk_at "X"
    refine ⟨by decide +kernel, ?_⟩
    rw [show PyData.eqv (PyData.list [PyData.str "paper"]) (PyData.list [PyData.str "paper"]) = true by decide +kernel]
    walk_at "X"
    refine kIsX_of (C := ca.BadPaper) true rfl T.e_BadPaper (by simp only [PySem.W.kitAny, T.k_BadPaper_RowError]) ?_
    walk_at "X"
    refine kIsX_of (C := ca.BadPaper) true rfl T.e_BadPaper (by simp only [PySem.W.kitAny, T.k_BadPaper_ValueError]) ?_
    walk_at "X"
    first | rw [forW_c] | (rw [kForN_k]; rw [forW_c])
    walk_at "X"
    refine ⟨_, 9, _, _, rfl, rfl, rfl, rfl, ?_⟩
    walk_at "X"
    refine ⟨by decide +kernel, ?_⟩
    rw [show PyData.eqv (PyData.list [PyData.str "asked"]) (PyData.list [PyData.str "asked"]) = true by decide +kernel]
    walk_at "X"
    refine kIsX_of (C := ca.BadAsked) true rfl T.e_BadAsked (by simp only [PySem.W.kitAny, T.k_BadAsked_RowError]) ?_
    walk_at "X"
    refine kIsX_of (C := ca.BadAsked) true rfl T.e_BadAsked (by simp only [PySem.W.kitAny, T.k_BadAsked_ValueError]) ?_
    walk_at "X"
    first | rw [forW_c] | (rw [kForN_k]; rw [forW_c])
    walk_at "X"
    refine ⟨_, 10, _, _, rfl, rfl, rfl, rfl, ?_⟩
    walk_at "X"
    refine ⟨by decide +kernel, ?_⟩
    rw [show PyData.eqv (PyData.list [PyData.str "many"]) (PyData.list [PyData.str "many"]) = true by decide +kernel]
    walk_at "X"
    refine kIsX_of (C := ca.TooMany) true rfl T.e_TooMany (by simp only [PySem.W.kitAny, T.k_TooMany_RowError]) ?_
    walk_at "X"
    refine kIsX_of (C := ca.TooMany) true rfl T.e_TooMany (by simp only [PySem.W.kitAny, T.k_TooMany_ValueError]) ?_
    walk_at "X"
    first | rw [forW_c] | (rw [kForN_k]; rw [forW_c])
    walk_at "X"
    refine ⟨_, 11, _, _, rfl, rfl, rfl, rfl, ?_⟩
    walk_at "X"
    refine ⟨by decide +kernel, ?_⟩
    rw [show PyData.eqv (PyData.list [PyData.str "line"]) (PyData.list [PyData.str "line"]) = true by decide +kernel]
    walk_at "X"
    refine kIsX_of (C := ca.BadLine) true rfl T.e_BadLine (by simp only [PySem.W.kitAny, T.k_BadLine_RowError]) ?_
    walk_at "X"
    refine kIsX_of (C := ca.BadLine) true rfl T.e_BadLine (by simp only [PySem.W.kitAny, T.k_BadLine_ValueError]) ?_
    walk_at "X"
    walk_at "X"
    refine ⟨_, .int n, rfl, rfl, ?_⟩
    walk_at "X"
    refine ⟨_, .int p, rfl, rfl, ?_⟩
    walk_at "X"
    refine ⟨_, .str wd, rfl, rfl, ?_⟩
    walk_at "X"
    have n2 : n < 1000000000 := n1
    have hw : okN 5 wd := by
      simp only [List.mem_cons, List.not_mem_nil, or_false] at hwd
      rcases hwd with rfl | rfl | rfl | rfl | rfl | rfl | rfl
      all_goals exact okN_b (by decide +kernel)
    have hrp : reprOk (.list [.int n, .int p, .str wd]) := (Rb.lst (m := 0) (w := 200) (n := 3) (fun y hy => by
      simp only [List.mem_cons, List.not_mem_nil, or_false] at hy
      rcases hy with rfl | rfl | rfl
      · exact Rb.int (by omega)
      · exact Rb.int (by omega)
      · exact (Rb.str hw).le (by decide) (by decide)) (by simp)).rep (by decide) (by decide)
    refine ⟨hrp, hrp, ?_⟩
    generalize (PyData.list [.int n, .int p, .str wd]).shown = SW
    rw [show PyData.eqv (.str SW) (.str SW) = true by simp [PyData.eqv]]
    walk_at "X"
    exact hkn _ _ ⟨⟨_, _, _, _, _, _, _, rfl⟩, _, rfl, by omega⟩
  · rintro env τ ⟨⟨x3, x4, x5, x6, x7, x8, x9, rfl⟩, b, rfl, hb⟩
    walk_at "X"
    exact q _
end
/-! the defs of a law, known -/
section
variable {P : Program} {w : World} {K : PySem.W.Frag} {mg : Str → Option Value} {base : Heap} {S : Sto} {x : Str} {ps : List Str} {k : Nat} {f : Addr} {fd : FuncData}
theorem Known.o1 {FF : FW S.T} (h : FnOk P w K mg base CX0 k f fd ps (spD S K FF)) (m : mg x = some (.ref f)) (kp : PySem.W.keepIn K (.ref f) = true) (b : Binds K fd ps []) : Known P w K mg base S x ps k FF := ⟨f, fd, h, m, kp, b⟩
theorem KnownG.o1 {FF : FW S.T} (h : FnG P w K mg base k f fd ps (spD S K FF)) (m : mg x = some (.ref f)) (kp : PySem.W.keepIn K (.ref f) = true) (b : Binds K fd ps []) : KnownG P w K mg base S x ps k FF := ⟨f, fd, h, m, kp, b⟩
theorem KnownX.o1 {FX : FWX S.T} (h : FnOk P w K mg base (L2.CX P w) k f fd ps (spDX S K FX)) (m : mg x = some (.ref f)) (kp : PySem.W.keepIn K (.ref f) = true) (b : Binds K fd ps []) : KnownX P w K mg base S x ps k FX := ⟨f, fd, h, m, kp, b⟩
theorem fun_ex {qual : Str} {st : Stmt} {oc : Value} {od an : Option Addr} {osl : Array (Option Value)} {kV doc pm cdv ct : Value} (l : K.lookup f = some ⟨oc, od, .func (PySem.W.fnOf x qual (defArgs st) (defBody st) (defScope st) .none kV doc pm an cdv ct), osl⟩)
    (c : PySem.W.codeIn K cdv qual = true) (k : PySem.W.keepIn K (.ref f) = true) : ∃ fd, Fun K x qual st f fd := ⟨_, fun_mk l c k⟩
end
theorem us1 {P : List Value → Prop} (h : ∀ a0, P [a0]) (us : List Value) (hl : us.length = 1) : P us := match us, hl with | [a0], _ => h a0
theorem us3 {P : List Value → Prop} (h : ∀ a0, ∀ a1, ∀ a2, P [a0, a1, a2]) (us : List Value) (hl : us.length = 3) : P us := match us, hl with | [a0, a1, a2], _ => h a0 a1 a2
theorem us2 {P : List Value → Prop} (h : ∀ a0, ∀ a1, P [a0, a1]) (us : List Value) (hl : us.length = 2) : P us := match us, hl with | [a0, a1], _ => h a0 a1
theorem bd_BadText_init {K : PySem.W.Frag} {f : Addr} {fd : FuncData} (F : Fun K "__init__" "BadText.__init__" s_BadText_init f fd) : Binds K fd ["self", "word"] [] := F.binds fun _ _ _ _ _ _ => us2 fun _ _ => rfl
theorem bd_Unsound_init {K : PySem.W.Frag} {f : Addr} {fd : FuncData} (F : Fun K "__init__" "Unsound.__init__" s_Unsound_init f fd) : Binds K fd ["self", "place", "what"] [] := F.binds fun _ _ _ _ _ _ => us3 fun _ _ _ => rfl
theorem bd__law_begin {K : PySem.W.Frag} {f : Addr} {fd : FuncData} (F : Fun K "_law_begin" "_law_begin" s__law_begin f fd) : Binds K fd ["_law_script"] [] := F.binds fun _ _ _ _ _ _ => us1 fun _ => rfl
theorem bd__law_mixed {K : PySem.W.Frag} {f : Addr} {fd : FuncData} (F : Fun K "_law_mixed" "_law_mixed" s__law_mixed f fd) : Binds K fd ["_law_cell", "_law_k"] [] := F.binds fun _ _ _ _ _ _ => us2 fun _ _ => rfl
theorem bd__law_next {K : PySem.W.Frag} {f : Addr} {fd : FuncData} (F : Fun K "_law_next" "_law_next" s__law_next f fd) : Binds K fd ["_law_draw", "_law_many"] [] := F.binds fun _ _ _ _ _ _ => us2 fun _ _ => rfl
theorem bd__law_made {K : PySem.W.Frag} {f : Addr} {fd : FuncData} (F : Fun K "_law_made" "_law_made" s__law_made f fd) : Binds K fd ["_law_number", "_law_place", "_law_what"] [] := F.binds fun _ _ _ _ _ _ => us3 fun _ _ _ => rfl
theorem bd__law_words {K : PySem.W.Frag} {f : Addr} {fd : FuncData} (F : Fun K "_law_words" "_law_words" s__law_words f fd) : Binds K fd ["_law_e"] [] := F.binds fun _ _ _ _ _ _ => us1 fun _ => rfl
theorem all_mk {l : PySem.W.OpenLaw} {w : World} {K : PySem.W.Frag} {h : Heap} {mg : Str → Option Value} {fa f0 f1 f2 f3 f4 f5 f6 f7 : Addr} (ca : Cas) (X : K.In h) (G : h.Ns mainGlobals mg) (hfa : mg "law" = some (.ref fa))
    {od0 an0 od1 an1 od2 an2 od3 an3 od4 an4 od5 an5 od6 an6 od7 an7 : Option Addr} {sl0 sl1 sl2 sl3 sl4 sl5 sl6 sl7 : Array (Option Value)}
    {oc0 kV0 dc0 pm0 ct0 cd0 oc1 kV1 dc1 pm1 ct1 cd1 oc2 kV2 dc2 pm2 ct2 cd2 oc3 kV3 dc3 pm3 ct3 cd3 oc4 kV4 dc4 pm4 ct4 cd4 oc5 kV5 dc5 pm5 ct5 cd5 oc6 kV6 dc6 pm6 ct6 cd6 oc7 kV7 dc7 pm7 ct7 cd7 : Value}
    (a0 : PySem.W.findIn K (.ref ca.BadText) "__init__" = some (some (.ref f0))) (zi0 : PySem.W.typeIn K (.ref f0) = some (.type "function")) (l0 : K.lookup f0 = some ⟨oc0, od0, .func (PySem.W.fnOf "__init__" "BadText.__init__" (defArgs s_BadText_init) (defBody s_BadText_init) (defScope s_BadText_init) .none kV0 dc0 pm0 an0 cd0 ct0), sl0⟩) (c0 : PySem.W.codeIn K cd0 "BadText.__init__" = true) (k0 : PySem.W.keepIn K (.ref f0) = true)
    (a1 : PySem.W.findIn K (.ref ca.Unsound) "__init__" = some (some (.ref f1))) (zi1 : PySem.W.typeIn K (.ref f1) = some (.type "function")) (l1 : K.lookup f1 = some ⟨oc1, od1, .func (PySem.W.fnOf "__init__" "Unsound.__init__" (defArgs s_Unsound_init) (defBody s_Unsound_init) (defScope s_Unsound_init) .none kV1 dc1 pm1 an1 cd1 ct1), sl1⟩) (c1 : PySem.W.codeIn K cd1 "Unsound.__init__" = true) (k1 : PySem.W.keepIn K (.ref f1) = true)
    (a2 : PySem.W.nsIn K mainGlobals "_law_begin" = some (some (.ref f2))) (l2 : K.lookup f2 = some ⟨oc2, od2, .func (PySem.W.fnOf "_law_begin" "_law_begin" (defArgs s__law_begin) (defBody s__law_begin) (defScope s__law_begin) .none kV2 dc2 pm2 an2 cd2 ct2), sl2⟩) (c2 : PySem.W.codeIn K cd2 "_law_begin" = true) (k2 : PySem.W.keepIn K (.ref f2) = true)
    (a3 : PySem.W.nsIn K mainGlobals "_law_mixed" = some (some (.ref f3))) (l3 : K.lookup f3 = some ⟨oc3, od3, .func (PySem.W.fnOf "_law_mixed" "_law_mixed" (defArgs s__law_mixed) (defBody s__law_mixed) (defScope s__law_mixed) .none kV3 dc3 pm3 an3 cd3 ct3), sl3⟩) (c3 : PySem.W.codeIn K cd3 "_law_mixed" = true) (k3 : PySem.W.keepIn K (.ref f3) = true)
    (a4 : PySem.W.nsIn K mainGlobals "_law_next" = some (some (.ref f4))) (l4 : K.lookup f4 = some ⟨oc4, od4, .func (PySem.W.fnOf "_law_next" "_law_next" (defArgs s__law_next) (defBody s__law_next) (defScope s__law_next) .none kV4 dc4 pm4 an4 cd4 ct4), sl4⟩) (c4 : PySem.W.codeIn K cd4 "_law_next" = true) (k4 : PySem.W.keepIn K (.ref f4) = true)
    (a5 : PySem.W.nsIn K mainGlobals "_law_made" = some (some (.ref f5))) (l5 : K.lookup f5 = some ⟨oc5, od5, .func (PySem.W.fnOf "_law_made" "_law_made" (defArgs s__law_made) (defBody s__law_made) (defScope s__law_made) .none kV5 dc5 pm5 an5 cd5 ct5), sl5⟩) (c5 : PySem.W.codeIn K cd5 "_law_made" = true) (k5 : PySem.W.keepIn K (.ref f5) = true)
    (a6 : PySem.W.nsIn K mainGlobals "_law_words" = some (some (.ref f6))) (l6 : K.lookup f6 = some ⟨oc6, od6, .func (PySem.W.fnOf "_law_words" "_law_words" (defArgs s__law_words) (defBody s__law_words) (defScope s__law_words) .none kV6 dc6 pm6 an6 cd6 ct6), sl6⟩) (c6 : PySem.W.codeIn K cd6 "_law_words" = true) (k6 : PySem.W.keepIn K (.ref f6) = true)
    (a7 : PySem.W.nsIn K mainGlobals "law" = some (some (.ref f7))) (l7 : K.lookup f7 = some ⟨oc7, od7, .func (PySem.W.fnOf "law" "law" (defArgs s_law) (defBody s_law) (defScope s_law) .none kV7 dc7 pm7 an7 cd7 ct7), sl7⟩) (c7 : PySem.W.codeIn K cd7 "law" = true) (k7 : PySem.W.keepIn K (.ref f7) = true)
    (zb_len : PySem.W.nsIn K mainGlobals "len" = some none)
    (zb_isinstance : PySem.W.nsIn K mainGlobals "isinstance" = some none)
    (zb_range : PySem.W.nsIn K mainGlobals "range" = some none)
    (zb_min : PySem.W.nsIn K mainGlobals "min" = some none)
    (zb_zip : PySem.W.nsIn K mainGlobals "zip" = some none)
    (zb_ValueError : PySem.W.nsIn K mainGlobals "ValueError" = some none)
    (zb_repr : PySem.W.nsIn K mainGlobals "repr" = some none)
    (zg_RowError : PySem.W.nsIn K mainGlobals "RowError" = some (some (.ref ca.RowError)))
    (zg_BadText : PySem.W.nsIn K mainGlobals "BadText" = some (some (.ref ca.BadText)))
    (zg_BadRow : PySem.W.nsIn K mainGlobals "BadRow" = some (some (.ref ca.BadRow)))
    (zg_BadKind : PySem.W.nsIn K mainGlobals "BadKind" = some (some (.ref ca.BadKind)))
    (zg_BadDeed : PySem.W.nsIn K mainGlobals "BadDeed" = some (some (.ref ca.BadDeed)))
    (zg_BadProgram : PySem.W.nsIn K mainGlobals "BadProgram" = some (some (.ref ca.BadProgram)))
    (zg_Unsound : PySem.W.nsIn K mainGlobals "Unsound" = some (some (.ref ca.Unsound)))
    (zg_BadInput : PySem.W.nsIn K mainGlobals "BadInput" = some (some (.ref ca.BadInput)))
    (zg_BadPlace : PySem.W.nsIn K mainGlobals "BadPlace" = some (some (.ref ca.BadPlace)))
    (zg_BadPaper : PySem.W.nsIn K mainGlobals "BadPaper" = some (some (.ref ca.BadPaper)))
    (zg_BadAsked : PySem.W.nsIn K mainGlobals "BadAsked" = some (some (.ref ca.BadAsked)))
    (zg_TooMany : PySem.W.nsIn K mainGlobals "TooMany" = some (some (.ref ca.TooMany)))
    (zg_BadLine : PySem.W.nsIn K mainGlobals "BadLine" = some (some (.ref ca.BadLine)))
    (zn : PySem.W.specialIn K (.builtin "object.__class__") "__get__" = some (some (.builtin "getset_descriptor.__get__"))) (zt : PySem.W.takesIn K (.builtin "object.__class__") = some true)
    (yk_BadText : PySem.W.keepIn K (.ref ca.BadText) = true) (yb_BadText : PySem.W.subIn K (.ref ca.BadText) (.type "BaseException") = some true) (yt_BadText : PySem.W.typeIn K (.ref ca.BadText) = some (.type "type")) (yc_BadText : (PySem.W.clsIn K ca.BadText).isSome = true) (yhg_BadText : PySem.W.findIn K (.ref ca.BadText) "__getattribute__" = some (some (.builtin "BaseException.__getattribute__"))) (yhk_BadText : PySem.W.findIn K (.ref ca.BadText) "__getattr__" = some none) (yha_BadText : PySem.W.findIn K (.ref ca.BadText) "__class__" = some (some (.builtin "object.__class__"))) (yhm_BadText : PySem.W.mroIn K ca.BadText (.type "object") = some true)
    (q_BadText_RowError : PySem.W.kitOne K (.ref ca.BadText) (.ref ca.RowError) = some true)
    (q_BadText_BadText : PySem.W.kitOne K (.ref ca.BadText) (.ref ca.BadText) = some true)
    (q_BadText_BadRow : PySem.W.kitOne K (.ref ca.BadText) (.ref ca.BadRow) = some false)
    (q_BadText_BadKind : PySem.W.kitOne K (.ref ca.BadText) (.ref ca.BadKind) = some false)
    (q_BadText_BadDeed : PySem.W.kitOne K (.ref ca.BadText) (.ref ca.BadDeed) = some false)
    (q_BadText_BadProgram : PySem.W.kitOne K (.ref ca.BadText) (.ref ca.BadProgram) = some false)
    (q_BadText_Unsound : PySem.W.kitOne K (.ref ca.BadText) (.ref ca.Unsound) = some false)
    (q_BadText_BadInput : PySem.W.kitOne K (.ref ca.BadText) (.ref ca.BadInput) = some false)
    (q_BadText_BadPlace : PySem.W.kitOne K (.ref ca.BadText) (.ref ca.BadPlace) = some false)
    (q_BadText_BadPaper : PySem.W.kitOne K (.ref ca.BadText) (.ref ca.BadPaper) = some false)
    (q_BadText_BadAsked : PySem.W.kitOne K (.ref ca.BadText) (.ref ca.BadAsked) = some false)
    (q_BadText_TooMany : PySem.W.kitOne K (.ref ca.BadText) (.ref ca.TooMany) = some false)
    (q_BadText_BadLine : PySem.W.kitOne K (.ref ca.BadText) (.ref ca.BadLine) = some false)
    (q_BadText_ValueError : PySem.W.kitOne K (.ref ca.BadText) (.type "ValueError") = some true)
    (yx_BadRow : PySem.W.excIn K ca.BadRow [.type "ValueError", .type "Exception", .type "BaseException", .type "object"] "ValueError.__new__" = true) (yk_BadRow : PySem.W.keepIn K (.ref ca.BadRow) = true) (yb_BadRow : PySem.W.subIn K (.ref ca.BadRow) (.type "BaseException") = some true) (yt_BadRow : PySem.W.typeIn K (.ref ca.BadRow) = some (.type "type")) (yc_BadRow : (PySem.W.clsIn K ca.BadRow).isSome = true) (yhg_BadRow : PySem.W.findIn K (.ref ca.BadRow) "__getattribute__" = some (some (.builtin "BaseException.__getattribute__"))) (yhk_BadRow : PySem.W.findIn K (.ref ca.BadRow) "__getattr__" = some none) (yha_BadRow : PySem.W.findIn K (.ref ca.BadRow) "__class__" = some (some (.builtin "object.__class__"))) (yhm_BadRow : PySem.W.mroIn K ca.BadRow (.type "object") = some true)
    (q_BadRow_RowError : PySem.W.kitOne K (.ref ca.BadRow) (.ref ca.RowError) = some true)
    (q_BadRow_BadText : PySem.W.kitOne K (.ref ca.BadRow) (.ref ca.BadText) = some false)
    (q_BadRow_BadRow : PySem.W.kitOne K (.ref ca.BadRow) (.ref ca.BadRow) = some true)
    (q_BadRow_BadKind : PySem.W.kitOne K (.ref ca.BadRow) (.ref ca.BadKind) = some false)
    (q_BadRow_BadDeed : PySem.W.kitOne K (.ref ca.BadRow) (.ref ca.BadDeed) = some false)
    (q_BadRow_BadProgram : PySem.W.kitOne K (.ref ca.BadRow) (.ref ca.BadProgram) = some false)
    (q_BadRow_Unsound : PySem.W.kitOne K (.ref ca.BadRow) (.ref ca.Unsound) = some false)
    (q_BadRow_BadInput : PySem.W.kitOne K (.ref ca.BadRow) (.ref ca.BadInput) = some false)
    (q_BadRow_BadPlace : PySem.W.kitOne K (.ref ca.BadRow) (.ref ca.BadPlace) = some false)
    (q_BadRow_BadPaper : PySem.W.kitOne K (.ref ca.BadRow) (.ref ca.BadPaper) = some false)
    (q_BadRow_BadAsked : PySem.W.kitOne K (.ref ca.BadRow) (.ref ca.BadAsked) = some false)
    (q_BadRow_TooMany : PySem.W.kitOne K (.ref ca.BadRow) (.ref ca.TooMany) = some false)
    (q_BadRow_BadLine : PySem.W.kitOne K (.ref ca.BadRow) (.ref ca.BadLine) = some false)
    (q_BadRow_ValueError : PySem.W.kitOne K (.ref ca.BadRow) (.type "ValueError") = some true)
    (yx_BadKind : PySem.W.excIn K ca.BadKind [.type "ValueError", .type "Exception", .type "BaseException", .type "object"] "ValueError.__new__" = true) (yk_BadKind : PySem.W.keepIn K (.ref ca.BadKind) = true) (yb_BadKind : PySem.W.subIn K (.ref ca.BadKind) (.type "BaseException") = some true) (yt_BadKind : PySem.W.typeIn K (.ref ca.BadKind) = some (.type "type")) (yc_BadKind : (PySem.W.clsIn K ca.BadKind).isSome = true) (yhg_BadKind : PySem.W.findIn K (.ref ca.BadKind) "__getattribute__" = some (some (.builtin "BaseException.__getattribute__"))) (yhk_BadKind : PySem.W.findIn K (.ref ca.BadKind) "__getattr__" = some none) (yha_BadKind : PySem.W.findIn K (.ref ca.BadKind) "__class__" = some (some (.builtin "object.__class__"))) (yhm_BadKind : PySem.W.mroIn K ca.BadKind (.type "object") = some true)
    (q_BadKind_RowError : PySem.W.kitOne K (.ref ca.BadKind) (.ref ca.RowError) = some true)
    (q_BadKind_BadText : PySem.W.kitOne K (.ref ca.BadKind) (.ref ca.BadText) = some false)
    (q_BadKind_BadRow : PySem.W.kitOne K (.ref ca.BadKind) (.ref ca.BadRow) = some false)
    (q_BadKind_BadKind : PySem.W.kitOne K (.ref ca.BadKind) (.ref ca.BadKind) = some true)
    (q_BadKind_BadDeed : PySem.W.kitOne K (.ref ca.BadKind) (.ref ca.BadDeed) = some false)
    (q_BadKind_BadProgram : PySem.W.kitOne K (.ref ca.BadKind) (.ref ca.BadProgram) = some false)
    (q_BadKind_Unsound : PySem.W.kitOne K (.ref ca.BadKind) (.ref ca.Unsound) = some false)
    (q_BadKind_BadInput : PySem.W.kitOne K (.ref ca.BadKind) (.ref ca.BadInput) = some false)
    (q_BadKind_BadPlace : PySem.W.kitOne K (.ref ca.BadKind) (.ref ca.BadPlace) = some false)
    (q_BadKind_BadPaper : PySem.W.kitOne K (.ref ca.BadKind) (.ref ca.BadPaper) = some false)
    (q_BadKind_BadAsked : PySem.W.kitOne K (.ref ca.BadKind) (.ref ca.BadAsked) = some false)
    (q_BadKind_TooMany : PySem.W.kitOne K (.ref ca.BadKind) (.ref ca.TooMany) = some false)
    (q_BadKind_BadLine : PySem.W.kitOne K (.ref ca.BadKind) (.ref ca.BadLine) = some false)
    (q_BadKind_ValueError : PySem.W.kitOne K (.ref ca.BadKind) (.type "ValueError") = some true)
    (yx_BadDeed : PySem.W.excIn K ca.BadDeed [.type "ValueError", .type "Exception", .type "BaseException", .type "object"] "ValueError.__new__" = true) (yk_BadDeed : PySem.W.keepIn K (.ref ca.BadDeed) = true) (yb_BadDeed : PySem.W.subIn K (.ref ca.BadDeed) (.type "BaseException") = some true) (yt_BadDeed : PySem.W.typeIn K (.ref ca.BadDeed) = some (.type "type")) (yc_BadDeed : (PySem.W.clsIn K ca.BadDeed).isSome = true) (yhg_BadDeed : PySem.W.findIn K (.ref ca.BadDeed) "__getattribute__" = some (some (.builtin "BaseException.__getattribute__"))) (yhk_BadDeed : PySem.W.findIn K (.ref ca.BadDeed) "__getattr__" = some none) (yha_BadDeed : PySem.W.findIn K (.ref ca.BadDeed) "__class__" = some (some (.builtin "object.__class__"))) (yhm_BadDeed : PySem.W.mroIn K ca.BadDeed (.type "object") = some true)
    (q_BadDeed_RowError : PySem.W.kitOne K (.ref ca.BadDeed) (.ref ca.RowError) = some true)
    (q_BadDeed_BadText : PySem.W.kitOne K (.ref ca.BadDeed) (.ref ca.BadText) = some false)
    (q_BadDeed_BadRow : PySem.W.kitOne K (.ref ca.BadDeed) (.ref ca.BadRow) = some false)
    (q_BadDeed_BadKind : PySem.W.kitOne K (.ref ca.BadDeed) (.ref ca.BadKind) = some false)
    (q_BadDeed_BadDeed : PySem.W.kitOne K (.ref ca.BadDeed) (.ref ca.BadDeed) = some true)
    (q_BadDeed_BadProgram : PySem.W.kitOne K (.ref ca.BadDeed) (.ref ca.BadProgram) = some false)
    (q_BadDeed_Unsound : PySem.W.kitOne K (.ref ca.BadDeed) (.ref ca.Unsound) = some false)
    (q_BadDeed_BadInput : PySem.W.kitOne K (.ref ca.BadDeed) (.ref ca.BadInput) = some false)
    (q_BadDeed_BadPlace : PySem.W.kitOne K (.ref ca.BadDeed) (.ref ca.BadPlace) = some false)
    (q_BadDeed_BadPaper : PySem.W.kitOne K (.ref ca.BadDeed) (.ref ca.BadPaper) = some false)
    (q_BadDeed_BadAsked : PySem.W.kitOne K (.ref ca.BadDeed) (.ref ca.BadAsked) = some false)
    (q_BadDeed_TooMany : PySem.W.kitOne K (.ref ca.BadDeed) (.ref ca.TooMany) = some false)
    (q_BadDeed_BadLine : PySem.W.kitOne K (.ref ca.BadDeed) (.ref ca.BadLine) = some false)
    (q_BadDeed_ValueError : PySem.W.kitOne K (.ref ca.BadDeed) (.type "ValueError") = some true)
    (yx_BadProgram : PySem.W.excIn K ca.BadProgram [.type "ValueError", .type "Exception", .type "BaseException", .type "object"] "ValueError.__new__" = true) (yk_BadProgram : PySem.W.keepIn K (.ref ca.BadProgram) = true) (yb_BadProgram : PySem.W.subIn K (.ref ca.BadProgram) (.type "BaseException") = some true) (yt_BadProgram : PySem.W.typeIn K (.ref ca.BadProgram) = some (.type "type")) (yc_BadProgram : (PySem.W.clsIn K ca.BadProgram).isSome = true) (yhg_BadProgram : PySem.W.findIn K (.ref ca.BadProgram) "__getattribute__" = some (some (.builtin "BaseException.__getattribute__"))) (yhk_BadProgram : PySem.W.findIn K (.ref ca.BadProgram) "__getattr__" = some none) (yha_BadProgram : PySem.W.findIn K (.ref ca.BadProgram) "__class__" = some (some (.builtin "object.__class__"))) (yhm_BadProgram : PySem.W.mroIn K ca.BadProgram (.type "object") = some true)
    (q_BadProgram_RowError : PySem.W.kitOne K (.ref ca.BadProgram) (.ref ca.RowError) = some true)
    (q_BadProgram_BadText : PySem.W.kitOne K (.ref ca.BadProgram) (.ref ca.BadText) = some false)
    (q_BadProgram_BadRow : PySem.W.kitOne K (.ref ca.BadProgram) (.ref ca.BadRow) = some false)
    (q_BadProgram_BadKind : PySem.W.kitOne K (.ref ca.BadProgram) (.ref ca.BadKind) = some false)
    (q_BadProgram_BadDeed : PySem.W.kitOne K (.ref ca.BadProgram) (.ref ca.BadDeed) = some false)
    (q_BadProgram_BadProgram : PySem.W.kitOne K (.ref ca.BadProgram) (.ref ca.BadProgram) = some true)
    (q_BadProgram_Unsound : PySem.W.kitOne K (.ref ca.BadProgram) (.ref ca.Unsound) = some false)
    (q_BadProgram_BadInput : PySem.W.kitOne K (.ref ca.BadProgram) (.ref ca.BadInput) = some false)
    (q_BadProgram_BadPlace : PySem.W.kitOne K (.ref ca.BadProgram) (.ref ca.BadPlace) = some false)
    (q_BadProgram_BadPaper : PySem.W.kitOne K (.ref ca.BadProgram) (.ref ca.BadPaper) = some false)
    (q_BadProgram_BadAsked : PySem.W.kitOne K (.ref ca.BadProgram) (.ref ca.BadAsked) = some false)
    (q_BadProgram_TooMany : PySem.W.kitOne K (.ref ca.BadProgram) (.ref ca.TooMany) = some false)
    (q_BadProgram_BadLine : PySem.W.kitOne K (.ref ca.BadProgram) (.ref ca.BadLine) = some false)
    (q_BadProgram_ValueError : PySem.W.kitOne K (.ref ca.BadProgram) (.type "ValueError") = some true)
    (yk_Unsound : PySem.W.keepIn K (.ref ca.Unsound) = true) (yb_Unsound : PySem.W.subIn K (.ref ca.Unsound) (.type "BaseException") = some true) (yt_Unsound : PySem.W.typeIn K (.ref ca.Unsound) = some (.type "type")) (yc_Unsound : (PySem.W.clsIn K ca.Unsound).isSome = true) (yhg_Unsound : PySem.W.findIn K (.ref ca.Unsound) "__getattribute__" = some (some (.builtin "BaseException.__getattribute__"))) (yhk_Unsound : PySem.W.findIn K (.ref ca.Unsound) "__getattr__" = some none) (yha_Unsound : PySem.W.findIn K (.ref ca.Unsound) "__class__" = some (some (.builtin "object.__class__"))) (yhm_Unsound : PySem.W.mroIn K ca.Unsound (.type "object") = some true)
    (q_Unsound_RowError : PySem.W.kitOne K (.ref ca.Unsound) (.ref ca.RowError) = some true)
    (q_Unsound_BadText : PySem.W.kitOne K (.ref ca.Unsound) (.ref ca.BadText) = some false)
    (q_Unsound_BadRow : PySem.W.kitOne K (.ref ca.Unsound) (.ref ca.BadRow) = some false)
    (q_Unsound_BadKind : PySem.W.kitOne K (.ref ca.Unsound) (.ref ca.BadKind) = some false)
    (q_Unsound_BadDeed : PySem.W.kitOne K (.ref ca.Unsound) (.ref ca.BadDeed) = some false)
    (q_Unsound_BadProgram : PySem.W.kitOne K (.ref ca.Unsound) (.ref ca.BadProgram) = some false)
    (q_Unsound_Unsound : PySem.W.kitOne K (.ref ca.Unsound) (.ref ca.Unsound) = some true)
    (q_Unsound_BadInput : PySem.W.kitOne K (.ref ca.Unsound) (.ref ca.BadInput) = some false)
    (q_Unsound_BadPlace : PySem.W.kitOne K (.ref ca.Unsound) (.ref ca.BadPlace) = some false)
    (q_Unsound_BadPaper : PySem.W.kitOne K (.ref ca.Unsound) (.ref ca.BadPaper) = some false)
    (q_Unsound_BadAsked : PySem.W.kitOne K (.ref ca.Unsound) (.ref ca.BadAsked) = some false)
    (q_Unsound_TooMany : PySem.W.kitOne K (.ref ca.Unsound) (.ref ca.TooMany) = some false)
    (q_Unsound_BadLine : PySem.W.kitOne K (.ref ca.Unsound) (.ref ca.BadLine) = some false)
    (q_Unsound_ValueError : PySem.W.kitOne K (.ref ca.Unsound) (.type "ValueError") = some true)
    (yx_BadInput : PySem.W.excIn K ca.BadInput [.type "ValueError", .type "Exception", .type "BaseException", .type "object"] "ValueError.__new__" = true) (yk_BadInput : PySem.W.keepIn K (.ref ca.BadInput) = true) (yb_BadInput : PySem.W.subIn K (.ref ca.BadInput) (.type "BaseException") = some true) (yt_BadInput : PySem.W.typeIn K (.ref ca.BadInput) = some (.type "type")) (yc_BadInput : (PySem.W.clsIn K ca.BadInput).isSome = true) (yhg_BadInput : PySem.W.findIn K (.ref ca.BadInput) "__getattribute__" = some (some (.builtin "BaseException.__getattribute__"))) (yhk_BadInput : PySem.W.findIn K (.ref ca.BadInput) "__getattr__" = some none) (yha_BadInput : PySem.W.findIn K (.ref ca.BadInput) "__class__" = some (some (.builtin "object.__class__"))) (yhm_BadInput : PySem.W.mroIn K ca.BadInput (.type "object") = some true)
    (q_BadInput_RowError : PySem.W.kitOne K (.ref ca.BadInput) (.ref ca.RowError) = some true)
    (q_BadInput_BadText : PySem.W.kitOne K (.ref ca.BadInput) (.ref ca.BadText) = some false)
    (q_BadInput_BadRow : PySem.W.kitOne K (.ref ca.BadInput) (.ref ca.BadRow) = some false)
    (q_BadInput_BadKind : PySem.W.kitOne K (.ref ca.BadInput) (.ref ca.BadKind) = some false)
    (q_BadInput_BadDeed : PySem.W.kitOne K (.ref ca.BadInput) (.ref ca.BadDeed) = some false)
    (q_BadInput_BadProgram : PySem.W.kitOne K (.ref ca.BadInput) (.ref ca.BadProgram) = some false)
    (q_BadInput_Unsound : PySem.W.kitOne K (.ref ca.BadInput) (.ref ca.Unsound) = some false)
    (q_BadInput_BadInput : PySem.W.kitOne K (.ref ca.BadInput) (.ref ca.BadInput) = some true)
    (q_BadInput_BadPlace : PySem.W.kitOne K (.ref ca.BadInput) (.ref ca.BadPlace) = some false)
    (q_BadInput_BadPaper : PySem.W.kitOne K (.ref ca.BadInput) (.ref ca.BadPaper) = some false)
    (q_BadInput_BadAsked : PySem.W.kitOne K (.ref ca.BadInput) (.ref ca.BadAsked) = some false)
    (q_BadInput_TooMany : PySem.W.kitOne K (.ref ca.BadInput) (.ref ca.TooMany) = some false)
    (q_BadInput_BadLine : PySem.W.kitOne K (.ref ca.BadInput) (.ref ca.BadLine) = some false)
    (q_BadInput_ValueError : PySem.W.kitOne K (.ref ca.BadInput) (.type "ValueError") = some true)
    (yx_BadPlace : PySem.W.excIn K ca.BadPlace [.type "ValueError", .type "Exception", .type "BaseException", .type "object"] "ValueError.__new__" = true) (yk_BadPlace : PySem.W.keepIn K (.ref ca.BadPlace) = true) (yb_BadPlace : PySem.W.subIn K (.ref ca.BadPlace) (.type "BaseException") = some true) (yt_BadPlace : PySem.W.typeIn K (.ref ca.BadPlace) = some (.type "type")) (yc_BadPlace : (PySem.W.clsIn K ca.BadPlace).isSome = true) (yhg_BadPlace : PySem.W.findIn K (.ref ca.BadPlace) "__getattribute__" = some (some (.builtin "BaseException.__getattribute__"))) (yhk_BadPlace : PySem.W.findIn K (.ref ca.BadPlace) "__getattr__" = some none) (yha_BadPlace : PySem.W.findIn K (.ref ca.BadPlace) "__class__" = some (some (.builtin "object.__class__"))) (yhm_BadPlace : PySem.W.mroIn K ca.BadPlace (.type "object") = some true)
    (q_BadPlace_RowError : PySem.W.kitOne K (.ref ca.BadPlace) (.ref ca.RowError) = some true)
    (q_BadPlace_BadText : PySem.W.kitOne K (.ref ca.BadPlace) (.ref ca.BadText) = some false)
    (q_BadPlace_BadRow : PySem.W.kitOne K (.ref ca.BadPlace) (.ref ca.BadRow) = some false)
    (q_BadPlace_BadKind : PySem.W.kitOne K (.ref ca.BadPlace) (.ref ca.BadKind) = some false)
    (q_BadPlace_BadDeed : PySem.W.kitOne K (.ref ca.BadPlace) (.ref ca.BadDeed) = some false)
    (q_BadPlace_BadProgram : PySem.W.kitOne K (.ref ca.BadPlace) (.ref ca.BadProgram) = some false)
    (q_BadPlace_Unsound : PySem.W.kitOne K (.ref ca.BadPlace) (.ref ca.Unsound) = some false)
    (q_BadPlace_BadInput : PySem.W.kitOne K (.ref ca.BadPlace) (.ref ca.BadInput) = some false)
    (q_BadPlace_BadPlace : PySem.W.kitOne K (.ref ca.BadPlace) (.ref ca.BadPlace) = some true)
    (q_BadPlace_BadPaper : PySem.W.kitOne K (.ref ca.BadPlace) (.ref ca.BadPaper) = some false)
    (q_BadPlace_BadAsked : PySem.W.kitOne K (.ref ca.BadPlace) (.ref ca.BadAsked) = some false)
    (q_BadPlace_TooMany : PySem.W.kitOne K (.ref ca.BadPlace) (.ref ca.TooMany) = some false)
    (q_BadPlace_BadLine : PySem.W.kitOne K (.ref ca.BadPlace) (.ref ca.BadLine) = some false)
    (q_BadPlace_ValueError : PySem.W.kitOne K (.ref ca.BadPlace) (.type "ValueError") = some true)
    (yx_BadPaper : PySem.W.excIn K ca.BadPaper [.type "ValueError", .type "Exception", .type "BaseException", .type "object"] "ValueError.__new__" = true) (yk_BadPaper : PySem.W.keepIn K (.ref ca.BadPaper) = true) (yb_BadPaper : PySem.W.subIn K (.ref ca.BadPaper) (.type "BaseException") = some true) (yt_BadPaper : PySem.W.typeIn K (.ref ca.BadPaper) = some (.type "type")) (yc_BadPaper : (PySem.W.clsIn K ca.BadPaper).isSome = true) (yhg_BadPaper : PySem.W.findIn K (.ref ca.BadPaper) "__getattribute__" = some (some (.builtin "BaseException.__getattribute__"))) (yhk_BadPaper : PySem.W.findIn K (.ref ca.BadPaper) "__getattr__" = some none) (yha_BadPaper : PySem.W.findIn K (.ref ca.BadPaper) "__class__" = some (some (.builtin "object.__class__"))) (yhm_BadPaper : PySem.W.mroIn K ca.BadPaper (.type "object") = some true)
    (q_BadPaper_RowError : PySem.W.kitOne K (.ref ca.BadPaper) (.ref ca.RowError) = some true)
    (q_BadPaper_BadText : PySem.W.kitOne K (.ref ca.BadPaper) (.ref ca.BadText) = some false)
    (q_BadPaper_BadRow : PySem.W.kitOne K (.ref ca.BadPaper) (.ref ca.BadRow) = some false)
    (q_BadPaper_BadKind : PySem.W.kitOne K (.ref ca.BadPaper) (.ref ca.BadKind) = some false)
    (q_BadPaper_BadDeed : PySem.W.kitOne K (.ref ca.BadPaper) (.ref ca.BadDeed) = some false)
    (q_BadPaper_BadProgram : PySem.W.kitOne K (.ref ca.BadPaper) (.ref ca.BadProgram) = some false)
    (q_BadPaper_Unsound : PySem.W.kitOne K (.ref ca.BadPaper) (.ref ca.Unsound) = some false)
    (q_BadPaper_BadInput : PySem.W.kitOne K (.ref ca.BadPaper) (.ref ca.BadInput) = some false)
    (q_BadPaper_BadPlace : PySem.W.kitOne K (.ref ca.BadPaper) (.ref ca.BadPlace) = some false)
    (q_BadPaper_BadPaper : PySem.W.kitOne K (.ref ca.BadPaper) (.ref ca.BadPaper) = some true)
    (q_BadPaper_BadAsked : PySem.W.kitOne K (.ref ca.BadPaper) (.ref ca.BadAsked) = some false)
    (q_BadPaper_TooMany : PySem.W.kitOne K (.ref ca.BadPaper) (.ref ca.TooMany) = some false)
    (q_BadPaper_BadLine : PySem.W.kitOne K (.ref ca.BadPaper) (.ref ca.BadLine) = some false)
    (q_BadPaper_ValueError : PySem.W.kitOne K (.ref ca.BadPaper) (.type "ValueError") = some true)
    (yx_BadAsked : PySem.W.excIn K ca.BadAsked [.type "ValueError", .type "Exception", .type "BaseException", .type "object"] "ValueError.__new__" = true) (yk_BadAsked : PySem.W.keepIn K (.ref ca.BadAsked) = true) (yb_BadAsked : PySem.W.subIn K (.ref ca.BadAsked) (.type "BaseException") = some true) (yt_BadAsked : PySem.W.typeIn K (.ref ca.BadAsked) = some (.type "type")) (yc_BadAsked : (PySem.W.clsIn K ca.BadAsked).isSome = true) (yhg_BadAsked : PySem.W.findIn K (.ref ca.BadAsked) "__getattribute__" = some (some (.builtin "BaseException.__getattribute__"))) (yhk_BadAsked : PySem.W.findIn K (.ref ca.BadAsked) "__getattr__" = some none) (yha_BadAsked : PySem.W.findIn K (.ref ca.BadAsked) "__class__" = some (some (.builtin "object.__class__"))) (yhm_BadAsked : PySem.W.mroIn K ca.BadAsked (.type "object") = some true)
    (q_BadAsked_RowError : PySem.W.kitOne K (.ref ca.BadAsked) (.ref ca.RowError) = some true)
    (q_BadAsked_BadText : PySem.W.kitOne K (.ref ca.BadAsked) (.ref ca.BadText) = some false)
    (q_BadAsked_BadRow : PySem.W.kitOne K (.ref ca.BadAsked) (.ref ca.BadRow) = some false)
    (q_BadAsked_BadKind : PySem.W.kitOne K (.ref ca.BadAsked) (.ref ca.BadKind) = some false)
    (q_BadAsked_BadDeed : PySem.W.kitOne K (.ref ca.BadAsked) (.ref ca.BadDeed) = some false)
    (q_BadAsked_BadProgram : PySem.W.kitOne K (.ref ca.BadAsked) (.ref ca.BadProgram) = some false)
    (q_BadAsked_Unsound : PySem.W.kitOne K (.ref ca.BadAsked) (.ref ca.Unsound) = some false)
    (q_BadAsked_BadInput : PySem.W.kitOne K (.ref ca.BadAsked) (.ref ca.BadInput) = some false)
    (q_BadAsked_BadPlace : PySem.W.kitOne K (.ref ca.BadAsked) (.ref ca.BadPlace) = some false)
    (q_BadAsked_BadPaper : PySem.W.kitOne K (.ref ca.BadAsked) (.ref ca.BadPaper) = some false)
    (q_BadAsked_BadAsked : PySem.W.kitOne K (.ref ca.BadAsked) (.ref ca.BadAsked) = some true)
    (q_BadAsked_TooMany : PySem.W.kitOne K (.ref ca.BadAsked) (.ref ca.TooMany) = some false)
    (q_BadAsked_BadLine : PySem.W.kitOne K (.ref ca.BadAsked) (.ref ca.BadLine) = some false)
    (q_BadAsked_ValueError : PySem.W.kitOne K (.ref ca.BadAsked) (.type "ValueError") = some true)
    (yx_TooMany : PySem.W.excIn K ca.TooMany [.type "ValueError", .type "Exception", .type "BaseException", .type "object"] "ValueError.__new__" = true) (yk_TooMany : PySem.W.keepIn K (.ref ca.TooMany) = true) (yb_TooMany : PySem.W.subIn K (.ref ca.TooMany) (.type "BaseException") = some true) (yt_TooMany : PySem.W.typeIn K (.ref ca.TooMany) = some (.type "type")) (yc_TooMany : (PySem.W.clsIn K ca.TooMany).isSome = true) (yhg_TooMany : PySem.W.findIn K (.ref ca.TooMany) "__getattribute__" = some (some (.builtin "BaseException.__getattribute__"))) (yhk_TooMany : PySem.W.findIn K (.ref ca.TooMany) "__getattr__" = some none) (yha_TooMany : PySem.W.findIn K (.ref ca.TooMany) "__class__" = some (some (.builtin "object.__class__"))) (yhm_TooMany : PySem.W.mroIn K ca.TooMany (.type "object") = some true)
    (q_TooMany_RowError : PySem.W.kitOne K (.ref ca.TooMany) (.ref ca.RowError) = some true)
    (q_TooMany_BadText : PySem.W.kitOne K (.ref ca.TooMany) (.ref ca.BadText) = some false)
    (q_TooMany_BadRow : PySem.W.kitOne K (.ref ca.TooMany) (.ref ca.BadRow) = some false)
    (q_TooMany_BadKind : PySem.W.kitOne K (.ref ca.TooMany) (.ref ca.BadKind) = some false)
    (q_TooMany_BadDeed : PySem.W.kitOne K (.ref ca.TooMany) (.ref ca.BadDeed) = some false)
    (q_TooMany_BadProgram : PySem.W.kitOne K (.ref ca.TooMany) (.ref ca.BadProgram) = some false)
    (q_TooMany_Unsound : PySem.W.kitOne K (.ref ca.TooMany) (.ref ca.Unsound) = some false)
    (q_TooMany_BadInput : PySem.W.kitOne K (.ref ca.TooMany) (.ref ca.BadInput) = some false)
    (q_TooMany_BadPlace : PySem.W.kitOne K (.ref ca.TooMany) (.ref ca.BadPlace) = some false)
    (q_TooMany_BadPaper : PySem.W.kitOne K (.ref ca.TooMany) (.ref ca.BadPaper) = some false)
    (q_TooMany_BadAsked : PySem.W.kitOne K (.ref ca.TooMany) (.ref ca.BadAsked) = some false)
    (q_TooMany_TooMany : PySem.W.kitOne K (.ref ca.TooMany) (.ref ca.TooMany) = some true)
    (q_TooMany_BadLine : PySem.W.kitOne K (.ref ca.TooMany) (.ref ca.BadLine) = some false)
    (q_TooMany_ValueError : PySem.W.kitOne K (.ref ca.TooMany) (.type "ValueError") = some true)
    (yx_BadLine : PySem.W.excIn K ca.BadLine [.type "ValueError", .type "Exception", .type "BaseException", .type "object"] "ValueError.__new__" = true) (yk_BadLine : PySem.W.keepIn K (.ref ca.BadLine) = true) (yb_BadLine : PySem.W.subIn K (.ref ca.BadLine) (.type "BaseException") = some true) (yt_BadLine : PySem.W.typeIn K (.ref ca.BadLine) = some (.type "type")) (yc_BadLine : (PySem.W.clsIn K ca.BadLine).isSome = true) (yhg_BadLine : PySem.W.findIn K (.ref ca.BadLine) "__getattribute__" = some (some (.builtin "BaseException.__getattribute__"))) (yhk_BadLine : PySem.W.findIn K (.ref ca.BadLine) "__getattr__" = some none) (yha_BadLine : PySem.W.findIn K (.ref ca.BadLine) "__class__" = some (some (.builtin "object.__class__"))) (yhm_BadLine : PySem.W.mroIn K ca.BadLine (.type "object") = some true)
    (q_BadLine_RowError : PySem.W.kitOne K (.ref ca.BadLine) (.ref ca.RowError) = some true)
    (q_BadLine_BadText : PySem.W.kitOne K (.ref ca.BadLine) (.ref ca.BadText) = some false)
    (q_BadLine_BadRow : PySem.W.kitOne K (.ref ca.BadLine) (.ref ca.BadRow) = some false)
    (q_BadLine_BadKind : PySem.W.kitOne K (.ref ca.BadLine) (.ref ca.BadKind) = some false)
    (q_BadLine_BadDeed : PySem.W.kitOne K (.ref ca.BadLine) (.ref ca.BadDeed) = some false)
    (q_BadLine_BadProgram : PySem.W.kitOne K (.ref ca.BadLine) (.ref ca.BadProgram) = some false)
    (q_BadLine_Unsound : PySem.W.kitOne K (.ref ca.BadLine) (.ref ca.Unsound) = some false)
    (q_BadLine_BadInput : PySem.W.kitOne K (.ref ca.BadLine) (.ref ca.BadInput) = some false)
    (q_BadLine_BadPlace : PySem.W.kitOne K (.ref ca.BadLine) (.ref ca.BadPlace) = some false)
    (q_BadLine_BadPaper : PySem.W.kitOne K (.ref ca.BadLine) (.ref ca.BadPaper) = some false)
    (q_BadLine_BadAsked : PySem.W.kitOne K (.ref ca.BadLine) (.ref ca.BadAsked) = some false)
    (q_BadLine_TooMany : PySem.W.kitOne K (.ref ca.BadLine) (.ref ca.TooMany) = some false)
    (q_BadLine_BadLine : PySem.W.kitOne K (.ref ca.BadLine) (.ref ca.BadLine) = some true)
    (q_BadLine_ValueError : PySem.W.kitOne K (.ref ca.BadLine) (.type "ValueError") = some true)
    (q_rdX : PySem.W.readsIn K ca.RowError (.type "type") = true) (q_gaX : PySem.W.specialIn K (.ref ca.RowError) "__getattribute__" = some (some (.builtin "type.__getattribute__"))) (q_atX : PySem.W.findCls K (.ref ca.RowError) (.type "type") "__init__" = some (.val (.builtin "ValueError.__init__")))
    {nm_BadText qn_BadText : Str} {N_BadText : Addr} {bs_BadText bm_BadText sub_BadText : List Value} {sn_BadText : List Str} {ab_BadText : Bool} {col_BadText : Option Bool} {dd_BadText : Option Addr} {s0_BadText s1_BadText s2_BadText s3_BadText s5_BadText : Option Value}
    (yl_BadText : K.lookup ca.BadText = some (excClassObj nm_BadText qn_BadText ca.BadText N_BadText bs_BadText bm_BadText true sn_BadText sub_BadText ab_BadText col_BadText dd_BadText s0_BadText s1_BadText s2_BadText s3_BadText s5_BadText "ValueError.__new__"))
    (q_rfBadText : PySem.HandSPX.refsVE bm_BadText = true) (q_saBadText : PySem.W.findIn K (.ref ca.BadText) "__setattr__" = some (some (.builtin "object.__setattr__"))) (q_xfBadText : xfB K ca.BadText = true)
    (q_nBadTextword : PySem.W.findIn K (.ref ca.BadText) "word" = some none)
    {nm_Unsound qn_Unsound : Str} {N_Unsound : Addr} {bs_Unsound bm_Unsound sub_Unsound : List Value} {sn_Unsound : List Str} {ab_Unsound : Bool} {col_Unsound : Option Bool} {dd_Unsound : Option Addr} {s0_Unsound s1_Unsound s2_Unsound s3_Unsound s5_Unsound : Option Value}
    (yl_Unsound : K.lookup ca.Unsound = some (excClassObj nm_Unsound qn_Unsound ca.Unsound N_Unsound bs_Unsound bm_Unsound true sn_Unsound sub_Unsound ab_Unsound col_Unsound dd_Unsound s0_Unsound s1_Unsound s2_Unsound s3_Unsound s5_Unsound "ValueError.__new__"))
    (q_rfUnsound : PySem.HandSPX.refsVE bm_Unsound = true) (q_saUnsound : PySem.W.findIn K (.ref ca.Unsound) "__setattr__" = some (some (.builtin "object.__setattr__"))) (q_xfUnsound : xfB K ca.Unsound = true)
    (q_nUnsoundwhat : PySem.W.findIn K (.ref ca.Unsound) "what" = some none)
    (q_nUnsoundplace : PySem.W.findIn K (.ref ca.Unsound) "place" = some none)
    : ∃ fd : FuncData, (∀ (s : Shared) (v : Value), BindsTo s fd ⟨[v], []⟩ [("_law_script", v)]) ∧ ∀ base : Heap, K.In base → base.Ns mainGlobals mg → (∀ e ∈ tn ca, LamX.TabB base mg e.2.1 e.2.2) → FnG l.prog w K mg base 4 fa fd ["_law_script"] (spD (theT (tsOf (tn ca))) K FF_lawT) := by
  have e := hfa.symm.trans (PySem.W.mg_of X G a7)
  cases e
  have T : Txt K mg ca := ⟨trivial, PySem.W.mg_none_of X G zb_len, PySem.W.mg_none_of X G zb_isinstance, PySem.W.mg_none_of X G zb_range, PySem.W.mg_none_of X G zb_min, PySem.W.mg_none_of X G zb_zip, PySem.W.mg_none_of X G zb_ValueError, PySem.W.mg_none_of X G zb_repr, PySem.W.mg_of X G zg_RowError, PySem.W.mg_of X G zg_BadText, PySem.W.mg_of X G zg_BadRow, PySem.W.mg_of X G zg_BadKind, PySem.W.mg_of X G zg_BadDeed, PySem.W.mg_of X G zg_BadProgram, PySem.W.mg_of X G zg_Unsound, PySem.W.mg_of X G zg_BadInput, PySem.W.mg_of X G zg_BadPlace, PySem.W.mg_of X G zg_BadPaper, PySem.W.mg_of X G zg_BadAsked, PySem.W.mg_of X G zg_TooMany, PySem.W.mg_of X G zg_BadLine, ⟨yc_BadText, yhg_BadText, yhk_BadText, yb_BadText, yha_BadText, zn, zt, yhm_BadText⟩, q_BadText_RowError, q_BadText_BadText, q_BadText_BadRow, q_BadText_BadKind, q_BadText_BadDeed, q_BadText_BadProgram, q_BadText_Unsound, q_BadText_BadInput, q_BadText_BadPlace, q_BadText_BadPaper, q_BadText_BadAsked, q_BadText_TooMany, q_BadText_BadLine, q_BadText_ValueError, ⟨PySem.W.mg_of X G zg_BadRow, yx_BadRow, yk_BadRow, yb_BadRow, yt_BadRow⟩, ⟨yc_BadRow, yhg_BadRow, yhk_BadRow, yb_BadRow, yha_BadRow, zn, zt, yhm_BadRow⟩, q_BadRow_RowError, q_BadRow_BadText, q_BadRow_BadRow, q_BadRow_BadKind, q_BadRow_BadDeed, q_BadRow_BadProgram, q_BadRow_Unsound, q_BadRow_BadInput, q_BadRow_BadPlace, q_BadRow_BadPaper, q_BadRow_BadAsked, q_BadRow_TooMany, q_BadRow_BadLine, q_BadRow_ValueError, ⟨PySem.W.mg_of X G zg_BadKind, yx_BadKind, yk_BadKind, yb_BadKind, yt_BadKind⟩, ⟨yc_BadKind, yhg_BadKind, yhk_BadKind, yb_BadKind, yha_BadKind, zn, zt, yhm_BadKind⟩, q_BadKind_RowError, q_BadKind_BadText, q_BadKind_BadRow, q_BadKind_BadKind, q_BadKind_BadDeed, q_BadKind_BadProgram, q_BadKind_Unsound, q_BadKind_BadInput, q_BadKind_BadPlace, q_BadKind_BadPaper, q_BadKind_BadAsked, q_BadKind_TooMany, q_BadKind_BadLine, q_BadKind_ValueError, ⟨PySem.W.mg_of X G zg_BadDeed, yx_BadDeed, yk_BadDeed, yb_BadDeed, yt_BadDeed⟩, ⟨yc_BadDeed, yhg_BadDeed, yhk_BadDeed, yb_BadDeed, yha_BadDeed, zn, zt, yhm_BadDeed⟩, q_BadDeed_RowError, q_BadDeed_BadText, q_BadDeed_BadRow, q_BadDeed_BadKind, q_BadDeed_BadDeed, q_BadDeed_BadProgram, q_BadDeed_Unsound, q_BadDeed_BadInput, q_BadDeed_BadPlace, q_BadDeed_BadPaper, q_BadDeed_BadAsked, q_BadDeed_TooMany, q_BadDeed_BadLine, q_BadDeed_ValueError, ⟨PySem.W.mg_of X G zg_BadProgram, yx_BadProgram, yk_BadProgram, yb_BadProgram, yt_BadProgram⟩, ⟨yc_BadProgram, yhg_BadProgram, yhk_BadProgram, yb_BadProgram, yha_BadProgram, zn, zt, yhm_BadProgram⟩, q_BadProgram_RowError, q_BadProgram_BadText, q_BadProgram_BadRow, q_BadProgram_BadKind, q_BadProgram_BadDeed, q_BadProgram_BadProgram, q_BadProgram_Unsound, q_BadProgram_BadInput, q_BadProgram_BadPlace, q_BadProgram_BadPaper, q_BadProgram_BadAsked, q_BadProgram_TooMany, q_BadProgram_BadLine, q_BadProgram_ValueError, ⟨yc_Unsound, yhg_Unsound, yhk_Unsound, yb_Unsound, yha_Unsound, zn, zt, yhm_Unsound⟩, q_Unsound_RowError, q_Unsound_BadText, q_Unsound_BadRow, q_Unsound_BadKind, q_Unsound_BadDeed, q_Unsound_BadProgram, q_Unsound_Unsound, q_Unsound_BadInput, q_Unsound_BadPlace, q_Unsound_BadPaper, q_Unsound_BadAsked, q_Unsound_TooMany, q_Unsound_BadLine, q_Unsound_ValueError, ⟨PySem.W.mg_of X G zg_BadInput, yx_BadInput, yk_BadInput, yb_BadInput, yt_BadInput⟩, ⟨yc_BadInput, yhg_BadInput, yhk_BadInput, yb_BadInput, yha_BadInput, zn, zt, yhm_BadInput⟩, q_BadInput_RowError, q_BadInput_BadText, q_BadInput_BadRow, q_BadInput_BadKind, q_BadInput_BadDeed, q_BadInput_BadProgram, q_BadInput_Unsound, q_BadInput_BadInput, q_BadInput_BadPlace, q_BadInput_BadPaper, q_BadInput_BadAsked, q_BadInput_TooMany, q_BadInput_BadLine, q_BadInput_ValueError, ⟨PySem.W.mg_of X G zg_BadPlace, yx_BadPlace, yk_BadPlace, yb_BadPlace, yt_BadPlace⟩, ⟨yc_BadPlace, yhg_BadPlace, yhk_BadPlace, yb_BadPlace, yha_BadPlace, zn, zt, yhm_BadPlace⟩, q_BadPlace_RowError, q_BadPlace_BadText, q_BadPlace_BadRow, q_BadPlace_BadKind, q_BadPlace_BadDeed, q_BadPlace_BadProgram, q_BadPlace_Unsound, q_BadPlace_BadInput, q_BadPlace_BadPlace, q_BadPlace_BadPaper, q_BadPlace_BadAsked, q_BadPlace_TooMany, q_BadPlace_BadLine, q_BadPlace_ValueError, ⟨PySem.W.mg_of X G zg_BadPaper, yx_BadPaper, yk_BadPaper, yb_BadPaper, yt_BadPaper⟩, ⟨yc_BadPaper, yhg_BadPaper, yhk_BadPaper, yb_BadPaper, yha_BadPaper, zn, zt, yhm_BadPaper⟩, q_BadPaper_RowError, q_BadPaper_BadText, q_BadPaper_BadRow, q_BadPaper_BadKind, q_BadPaper_BadDeed, q_BadPaper_BadProgram, q_BadPaper_Unsound, q_BadPaper_BadInput, q_BadPaper_BadPlace, q_BadPaper_BadPaper, q_BadPaper_BadAsked, q_BadPaper_TooMany, q_BadPaper_BadLine, q_BadPaper_ValueError, ⟨PySem.W.mg_of X G zg_BadAsked, yx_BadAsked, yk_BadAsked, yb_BadAsked, yt_BadAsked⟩, ⟨yc_BadAsked, yhg_BadAsked, yhk_BadAsked, yb_BadAsked, yha_BadAsked, zn, zt, yhm_BadAsked⟩, q_BadAsked_RowError, q_BadAsked_BadText, q_BadAsked_BadRow, q_BadAsked_BadKind, q_BadAsked_BadDeed, q_BadAsked_BadProgram, q_BadAsked_Unsound, q_BadAsked_BadInput, q_BadAsked_BadPlace, q_BadAsked_BadPaper, q_BadAsked_BadAsked, q_BadAsked_TooMany, q_BadAsked_BadLine, q_BadAsked_ValueError, ⟨PySem.W.mg_of X G zg_TooMany, yx_TooMany, yk_TooMany, yb_TooMany, yt_TooMany⟩, ⟨yc_TooMany, yhg_TooMany, yhk_TooMany, yb_TooMany, yha_TooMany, zn, zt, yhm_TooMany⟩, q_TooMany_RowError, q_TooMany_BadText, q_TooMany_BadRow, q_TooMany_BadKind, q_TooMany_BadDeed, q_TooMany_BadProgram, q_TooMany_Unsound, q_TooMany_BadInput, q_TooMany_BadPlace, q_TooMany_BadPaper, q_TooMany_BadAsked, q_TooMany_TooMany, q_TooMany_BadLine, q_TooMany_ValueError, ⟨PySem.W.mg_of X G zg_BadLine, yx_BadLine, yk_BadLine, yb_BadLine, yt_BadLine⟩, ⟨yc_BadLine, yhg_BadLine, yhk_BadLine, yb_BadLine, yha_BadLine, zn, zt, yhm_BadLine⟩, q_BadLine_RowError, q_BadLine_BadText, q_BadLine_BadRow, q_BadLine_BadKind, q_BadLine_BadDeed, q_BadLine_BadProgram, q_BadLine_Unsound, q_BadLine_BadInput, q_BadLine_BadPlace, q_BadLine_BadPaper, q_BadLine_BadAsked, q_BadLine_TooMany, q_BadLine_BadLine, q_BadLine_ValueError, q_rdX, q_gaX, q_atX⟩
  refine ⟨PySem.W.fnOf "law" "law" (defArgs s_law) (defBody s_law) (defScope s_law) .none kV7 dc7 pm7 an7 cd7 ct7, fun s v => .of_eq rfl, fun base _ _ tb => ?_⟩
  obtain ⟨fd0, F0⟩ := fun_ex (st := s_BadText_init) l0 c0 k0
  obtain ⟨fd1, F1⟩ := fun_ex (st := s_Unsound_init) l1 c1 k1
  obtain ⟨fd2, F2⟩ := fun_ex (st := s__law_begin) l2 c2 k2
  obtain ⟨fd3, F3⟩ := fun_ex (st := s__law_mixed) l3 c3 k3
  obtain ⟨fd4, F4⟩ := fun_ex (st := s__law_next) l4 c4 k4
  obtain ⟨fd5, F5⟩ := fun_ex (st := s__law_made) l5 c5 k5
  obtain ⟨fd6, F6⟩ := fun_ex (st := s__law_words) l6 c6 k6
  have F7 := fun_mk (st := s_law) l7 c7 k7
  have q0 : KnownE l.prog w K mg base "BadText" ca.BadText ["self", "word"] ["word"] 1 := ⟨⟨f0, _, ok_BadText_init T F0 , a0, zi0, bd_BadText_init F0⟩, ⟨⟨_, _, _, _, _, _, _, _, _, _, _, _, _, _, _, yl_BadText, q_rfBadText⟩, q_saBadText, yb_BadText, yt_BadText, yk_BadText⟩, PySem.W.mg_of X G zg_BadText, List.forall_mem_cons.mpr ⟨q_nBadTextword, (fun _ h => nomatch h)⟩, xfB_ok q_xfBadText⟩
  have q1 : KnownE l.prog w K mg base "Unsound" ca.Unsound ["self", "place", "what"] ["what", "place"] 1 := ⟨⟨f1, _, ok_Unsound_init T F1 , a1, zi1, bd_Unsound_init F1⟩, ⟨⟨_, _, _, _, _, _, _, _, _, _, _, _, _, _, _, yl_Unsound, q_rfUnsound⟩, q_saUnsound, yb_Unsound, yt_Unsound, yk_Unsound⟩, PySem.W.mg_of X G zg_Unsound, List.forall_mem_cons.mpr ⟨q_nUnsoundwhat, List.forall_mem_cons.mpr ⟨q_nUnsoundplace, (fun _ h => nomatch h)⟩⟩, xfB_ok q_xfUnsound⟩
  have q2 : Known l.prog w K mg base (theT (Ts ca)) "_law_begin" ["_law_script"] 1 (FF_begin) := .o1 (imp_fr (Ts := Ts ca) (ok__law_begin T F2) begin_fr) (PySem.W.mg_of X G a2) k2 (bd__law_begin F2)
  have p3 : Known l.prog w K mg base (theS ((Ts ca).map (·.1))) "_law_mixed" ["_law_cell", "_law_k"] 1 FF__law_mixed := .o1 (ok__law_mixed T F3) (PySem.W.mg_of X G a3) k3 (bd__law_mixed F3)
  have q6 : KnownG l.prog w K mg base (theT (Ts ca)) "_law_words" ["_law_e"] 1 (FF__law_words ca) := .o1 (ok__law_words T F6 ) (PySem.W.mg_of X G a6) k6 (bd__law_words F6)
  have q4 : Known l.prog w K mg base (theT (Ts ca)) "_law_next" ["_law_draw", "_law_many"] 2 (FF_next) := .o1 (imp_fr (Ts := Ts ca) (ok__law_next T F4 p3) next_fr) (PySem.W.mg_of X G a4) k4 (bd__law_next F4)
  have q5 : KnownG l.prog w K mg base (theT (Ts ca)) "_law_made" ["_law_number", "_law_place", "_law_what"] 3 (FF__law_made ca) := .o1 (ok__law_made T F5 q1 q0) (PySem.W.mg_of X G a5) k5 (bd__law_made F5)
  exact ok_law T F7 q2 q4 q5 q6 q1 q0
theorem walk_ca {l : PySem.W.OpenLaw} {k : Nat} {q : Program} {loose : List Str} {XP : (Str → Option Value) → Heap → Prop} {YP : World → Heap → Prop} {d : DefRec} {K : Params → PySem.W.Frag} {x : Str} {cc0 cc1 cc2 cc3 cc4 cc5 cc6 cc7 cc8 cc9 cc10 cc11 cc12 : Addr}
    (hn : l.most = some 63) (hdf : d.params.defaults = []) (hr : Room k callerA)
    (hY : ∀ (w : World) (h : Heap), YP w h → (K w.params).In h) (hTn : ∀ (w : World), ∀ e ∈ tn ⟨(), cc0, cc1, cc2, cc3, cc4, cc5, cc6, cc7, cc8, cc9, cc10, cc11, cc12⟩, TabK (K w.params) e) (hTab : ∀ (w : World) (h : Heap), YP w h → ∀ e ∈ tn ⟨(), cc0, cc1, cc2, cc3, cc4, cc5, cc6, cc7, cc8, cc9, cc10, cc11, cc12⟩, h.get? e.2.2 = some (PySem.W.tabObj #[]))
    (F : ∀ (w : World) (mg : Str → Option Value) (fa : Addr) (h : Heap), (K w.params).In h → h.Ns mainGlobals mg → mg d.name = some (.ref fa) →
      ∃ fd : FuncData, (∀ (s : Shared) (u : Value), BindsTo s fd ⟨[u], []⟩ [(x, u)]) ∧
        ∀ base : Heap, (K w.params).In base → base.Ns mainGlobals mg → (∀ e ∈ tn ⟨(), cc0, cc1, cc2, cc3, cc4, cc5, cc6, cc7, cc8, cc9, cc10, cc11, cc12⟩, LamX.TabB base mg e.2.1 e.2.2) → FnG l.prog w (K w.params) mg base k fa fd [x] (spD (theT (tsOf (tn ⟨(), cc0, cc1, cc2, cc3, cc4, cc5, cc6, cc7, cc8, cc9, cc10, cc11, cc12⟩))) (K w.params) FF_lawT))
    : PySem.W.WalkO q loose XP YP l.row.toRowW d [] (fun f vs => PySem.call f vs) :=
  walk_ofT (Tn := tn ⟨(), cc0, cc1, cc2, cc3, cc4, cc5, cc6, cc7, cc8, cc9, cc10, cc11, cc12⟩) hn hdf hr hY hTn hTab F
end Z
open PySem PySem.W PyProof.Rows
set_option maxHeartbeats 0 in
theorem PySem.Challenge.cw_rowkinds_k02_refusals_by_hand_holds : PySem.Challenge.rw_rowkinds_k02_refusals_by_hand.Holds := by
  w_on; o_law; k_head; (case hw => w_witness2)
  k_fill
  refine' Z.walk_ca (l := PySem.Challenge.rw_rowkinds_k02_refusals_by_hand) (k := 4) (x := "_law_script") rfl rfl ⟨rfl, by decide, by decide⟩ (fun w h Y => by first | exact PySem.W.kIn_of Y | exact PySem.W.km_in_of Y) ?T ?Y ?F
  case Y =>
    intro w h Y e he
    simp only [Z.tn, List.mem_cons, List.not_mem_nil, or_false] at he
    all_goals cases he
  case F =>
    intro w mg fa h KX G hmg
    refine' Z.all_mk (ca := _) KX G hmg ?a0 ?zi0 ?l0 ?c0 ?k0 ?a1 ?zi1 ?l1 ?c1 ?k1 ?a2 ?l2 ?c2 ?k2 ?a3 ?l3 ?c3 ?k3 ?a4 ?l4 ?c4 ?k4 ?a5 ?l5 ?c5 ?k5 ?a6 ?l6 ?c6 ?k6 ?a7 ?l7 ?c7 ?k7 ?zb_len ?zb_isinstance ?zb_range ?zb_min ?zb_zip ?zb_ValueError ?zb_repr ?zg_RowError ?zg_BadText ?zg_BadRow ?zg_BadKind ?zg_BadDeed ?zg_BadProgram ?zg_Unsound ?zg_BadInput ?zg_BadPlace ?zg_BadPaper ?zg_BadAsked ?zg_TooMany ?zg_BadLine ?zn ?zt ?yk_BadText ?yb_BadText ?yt_BadText ?yc_BadText ?yhg_BadText ?yhk_BadText ?yha_BadText ?yhm_BadText ?q_BadText_RowError ?q_BadText_BadText ?q_BadText_BadRow ?q_BadText_BadKind ?q_BadText_BadDeed ?q_BadText_BadProgram ?q_BadText_Unsound ?q_BadText_BadInput ?q_BadText_BadPlace ?q_BadText_BadPaper ?q_BadText_BadAsked ?q_BadText_TooMany ?q_BadText_BadLine ?q_BadText_ValueError ?yx_BadRow ?yk_BadRow ?yb_BadRow ?yt_BadRow ?yc_BadRow ?yhg_BadRow ?yhk_BadRow ?yha_BadRow ?yhm_BadRow ?q_BadRow_RowError ?q_BadRow_BadText ?q_BadRow_BadRow ?q_BadRow_BadKind ?q_BadRow_BadDeed ?q_BadRow_BadProgram ?q_BadRow_Unsound ?q_BadRow_BadInput ?q_BadRow_BadPlace ?q_BadRow_BadPaper ?q_BadRow_BadAsked ?q_BadRow_TooMany ?q_BadRow_BadLine ?q_BadRow_ValueError ?yx_BadKind ?yk_BadKind ?yb_BadKind ?yt_BadKind ?yc_BadKind ?yhg_BadKind ?yhk_BadKind ?yha_BadKind ?yhm_BadKind ?q_BadKind_RowError ?q_BadKind_BadText ?q_BadKind_BadRow ?q_BadKind_BadKind ?q_BadKind_BadDeed ?q_BadKind_BadProgram ?q_BadKind_Unsound ?q_BadKind_BadInput ?q_BadKind_BadPlace ?q_BadKind_BadPaper ?q_BadKind_BadAsked ?q_BadKind_TooMany ?q_BadKind_BadLine ?q_BadKind_ValueError ?yx_BadDeed ?yk_BadDeed ?yb_BadDeed ?yt_BadDeed ?yc_BadDeed ?yhg_BadDeed ?yhk_BadDeed ?yha_BadDeed ?yhm_BadDeed ?q_BadDeed_RowError ?q_BadDeed_BadText ?q_BadDeed_BadRow ?q_BadDeed_BadKind ?q_BadDeed_BadDeed ?q_BadDeed_BadProgram ?q_BadDeed_Unsound ?q_BadDeed_BadInput ?q_BadDeed_BadPlace ?q_BadDeed_BadPaper ?q_BadDeed_BadAsked ?q_BadDeed_TooMany ?q_BadDeed_BadLine ?q_BadDeed_ValueError ?yx_BadProgram ?yk_BadProgram ?yb_BadProgram ?yt_BadProgram ?yc_BadProgram ?yhg_BadProgram ?yhk_BadProgram ?yha_BadProgram ?yhm_BadProgram ?q_BadProgram_RowError ?q_BadProgram_BadText ?q_BadProgram_BadRow ?q_BadProgram_BadKind ?q_BadProgram_BadDeed ?q_BadProgram_BadProgram ?q_BadProgram_Unsound ?q_BadProgram_BadInput ?q_BadProgram_BadPlace ?q_BadProgram_BadPaper ?q_BadProgram_BadAsked ?q_BadProgram_TooMany ?q_BadProgram_BadLine ?q_BadProgram_ValueError ?yk_Unsound ?yb_Unsound ?yt_Unsound ?yc_Unsound ?yhg_Unsound ?yhk_Unsound ?yha_Unsound ?yhm_Unsound ?q_Unsound_RowError ?q_Unsound_BadText ?q_Unsound_BadRow ?q_Unsound_BadKind ?q_Unsound_BadDeed ?q_Unsound_BadProgram ?q_Unsound_Unsound ?q_Unsound_BadInput ?q_Unsound_BadPlace ?q_Unsound_BadPaper ?q_Unsound_BadAsked ?q_Unsound_TooMany ?q_Unsound_BadLine ?q_Unsound_ValueError ?yx_BadInput ?yk_BadInput ?yb_BadInput ?yt_BadInput ?yc_BadInput ?yhg_BadInput ?yhk_BadInput ?yha_BadInput ?yhm_BadInput ?q_BadInput_RowError ?q_BadInput_BadText ?q_BadInput_BadRow ?q_BadInput_BadKind ?q_BadInput_BadDeed ?q_BadInput_BadProgram ?q_BadInput_Unsound ?q_BadInput_BadInput ?q_BadInput_BadPlace ?q_BadInput_BadPaper ?q_BadInput_BadAsked ?q_BadInput_TooMany ?q_BadInput_BadLine ?q_BadInput_ValueError ?yx_BadPlace ?yk_BadPlace ?yb_BadPlace ?yt_BadPlace ?yc_BadPlace ?yhg_BadPlace ?yhk_BadPlace ?yha_BadPlace ?yhm_BadPlace ?q_BadPlace_RowError ?q_BadPlace_BadText ?q_BadPlace_BadRow ?q_BadPlace_BadKind ?q_BadPlace_BadDeed ?q_BadPlace_BadProgram ?q_BadPlace_Unsound ?q_BadPlace_BadInput ?q_BadPlace_BadPlace ?q_BadPlace_BadPaper ?q_BadPlace_BadAsked ?q_BadPlace_TooMany ?q_BadPlace_BadLine ?q_BadPlace_ValueError ?yx_BadPaper ?yk_BadPaper ?yb_BadPaper ?yt_BadPaper ?yc_BadPaper ?yhg_BadPaper ?yhk_BadPaper ?yha_BadPaper ?yhm_BadPaper ?q_BadPaper_RowError ?q_BadPaper_BadText ?q_BadPaper_BadRow ?q_BadPaper_BadKind ?q_BadPaper_BadDeed ?q_BadPaper_BadProgram ?q_BadPaper_Unsound ?q_BadPaper_BadInput ?q_BadPaper_BadPlace ?q_BadPaper_BadPaper ?q_BadPaper_BadAsked ?q_BadPaper_TooMany ?q_BadPaper_BadLine ?q_BadPaper_ValueError ?yx_BadAsked ?yk_BadAsked ?yb_BadAsked ?yt_BadAsked ?yc_BadAsked ?yhg_BadAsked ?yhk_BadAsked ?yha_BadAsked ?yhm_BadAsked ?q_BadAsked_RowError ?q_BadAsked_BadText ?q_BadAsked_BadRow ?q_BadAsked_BadKind ?q_BadAsked_BadDeed ?q_BadAsked_BadProgram ?q_BadAsked_Unsound ?q_BadAsked_BadInput ?q_BadAsked_BadPlace ?q_BadAsked_BadPaper ?q_BadAsked_BadAsked ?q_BadAsked_TooMany ?q_BadAsked_BadLine ?q_BadAsked_ValueError ?yx_TooMany ?yk_TooMany ?yb_TooMany ?yt_TooMany ?yc_TooMany ?yhg_TooMany ?yhk_TooMany ?yha_TooMany ?yhm_TooMany ?q_TooMany_RowError ?q_TooMany_BadText ?q_TooMany_BadRow ?q_TooMany_BadKind ?q_TooMany_BadDeed ?q_TooMany_BadProgram ?q_TooMany_Unsound ?q_TooMany_BadInput ?q_TooMany_BadPlace ?q_TooMany_BadPaper ?q_TooMany_BadAsked ?q_TooMany_TooMany ?q_TooMany_BadLine ?q_TooMany_ValueError ?yx_BadLine ?yk_BadLine ?yb_BadLine ?yt_BadLine ?yc_BadLine ?yhg_BadLine ?yhk_BadLine ?yha_BadLine ?yhm_BadLine ?q_BadLine_RowError ?q_BadLine_BadText ?q_BadLine_BadRow ?q_BadLine_BadKind ?q_BadLine_BadDeed ?q_BadLine_BadProgram ?q_BadLine_Unsound ?q_BadLine_BadInput ?q_BadLine_BadPlace ?q_BadLine_BadPaper ?q_BadLine_BadAsked ?q_BadLine_TooMany ?q_BadLine_BadLine ?q_BadLine_ValueError ?q_rdX ?q_gaX ?q_atX ?yl_BadText ?q_rfBadText ?q_saBadText ?q_xfBadText ?q_nBadTextword ?yl_Unsound ?q_rfUnsound ?q_saUnsound ?q_xfUnsound ?q_nUnsoundwhat ?q_nUnsoundplace
    (case zg_RowError => k_is)
    (case zg_BadText => k_is)
    (case zg_BadRow => k_is)
    (case zg_BadKind => k_is)
    (case zg_BadDeed => k_is)
    (case zg_BadProgram => k_is)
    (case zg_Unsound => k_is)
    (case zg_BadInput => k_is)
    (case zg_BadPlace => k_is)
    (case zg_BadPaper => k_is)
    (case zg_BadAsked => k_is)
    (case zg_TooMany => k_is)
    (case zg_BadLine => k_is)
    (case a0 => k_is)
    (case zi0 => k_is)
    (case l0 => k_is)
    (case c0 => k_is)
    (case k0 => k_is)
    (case a1 => k_is)
    (case zi1 => k_is)
    (case l1 => k_is)
    (case c1 => k_is)
    (case k1 => k_is)
    (case a2 => k_is)
    (case l2 => k_is)
    (case c2 => k_is)
    (case k2 => k_is)
    (case a3 => k_is)
    (case l3 => k_is)
    (case c3 => k_is)
    (case k3 => k_is)
    (case a4 => k_is)
    (case l4 => k_is)
    (case c4 => k_is)
    (case k4 => k_is)
    (case a5 => k_is)
    (case l5 => k_is)
    (case c5 => k_is)
    (case k5 => k_is)
    (case a6 => k_is)
    (case l6 => k_is)
    (case c6 => k_is)
    (case k6 => k_is)
    (case a7 => k_is)
    (case l7 => k_is)
    (case c7 => k_is)
    (case k7 => k_is)
    (case zb_len => k_is)
    (case zb_isinstance => k_is)
    (case zb_range => k_is)
    (case zb_min => k_is)
    (case zb_zip => k_is)
    (case zb_ValueError => k_is)
    (case zb_repr => k_is)
    (case zn => k_is)
    (case zt => k_is)
    (case yk_BadText => k_is)
    (case yb_BadText => k_is)
    (case yt_BadText => k_is)
    (case yc_BadText => kernel_rfl)
    (case yhg_BadText => k_is)
    (case yhk_BadText => k_is)
    (case yha_BadText => k_is)
    (case yhm_BadText => k_is)
    (case q_BadText_RowError => kernel_rfl)
    (case q_BadText_BadText => kernel_rfl)
    (case q_BadText_BadRow => kernel_rfl)
    (case q_BadText_BadKind => kernel_rfl)
    (case q_BadText_BadDeed => kernel_rfl)
    (case q_BadText_BadProgram => kernel_rfl)
    (case q_BadText_Unsound => kernel_rfl)
    (case q_BadText_BadInput => kernel_rfl)
    (case q_BadText_BadPlace => kernel_rfl)
    (case q_BadText_BadPaper => kernel_rfl)
    (case q_BadText_BadAsked => kernel_rfl)
    (case q_BadText_TooMany => kernel_rfl)
    (case q_BadText_BadLine => kernel_rfl)
    (case q_BadText_ValueError => kernel_rfl)
    (case yx_BadRow => kernel_rfl)
    (case yk_BadRow => k_is)
    (case yb_BadRow => k_is)
    (case yt_BadRow => k_is)
    (case yc_BadRow => kernel_rfl)
    (case yhg_BadRow => k_is)
    (case yhk_BadRow => k_is)
    (case yha_BadRow => k_is)
    (case yhm_BadRow => k_is)
    (case q_BadRow_RowError => kernel_rfl)
    (case q_BadRow_BadText => kernel_rfl)
    (case q_BadRow_BadRow => kernel_rfl)
    (case q_BadRow_BadKind => kernel_rfl)
    (case q_BadRow_BadDeed => kernel_rfl)
    (case q_BadRow_BadProgram => kernel_rfl)
    (case q_BadRow_Unsound => kernel_rfl)
    (case q_BadRow_BadInput => kernel_rfl)
    (case q_BadRow_BadPlace => kernel_rfl)
    (case q_BadRow_BadPaper => kernel_rfl)
    (case q_BadRow_BadAsked => kernel_rfl)
    (case q_BadRow_TooMany => kernel_rfl)
    (case q_BadRow_BadLine => kernel_rfl)
    (case q_BadRow_ValueError => kernel_rfl)
    (case yx_BadKind => kernel_rfl)
    (case yk_BadKind => k_is)
    (case yb_BadKind => k_is)
    (case yt_BadKind => k_is)
    (case yc_BadKind => kernel_rfl)
    (case yhg_BadKind => k_is)
    (case yhk_BadKind => k_is)
    (case yha_BadKind => k_is)
    (case yhm_BadKind => k_is)
    (case q_BadKind_RowError => kernel_rfl)
    (case q_BadKind_BadText => kernel_rfl)
    (case q_BadKind_BadRow => kernel_rfl)
    (case q_BadKind_BadKind => kernel_rfl)
    (case q_BadKind_BadDeed => kernel_rfl)
    (case q_BadKind_BadProgram => kernel_rfl)
    (case q_BadKind_Unsound => kernel_rfl)
    (case q_BadKind_BadInput => kernel_rfl)
    (case q_BadKind_BadPlace => kernel_rfl)
    (case q_BadKind_BadPaper => kernel_rfl)
    (case q_BadKind_BadAsked => kernel_rfl)
    (case q_BadKind_TooMany => kernel_rfl)
    (case q_BadKind_BadLine => kernel_rfl)
    (case q_BadKind_ValueError => kernel_rfl)
    (case yx_BadDeed => kernel_rfl)
    (case yk_BadDeed => k_is)
    (case yb_BadDeed => k_is)
    (case yt_BadDeed => k_is)
    (case yc_BadDeed => kernel_rfl)
    (case yhg_BadDeed => k_is)
    (case yhk_BadDeed => k_is)
    (case yha_BadDeed => k_is)
    (case yhm_BadDeed => k_is)
    (case q_BadDeed_RowError => kernel_rfl)
    (case q_BadDeed_BadText => kernel_rfl)
    (case q_BadDeed_BadRow => kernel_rfl)
    (case q_BadDeed_BadKind => kernel_rfl)
    (case q_BadDeed_BadDeed => kernel_rfl)
    (case q_BadDeed_BadProgram => kernel_rfl)
    (case q_BadDeed_Unsound => kernel_rfl)
    (case q_BadDeed_BadInput => kernel_rfl)
    (case q_BadDeed_BadPlace => kernel_rfl)
    (case q_BadDeed_BadPaper => kernel_rfl)
    (case q_BadDeed_BadAsked => kernel_rfl)
    (case q_BadDeed_TooMany => kernel_rfl)
    (case q_BadDeed_BadLine => kernel_rfl)
    (case q_BadDeed_ValueError => kernel_rfl)
    (case yx_BadProgram => kernel_rfl)
    (case yk_BadProgram => k_is)
    (case yb_BadProgram => k_is)
    (case yt_BadProgram => k_is)
    (case yc_BadProgram => kernel_rfl)
    (case yhg_BadProgram => k_is)
    (case yhk_BadProgram => k_is)
    (case yha_BadProgram => k_is)
    (case yhm_BadProgram => k_is)
    (case q_BadProgram_RowError => kernel_rfl)
    (case q_BadProgram_BadText => kernel_rfl)
    (case q_BadProgram_BadRow => kernel_rfl)
    (case q_BadProgram_BadKind => kernel_rfl)
    (case q_BadProgram_BadDeed => kernel_rfl)
    (case q_BadProgram_BadProgram => kernel_rfl)
    (case q_BadProgram_Unsound => kernel_rfl)
    (case q_BadProgram_BadInput => kernel_rfl)
    (case q_BadProgram_BadPlace => kernel_rfl)
    (case q_BadProgram_BadPaper => kernel_rfl)
    (case q_BadProgram_BadAsked => kernel_rfl)
    (case q_BadProgram_TooMany => kernel_rfl)
    (case q_BadProgram_BadLine => kernel_rfl)
    (case q_BadProgram_ValueError => kernel_rfl)
    (case yk_Unsound => k_is)
    (case yb_Unsound => k_is)
    (case yt_Unsound => k_is)
    (case yc_Unsound => kernel_rfl)
    (case yhg_Unsound => k_is)
    (case yhk_Unsound => k_is)
    (case yha_Unsound => k_is)
    (case yhm_Unsound => k_is)
    (case q_Unsound_RowError => kernel_rfl)
    (case q_Unsound_BadText => kernel_rfl)
    (case q_Unsound_BadRow => kernel_rfl)
    (case q_Unsound_BadKind => kernel_rfl)
    (case q_Unsound_BadDeed => kernel_rfl)
    (case q_Unsound_BadProgram => kernel_rfl)
    (case q_Unsound_Unsound => kernel_rfl)
    (case q_Unsound_BadInput => kernel_rfl)
    (case q_Unsound_BadPlace => kernel_rfl)
    (case q_Unsound_BadPaper => kernel_rfl)
    (case q_Unsound_BadAsked => kernel_rfl)
    (case q_Unsound_TooMany => kernel_rfl)
    (case q_Unsound_BadLine => kernel_rfl)
    (case q_Unsound_ValueError => kernel_rfl)
    (case yx_BadInput => kernel_rfl)
    (case yk_BadInput => k_is)
    (case yb_BadInput => k_is)
    (case yt_BadInput => k_is)
    (case yc_BadInput => kernel_rfl)
    (case yhg_BadInput => k_is)
    (case yhk_BadInput => k_is)
    (case yha_BadInput => k_is)
    (case yhm_BadInput => k_is)
    (case q_BadInput_RowError => kernel_rfl)
    (case q_BadInput_BadText => kernel_rfl)
    (case q_BadInput_BadRow => kernel_rfl)
    (case q_BadInput_BadKind => kernel_rfl)
    (case q_BadInput_BadDeed => kernel_rfl)
    (case q_BadInput_BadProgram => kernel_rfl)
    (case q_BadInput_Unsound => kernel_rfl)
    (case q_BadInput_BadInput => kernel_rfl)
    (case q_BadInput_BadPlace => kernel_rfl)
    (case q_BadInput_BadPaper => kernel_rfl)
    (case q_BadInput_BadAsked => kernel_rfl)
    (case q_BadInput_TooMany => kernel_rfl)
    (case q_BadInput_BadLine => kernel_rfl)
    (case q_BadInput_ValueError => kernel_rfl)
    (case yx_BadPlace => kernel_rfl)
    (case yk_BadPlace => k_is)
    (case yb_BadPlace => k_is)
    (case yt_BadPlace => k_is)
    (case yc_BadPlace => kernel_rfl)
    (case yhg_BadPlace => k_is)
    (case yhk_BadPlace => k_is)
    (case yha_BadPlace => k_is)
    (case yhm_BadPlace => k_is)
    (case q_BadPlace_RowError => kernel_rfl)
    (case q_BadPlace_BadText => kernel_rfl)
    (case q_BadPlace_BadRow => kernel_rfl)
    (case q_BadPlace_BadKind => kernel_rfl)
    (case q_BadPlace_BadDeed => kernel_rfl)
    (case q_BadPlace_BadProgram => kernel_rfl)
    (case q_BadPlace_Unsound => kernel_rfl)
    (case q_BadPlace_BadInput => kernel_rfl)
    (case q_BadPlace_BadPlace => kernel_rfl)
    (case q_BadPlace_BadPaper => kernel_rfl)
    (case q_BadPlace_BadAsked => kernel_rfl)
    (case q_BadPlace_TooMany => kernel_rfl)
    (case q_BadPlace_BadLine => kernel_rfl)
    (case q_BadPlace_ValueError => kernel_rfl)
    (case yx_BadPaper => kernel_rfl)
    (case yk_BadPaper => k_is)
    (case yb_BadPaper => k_is)
    (case yt_BadPaper => k_is)
    (case yc_BadPaper => kernel_rfl)
    (case yhg_BadPaper => k_is)
    (case yhk_BadPaper => k_is)
    (case yha_BadPaper => k_is)
    (case yhm_BadPaper => k_is)
    (case q_BadPaper_RowError => kernel_rfl)
    (case q_BadPaper_BadText => kernel_rfl)
    (case q_BadPaper_BadRow => kernel_rfl)
    (case q_BadPaper_BadKind => kernel_rfl)
    (case q_BadPaper_BadDeed => kernel_rfl)
    (case q_BadPaper_BadProgram => kernel_rfl)
    (case q_BadPaper_Unsound => kernel_rfl)
    (case q_BadPaper_BadInput => kernel_rfl)
    (case q_BadPaper_BadPlace => kernel_rfl)
    (case q_BadPaper_BadPaper => kernel_rfl)
    (case q_BadPaper_BadAsked => kernel_rfl)
    (case q_BadPaper_TooMany => kernel_rfl)
    (case q_BadPaper_BadLine => kernel_rfl)
    (case q_BadPaper_ValueError => kernel_rfl)
    (case yx_BadAsked => kernel_rfl)
    (case yk_BadAsked => k_is)
    (case yb_BadAsked => k_is)
    (case yt_BadAsked => k_is)
    (case yc_BadAsked => kernel_rfl)
    (case yhg_BadAsked => k_is)
    (case yhk_BadAsked => k_is)
    (case yha_BadAsked => k_is)
    (case yhm_BadAsked => k_is)
    (case q_BadAsked_RowError => kernel_rfl)
    (case q_BadAsked_BadText => kernel_rfl)
    (case q_BadAsked_BadRow => kernel_rfl)
    (case q_BadAsked_BadKind => kernel_rfl)
    (case q_BadAsked_BadDeed => kernel_rfl)
    (case q_BadAsked_BadProgram => kernel_rfl)
    (case q_BadAsked_Unsound => kernel_rfl)
    (case q_BadAsked_BadInput => kernel_rfl)
    (case q_BadAsked_BadPlace => kernel_rfl)
    (case q_BadAsked_BadPaper => kernel_rfl)
    (case q_BadAsked_BadAsked => kernel_rfl)
    (case q_BadAsked_TooMany => kernel_rfl)
    (case q_BadAsked_BadLine => kernel_rfl)
    (case q_BadAsked_ValueError => kernel_rfl)
    (case yx_TooMany => kernel_rfl)
    (case yk_TooMany => k_is)
    (case yb_TooMany => k_is)
    (case yt_TooMany => k_is)
    (case yc_TooMany => kernel_rfl)
    (case yhg_TooMany => k_is)
    (case yhk_TooMany => k_is)
    (case yha_TooMany => k_is)
    (case yhm_TooMany => k_is)
    (case q_TooMany_RowError => kernel_rfl)
    (case q_TooMany_BadText => kernel_rfl)
    (case q_TooMany_BadRow => kernel_rfl)
    (case q_TooMany_BadKind => kernel_rfl)
    (case q_TooMany_BadDeed => kernel_rfl)
    (case q_TooMany_BadProgram => kernel_rfl)
    (case q_TooMany_Unsound => kernel_rfl)
    (case q_TooMany_BadInput => kernel_rfl)
    (case q_TooMany_BadPlace => kernel_rfl)
    (case q_TooMany_BadPaper => kernel_rfl)
    (case q_TooMany_BadAsked => kernel_rfl)
    (case q_TooMany_TooMany => kernel_rfl)
    (case q_TooMany_BadLine => kernel_rfl)
    (case q_TooMany_ValueError => kernel_rfl)
    (case yx_BadLine => kernel_rfl)
    (case yk_BadLine => k_is)
    (case yb_BadLine => k_is)
    (case yt_BadLine => k_is)
    (case yc_BadLine => kernel_rfl)
    (case yhg_BadLine => k_is)
    (case yhk_BadLine => k_is)
    (case yha_BadLine => k_is)
    (case yhm_BadLine => k_is)
    (case q_BadLine_RowError => kernel_rfl)
    (case q_BadLine_BadText => kernel_rfl)
    (case q_BadLine_BadRow => kernel_rfl)
    (case q_BadLine_BadKind => kernel_rfl)
    (case q_BadLine_BadDeed => kernel_rfl)
    (case q_BadLine_BadProgram => kernel_rfl)
    (case q_BadLine_Unsound => kernel_rfl)
    (case q_BadLine_BadInput => kernel_rfl)
    (case q_BadLine_BadPlace => kernel_rfl)
    (case q_BadLine_BadPaper => kernel_rfl)
    (case q_BadLine_BadAsked => kernel_rfl)
    (case q_BadLine_TooMany => kernel_rfl)
    (case q_BadLine_BadLine => kernel_rfl)
    (case q_BadLine_ValueError => kernel_rfl)
    (case q_rdX => kernel_rfl)
    (case q_gaX => kernel_rfl)
    (case q_atX => kernel_rfl)
    (case yl_BadText => k_is)
    (case q_rfBadText => kernel_rfl)
    (case q_saBadText => kernel_rfl)
    (case q_xfBadText => kernel_rfl)
    (case q_nBadTextword => kernel_rfl)
    (case yl_Unsound => k_is)
    (case q_rfUnsound => kernel_rfl)
    (case q_saUnsound => kernel_rfl)
    (case q_xfUnsound => kernel_rfl)
    (case q_nUnsoundwhat => kernel_rfl)
    (case q_nUnsoundplace => kernel_rfl)
  case T =>
    intro w e he
    simp only [Z.tn, List.mem_cons, List.not_mem_nil, or_false] at he
    all_goals cases he
