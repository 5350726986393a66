import PyProof.Rows.All
import Wide.All
import OpenK.AllK
import Wide.FinOn
import HandS.ForMost
import HandS.Flow
import HandS.TupAny
import HandS.TupMul
import HandS.Deep
import HandS.Wide
import HandS.WideBits
import HandS.Zip
import HandS.IsInst
import HandS.Replace
import PyProof.ReprRoads
import HandS.SortInts
import HandS.Exc
import HandS.ExcOwn
import HandS.ExcIs
import HandS.TryOnly
import HandS.Lambda
import HandS.WordsExc
import KE.KExcIs
import KE.KNestM
import PyProof.CodeObj
import HandS.SetFor
import HandS.Style
import PyProof.ReprLen
import KE.GoesMore
import KE.GoesEnum
import HandS.Strs
import HandS.SortKw
import KE.DataMinMax
import PyProof.Rows.SumAny
import HandS.Conv
import HandS.Dict
import HandS.DictComp
import HandS.More
import PyProof.DictUpdate
import KE.DataFind
import PySem.Challenge.RW_rowkinds_k08_narrow_by_all_rows
set_option Elab.async false
set_option linter.all false
set_option maxRecDepth 100000
set_option maxHeartbeats 4000000
/-! Z: a layer of plain data over the hand layer. -/
namespace Z
open PySem L2

abbrev D := PyData

/-- a list that is read: tracked, locked, or a plain one of the written part -/
def SqP (K : PySem.W.Frag) (H : Hp) (a : Addr) (xs : List V) : Prop :=
  Rd H a (.lst xs) ∨ ∃ its : List Value, K.lookup a = some { cls := .type "list", data := .seq its.toArray } ∧ xs.length ≤ sizeLine ∧ Vals xs its
theorem SqP.sql {K : PySem.W.Frag} {H : Hp} {a : Addr} {xs : List V} (h : SqP K H a xs) : SqL K H a xs := by
  rcases h with h | ⟨its, h, hz, r⟩
  · exact .inl h
  · exact .inr ⟨_, its.toArray, 0, h, rfl, rfl, rfl, by rw [List.size_toArray, ← r.length]; exact hz, by simpa using r⟩

mutual
/-- the value v tells the data d, in what never changes (G) -/
inductive Rp (K : PySem.W.Frag) (G : Hp) : V → D → Prop
  | non : Rp K G .non .none
  | bl (b : Bool) : Rp K G (.bl b) (.bool b)
  | int (i : Int) : Rp K G (.int i) (.int i)
  | str (x : Str) : Rp K G (.str x) (.str x)
  | lst {a : Addr} {xs : List V} {ds : List D} : SqP K G a xs → RpAll K G xs ds → Rp K G (.ref a) (.list ds)
  | tup {a : Addr} {xs : List V} {ds : List D} : SqT K G a xs → RpAll K G xs ds → Rp K G (.ref a) (.tuple ds)
  | emp {a : Addr} : G a = some (.dK []) → Rp K G (.ref a) (.dict [])
  /-- an exception's object; one with a dict of its own -/
  | exc {a C : Addr} {φ : Heap → Prop} : G a = some (.ext φ) → (∀ h, φ h → ∃ (ob : Obj) (fs : Array Value), h.get? a = some ob ∧ (ob.cls = .ref C ∧ ob.dict = none) ∧ ob.data = .fields fs) → Rp K G (.ref a) (.dict [(.none, .int (C : Nat))])
  | exf {a dx C : Addr} {φ : Heap → Prop} {ks : List Str} {vs : List V} {ds : List D} : G a = some (.ext φ) → (∀ h, φ h → ∃ (ob : Obj) (fs : Array Value), h.get? a = some ob ∧ (ob.cls = .ref C ∧ ob.dict = some dx) ∧ ob.data = .fields fs) →
      G dx = some (.xd (ks.zip vs)) → RpAll K G vs ds → Rp K G (.ref a) (.dict ((.none, .int (C : Nat)) :: (ks.map PyData.str).zip ds))
  /-- a def as a value -/
  | fn {a : Addr} : Rp K G (.ref a) (.dict [(.bool true, .int (a : Nat))])
inductive RpAll (K : PySem.W.Frag) (G : Hp) : List V → List D → Prop
  | nil : RpAll K G [] []
  | cons {v : V} {vs : List V} {d : D} {ds : List D} : Rp K G v d → RpAll K G vs ds → RpAll K G (v :: vs) (d :: ds)
end

theorem same_seqT {K : PySem.W.Frag} {H H' : Hp} {a : Addr} {xs : List V} (e : Same H H') (h : SqT K H a xs) : SqT K H' a xs := by
  rcases h with (h | ⟨o, h⟩) | h
  · exact .inl (.inl (e _ _ h))
  · exact .inl (.inr ⟨o, e _ _ h⟩)
  · exact .inr h

theorem same_rd {H H' : Hp} {a : Addr} {u : HO} (e : Same H H') (h : Rd H a u) : Rd H' a u := by
  rcases h with h | ⟨o, h⟩
  · exact .inl (e _ _ h)
  · exact .inr ⟨o, e _ _ h⟩
theorem same_sqp {K : PySem.W.Frag} {H H' : Hp} {a : Addr} {xs : List V} (e : Same H H') (h : SqP K H a xs) : SqP K H' a xs := by
  rcases h with h | h
  · exact .inl (same_rd e h)
  · exact .inr h
section
variable {K : PySem.W.Frag} {G G' : Hp}
mutual
theorem Rp.mono (e : Same G G') : ∀ {v : V} {d : D}, Rp K G v d → Rp K G' v d
  | _, _, .non => .non
  | _, _, .bl b => .bl b
  | _, _, .int i => .int i
  | _, _, .str x => .str x
  | _, _, .lst h a => .lst (same_sqp e h) (RpAll.mono e a)
  | _, _, .tup h a => .tup (same_seqT e h) (RpAll.mono e a)
  | _, _, .emp h => .emp (e _ _ h)
  | _, _, .exc h z => .exc (e _ _ h) z
  | _, _, .exf h z h2 a => .exf (e _ _ h) z (e _ _ h2) (RpAll.mono e a)
  | _, _, .fn => .fn
theorem RpAll.mono (e : Same G G') : ∀ {vs : List V} {ds : List D}, RpAll K G vs ds → RpAll K G' vs ds
  | _, _, .nil => .nil
  | _, _, .cons h t => .cons (Rp.mono e h) (RpAll.mono e t)
end
theorem RpAll.length : ∀ {vs : List V} {ds : List D}, RpAll K G vs ds → vs.length = ds.length
  | _, _, .nil => rfl
  | _, _, .cons _ t => congrArg Nat.succ (RpAll.length t)
theorem RpAll.get : ∀ {vs : List V} {ds : List D} {i : Nat} {v : V}, RpAll K G vs ds → vs[i]? = some v → ∃ d, ds[i]? = some d ∧ Rp K G v d
  | _, _, _, _, .nil, e => by simp at e
  | _, _, 0, _, .cons r _, e => by simp at e; subst e; exact ⟨_, rfl, r⟩
  | _, _, i + 1, x, .cons _ t, e => by
    obtain ⟨u, h1, h2⟩ := RpAll.get (i := i) (v := x) t (by simpa using e)
    exact ⟨u, by simpa using h1, h2⟩
theorem RpAll.getD : ∀ {vs : List V} {ds : List D} {i : Nat} {d : D}, RpAll K G vs ds → ds[i]? = some d → ∃ v, vs[i]? = some v ∧ Rp K G v d
  | _, _, _, _, .nil, e => by simp at e
  | _, _, 0, _, .cons r _, e => by simp at e; subst e; exact ⟨_, rfl, r⟩
  | _, _, i + 1, x, .cons _ t, e => by
    obtain ⟨u, h1, h2⟩ := RpAll.getD (i := i) (d := x) t (by simpa using e)
    exact ⟨u, by simpa using h1, h2⟩
theorem RpAll.append : ∀ {vs ws : List V} {ds es : List D}, RpAll K G vs ds → RpAll K G ws es → RpAll K G (vs ++ ws) (ds ++ es)
  | _, _, _, _, .nil, s => s
  | _, _, _, _, .cons r t, s => .cons r (RpAll.append t s)
theorem RpAll.take : ∀ {vs : List V} {ds : List D} (n : Nat), RpAll K G vs ds → RpAll K G (vs.take n) (ds.take n)
  | _, _, 0, _ => .nil
  | _, _, _ + 1, .nil => .nil
  | _, _, n + 1, .cons r t => .cons r (RpAll.take n t)
theorem RpAll.drop : ∀ {vs : List V} {ds : List D} (n : Nat), RpAll K G vs ds → RpAll K G (vs.drop n) (ds.drop n)
  | _, _, 0, r => r
  | _, _, _ + 1, .nil => .nil
  | _, _, n + 1, .cons _ t => RpAll.drop n t
theorem RpAll.set {v : V} {d : D} (r : Rp K G v d) : ∀ {vs : List V} {ds : List D} (i : Nat), RpAll K G vs ds → RpAll K G (vs.set i v) (ds.set i d)
  | _, _, _, .nil => .nil
  | _, _, 0, .cons _ t => .cons r t
  | _, _, i + 1, .cons q t => .cons q (RpAll.set r i t)
theorem RpAll.reverse : ∀ {vs : List V} {ds : List D}, RpAll K G vs ds → RpAll K G vs.reverse ds.reverse
  | _, _, .nil => .nil
  | _, _, .cons r t => by
    rw [List.reverse_cons, List.reverse_cons]
    exact (RpAll.reverse t).append (.cons r .nil)
mutual
/-- what can be laid has no dicts -/
theorem Rp.dp : ∀ {v : V} {d : D}, Rp K G v d → d.canLay0 = true → Dp K G v d
  | _, _, .non, _ => .non
  | _, _, .bl b, _ => .bl b
  | _, _, .int i, _ => .int i
  | _, _, .str x, _ => .str x
  | _, _, .lst h a, c => .lst h.sql (RpAll.dp a (by simpa [PyData.canLay0] using c))
  | _, _, .tup h a, c => .tup h (RpAll.dp a (by simpa [PyData.canLay0] using c))
  | _, _, .emp h, c => by simp [PyData.canLay0] at c
  | _, _, .exc _ _, c => by simp [PyData.canLay0] at c
  | _, _, .exf _ _ _ _, c => by simp [PyData.canLay0] at c
  | _, _, .fn, c => by simp [PyData.canLay0] at c
theorem RpAll.dp : ∀ {vs : List V} {ds : List D}, RpAll K G vs ds → PyData.canLayAll0 ds = true → DpAll K G vs ds
  | _, _, .nil, _ => .nil
  | _, _, .cons h t, c => by
    rw [PyData.canLayAll0, Bool.and_eq_true] at c
    exact .cons (Rp.dp h c.1) (RpAll.dp t c.2)
end
end

/-! ### the store: what the defs share and change -/
structure Sto where
  T : Type
  /-- where tables of code objects may stand -/
  tb : Addr → Prop
  R : PySem.W.Frag → T → Hp → (Addr → Prop) → Hp → Prop
  st : ∀ {K t G G' F H H'}, R K t G F H → Same G G' → (∀ a, F a → H' a = H a) → R K t G' F H'

/-- from one state to a later one: what is said for ever grows, what isn't the store's stands -/
structure Step (G : Hp) (F : Addr → Prop) (H G' : Hp) (F' : Addr → Prop) (H' : Hp) : Prop where
  g : Same G G'
  h : ∀ a o, ¬ F a → H a = some o → H' a = some o
  gn : ∀ a o, G' a = some o → G a = some o ∨ H a = none
  fn : ∀ a, F' a → F a ∨ H a = none
  ff : ∀ a, F a → F' a
  dom : ∀ a, H a ≠ none → H' a ≠ none
structure Ok (S : Sto) (K : PySem.W.Frag) (t : S.T) (G : Hp) (F : Addr → Prop) (H : Hp) : Prop where
  same : Same G H
  gf : ∀ a, F a → G a = none
  fh : ∀ a, F a → H a ≠ none
  r : S.R K t G F H
  nt : ∀ a ps, H a = some (.tbl ps) → S.tb a
  nx : ∀ a φ, H a = some (.ext φ) → G a = some (.ext φ)

theorem Step.refl (G : Hp) (F : Addr → Prop) (H : Hp) : Step G F H G F H :=
  ⟨Same.refl G, fun _ _ _ h => h, fun _ _ h => .inl h, fun _ h => .inl h, fun _ h => h, fun _ h => h⟩
theorem Step.trans {G F H G1 F1 H1 G2 F2 H2} (a : Step G F H G1 F1 H1) (b : Step G1 F1 H1 G2 F2 H2) : Step G F H G2 F2 H2 where
  g := a.g.trans b.g
  h := fun p o nf e => by
    refine b.h p o (fun z => ?_) (a.h p o nf e)
    rcases a.fn p z with z | z
    · exact nf z
    · rw [z] at e; cases e
  gn := fun p o e => by
    rcases b.gn p o e with z | z
    · exact a.gn p o z
    · exact .inr (Classical.byContradiction fun q => a.dom p q z)
  fn := fun p e => by
    rcases b.fn p e with z | z
    · exact a.fn p z
    · exact .inr (Classical.byContradiction fun q => a.dom p q z)
  ff := fun p e => b.ff p (a.ff p e)
  dom := fun p e => b.dom p (a.dom p e)

/-- a new object that will never change -/
theorem Step.new {G F H p o} (n : H p = none) (s : Same G H) (nf : ∀ a, F a → H a ≠ none) : Step G F H (upd G p o) F (upd H p o) where
  g := fun a u e => by
    have : a ≠ p := ne_of_none (s a u e) n
    rw [upd_ne this]; exact e
  h := fun a u _ e => by rw [upd_ne (ne_of_none e n)]; exact e
  gn := fun a u e => by
    by_cases q : a = p
    · subst q; exact .inr n
    · rw [upd_ne q] at e; exact .inl e
  fn := fun a e => .inl e
  ff := fun a e => e
  dom := fun a e => by
    by_cases q : a = p
    · subst q; exact absurd n e
    · rw [upd_ne q]; exact e
/-- a new object that may change -/
theorem Step.alloc {G F H p o} (n : H p = none) : Step G F H G F (upd H p o) where
  g := Same.refl G
  h := fun a u _ e => by rw [upd_ne (ne_of_none e n)]; exact e
  gn := fun a u e => .inl e
  fn := fun a e => .inl e
  ff := fun a e => e
  dom := fun a e => by
    by_cases q : a = p
    · subst q; exact absurd n e
    · rw [upd_ne q]; exact e
section
variable {S : Sto} {K : PySem.W.Frag} {t : S.T} {G G' H H' : Hp} {F : Addr → Prop} {p : Addr} {o : HO}
theorem Ok.nt' (k : Ok S K t G F H) (n : ∀ ps, o ≠ .tbl ps) : ∀ a ps, (upd H p o) a = some (.tbl ps) → S.tb a := fun a ps e => by
  by_cases q : a = p
  · subst q; rw [upd_same] at e; exact absurd (Option.some.inj e) (n ps)
  · rw [upd_ne q] at e; exact k.nt a ps e
theorem Ok.nx' (k : Ok S K t G F H) (n : ∀ φ, o ≠ .ext φ) : ∀ a φ, (upd H p o) a = some (.ext φ) → G a = some (.ext φ) := fun a φ e => by
  by_cases q : a = p
  · subst q; rw [upd_same] at e; exact absurd (Option.some.inj e) (n φ)
  · rw [upd_ne q] at e; exact k.nx a φ e
theorem Ok.new (k : Ok S K t G F H) (n : H p = none) (nt : ∀ ps, o ≠ .tbl ps := by intro _ z; cases z) : Ok S K t (upd G p o) F (upd H p o) where
  nt := k.nt' nt
  nx := fun a φ e => by
    by_cases q : a = p
    · subst q; rw [upd_same] at e ⊢; exact e
    · rw [upd_ne q] at e ⊢; exact k.nx a φ e
  same := fun a u e => by
    by_cases q : a = p
    · subst q; rw [upd_same] at e ⊢; exact e
    · rw [upd_ne q] at e ⊢; exact k.same a u e
  gf := fun a e => by
    have : a ≠ p := fun z => by subst z; exact k.fh _ e n
    rw [upd_ne this]; exact k.gf a e
  fh := fun a e => by
    have : a ≠ p := fun z => by subst z; exact k.fh _ e n
    rw [upd_ne this]; exact k.fh a e
  r := S.st k.r (Step.new (F := F) (o := o) n k.same k.fh).g fun a e => by
    have : a ≠ p := fun z => by subst z; exact k.fh _ e n
    rw [upd_ne this]
theorem Ok.alloc (k : Ok S K t G F H) (n : H p = none) (nt : ∀ ps, o ≠ .tbl ps := by intro _ z; cases z) (nx : ∀ φ, o ≠ .ext φ := by intro _ z; cases z) : Ok S K t G F (upd H p o) where
  nt := k.nt' nt
  nx := k.nx' nx
  same := fun a u e => by rw [upd_ne (ne_of_none (k.same a u e) n)]; exact k.same a u e
  gf := k.gf
  fh := fun a e => by
    have : a ≠ p := fun z => by subst z; exact k.fh _ e n
    rw [upd_ne this]; exact k.fh a e
  r := S.st k.r (Same.refl G) fun a e => by
    have : a ≠ p := fun z => by subst z; exact k.fh _ e n
    rw [upd_ne this]
/-- an object that is neither the store's nor said for ever is changed -/
theorem Ok.mut (k : Ok S K t G F H) (n : G p = none) (nf : ¬ F p) (nt : ∀ ps, o ≠ .tbl ps := by intro _ z; cases z) (nx : ∀ φ, o ≠ .ext φ := by intro _ z; cases z) : Ok S K t G F (upd H p o) where
  nt := k.nt' nt
  nx := k.nx' nx
  same := fun a u e => by rw [upd_ne (ne_of_none e n)]; exact k.same a u e
  gf := k.gf
  fh := fun a e => by
    have : a ≠ p := fun z => by subst z; exact nf e
    rw [upd_ne this]; exact k.fh a e
  r := S.st k.r (Same.refl G) fun a e => by
    have : a ≠ p := fun z => by subst z; exact nf e
    rw [upd_ne this]
/-- an object of one's own is said for ever from now on -/
theorem Ok.frz (k : Ok S K t G F H) (e : H p = some o) (n : G p = none) (nf : ¬ F p) : Ok S K t (upd G p o) F H where
  nt := k.nt
  nx := fun a φ z => by
    by_cases q : a = p
    · subst q; rw [upd_same]; rw [e] at z; exact z
    · rw [upd_ne q]; exact k.nx a φ z
  same := fun a u z => by
    by_cases q : a = p
    · subst q; rw [upd_same] at z; cases z; exact e
    · rw [upd_ne q] at z; exact k.same a u z
  gf := fun a z => by
    have : a ≠ p := fun z' => by subst z'; exact nf z
    rw [upd_ne this]; exact k.gf a z
  fh := k.fh
  r := S.st k.r (fun a u z => by rw [upd_ne (ne_of_none z n)]; exact z) fun a _ => rfl
end

/-! ### what slots and results hold -/
inductive SV where
  /-- nothing that is known -/
  | no
  /-- data -/
  | d (x : D)
  /-- a list of one's own -/
  | ol (xs : List D)
  /-- a list of one's own, looked at -/
  | vw (xs : List D)
  /-- a value as it is -/
  | raw (v : V)
/-- a list that is read -/
def SV.lst? : SV → Option (List D)
  | .d (.list xs) => some xs
  | .ol xs => some xs
  | .vw xs => some xs
  | _ => none

/-- a list of one's own at p: neither said for ever, nor the store's -/
structure Own (K : PySem.W.Frag) (H0 G : Hp) (F : Addr → Prop) (H : Hp) (p : Addr) (xs : List D) : Prop where
  at' : ∃ vs, H p = some (.lst vs) ∧ RpAll K G vs xs
  g : G p = none
  f : ¬ F p
  new : H0 p = none
theorem Own.step {K : PySem.W.Frag} {H0 G F H G' F' H' p xs} (o : Own K H0 G F H p xs) (s : Step G F H G' F' H') : Own K H0 G' F' H' p xs := by
  obtain ⟨⟨vs, e, a⟩, g, f, n⟩ := o
  refine ⟨⟨vs, s.h p _ f e, a.mono s.g⟩, ?_, fun z => ?_, n⟩
  · cases q : G' p with
    | none => rfl
    | some u =>
      rcases s.gn p u q with z | z
      · rw [g] at z; cases z
      · rw [e] at z; cases z
  · rcases s.fn p z with z | z
    · exact f z
    · rw [e] at z; cases z

/-- a slot -/
def SvR (K : PySem.W.Frag) (H0 G : Hp) (F : Addr → Prop) (H : Hp) : SV → Option V → Prop
  | .no, _ => True
  | .d x, o => ∃ v, o = some v ∧ Rp K G v x
  | .ol xs, o => ∃ p, o = some (.ref p) ∧ Own K H0 G F H p xs
  | .vw _, _ => False
  | .raw v, o => o = some v
theorem SvR.step {K : PySem.W.Frag} {H0 G F H G' F' H' o} (st : Step G F H G' F' H') : ∀ {s : SV}, SvR K H0 G F H s o → SvR K H0 G' F' H' s o
  | .no, _ => trivial
  | .d _, ⟨v, e, r⟩ => ⟨v, e, r.mono st.g⟩
  | .ol _, ⟨p, e, w⟩ => ⟨p, e, w.step st⟩
  | .vw _, h => h.elim
  | .raw _, h => h
structure EnvR (K : PySem.W.Frag) (H0 G : Hp) (F : Addr → Prop) (H : Hp) (σ : L2.St) (env : List SV) : Prop where
  len : σ.length = env.length
  at' : ∀ (i : Nat) (s : SV), env[i]? = some s → SvR K H0 G F H s (σ[i]?.join)
  sep : ∀ (i j : Nat) (xs ys : List D), i ≠ j → env[i]? = some (.ol xs) → env[j]? = some (.ol ys) → σ[i]?.join ≠ σ[j]?.join
theorem EnvR.step {K : PySem.W.Frag} {H0 G F H G' F' H' σ env} (e : EnvR K H0 G F H σ env) (st : Step G F H G' F' H') : EnvR K H0 G' F' H' σ env :=
  ⟨e.len, fun i s h => (e.at' i s h).step st, e.sep⟩

/-- a result: H is the heap ahead -/
def Res (K : PySem.W.Frag) (Ha G : Hp) (F : Addr → Prop) (H : Hp) : SV → V → Prop
  | .no, _ => False
  | .d x, v => Rp K G v x
  | .ol xs, v => ∃ p, v = .ref p ∧ Own K Ha G F H p xs
  | .vw xs, v => ∃ p vs, v = .ref p ∧ H p = some (.lst vs) ∧ RpAll K G vs xs ∧ ¬ F p
  | .raw u, v => v = u
theorem Res.step {K : PySem.W.Frag} {Ha G F H G' F' H' v} (st : Step G F H G' F' H') : ∀ {s : SV}, Res K Ha G F H s v → Res K Ha G' F' H' s v
  | .no, h => h.elim
  | .d _, r => r.mono st.g
  | .ol _, ⟨p, e, w⟩ => ⟨p, e, w.step st⟩
  | .vw _, ⟨p, vs, e, e2, a, nf⟩ => ⟨p, vs, e, st.h p _ nf e2, a.mono st.g, fun z => by
      rcases st.fn p z with z | z
      · exact nf z
      · rw [e2] at z; cases z⟩
  | .raw _, h => h
/-- the heap ahead may be an earlier one -/
theorem Res.back {K : PySem.W.Frag} {Ha Hb G F H v} (b : ∀ a, Ha a = none → Hb a = none) : ∀ {s : SV}, Res K Ha G F H s v → Res K Hb G F H s v
  | .no, h => h.elim
  | .d _, r => r
  | .ol _, ⟨p, e, w⟩ => ⟨p, e, w.at', w.g, w.f, b p w.new⟩
  | .vw _, r => r
  | .raw _, h => h
/-- what is read as a list -/
theorem Res.sql {K : PySem.W.Frag} {Ha G F H v} (sm : Same G H) : ∀ {s : SV} {xs : List D}, Res K Ha G F H s v → s.lst? = some xs → ∃ p vs, v = .ref p ∧ SqP K H p vs ∧ RpAll K G vs xs
  | .d (.list _), _, .lst h a, e => by cases e; exact ⟨_, _, rfl, same_sqp sm h, a⟩
  | .ol _, _, ⟨p, e, w⟩, z => by
    cases z
    obtain ⟨vs, e2, a⟩ := w.at'
    exact ⟨p, vs, e, .inl (.inl e2), a⟩
  | .vw _, _, ⟨p, vs, e, e2, a, _⟩, z => by cases z; exact ⟨p, vs, e, .inl (.inl e2), a⟩
  | .no, _, h, _ => h.elim
  | .raw _, _, _, z => by cases z
  | .d .none, _, _, z => by cases z
  | .d (.bool _), _, _, z => by cases z
  | .d (.int _), _, _, z => by cases z
  | .d (.str _), _, _, z => by cases z
  | .d (.tuple _), _, _, z => by cases z
  | .d (.dict _), _, _, z => by cases z

/-! ### where a def stands -/
structure Bk where
  S : Sto
  K : PySem.W.Frag
  G : Hp
  F : Addr → Prop
  H : Hp
abbrev Bk.T (B : Bk) := B.S.T
structure StR (B : Bk) (G : Hp) (F : Addr → Prop) (σ : L2.St) (H : Hp) (env : List SV) (τ : B.T) : Prop where
  s : Step B.G B.F B.H G F H
  k : Ok B.S B.K τ G F H
  e : EnvR B.K B.H G F H σ env
theorem StR.step {B : Bk} {G F σ H env τ G' F' H' τ'} (s : StR B G F σ H env τ) (st : Step G F H G' F' H') (k : Ok B.S B.K τ' G' F' H') : StR B G' F' σ H' env τ' :=
  ⟨s.s.trans st, k, s.e.step st⟩

/-- readings by data -/
abbrev W (T : Type) := List SV → T → (SV → T → Prop) → Prop
abbrev WT (T : Type) := List SV → T → (Bool → T → Prop) → Prop
abbrev WA (T : Type) := List SV → T → (List SV → T → Prop) → Prop

structure Fin (B : Bk) (G : Hp) (F : Addr → Prop) (H : Hp) (τ' : B.T) (G' : Hp) (F' : Addr → Prop) (H' : Hp) : Prop where
  s : Step G F H G' F' H'
  k : Ok B.S B.K τ' G' F' H'
theorem Fin.trans {B : Bk} {G F H τ1 G1 F1 H1 τ2 G2 F2 H2} (a : Fin B G F H τ1 G1 F1 H1) (b : Fin B G1 F1 H1 τ2 G2 F2 H2) : Fin B G F H τ2 G2 F2 H2 := ⟨a.s.trans b.s, b.k⟩
theorem StR.fin {B : Bk} {G F σ H env τ G' F' H' τ'} (s : StR B G F σ H env τ) (f : Fin B G F H τ' G' F' H') : StR B G' F' σ H' env τ' := s.step f.s f.k
theorem StR.refl {B : Bk} {G F σ H env τ} (s : StR B G F σ H env τ) : Fin B G F H τ G F H := ⟨Step.refl _ _ _, s.k⟩

def lift (B : Bk) (t : W B.T) : TE := fun σ H Q => ∃ G F env τ Qd, StR B G F σ H env τ ∧ t env τ Qd ∧
  ∀ r τ' G' F' H' v, Fin B G F H τ' G' F' H' → Res B.K H G' F' H' r v → Qd r τ' → Q v H'
def liftT (B : Bk) (t : WT B.T) : TT := fun σ H Q => ∃ G F env τ Qd, StR B G F σ H env τ ∧ t env τ Qd ∧
  ∀ b τ' G' F' H', Fin B G F H τ' G' F' H' → Qd b τ' → Q b H'
/-- each of several results -/
inductive ResAll (K : PySem.W.Frag) (Ha G : Hp) (F : Addr → Prop) (H : Hp) : List SV → List V → Prop
  | nil : ResAll K Ha G F H [] []
  | cons {r : SV} {rs : List SV} {v : V} {vs : List V} : Res K Ha G F H r v → ResAll K Ha G F H rs vs → ResAll K Ha G F H (r :: rs) (v :: vs)
theorem ResAll.back {K : PySem.W.Frag} {Ha Hb G F H} (b : ∀ a, Ha a = none → Hb a = none) : ∀ {rs : List SV} {vs : List V}, ResAll K Ha G F H rs vs → ResAll K Hb G F H rs vs
  | _, _, .nil => .nil
  | _, _, .cons r t => .cons (r.back b) (t.back b)
theorem ResAll.length {K : PySem.W.Frag} {Ha G F H} : ∀ {rs : List SV} {vs : List V}, ResAll K Ha G F H rs vs → rs.length = vs.length
  | _, _, .nil => rfl
  | _, _, .cons _ t => congrArg Nat.succ t.length
def liftA (B : Bk) (t : WA B.T) : TA := fun σ H Q => ∃ G F env τ Qd, StR B G F σ H env τ ∧ t env τ Qd ∧
  ∀ rs τ' G' F' H' vs, Fin B G F H τ' G' F' H' → ResAll B.K H G' F' H' rs vs → Qd rs τ' → Q vs H'

theorem dead {H H' : Hp} (d : ∀ a, H a ≠ none → H' a ≠ none) (a : Addr) (n : H' a = none) : H a = none :=
  Classical.byContradiction fun q => d a q n

section
variable {X : Cx} {e : Expr} {t t' : TE}
theorem pe_imp (h : PE X e t) (i : ∀ σ H Q, t' σ H Q → t σ H Q) : PE X e t' := ⟨fun pins s σ H Q I z => h.run pins s σ H Q I (i σ H Q z)⟩
theorem pt_imp {t t' : TT} (h : PT X e t) (i : ∀ σ H Q, t' σ H Q → t σ H Q) : PT X e t' := ⟨fun pins s σ H Q I z => h.run pins s σ H Q I (i σ H Q z)⟩
theorem pa_imp {es : List Expr} {t t' : TA} (h : PA X es t) (i : ∀ σ H Q, t' σ H Q → t σ H Q) : PA X es t' := ⟨fun pos pins s σ H Q I z => h.run pos pins s σ H Q I (i σ H Q z)⟩
theorem ps_imp {st : Stmt} {t t' : TS} (h : PS X st t) (i : ∀ D σ H, t' D σ H → t D σ H) : PS X st t' := ⟨fun pins s σ H D I z => h.run pins s σ H D I (i D σ H z)⟩
theorem pss_imp {st : List Stmt} {t t' : TS} (h : PSs X st t) (i : ∀ D σ H, t' D σ H → t D σ H) : PSs X st t' := ⟨fun pins s σ H D I z => h.run pins s σ H D I (i D σ H z)⟩
end

/-! ### names, constants -/
section
variable {X : Cx} {B : Bk} {e : Expr}
/-- the name in slot i -/
def dVar {T : Type} (i : Nat) : W T := fun env τ Q => match env[i]? with
  | some (.d x) => Q (.d x) τ
  | some (.ol xs) => Q (.vw xs) τ
  | some (.raw v) => Q (.raw v) τ
  | _ => False
theorem de_var {i : Nat} (h : PE X e (tVar i)) : PE X e (lift B (dVar i)) := by
  refine pe_imp h fun σ H Q ⟨G, F, env, τ, Qd, s, t, k⟩ => ?_
  unfold dVar at t
  cases q : env[i]? with
  | none => rw [q] at t; exact t.elim
  | some sv =>
    rw [q] at t
    have r := s.e.at' i sv q
    cases sv with
    | no => exact t.elim
    | vw _ => exact t.elim
    | d x =>
      obtain ⟨v, e1, r⟩ := r
      have e2 : σ[i]? = some (some v) := by
        cases z : σ[i]? with
        | none => rw [z] at e1; cases e1
        | some o => rw [z] at e1; exact congrArg some e1
      exact ⟨v, e2, k (.d x) _ _ _ _ _ s.refl r t⟩
    | ol xs =>
      obtain ⟨p, e1, w⟩ := r
      have e2 : σ[i]? = some (some (.ref p)) := by
        cases z : σ[i]? with
        | none => rw [z] at e1; cases e1
        | some o => rw [z] at e1; exact congrArg some e1
      obtain ⟨vs, h1, h2⟩ := w.at'
      exact ⟨_, e2, k (.vw xs) _ _ _ _ _ s.refl ⟨p, vs, rfl, h1, h2, w.f⟩ t⟩
    | raw v =>
      have e1 : σ[i]?.join = some v := r
      have e2 : σ[i]? = some (some v) := by
        cases z : σ[i]? with
        | none => rw [z] at e1; cases e1
        | some o => rw [z] at e1; exact congrArg some e1
      exact ⟨v, e2, k (.raw v) _ _ _ _ _ s.refl rfl t⟩
/-- what is always the same data -/
def dC {T : Type} (x : D) : W T := fun _ τ Q => Q (.d x) τ
theorem de_c {v : V} {x : D} (h : PE X e (tC v)) (r : ∀ G, Rp B.K G v x) : PE X e (lift B (dC x)) :=
  pe_imp h fun σ H Q ⟨G, F, env, τ, Qd, s, t, k⟩ => k (.d x) _ _ _ _ _ s.refl (r G) t
theorem de_int {i j pos} : PE X (.Constant (.int i) j pos) (lift B (dC (.int i))) := de_c pe_int fun _ => .int i
theorem de_bl {b j pos} : PE X (.Constant (.bool b) j pos) (lift B (dC (.bool b))) := de_c pe_bl fun _ => .bl b
theorem de_non {j pos} : PE X (.Constant .none j pos) (lift B (dC .none)) := de_c pe_non fun _ => .non
theorem de_str {x j pos} : PE X (.Constant (.str x) j pos) (lift B (dC (.str x))) := de_c pe_str fun _ => .str x
def dRaw {T : Type} (v : V) : W T := fun _ τ Q => Q (.raw v) τ
theorem de_raw {v : V} (h : PE X e (tC v)) : PE X e (lift B (dRaw v)) :=
  pe_imp h fun σ H Q ⟨G, F, env, τ, Qd, s, t, k⟩ => k (.raw v) _ _ _ _ _ s.refl rfl t
end
end Z

namespace Z
open PySem L2

/-- what follows a result -/
abbrev FinT (B : Bk) (G : Hp) (F : Addr → Prop) (H : Hp) (τ : B.T) (Qv : SV → Prop) (Q : VK) : Prop := ∀ z G' F' H' v, Fin B G F H τ G' F' H' → Res B.K H G' F' H' z v → Qv z → Q v H'
section
variable {B : Bk} {G : Hp} {F : Addr → Prop} {H : Hp} {τ : B.T} {Qv : SV → Prop} {Q : VK}
theorem Fin.rfl' (k : Ok B.S B.K τ G F H) : Fin B G F H τ G F H := ⟨Step.refl _ _ _, k⟩
theorem FinT.d {v : V} {x : D} (fin : FinT B G F H τ Qv Q) (k : Ok B.S B.K τ G F H) (r : Rp B.K G v x) (h : Qv (.d x)) : Q v H := fin (.d x) G F H v (.rfl' k) r h
/-- a new list: one's own -/
theorem new_lst {p : Addr} {vs : List V} {xs : List D} (k : Ok B.S B.K τ G F H) (n : H p = none) (a : RpAll B.K G vs xs) : Fin B G F H τ G F (upd H p (.lst vs)) ∧ Res B.K H G F (upd H p (.lst vs)) (.ol xs) (.ref p) := by
  refine ⟨⟨Step.alloc n, k.alloc n⟩, p, rfl, ⟨vs, upd_same, a⟩, ?_, fun z => k.fh p z n, n⟩
  cases q : G p with
  | none => rfl
  | some u => rw [k.same _ _ q] at n; cases n
/-- a new tuple: said for ever -/
theorem new_tup {p : Addr} {vs : List V} {xs : List D} (k : Ok B.S B.K τ G F H) (n : H p = none) (a : RpAll B.K G vs xs) :
    Fin B G F H τ (upd G p (.tup vs)) F (upd H p (.tup vs)) ∧ Res B.K H (upd G p (.tup vs)) F (upd H p (.tup vs)) (.d (.tuple xs)) (.ref p) := by
  have st := Step.new (o := .tup vs) n k.same k.fh
  exact ⟨⟨st, k.new n⟩, Rp.tup (SqT.of upd_same) (a.mono st.g)⟩
theorem FinT.ol {p : Addr} {vs : List V} {xs : List D} (fin : FinT B G F H τ Qv Q) (k : Ok B.S B.K τ G F H) (n : H p = none) (a : RpAll B.K G vs xs) (h : Qv (.ol xs)) : Q (.ref p) (upd H p (.lst vs)) :=
  fin _ _ _ _ _ (new_lst k n a).1 (new_lst k n a).2 h
theorem FinT.tup {p : Addr} {vs : List V} {xs : List D} (fin : FinT B G F H τ Qv Q) (k : Ok B.S B.K τ G F H) (n : H p = none) (a : RpAll B.K G vs xs) (h : Qv (.d (.tuple xs))) : Q (.ref p) (upd H p (.tup vs)) :=
  fin _ _ _ _ _ (new_tup k n a).1 (new_tup k n a).2 h
end
/-! ### operations by values -/
def OpD (B : Bk) (r : R2) (g : SV → SV → (SV → Prop) → Prop) : Prop :=
  ∀ (x y : SV) (vx vy : V) (Ha Hb G : Hp) (F : Addr → Prop) (H : Hp) (τ : B.T) (Qv : SV → Prop) (Q : VK), Ok B.S B.K τ G F H → Res B.K Ha G F H x vx → Res B.K Hb G F H y vy → g x y Qv →
    FinT B G F H τ Qv Q → r vx vy H Q
def dOp {T : Type} (g : SV → SV → (SV → Prop) → Prop) (ta tb : W T) : W T := fun env τ Q => ta env τ fun x τ1 => tb env τ1 fun y τ2 => g x y fun z => Q z τ2
theorem OpD.or {B : Bk} {r r' : R2} {g g' : SV → SV → (SV → Prop) → Prop} (a : OpD B r g) (b : OpD B r' g') : OpD B (fun x y H Q => r x y H Q ∨ r' x y H Q) (fun x y Q => g x y Q ∨ g' x y Q) :=
  fun x y vx vy Ha Hb G F H τ Qv Q k rx ry h q => h.elim (fun h => .inl (a x y vx vy Ha Hb G F H τ Qv Q k rx ry h q)) fun h => .inr (b x y vx vy Ha Hb G F H τ Qv Q k rx ry h q)
theorem OpD.imp {B : Bk} {r : R2} {g g' : SV → SV → (SV → Prop) → Prop} (a : OpD B r g) (i : ∀ x y Q, g' x y Q → g x y Q) : OpD B r g' :=
  fun x y vx vy Ha Hb G F H τ Qv Q k rx ry h q => a x y vx vy Ha Hb G F H τ Qv Q k rx ry (i _ _ _ h) q

section
variable {X : Cx} {B : Bk} {a b c : Expr} {pos : Pos} {ta tb tc : W B.T} {r r' : R2} {g g' : SV → SV → (SV → Prop) → Prop}
theorem lift_op (hd : OpD B r g) : ∀ σ H Q, lift B (dOp g ta tb) σ H Q → tOp r (lift B ta) (lift B tb) σ H Q := fun σ H Q ⟨G, F, env, τ, Qd, s, t, k⟩ =>
  ⟨G, F, env, τ, _, s, t, fun x τ1 G1 F1 H1 vx f1 r1 q1 => ⟨G1, F1, env, τ1, _, s.fin f1, q1, fun y τ2 G2 F2 H2 vy f2 r2 q2 =>
    hd x y vx vy _ _ G2 F2 H2 τ2 _ _ f2.k (r1.step f2.s) r2 q2 fun z G3 F3 H3 v f3 r3 q3 => k z τ2 G3 F3 H3 v (f1.trans (f2.trans f3)) (r3.back (dead (f1.trans f2).s.dom)) q3⟩⟩
theorem de_op {op : Operator} (ho : OpR X (binaryOp op) r) (hd : OpD B r g) (ha : PE X a (lift B ta)) (hb : PE X b (lift B tb)) : PE X (.BinOp a op b pos) (lift B (dOp g ta tb)) :=
  pe_imp (pe_op ho ha hb) (lift_op hd)
theorem de_cmp {op : CmpOp} (ho : OpR X (compareOp op) r) (hd : OpD B r g) (ha : PE X a (lift B ta)) (hb : PE X b (lift B tb)) (hm : behindInMarks op b = false) : PE X (.Compare a [op] [b] pos) (lift B (dOp g ta tb)) :=
  pe_imp (pe_cmpR ho ha hb hm) (lift_op hd)
/-- a truth value as a test -/
def dT {T : Type} (t : W T) : WT T := fun env τ Q => t env τ fun x τ1 => ∃ b, x = .d (.bool b) ∧ Q b τ1
theorem rbl {K : PySem.W.Frag} {Ha G F H v k} (h : Res K Ha G F H (.d (.bool k)) v) : v = .bl k := by
  have h : Rp K G v (.bool k) := h
  cases h
  rfl
theorem rint {K : PySem.W.Frag} {Ha G F H v k} (h : Res K Ha G F H (.d (.int k)) v) : v = .int k := by
  have h : Rp K G v (.int k) := h
  cases h
  rfl
theorem rstr {K : PySem.W.Frag} {Ha G F H v k} (h : Res K Ha G F H (.d (.str k)) v) : v = .str k := by
  have h : Rp K G v (.str k) := h
  cases h
  rfl
theorem rnon {K : PySem.W.Frag} {Ha G F H v} (h : Res K Ha G F H (.d .none) v) : v = .non := by
  have h : Rp K G v .none := h
  cases h
  rfl
theorem rtup {K : PySem.W.Frag} {Ha G F H v xs} (h : Res K Ha G F H (.d (.tuple xs)) v) : ∃ p vs, v = .ref p ∧ SqT K G p vs ∧ RpAll K G vs xs := by
  have h : Rp K G v (.tuple xs) := h
  cases h with
  | tup h1 a => exact ⟨_, _, rfl, h1, a⟩
theorem lift_tst {te : TE} (i : ∀ σ H Q, lift B ta σ H Q → te σ H Q) : ∀ σ H Q, liftT B (dT ta) σ H Q → tTest te σ H Q := fun σ H Q ⟨G, F, env, τ, Qd, s, t, k⟩ =>
  i _ _ _ ⟨G, F, env, τ, _, s, t, fun x τ1 G1 F1 H1 vx f1 r1 ⟨b, e, q⟩ => by
    subst e
    exact ⟨b, rbl r1, k b τ1 G1 F1 H1 f1 q⟩⟩
theorem dt_cmp {op : CmpOp} (ho : OpR X (compareOp op) r) (hd : OpD B r g) (ha : PE X a (lift B ta)) (hb : PE X b (lift B tb)) (hm : behindInMarks op b = false) : PT X (.Compare a [op] [b] pos) (liftT B (dT (dOp g ta tb))) :=
  pt_imp (pt_cmpR ho ha hb hm) (lift_tst (lift_op hd))
/-- a < b < c -/
def dChain {T : Type} (g g' : SV → SV → (SV → Prop) → Prop) (ta tb tc : W T) : W T := fun env τ Q => ta env τ fun x τ1 => tb env τ1 fun y τ2 => g x y fun z => ∃ k, z = .d (.bool k) ∧
  (if k = true then tc env τ2 fun w τ3 => g' y w fun u => Q u τ3 else Q (.d (.bool false)) τ2)
theorem lift_chain (hd : OpD B r g) (hd' : OpD B r' g') : ∀ σ H Q, lift B (dChain g g' ta tb tc) σ H Q → tChain r r' (lift B ta) (lift B tb) (lift B tc) σ H Q := fun σ H Q ⟨G, F, env, τ, Qd, s, t, k⟩ =>
  ⟨G, F, env, τ, _, s, t, fun x τ1 G1 F1 H1 vx f1 r1 q1 => ⟨G1, F1, env, τ1, _, s.fin f1, q1, fun y τ2 G2 F2 H2 vy f2 r2 q2 =>
    hd x y vx vy _ _ G2 F2 H2 τ2 _ _ f2.k (r1.step f2.s) r2 q2 fun z G3 F3 H3 v f3 r3 ⟨b, e, q3⟩ => by
      subst e
      refine ⟨b, rbl r3, ?_⟩
      cases b with
      | false => exact k (.d (.bool false)) τ2 G3 F3 H3 _ (f1.trans (f2.trans f3)) (Rp.bl false) q3
      | true => exact ⟨G3, F3, env, τ2, _, s.fin (f1.trans (f2.trans f3)), q3, fun w τ4 G4 F4 H4 vw f4 r4 q4 =>
          hd' y w vy vw _ _ G4 F4 H4 τ4 _ _ f4.k (r2.step (f3.s.trans f4.s)) r4 q4 fun u G5 F5 H5 v5 f5 r5 q5 =>
            k u τ4 G5 F5 H5 v5 (f1.trans (f2.trans (f3.trans (f4.trans f5)))) (r5.back (dead (f1.trans (f2.trans (f3.trans f4))).s.dom)) q5⟩⟩⟩
theorem de_chain {op op' : CmpOp} (ho : OpR X (compareOp op) r) (hd : OpD B r g) (ho' : OpR X (compareOp op') r') (hd' : OpD B r' g') (ha : PE X a (lift B ta)) (hb : PE X b (lift B tb)) (hc : PE X c (lift B tc))
    (hm : lastMarks [op, op'] [b, c] = false := by with_unfolding_all rfl) : PE X (.Compare a [op, op'] [b, c] pos) (lift B (dChain g g' ta tb tc)) := pe_imp (pe_chain ho ho' ha hb hc hm) (lift_chain hd hd')
theorem dt_chain {op op' : CmpOp} (ho : OpR X (compareOp op) r) (hd : OpD B r g) (ho' : OpR X (compareOp op') r') (hd' : OpD B r' g') (ha : PE X a (lift B ta)) (hb : PE X b (lift B tb)) (hc : PE X c (lift B tc))
    (hm : lastMarks [op, op'] [b, c] = false := by with_unfolding_all rfl) : PT X (.Compare a [op, op'] [b, c] pos) (liftT B (dT (dChain g g' ta tb tc))) := pt_imp (pt_chain ho ho' ha hb hc hm) (lift_tst (lift_chain hd hd'))
end

/-! ### truth, and, or, not, if -/
def SV.truth : SV → Option Bool
  | .d .none => some false
  | .d (.bool b) => some b
  | .d (.int i) => some (i != 0)
  | .d (.str y) => if y.length ≤ sizeLine then some ((y.length : Int) != 0) else none
  | .d (.tuple xs) => some (!xs.isEmpty)
  | .d (.list xs) => some (!xs.isEmpty)
  | .d (.dict _) => none
  | .ol xs => some (!xs.isEmpty)
  | .vw xs => some (!xs.isEmpty)
  | _ => none
theorem isE {K : PySem.W.Frag} {G : Hp} {vs : List V} {xs : List D} (a : RpAll K G vs xs) : (!xs.isEmpty) = !vs.isEmpty := by
  cases a <;> rfl
theorem Res.truth {K : PySem.W.Frag} {Ha G F H v k} (sm : Same G H) : ∀ {x : SV}, Res K Ha G F H x v → x.truth = some k → TruV K v H k
  | .d .none, h, e => by
    cases e
    rw [rnon h]
    rfl
  | .d (.bool b), .bl _, e => by cases e; rfl
  | .d (.int i), .int _, e => by cases e; rfl
  | .d (.str y), .str _, e => by
    have e' : (if y.length ≤ sizeLine then some ((y.length : Int) != 0) else none) = some k := e
    split at e'
    · rename_i h
      cases e'
      exact ⟨h, rfl⟩
    · cases e'
  | .d (.tuple xs), .tup h a, e => by cases e; exact .inr (.inl ⟨_, same_seqT sm h, isE a⟩)
  | .d (.list xs), .lst h a, e => by cases e; exact .inl ⟨_, (same_sqp sm h).sql, isE a⟩
  | .d (.dict _), _, e => by cases e
  | .ol xs, ⟨p, e1, w⟩, e => by
    cases e
    subst e1
    obtain ⟨vs, e2, a⟩ := w.at'
    exact .inl ⟨_, .of e2, isE a⟩
  | .vw xs, ⟨p, vs, e1, e2, a, _⟩, e => by
    cases e
    subst e1
    exact .inl ⟨_, .of e2, isE a⟩
  | .no, h, _ => h.elim
  | .raw _, _, e => by cases e
section
variable {X : Cx} {B : Bk} {a b c : Expr} {pos : Pos} {ta tb tc : W B.T} {rest : List Expr} {tA tB' : WT B.T}
def dTru {T : Type} (t : W T) : WT T := fun env τ Q => t env τ fun x τ1 => ∃ k, x.truth = some k ∧ Q k τ1
theorem dt_tru (hK : X.K = B.K) (ha : PE X a (lift B ta)) (he : ∀ whole, isTrue a X.env whole = (do let v ← whole; standAt a.pos; holding [v] (truthy v)) := by intro _; rfl) : PT X a (liftT B (dTru ta)) :=
  pt_imp (pt_truth ha he) fun σ H Q ⟨G, F, env, τ, Qd, s, t, k⟩ => ⟨G, F, env, τ, _, s, t, fun x τ1 G1 F1 H1 vx f1 r1 ⟨b, e, q⟩ => ⟨b, by rw [hK]; exact r1.truth f1.k.same e, k b τ1 G1 F1 H1 f1 q⟩⟩
def dAndT {T : Type} (t u : WT T) : WT T := fun env τ Q => t env τ fun c τ1 => if c = true then u env τ1 Q else Q false τ1
def dOrT {T : Type} (t u : WT T) : WT T := fun env τ Q => t env τ fun c τ1 => if c = true then Q true τ1 else u env τ1 Q
def dNotT {T : Type} (t : WT T) : WT T := fun env τ Q => t env τ fun c τ1 => Q (!c) τ1
theorem dw_and1 (ha : PT X a (liftT B tA)) : PW X (.BoolOp .And [a] pos) (liftT B tA) := pw_and1 ha
theorem dw_or1 (ha : PT X a (liftT B tA)) : PW X (.BoolOp .Or [a] pos) (liftT B tA) := pw_or1 ha
theorem pw_imp {e : Expr} {t t' : TT} (h : PW X e t) (i : ∀ σ H Q, t' σ H Q → t σ H Q) : PW X e t' := ⟨fun wh pins s σ H Q I z => h.run wh pins s σ H Q I (i σ H Q z)⟩
theorem dw_and (ha : PT X a (liftT B tA)) (hb : PW X (.BoolOp .And (b :: rest) pos) (liftT B tB')) : PW X (.BoolOp .And (a :: b :: rest) pos) (liftT B (dAndT tA tB')) :=
  pw_imp (pw_and ha hb) fun σ H Q ⟨G, F, env, τ, Qd, s, t, k⟩ => ⟨G, F, env, τ, _, s, t, fun c τ1 G1 F1 H1 f1 q => by
    cases c with
    | true =>
      refine iteT ⟨G1, F1, env, τ1, _, s.fin f1, q, fun d τ2 G2 F2 H2 f2 q2 => k d τ2 G2 F2 H2 (f1.trans f2) q2⟩
    | false => exact iteF (k false τ1 G1 F1 H1 f1 q)⟩
theorem dw_or (ha : PT X a (liftT B tA)) (hb : PW X (.BoolOp .Or (b :: rest) pos) (liftT B tB')) : PW X (.BoolOp .Or (a :: b :: rest) pos) (liftT B (dOrT tA tB')) :=
  pw_imp (pw_or ha hb) fun σ H Q ⟨G, F, env, τ, Qd, s, t, k⟩ => ⟨G, F, env, τ, _, s, t, fun c τ1 G1 F1 H1 f1 q => by
    cases c with
    | false =>
      refine iteF ⟨G1, F1, env, τ1, _, s.fin f1, q, fun d τ2 G2 F2 H2 f2 q2 => k d τ2 G2 F2 H2 (f1.trans f2) q2⟩
    | true => exact iteT (k true τ1 G1 F1 H1 f1 q)⟩
theorem dt_w (h : PW X a (liftT B tA)) : PT X a (liftT B tA) := h.pt
theorem dt_not (ha : PT X a (liftT B tA)) : PT X (.UnaryOp .Not a pos) (liftT B (dNotT tA)) :=
  pt_imp (pt_not ha) fun σ H Q ⟨G, F, env, τ, Qd, s, t, k⟩ => ⟨G, F, env, τ, _, s, t, fun c τ1 G1 F1 H1 f1 q => k (!c) τ1 G1 F1 H1 f1 q⟩
/-- as values -/
def dAnd {T : Type} (ta tb : W T) : W T := fun env τ Q => ta env τ fun x τ1 => ∃ k, x.truth = some k ∧ if k = true then tb env τ1 Q else Q x τ1
def dOr {T : Type} (ta tb : W T) : W T := fun env τ Q => ta env τ fun x τ1 => ∃ k, x.truth = some k ∧ if k = true then Q x τ1 else tb env τ1 Q
def dNot {T : Type} (ta : W T) : W T := fun env τ Q => ta env τ fun x τ1 => ∃ k, x.truth = some k ∧ Q (.d (.bool (!k))) τ1
def dIf {T : Type} (t : WT T) (ta tb : W T) : W T := fun env τ Q => t env τ fun c τ1 => if c = true then ta env τ1 Q else tb env τ1 Q
theorem de_one {op} (h : PE X a (lift B ta)) : PE X (.BoolOp op [a] pos) (lift B ta) := pe_one h
theorem de_and (hK : X.K = B.K) (ha : PE X a (lift B ta)) (hb : PE X (.BoolOp .And (b :: rest) pos) (lift B tb)) : PE X (.BoolOp .And (a :: b :: rest) pos) (lift B (dAnd ta tb)) :=
  pe_imp (pe_andT ha hb) fun σ H Q ⟨G, F, env, τ, Qd, s, t, k⟩ => ⟨G, F, env, τ, _, s, t, fun x τ1 G1 F1 H1 vx f1 r1 ⟨c, e, q⟩ => ⟨c, by rw [hK]; exact r1.truth f1.k.same e, by
    cases c with
    | true => exact iteT ⟨G1, F1, env, τ1, _, s.fin f1, q, fun y τ2 G2 F2 H2 v f2 r2 q2 => k y τ2 G2 F2 H2 v (f1.trans f2) (r2.back (dead f1.s.dom)) q2⟩
    | false => exact iteF (k x τ1 G1 F1 H1 vx f1 r1 q)⟩⟩
theorem de_or (hK : X.K = B.K) (ha : PE X a (lift B ta)) (hb : PE X (.BoolOp .Or (b :: rest) pos) (lift B tb)) : PE X (.BoolOp .Or (a :: b :: rest) pos) (lift B (dOr ta tb)) :=
  pe_imp (pe_orT ha hb) fun σ H Q ⟨G, F, env, τ, Qd, s, t, k⟩ => ⟨G, F, env, τ, _, s, t, fun x τ1 G1 F1 H1 vx f1 r1 ⟨c, e, q⟩ => ⟨c, by rw [hK]; exact r1.truth f1.k.same e, by
    cases c with
    | false => exact iteF ⟨G1, F1, env, τ1, _, s.fin f1, q, fun y τ2 G2 F2 H2 v f2 r2 q2 => k y τ2 G2 F2 H2 v (f1.trans f2) (r2.back (dead f1.s.dom)) q2⟩
    | true => exact iteT (k x τ1 G1 F1 H1 vx f1 r1 q)⟩⟩
theorem de_not (hK : X.K = B.K) (ha : PE X a (lift B ta)) : PE X (.UnaryOp .Not a pos) (lift B (dNot ta)) :=
  pe_imp (pe_notT ha) fun σ H Q ⟨G, F, env, τ, Qd, s, t, k⟩ => ⟨G, F, env, τ, _, s, t, fun x τ1 G1 F1 H1 vx f1 r1 ⟨c, e, q⟩ => ⟨c, by rw [hK]; exact r1.truth f1.k.same e, k (.d (.bool (!c))) τ1 G1 F1 H1 _ f1 (Rp.bl (!c)) q⟩⟩
theorem de_if (hc : PT X c (liftT B tA)) (ha : PE X a (lift B ta)) (hb : PE X b (lift B tb)) : PE X (.IfExp c a b pos) (lift B (dIf tA ta tb)) :=
  pe_imp (pe_ifExp hc ha hb) fun σ H Q ⟨G, F, env, τ, Qd, s, t, k⟩ => ⟨G, F, env, τ, _, s, t, fun c τ1 G1 F1 H1 f1 q => by
    cases c with
    | true => exact iteT ⟨G1, F1, env, τ1, _, s.fin f1, q, fun y τ2 G2 F2 H2 v f2 r2 q2 => k y τ2 G2 F2 H2 v (f1.trans f2) (r2.back (dead f1.s.dom)) q2⟩
    | false => exact iteF ⟨G1, F1, env, τ1, _, s.fin f1, q, fun y τ2 G2 F2 H2 v f2 r2 q2 => k y τ2 G2 F2 H2 v (f1.trans f2) (r2.back (dead f1.s.dom)) q2⟩⟩
end

/-! ### ints -/
def gI (C : Int → Int → Prop) (f : Int → Int → D) (x y : SV) (Q : SV → Prop) : Prop := ∃ i j, x = .d (.int i) ∧ y = .d (.int j) ∧ C i j ∧ Q (.d (f i j))
def noC (_ _ : Int) : Prop := True
section
variable {X : Cx} {B : Bk}
theorem od_I {C : Int → Int → Prop} {f : Int → Int → Int} : OpD B (rI C fun i j => .int (f i j)) (gI C fun i j => .int (f i j)) := fun x y vx vy Ha Hb G F H τ Qv Q k rx ry ⟨i, j, e1, e2, hc, q⟩ fin => by
  subst e1 e2
  exact ⟨i, j, rint rx, rint ry, hc, fin.d k (Rp.int _) q⟩
theorem od_I0 {f : Int → Int → Int} : OpD B (rI0 fun i j => .int (f i j)) (gI noC fun i j => .int (f i j)) := fun x y vx vy Ha Hb G F H τ Qv Q k rx ry ⟨i, j, e1, e2, hc, q⟩ fin => by
  subst e1 e2
  exact ⟨i, j, rint rx, rint ry, fin.d k (Rp.int _) q⟩
theorem od_B0 {f : Int → Int → Bool} : OpD B (rI0 fun i j => .bl (f i j)) (gI noC fun i j => .bool (f i j)) := fun x y vx vy Ha Hb G F H τ Qv Q k rx ry ⟨i, j, e1, e2, hc, q⟩ fin => by
  subst e1 e2
  exact ⟨i, j, rint rx, rint ry, fin.d k (Rp.bl _) q⟩
end

/-! ### + -/
section
variable {X : Cx} {B : Bk}
/-- list + list, of any lists that are read -/
def rCatL (K : PySem.W.Frag) : R2 := fun x y H Q => ∃ l b xs zs, x = .ref l ∧ y = .ref b ∧ SqP K H l xs ∧ SqP K H b zs ∧ xs.length + zs.length ≤ sizeLine ∧ ∀ p, H p = none → Q (.ref p) (upd H p (.lst (xs ++ zs)))
theorem SqP.isL {pins : List (Addr × Obj)} {σ : L2.St} {H : Hp} {s : Shared} {a : Addr} {xs : List V} (I : Inv X pins σ H s) (h : SqP X.K H a xs) :
    ∃ (its : List Value) (n : Nat), Vals xs its ∧ s.heap.get? a = some { cls := .type "list", data := .seq its.toArray n } ∧ xs.length ≤ sizeLine := by
  rcases h with h | ⟨its, h, hz, r⟩
  · obtain ⟨z, its, n, r, e⟩ := h.ok I.hok
    exact ⟨its, n, r, e, z⟩
  · exact ⟨its, 0, r, I.kIn a _ h, hz⟩
theorem op_catL : OpR X (binaryOp .Add) (rCatL X.K) := by
  intro pins s σ H x y v u Q I rx ry h
  obtain ⟨l, b, xs, zs, rfl, rfl, hH, hB, hz, q⟩ := h
  cases rx
  cases ry
  obtain ⟨its, n, r, e, _⟩ := hH.isL I
  obtain ⟨its2, n2, r2, e2, _⟩ := hB.isL I
  have hl := r.length
  have hl2 := r2.length
  refine PySem.P.add_list e e2 ?_ (by rw [List.size_toArray, List.size_toArray]; omega)
  have ea : its.toArray ++ its2.toArray = (its ++ its2).toArray := by simp
  rw [ea]
  exact ⟨.ref _, _, I.lnew (t' := s.toks) (r.append r2) (by rw [List.length_append]; omega), rfl, q _ I.fresh⟩
/-- + of ints, texts, tuples, lists -/
def rAddA (K : PySem.W.Frag) : R2 := fun x y H Q => (rI0 fun i j => .int (i + j)) x y H Q ∨ (∃ i j, x = .str i ∧ y = .str j ∧ i.length + j.length ≤ sizeLine ∧ Q (.str (i ++ j)) H) ∨ rCatA K x y H Q ∨ rCatL K x y H Q
theorem op_addA : OpR X (binaryOp .Add) (rAddA X.K) := op_add.or (op_add_str.or (op_catA.or op_catL))
def gAdd (x y : SV) (Q : SV → Prop) : Prop := match x, y with
  | .d (.int i), .d (.int j) => Q (.d (.int (i + j)))
  | .d (.str a), .d (.str b) => a.length + b.length ≤ sizeLine ∧ Q (.d (.str (a ++ b)))
  | .d (.tuple a), .d (.tuple b) => a.length + b.length ≤ sizeLine ∧ Q (.d (.tuple (a ++ b)))
  | x, y => ∃ xs ys, x.lst? = some xs ∧ y.lst? = some ys ∧ xs.length + ys.length ≤ sizeLine ∧ Q (.ol (xs ++ ys))
theorem od_add (hK : X.K = B.K) : OpD B (rAddA X.K) gAdd := fun x y vx vy Ha Hb G F H τ Qv Q k rx ry h fin => by
  rw [hK]
  unfold gAdd at h
  split at h
  · exact .inl ⟨_, _, rint rx, rint ry, fin.d k (Rp.int _) h⟩
  · exact .inr (.inl ⟨_, _, rstr rx, rstr ry, h.1, fin.d k (Rp.str _) h.2⟩)
  · obtain ⟨hz, h⟩ := h
    obtain ⟨p, vs, e1, s1, a1⟩ := rtup rx
    obtain ⟨q, ws, e2, s2, a2⟩ := rtup ry
    refine .inr (.inr (.inl ⟨p, q, vs, ws, e1, e2, same_seqT k.same s1, same_seqT k.same s2, by rw [a1.length, a2.length]; exact hz, fun z => ?_, fun z z2 => ?_, fun z z2 p' hp => ?_⟩))
    · subst z
      cases a1
      exact fin.d k (Rp.tup s2 a2) h
    · subst z2
      cases a2
      exact fin.d k (Rp.tup s1 (by rw [List.append_nil]; exact a1)) h
    · exact fin.tup k hp (a1.append a2) h
  · obtain ⟨xs, ys, e1, e2, hz, h⟩ := h
    obtain ⟨p, vs, e3, s1, a1⟩ := rx.sql k.same e1
    obtain ⟨q, ws, e4, s2, a2⟩ := ry.sql k.same e2
    refine .inr (.inr (.inr ⟨p, q, vs, ws, e3, e4, s1, s2, by rw [a1.length, a2.length]; exact hz, fun p' hp => ?_⟩))
    exact fin.ol k hp (a1.append a2) h
end
end Z

namespace Z
open PySem L2

/-! ### an own new list is said for ever -/
section
variable {B : Bk} {G G1 H H1 : Hp} {F F1 : Addr → Prop} {τ : B.T}
theorem Fin.frz {p : Addr} {xs : List D} (f : Fin B G F H τ G1 F1 H1) (o : Own B.K H G1 F1 H1 p xs) : ∃ G2, Fin B G F H τ G2 F1 H1 ∧ Same G1 G2 ∧ Rp B.K G2 (.ref p) (.list xs) := by
  obtain ⟨⟨vs, e, a⟩, g, nf, n⟩ := o
  have sm : Same G1 (upd G1 p (.lst vs)) := fun b u z => by rw [upd_ne (ne_of_none z g)]; exact z
  refine ⟨upd G1 p (.lst vs), ⟨⟨f.s.g.trans sm, f.s.h, fun b u z => ?_, f.s.fn, f.s.ff, f.s.dom⟩, f.k.frz e g nf⟩, sm, Rp.lst (.inl (.inl upd_same)) (a.mono sm)⟩
  by_cases q : b = p
  · subst q; exact .inr n
  · rw [upd_ne q] at z; exact f.s.gn b u z
end

/-! ### arguments -/
def SV.arg : SV → Option SV
  | .ol xs => some (.d (.list xs))
  | .no => none
  | .d x => some (.d x)
  | .vw xs => some (.vw xs)
  | .raw v => some (.raw v)
def SV.dat? : SV → Option D
  | .d x => some x
  | .ol xs => some (.list xs)
  | _ => none
theorem Res.arg {B : Bk} {G H G1 H1 : Hp} {F F1 : Addr → Prop} {τ : B.T} {v : V} (f : Fin B G F H τ G1 F1 H1) : ∀ {r a : SV}, Res B.K H G1 F1 H1 r v → r.arg = some a →
    ∃ G2, Fin B G F H τ G2 F1 H1 ∧ Same G1 G2 ∧ Res B.K H G2 F1 H1 a v
  | .d x, _, r, e => by cases e; exact ⟨_, f, Same.refl _, r⟩
  | .vw x, _, r, e => by cases e; exact ⟨_, f, Same.refl _, r⟩
  | .raw x, _, r, e => by cases e; exact ⟨_, f, Same.refl _, r⟩
  | .no, _, r, _ => r.elim
  | .ol xs, _, ⟨p, e1, o⟩, e => by
    cases e
    subst e1
    obtain ⟨G2, f2, sm, r⟩ := f.frz o
    exact ⟨G2, f2, sm, r⟩
theorem Res.dat {B : Bk} {G H G1 H1 : Hp} {F F1 : Addr → Prop} {τ : B.T} {v : V} (f : Fin B G F H τ G1 F1 H1) : ∀ {r : SV} {x : D}, Res B.K H G1 F1 H1 r v → r.dat? = some x →
    ∃ G2, Fin B G F H τ G2 F1 H1 ∧ Same G1 G2 ∧ Rp B.K G2 v x
  | .d x, _, r, e => by cases e; exact ⟨_, f, Same.refl _, r⟩
  | .vw x, _, r, e => by cases e
  | .raw x, _, r, e => by cases e
  | .no, _, r, _ => r.elim
  | .ol xs, _, ⟨p, e1, o⟩, e => by
    cases e
    subst e1
    exact f.frz o
theorem Res.same {K : PySem.W.Frag} {Ha G G' F H v} (sm : Same G G') (nf : ∀ p, ¬ F p → G p = none → H p ≠ none → Ha p = none → G' p = none) : ∀ {s : SV}, Res K Ha G F H s v → (∀ xs, s ≠ .ol xs) → Res K Ha G' F H s v
  | .no, h, _ => h.elim
  | .d _, r, _ => r.mono sm
  | .ol _, _, n => absurd rfl (n _)
  | .vw _, ⟨p, vs, e, e2, a, nf⟩, _ => ⟨p, vs, e, e2, a.mono sm, nf⟩
  | .raw _, h, _ => h
section
variable {X : Cx} {B : Bk} {e : Expr} {es : List Expr} {pos : Pos} {t : W B.T} {ta : WA B.T}
def dNil {T : Type} : WA T := fun _ τ Q => Q [] τ
def dCons {T : Type} (t : W T) (ta : WA T) : WA T := fun env τ Q => t env τ fun r τ1 => ∃ a, r.arg = some a ∧ ta env τ1 fun rs τ2 => Q (a :: rs) τ2
theorem da_nil : PA X [] (liftA B dNil) := pa_imp pa_nil fun σ H Q ⟨G, F, env, τ, Qd, s, t, k⟩ => k [] τ G F H [] s.refl .nil t
theorem da_cons (he : PE X e (lift B t)) (hr : PA X es (liftA B ta)) (hs : starEach (e :: es) X.env = (false, eval e X.env) :: starEach es X.env := by rfl) : PA X (e :: es) (liftA B (dCons t ta)) :=
  pa_imp (pa_cons he hr hs) fun σ H Q ⟨G, F, env, τ, Qd, s, t, k⟩ => ⟨G, F, env, τ, _, s, t, fun r τ1 G1 F1 H1 v f1 r1 ⟨a, e, q⟩ => by
    obtain ⟨G2, f2, sm, r2⟩ := r1.arg f1 e
    exact ⟨G2, F1, env, τ1, _, s.fin f2, q, fun rs τ2 G3 F3 H3 vs f3 r3 q3 => k (a :: rs) τ2 G3 F3 H3 (v :: vs) (f2.trans f3) (.cons (r2.step f3.s) (r3.back (dead f2.s.dom))) q3⟩⟩
def allD : List SV → Option (List D)
  | [] => some []
  | .d x :: r => (allD r).map (x :: ·)
  | _ :: _ => none
theorem ResAll.allD {K : PySem.W.Frag} {Ha G F H} : ∀ {rs : List SV} {vs : List V} {xs : List D}, ResAll K Ha G F H rs vs → Z.allD rs = some xs → RpAll K G vs xs
  | _, _, _, .nil, e => by cases e; exact .nil
  | .d x :: r, _, _, .cons h t, e => by
    cases q : Z.allD r with
    | none => rw [Z.allD, q] at e; cases e
    | some ys => rw [Z.allD, q] at e; cases e; exact .cons h (t.allD q)
  | .no :: r, _, _, .cons h t, e => by cases e
  | .ol _ :: r, _, _, .cons h t, e => by cases e
  | .vw _ :: r, _, _, .cons h t, e => by cases e
  | .raw _ :: r, _, _, .cons h t, e => by cases e
def dTup {T : Type} (ta : WA T) : W T := fun env τ Q => ta env τ fun rs τ1 => ∃ xs, allD rs = some xs ∧ xs.length ≤ sizeLine ∧ Q (.d (.tuple xs)) τ1
def dLst {T : Type} (ta : WA T) : W T := fun env τ Q => ta env τ fun rs τ1 => ∃ xs, allD rs = some xs ∧ xs.length ≤ sizeLine ∧ Q (.ol xs) τ1
theorem FinT.trans {G G1 H H1 : Hp} {F F1 : Addr → Prop} {τ1 : B.T} {Qv : SV → B.T → Prop} {Q : VK} (k : ∀ r τ' G' F' H' v, Fin B G F H τ' G' F' H' → Res B.K H G' F' H' r v → Qv r τ' → Q v H') (f : Fin B G F H τ1 G1 F1 H1) :
    FinT B G1 F1 H1 τ1 (fun r => Qv r τ1) Q := fun z G' F' H' v f' r q => k z τ1 G' F' H' v (f.trans f') (r.back (dead f.s.dom)) q
theorem de_tup {x1} (h : PA X es (liftA B ta)) : PE X (.Tuple es x1 pos) (lift B (dTup ta)) :=
  pe_imp (pe_tup h) fun σ H Q ⟨G, F, env, τ, Qd, s, t, k⟩ => ⟨G, F, env, τ, _, s, t, fun rs τ1 G1 F1 H1 vs f1 r1 ⟨xs, e, z, q⟩ => by
    have a := r1.allD e
    exact ⟨by rw [a.length]; exact z, fun p hp => (FinT.trans k f1).tup f1.k hp a q⟩⟩
theorem de_lst (h : PA X es (liftA B ta)) : PE X (.List es pos) (lift B (dLst ta)) :=
  pe_imp (pe_lst h) fun σ H Q ⟨G, F, env, τ, Qd, s, t, k⟩ => ⟨G, F, env, τ, _, s, t, fun rs τ1 G1 F1 H1 vs f1 r1 ⟨xs, e, z, q⟩ => by
    have a := r1.allD e
    exact ⟨by rw [a.length]; exact z, fun p hp => (FinT.trans k f1).ol f1.k hp a q⟩⟩
end

/-! ### calls of built-ins, by values -/
def CallD (B : Bk) (r : List V → Hp → VK → Prop) (g : List SV → (SV → Prop) → Prop) : Prop :=
  ∀ (rs : List SV) (vs : List V) (Ha G : Hp) (F : Addr → Prop) (H : Hp) (τ : B.T) (Qv : SV → Prop) (Q : VK), Ok B.S B.K τ G F H → ResAll B.K Ha G F H rs vs → g rs Qv → FinT B G F H τ Qv Q → r vs H Q
def dCB {T : Type} (g : List SV → (SV → Prop) → Prop) (ta : WA T) : W T := fun env τ Q => ta env τ fun rs τ1 => g rs fun z => Q z τ1
section
variable {X : Cx} {B : Bk} {e : Expr} {es : List Expr} {pos p : Pos} {t : W B.T} {ta : WA B.T} {r : List V → Hp → VK → Prop} {g : List SV → (SV → Prop) → Prop} {x : Str} {id T : String}
theorem lift_cb (hd : CallD B r g) : ∀ σ H Q, lift B (dCB g ta) σ H Q → tCB r (liftA B ta) σ H Q := fun σ H Q ⟨G, F, env, τ, Qd, s, t, k⟩ =>
  ⟨G, F, env, τ, _, s, t, fun rs τ1 G1 F1 H1 vs f1 r1 q1 => hd rs vs _ G1 F1 H1 τ1 _ _ f1.k r1 q1 (FinT.trans k f1)⟩
theorem de_callB (hc : CallR X (.builtin id) r) (hd : CallD B r g) (hg : Gl X x) (hm : X.mg x = none) (hv : bootBuiltins x = some (.builtin id)) (ha : PA X (e :: es) (liftA B ta)) (hn : x ≠ "__name__" := by decide) (hdb : (x == ("__debug__" : Str)) = false := by decide)
    (he : starEach (e :: es) X.env = (false, eval e X.env) :: starEach es X.env := by rfl) (hpl : (backTo pos (starEach es X.env)).any (·.1) = false := by rfl) : PE X (.Call (.Name x p) (e :: es) [] pos) (lift B (dCB g ta)) :=
  pe_imp (pe_callB hc hg hm hv ha hn hdb he hpl) (lift_cb hd)
theorem de_callTy (hc : CallR X (.type T) r) (hd : CallD B r g) (hg : Gl X x) (hm : X.mg x = none) (hv : bootBuiltins x = some (.type T)) (ha : PA X (e :: es) (liftA B ta)) (hn : x ≠ "__name__" := by decide) (hdb : (x == ("__debug__" : Str)) = false := by decide)
    (he : starEach (e :: es) X.env = (false, eval e X.env) :: starEach es X.env := by rfl) (hpl : (backTo pos (starEach es X.env)).any (·.1) = false := by rfl) : PE X (.Call (.Name x p) (e :: es) [] pos) (lift B (dCB g ta)) :=
  pe_imp (pe_callTy hc hg hm hv ha hn hdb he hpl) (lift_cb hd)
end

/-! ### statements -/
structure DEnds (T : Type) where
  nx : List SV → T → Prop
  rt : SV → T → Prop
  bk : List SV → T → Prop := fun _ _ => False
  ct : List SV → T → Prop := fun _ _ => False
abbrev WS (T : Type) := DEnds T → List SV → T → Prop
structure EndR (B : Bk) (G : Hp) (Dd : DEnds B.T) (D : Ends) : Prop where
  nx : ∀ G' F' σ' H' env' τ', Same G G' → StR B G' F' σ' H' env' τ' → Dd.nx env' τ' → D.nx σ' H'
  rt : ∀ r τ' G' F' H' v, Fin B B.G B.F B.H τ' G' F' H' → Res B.K B.H G' F' H' r v → Dd.rt r τ' → D.rt v H'
  bk : ∀ G' F' σ' H' env' τ', Same G G' → StR B G' F' σ' H' env' τ' → Dd.bk env' τ' → D.bk σ' H'
  ct : ∀ G' F' σ' H' env' τ', Same G G' → StR B G' F' σ' H' env' τ' → Dd.ct env' τ' → D.ct σ' H'
theorem EndR.mono {B : Bk} {G G1 : Hp} {Dd : DEnds B.T} {D : Ends} (E : EndR B G Dd D) (sm : Same G G1) : EndR B G1 Dd D :=
  ⟨fun G' F' σ' H' env' τ' s => E.nx G' F' σ' H' env' τ' (sm.trans s), E.rt, fun G' F' σ' H' env' τ' s => E.bk G' F' σ' H' env' τ' (sm.trans s), fun G' F' σ' H' env' τ' s => E.ct G' F' σ' H' env' τ' (sm.trans s)⟩
def liftS (B : Bk) (t : WS B.T) : TS := fun D σ H => ∃ G F env τ Dd, StR B G F σ H env τ ∧ t Dd env τ ∧ EndR B G Dd D

section
variable {X : Cx} {B : Bk} {st : Stmt} {rest : List Stmt} {e : Expr} {pos : Pos} {t u : WS B.T} {te : W B.T} {tc : WT B.T}
def dNext {T : Type} : WS T := fun D env τ => D.nx env τ
def dSeq {T : Type} (t u : WS T) : WS T := fun D env τ => t { D with nx := u D } env τ
theorem dss_nil : PSs X [] (liftS B dNext) := pss_imp pss_nil fun D σ H ⟨G, F, env, τ, Dd, s, h, E⟩ => E.nx G F σ H env τ (Same.refl G) s h
theorem dss_cons (h1 : PS X st (liftS B t)) (h2 : PSs X rest (liftS B u)) : PSs X (st :: rest) (liftS B (dSeq t u)) :=
  pss_imp (pss_cons h1 h2) fun D σ H ⟨G, F, env, τ, Dd, s, h, E⟩ => ⟨G, F, env, τ, { Dd with nx := u Dd }, s, h, ⟨fun G' F' σ' H' env' τ' sm s' h' => ⟨G', F', env', τ', Dd, s', h', E.mono sm⟩, E.rt, E.bk, E.ct⟩⟩
theorem dss_one (h1 : PS X st (liftS B t)) : PSs X [st] (liftS B t) := pss_one h1
theorem ds_pass : PS X (.Pass pos) (liftS B dNext) := ps_imp ps_pass fun D σ H ⟨G, F, env, τ, Dd, s, h, E⟩ => E.nx G F σ H env τ (Same.refl G) s h
def dBreak {T : Type} : WS T := fun D env τ => D.bk env τ
def dCont {T : Type} : WS T := fun D env τ => D.ct env τ
theorem ds_break : PS X (.Break pos) (liftS B dBreak) := ps_imp ps_break fun D σ H ⟨G, F, env, τ, Dd, s, h, E⟩ => E.bk G F σ H env τ (Same.refl G) s h
theorem ds_cont : PS X (.Continue pos) (liftS B dCont) := ps_imp ps_continue fun D σ H ⟨G, F, env, τ, Dd, s, h, E⟩ => E.ct G F σ H env τ (Same.refl G) s h
def dNever {T : Type} : WS T := fun _ _ _ => False
theorem ds_never : PS X st (liftS B dNever) := ps_imp ps_never fun D σ H ⟨G, F, env, τ, Dd, s, h, E⟩ => h
theorem dss_never {sts : List Stmt} : PSs X sts (liftS B dNever) := pss_imp pss_never fun D σ H ⟨G, F, env, τ, Dd, s, h, E⟩ => h
def dDrop {T : Type} (te : W T) : WS T := fun D env τ => te env τ fun _ τ1 => D.nx env τ1
theorem ds_expr (he : PE X e (lift B te)) (hs : swapsWith e none pos.line X.env = pure false := by rfl) : PS X (.Expr e pos) (liftS B (dDrop te)) :=
  ps_imp (ps_expr he hs) fun D σ H ⟨G, F, env, τ, Dd, s, h, E⟩ => ⟨G, F, env, τ, _, s, h, fun r τ1 G1 F1 H1 v f1 r1 q => E.nx G1 F1 σ H1 env τ1 f1.s.g (s.fin f1) q⟩
def SV.out : SV → Bool
  | .vw _ => false
  | .no => false
  | _ => true
def dRet {T : Type} (te : W T) : WS T := fun D env τ => te env τ fun r τ1 => r.out = true ∧ D.rt r τ1
theorem StR.out {B : Bk} {G F σ H env τ} (s : StR B G F σ H env τ) : Fin B B.G B.F B.H τ G F H := ⟨s.s, s.k⟩
theorem ds_ret (he : PE X e (lift B te)) : PS X (.Return (some e) pos) (liftS B (dRet te)) :=
  ps_imp (ps_ret he) fun D σ H ⟨G, F, env, τ, Dd, s, h, E⟩ => ⟨G, F, env, τ, _, s, h, fun r τ1 G1 F1 H1 v f1 r1 ⟨_, q⟩ => E.rt r τ1 G1 F1 H1 v (s.out.trans f1) (r1.back (dead s.s.dom)) q⟩
def dRetN {T : Type} : WS T := fun D _ τ => D.rt (.d .none) τ
theorem ds_retN : PS X (.Return none pos) (liftS B dRetN) := ps_imp ps_retN fun D σ H ⟨G, F, env, τ, Dd, s, h, E⟩ => E.rt (.d .none) τ G F H _ s.out Rp.non h
def dIfS {T : Type} (c : WT T) (t u : WS T) : WS T := fun D env τ => c env τ fun b τ1 => if b = true then t D env τ1 else u D env τ1
theorem ds_if {c : Expr} {a b : List Stmt} (hc : PT X c (liftT B tc)) (ha : PSs X a (liftS B t)) (hb : PSs X b (liftS B u)) : PS X (.If c a b pos) (liftS B (dIfS tc t u)) :=
  ps_imp (ps_if hc ha hb) fun D σ H ⟨G, F, env, τ, Dd, s, h, E⟩ => ⟨G, F, env, τ, _, s, h, fun b τ1 G1 F1 H1 f1 q => by
    cases b with
    | true => exact iteT ⟨G1, F1, env, τ1, Dd, s.fin f1, q, E.mono f1.s.g⟩
    | false => exact iteF ⟨G1, F1, env, τ1, Dd, s.fin f1, q, E.mono f1.s.g⟩⟩
end
end Z

namespace Z
open PySem L2

/-! ### a slot gets a value -/
section
variable {K : PySem.W.Frag} {H0 G H : Hp} {F : Addr → Prop} {σ : L2.St} {env : List SV}
theorem EnvR.set {i : Nat} {s : SV} {v : V} (E : EnvR K H0 G F H σ env) (hs : SvR K H0 G F H s (some v)) (hne : ∀ xs, s = .ol xs → ∀ (j : Nat) ys, env[j]? = some (.ol ys) → σ[j]?.join ≠ some v) :
    EnvR K H0 G F H (σ.set i (some v)) (env.set i s) := by
  refine ⟨by rw [List.length_set, List.length_set]; exact E.len, fun j s' e => ?_, fun j k xs ys hjk ej ek => ?_⟩
  · by_cases q : i = j
    · subst q
      by_cases hl : i < env.length
      · rw [List.getElem?_set_self hl] at e
        cases e
        rw [List.getElem?_set_self (by rw [E.len]; exact hl)]
        exact hs
      · rw [List.getElem?_eq_none (by rw [List.length_set]; omega)] at e
        cases e
    · rw [List.getElem?_set_ne q] at e ⊢
      exact E.at' j s' e
  · have get : ∀ (m : Nat) zs, (env.set i s)[m]? = some (.ol zs) → (m = i ∧ s = .ol zs ∧ (σ.set i (some v))[m]? = some (some v)) ∨ (m ≠ i ∧ env[m]? = some (.ol zs) ∧ (σ.set i (some v))[m]? = σ[m]?) := fun m zs em => by
      by_cases q : m = i
      · subst q
        by_cases hl : m < env.length
        · rw [List.getElem?_set_self hl] at em
          exact .inl ⟨rfl, Option.some.inj em, List.getElem?_set_self (by rw [E.len]; exact hl)⟩
        · rw [List.getElem?_eq_none (by rw [List.length_set]; omega)] at em
          cases em
      · rw [List.getElem?_set_ne (Ne.symm q)] at em ⊢
        exact .inr ⟨q, em, rfl⟩
    rcases get j xs ej with ⟨hj, hs1, hv1⟩ | ⟨hj, he1, hv1⟩
    · rcases get k ys ek with ⟨hk, _, _⟩ | ⟨hk, he2, hv2⟩
      · exact absurd (hj.trans hk.symm) hjk
      · rw [hv1, hv2]
        exact fun z => hne xs hs1 k ys he2 z.symm
    · rcases get k ys ek with ⟨hk, hs2, hv2⟩ | ⟨hk, he2, hv2⟩
      · rw [hv1, hv2]
        exact hne ys hs2 j xs he1
      · rw [hv1, hv2]
        exact E.sep j k xs ys hjk he1 he2
theorem EnvR.setD {i : Nat} {x : D} {v : V} (E : EnvR K H0 G F H σ env) (hs : Rp K G v x) : EnvR K H0 G F H (σ.set i (some v)) (env.set i (.d x)) := E.set ⟨v, rfl, hs⟩ fun _ z => by cases z
/-- what is known of a slot is forgotten -/
theorem EnvR.drop {i : Nat} (E : EnvR K H0 G F H σ env) : EnvR K H0 G F H σ (env.set i .no) := by
  have get : ∀ (m : Nat) s, (env.set i .no)[m]? = some s → s = .no ∨ env[m]? = some s := fun m s em => by
    by_cases q : m = i
    · subst q
      by_cases hl : m < env.length
      · rw [List.getElem?_set_self hl] at em
        exact .inl (Option.some.inj em).symm
      · rw [List.getElem?_eq_none (by rw [List.length_set]; omega)] at em
        cases em
    · rw [List.getElem?_set_ne (Ne.symm q)] at em
      exact .inr em
  refine ⟨by rw [List.length_set]; exact E.len, fun j s e => ?_, fun j k xs ys hjk ej ek => ?_⟩
  · rcases get j s e with z | z
    · subst z; trivial
    · exact E.at' j s z
  · rcases get j _ ej with z | z
    · cases z
    · rcases get k _ ek with z2 | z2
      · cases z2
      · exact E.sep j k xs ys hjk z z2
end
def SV.sto : SV → Option SV
  | .d x => some (.d x)
  | .ol xs => some (.ol xs)
  | .raw v => some (.raw v)
  | _ => none
section
variable {B : Bk} {G G1 H H1 : Hp} {F F1 : Addr → Prop} {σ : L2.St} {env : List SV} {τ τ1 : B.T}
theorem StR.sto {i : Nat} {v : V} (s : StR B G F σ H env τ) (f : Fin B G F H τ1 G1 F1 H1) : ∀ {r a : SV}, Res B.K H G1 F1 H1 r v → r.sto = some a → StR B G1 F1 (σ.set i (some v)) H1 (env.set i a) τ1
  | .d x, _, r, e => by
    cases e
    have s1 := s.fin f
    exact ⟨s1.s, s1.k, s1.e.setD r⟩
  | .raw x, _, r, e => by
    cases e
    have s1 := s.fin f
    have r : v = x := r
    subst r
    exact ⟨s1.s, s1.k, s1.e.set (s := .raw v) rfl fun _ z => by cases z⟩
  | .no, _, r, _ => r.elim
  | .vw _, _, _, e => by cases e
  | .ol xs, _, ⟨p, e1, o⟩, e => by
    cases e
    subst e1
    have s1 := s.fin f
    refine ⟨s1.s, s1.k, s1.e.set (s := .ol xs) ⟨p, rfl, ⟨o.at', o.g, o.f, dead s.s.dom p o.new⟩⟩ fun _ _ j ys ej z => ?_⟩
    obtain ⟨q, e2, w⟩ := s.e.at' j _ ej
    rw [e2] at z
    cases z
    obtain ⟨vs, e3, _⟩ := w.at'
    rw [o.new] at e3
    cases e3
end

/-! ### targets -/
inductive Tg where
  | nm (i : Nat)
  | tp (ts : List Tg)
mutual
def tgH (K : PySem.W.Frag) : Tg → TG
  | .nm i => gName i
  | .tp ts => gTup K ts.length (tgHs K ts)
def tgHs (K : PySem.W.Frag) : List Tg → TGs
  | [] => gNil
  | t :: ts => gCons (tgH K t) (tgHs K ts)
end
mutual
def tgE : Tg → D → List SV → Option (List SV)
  | .nm i, x, env => some (env.set i (.d x))
  | .tp ts, .tuple xs, env => tgEs ts xs env
  | .tp _, _, _ => none
def tgEs : List Tg → List D → List SV → Option (List SV)
  | [], [], env => some env
  | t :: ts, y :: ys, env => (tgE t y env).bind (tgEs ts ys)
  | _, _, _ => none
end
/-- what follows a target's store -/
def opt {α : Type} (o : Option α) (Q : α → Prop) : Prop := match o with
  | some a => Q a
  | none => False
theorem opt_some {α : Type} {a : α} {Q : α → Prop} : opt (some a) Q = Q a := rfl
theorem opt_of {α : Type} {o : Option α} {Q : α → Prop} (h : opt o Q) : ∃ a, o = some a ∧ Q a := by
  cases o with
  | none => exact h.elim
  | some a => exact ⟨a, rfl, h⟩
mutual
def Tg.all (p : Nat → Bool) : Tg → Bool
  | .nm i => p i
  | .tp ts => Tg.alls p ts
def Tg.alls (p : Nat → Bool) : List Tg → Bool
  | [] => true
  | t :: ts => t.all p && Tg.alls p ts
end
theorem tgEs_len : ∀ (ts : List Tg) (xs : List D) (env env' : List SV), tgEs ts xs env = some env' → xs.length = ts.length
  | [], [], _, _, _ => rfl
  | [], _ :: _, _, _, h => by simp [tgEs] at h
  | _ :: _, [], _, _, h => by simp [tgEs] at h
  | t :: ts, y :: ys, env, env', h => by
    rw [tgEs] at h
    cases e : tgE t y env with
    | none => rw [e] at h; cases h
    | some e1 =>
      rw [e] at h
      exact congrArg Nat.succ (tgEs_len ts ys e1 env' h)
theorem wipe_get (σ : L2.St) (k : Nat) : ∀ vs : List Nat, (wipe σ vs)[k]? = if k ∈ vs then (if k < σ.length then some none else none) else σ[k]?
  | [] => by simp [wipe]
  | v :: vs => by
    have ih := wipe_get σ k vs
    rw [wipe]
    by_cases q : v = k
    · subst q
      rw [if_pos (by simp)]
      by_cases hl : v < σ.length
      · rw [List.getElem?_set_self (by rw [wipe_length]; exact hl), if_pos hl]
      · rw [List.getElem?_eq_none (by rw [List.length_set, wipe_length]; omega), if_neg hl]
    · rw [List.getElem?_set_ne q, ih]
      have : (k ∈ v :: vs) ↔ k ∈ vs := by
        rw [List.mem_cons]
        exact ⟨fun h => h.resolve_left fun z => q z.symm, .inr⟩
      by_cases h : k ∈ vs
      · rw [if_pos h, if_pos (this.mpr h)]
      · rw [if_neg h, if_neg fun z => h (this.mp z)]
theorem wipe_set_in {v : V} {vs : List Nat} {σ : L2.St} {i : Nat} (h : i ∈ vs) : wipe (σ.set i (some v)) vs = wipe σ vs := by
  apply List.ext_getElem?
  intro k
  rw [wipe_get, wipe_get, List.length_set]
  by_cases q : k ∈ vs
  · rw [if_pos q, if_pos q]
  · rw [if_neg q, if_neg q, List.getElem?_set_ne]
    intro z
    subst z
    exact q h
section
variable {B : Bk} {G H : Hp} {F : Addr → Prop} {τ : B.T}
mutual
theorem tg_ok (vs : List Nat) : ∀ (t : Tg) {x : D} {v : V} {σ : L2.St} {env env' : List SV} {Q : L2.St → Hp → Prop}, StR B G F σ H env τ → Rp B.K G v x → tgE t x env = some env' →
    (∀ σ', StR B G F σ' H env' τ → (t.all (· ∈ vs) = true → wipe σ' vs = wipe σ vs) → Q σ' H) → tgH B.K t v σ H Q
  | .nm i, x, v, σ, env, env', Q, s, r, e, k => by
    rw [tgE] at e
    cases e
    rw [tgH]
    exact k _ ⟨s.s, s.k, s.e.setD r⟩ fun h => wipe_set_in (by simpa [Tg.all] using h)
  | .tp ts, .tuple xs, v, σ, env, env', Q, s, r, e, k => by
    rw [tgE] at e
    have hl := tgEs_len ts xs env env' e
    rw [tgH]
    cases r with
    | tup h a => exact ⟨_, _, rfl, same_seqT s.k.same h, by rw [a.length]; exact hl, tgs_ok vs ts s a e fun σ' s' w => k σ' s' fun h => w (by simpa [Tg.all] using h)⟩
  | .tp _, .none, _, _, _, _, _, _, _, e, _ => by rw [tgE] at e; cases e; all_goals (intro _ z; cases z)
  | .tp _, .bool _, _, _, _, _, _, _, _, e, _ => by rw [tgE] at e; cases e; all_goals (intro _ z; cases z)
  | .tp _, .int _, _, _, _, _, _, _, _, e, _ => by rw [tgE] at e; cases e; all_goals (intro _ z; cases z)
  | .tp _, .str _, _, _, _, _, _, _, _, e, _ => by rw [tgE] at e; cases e; all_goals (intro _ z; cases z)
  | .tp _, .list _, _, _, _, _, _, _, _, e, _ => by rw [tgE] at e; cases e; all_goals (intro _ z; cases z)
  | .tp _, .dict _, _, _, _, _, _, _, _, e, _ => by rw [tgE] at e; cases e; all_goals (intro _ z; cases z)
theorem tgs_ok (vs : List Nat) : ∀ (ts : List Tg) {xs : List D} {ws : List V} {σ : L2.St} {env env' : List SV} {Q : L2.St → Hp → Prop}, StR B G F σ H env τ → RpAll B.K G ws xs → tgEs ts xs env = some env' →
    (∀ σ', StR B G F σ' H env' τ → (Tg.alls (· ∈ vs) ts = true → wipe σ' vs = wipe σ vs) → Q σ' H) → tgHs B.K ts ws σ H Q
  | [], [], _, σ, env, env', Q, s, .nil, e, k => by
    rw [tgEs] at e
    cases e
    rw [tgHs]
    exact ⟨rfl, k σ s fun _ => rfl⟩
  | t :: ts, y :: ys, _, σ, env, env', Q, s, .cons r a, e, k => by
    rw [tgEs] at e
    cases e1 : tgE t y env with
    | none => rw [e1] at e; cases e
    | some env1 =>
      rw [e1] at e
      rw [tgHs]
      refine ⟨_, _, rfl, tg_ok vs t s r e1 fun σ1 s1 w1 => tgs_ok vs ts s1 a e fun σ2 s2 w2 => k σ2 s2 fun h => ?_⟩
      rw [Tg.alls, Bool.and_eq_true] at h
      exact (w2 h.2).trans (w1 h.1)
  | [], _ :: _, _, _, _, _, _, _, _, e, _ => by simp [tgEs] at e
  | _ :: _, [], _, _, _, _, _, _, _, e, _ => by simp [tgEs] at e
end
end
end Z

namespace Z
open PySem L2

section
variable {X : Cx} {B : Bk} {e tg : Expr} {pos : Pos} {te : W B.T} {t : Tg} {i : Nat} {x : Str}
/-! ### assignments -/
def dSet {T : Type} (i : Nat) (te : W T) : WS T := fun D env τ => te env τ fun r τ1 => opt r.sto fun a => D.nx (env.set i a) τ1
theorem lift_set {te' : TE} (h : ∀ σ H Q, lift B te σ H Q → te' σ H Q) : ∀ D σ H, liftS B (dSet i te) D σ H → tAsg te' (gName i) D σ H := fun D σ H ⟨G, F, env, τ, Dd, s, z, E⟩ =>
  h _ _ _ ⟨G, F, env, τ, _, s, z, fun r τ1 G1 F1 H1 v f1 r1 q => by
    obtain ⟨a, e, q⟩ := opt_of q
    exact E.nx G1 F1 _ H1 _ τ1 f1.s.g (s.sto f1 r1 e) q⟩
theorem ds_set {pos' : Pos} (hN : X.N.Nodup) (hi : X.N[i]? = some x) (hx : Loc X.env.scope x) (he : PE X e (lift B te)) (hs : swapsWith e (some (.Name x pos')) pos.line X.env = pure false := by rfl)
    (hf : X.fn x = true ∨ X.env.scope.names.lookup x = some .local := by first | exact .inl rfl | exact .inr rfl | assumption) : PS X (.Assign [.Name x pos'] e pos) (liftS B (dSet i te)) :=
  ps_imp (ps_set hN hi hx he hs hf) (lift_set fun _ _ _ h => h)
/-- target = e -/
def dAsg {T : Type} (t : Tg) (te : W T) : WS T := fun D env τ => te env τ fun r τ1 => opt r.dat? fun x => opt (tgE t x env) fun env' => D.nx env' τ1
theorem dg_nm {pos' : Pos} (hN : X.N.Nodup) (hi : X.N[i]? = some x) (hx : Loc X.env.scope x) (hf : X.fn x = true ∨ X.env.scope.names.lookup x = some .local := by first | exact .inl rfl | exact .inr rfl | assumption) : PG X (.Name x pos') (tgH B.K (.nm i)) := by
  rw [tgH]
  exact pg_name hN hi hx hf
theorem dg_nil : PGs X [] (tgHs B.K []) := by
  rw [tgHs]
  exact pgs_nil
theorem dg_cons {es : List Expr} {t : Tg} {ts : List Tg} (h1 : PG X e (tgH B.K t)) (h2 : PGs X es (tgHs B.K ts)) (hs : (assignEach (e :: es) X.env).map (·.2) = assign e X.env :: (assignEach es X.env).map (·.2) := by rfl) : PGs X (e :: es) (tgHs B.K (t :: ts)) := by
  rw [tgHs]
  exact pgs_cons h1 h2 hs
theorem dg_tp (hK : X.K = B.K) {es : List Expr} {k : Nat} {ts : List Tg} (hc : X.calm = true) (h : PGs X es (tgHs B.K ts)) (hn : (assignEach es X.env).length = ts.length := by rfl) (hst : (assignEach es X.env).findIdx? (·.1) = none := by rfl) :
    PG X (.Tuple es k pos) (tgH B.K (.tp ts)) := by
  rw [tgH, ← hK]
  rw [← hK] at h
  exact pg_tup hc h hn hst
theorem ds_asg (he : PE X e (lift B te)) (hg : PG X tg (tgH B.K t)) (hs : swapsWithSole [tg] e pos.line X.env = pure false := by rfl) (hw : swappedStores [tg] e X.env = pure none := by rfl)
    (h1 : (assignEach [tg] X.env).map (·.2) = [assign tg X.env] := by rfl) : PS X (.Assign [tg] e pos) (liftS B (dAsg t te)) :=
  ps_imp (ps_asg he hg hs hw h1) fun D σ H ⟨G, F, env, τ, Dd, s, z, E⟩ => ⟨G, F, env, τ, _, s, z, fun r τ1 G1 F1 H1 v f1 r1 q => by
    obtain ⟨y, e, q⟩ := opt_of q
    obtain ⟨env', e2, q⟩ := opt_of q
    obtain ⟨G2, f2, sm, r2⟩ := r1.dat f1 e
    exact tg_ok [] t (s.fin f2) r2 e2 fun σ' s' _ => E.nx G2 F1 σ' H1 env' τ1 f2.s.g s' q⟩
/-- a, b = x, y -/
def dPar {T : Type} (i j : Nat) (ta : WA T) : WS T := fun D env τ => ta env τ fun rs τ1 => match rs with
  | [.d x, .d y] => D.nx ((env.set i (.d x)).set j (.d y)) τ1
  | _ => False
theorem ds_par {j : Nat} {y : Str} {a b : Expr} {ta : WA B.T} {px py pt : Pos} {kt k2 pt2} (hc : X.calm = true) (hN : X.N.Nodup) (hi : X.N[i]? = some x) (hj : X.N[j]? = some y) (hij : i ≠ j)
    (hx : X.env.scope.names.lookup x = some .local) (hy : X.env.scope.names.lookup y = some .local) (ha : PA X [a, b] (liftA B ta))
    (hw : swappedStores [.Tuple [.Name x px, .Name y py] kt pt] (.Tuple [a, b] k2 pt2) X.env = pure (some [x, y]))
    (hs : swapsWithSole [.Tuple [.Name x px, .Name y py] kt pt] (.Tuple [a, b] k2 pt2) pos.line X.env = pure false := by rfl) :
    PS X (.Assign [.Tuple [.Name x px, .Name y py] kt pt] (.Tuple [a, b] k2 pt2) pos) (liftS B (dPar i j ta)) :=
  ps_imp (ps_par hc hN hi hj hij hx hy ha hw hs) fun D σ H ⟨G, F, env, τ, Dd, s, z, E⟩ => ⟨G, F, env, τ, _, s, z, fun rs τ1 G1 F1 H1 vs f1 r1 q => by
    match rs, vs, r1, q with
    | [.d x, .d y], [v, w], .cons r2 (.cons r3 .nil), q =>
      have s1 := s.fin f1
      exact ⟨v, w, rfl, E.nx G1 F1 _ H1 _ τ1 f1.s.g ⟨s1.s, s1.k, (s1.e.setD r2).setD r3⟩ q⟩⟩

/-! ### what is walked -/
/-- J walks xs from a state whose lasting part holds G on -/
structure ItR (B : Bk) (J : It) (G : Hp) (xs : List D) : Prop where
  go : ∀ (G1 H1 : Hp) (F1 : Addr → Prop) (τ1 : B.T), Same G G1 → Ok B.S B.K τ1 G1 F1 H1 → ∀ (i : Nat) (x : D), xs[i]? = some x → J.go i H1 ∧ ∀ v H2, J.yld i H1 v H2 → ∃ G2, Fin B G1 F1 H1 τ1 G2 F1 H2 ∧ Rp B.K G2 v x
  stop : ∀ (G1 H1 : Hp) (F1 : Addr → Prop) (τ1 : B.T), Same G G1 → Ok B.S B.K τ1 G1 F1 H1 → ∀ (i : Nat), xs.length ≤ i → J.stop i H1
abbrev WI (T : Type) := List SV → T → (List D → T → Prop) → Prop
def liftI (B : Bk) (ti : WI B.T) : TI := fun σ H R => ∃ G F env τ Qd, StR B G F σ H env τ ∧ ti env τ Qd ∧
  ∀ xs τ' G' F' H' J, Fin B G F H τ' G' F' H' → ItR B J G' xs → Qd xs τ' → R J H'
theorem pi_imp {iter : Expr} {w w' : TI} (h : PI X tg iter w) (i : ∀ σ H R, w' σ H R → w σ H R) : PI X tg iter w' := ⟨fun pins s σ H R I z => h.run pins s σ H R I (i σ H R z)⟩

/-- a list, a tuple or a text -/
def iSeq (K : PySem.W.Frag) (tl : TE) : TI := fun σ H R => tl σ H fun x H1 => (∃ a, x = .ref a ∧ (∃ xs, SqL K H1 a xs) ∧ R (Itl K a) H1) ∨ (∃ a, x = .ref a ∧ (∃ xs, SqT K H1 a xs) ∧ R (Itt K a) H1) ∨ ∃ z, x = .str z ∧ R (Its z) H1
theorem pi_seq {l : Expr} {tl : TE} (hl : PE X l tl) : PI X tg l (iSeq X.K tl) := by
  refine ⟨fun pins s σ H R I h => thn (hl.run pins s σ H _ I h) fun v s1 z => ?_⟩
  obtain ⟨x, H1, I1, r1, q1⟩ := z
  rcases q1 with ⟨a, ea, ⟨xs, hq⟩, q⟩ | ⟨a, ea, ⟨xs, hq⟩, q⟩ | ⟨w, ew, q⟩
  · subst ea; cases r1
    obtain ⟨its, rv, p, hz⟩ := I1.list hq
    exact wpAny_pyIter_list p.isList (pi_one (tk := s1.toks) I1 _ (turn_list a _) ⟨_, Heap.get?_push_size _ rfl, rfl, rfl⟩ q)
  · subst ea; cases r1
    obtain ⟨its, rv, p, hz⟩ := I1.tuple hq
    exact wpAny_pyIter_tuple (show s1.heap.IsTuple a its.toArray from p) (pi_one (tk := s1.toks) I1 _ (turn_tuple a _) ⟨_, Heap.get?_push_size _ rfl, rfl, rfl⟩ q)
  · subst ew
    obtain ⟨t, rfl⟩ := r1
    cases ha : w.cps.all (· < 128)
    · exact wpAny_pyIter_wide ha (pi_one (tk := s1.toks) I1 _ (turn_str _ w t "str_iterator" (.inr rfl)) ⟨_, Heap.get?_push_size _ rfl, rfl, rfl⟩ q)
    · exact wpAny_pyIter_ascii ha (pi_one (tk := s1.toks) I1 _ (turn_str _ w t "str_ascii_iterator" (.inl rfl)) ⟨_, Heap.get?_push_size _ rfl, rfl, rfl⟩ q)
/-- one sign as a text -/
def sg (c : Nat) : D := .str ⟨#[c]⟩
def SV.seq? : SV → Option (List D)
  | .d (.list xs) => some xs
  | .d (.tuple xs) => some xs
  | .d (.str z) => some (z.cps.toList.map sg)
  | .ol xs => some xs
  | _ => none
def dSeqI {T : Type} (te : W T) : WI T := fun env τ Q => te env τ fun r τ1 => opt r.seq? fun xs => Q xs τ1
theorem itr_l {G : Hp} {a : Addr} {vs : List V} {xs : List D} (h : SqP B.K G a vs) (r : RpAll B.K G vs xs) : ItR B (Itl B.K a) G xs where
  go := fun G1 H1 F1 τ1 sm k i x e => by
    obtain ⟨v, ev, rv⟩ := r.getD e
    refine ⟨⟨vs, v, (same_sqp (sm.trans k.same) h).sql, ev⟩, fun w H2 ⟨e2, y⟩ => ?_⟩
    subst e2
    have := y vs ((same_sqp (sm.trans k.same) h).sql)
    rw [ev] at this
    cases this
    exact ⟨G1, .rfl' k, rv.mono sm⟩
  stop := fun G1 H1 F1 τ1 sm k i hi => ⟨vs, (same_sqp (sm.trans k.same) h).sql, by rw [r.length]; exact hi⟩
theorem itr_t {G : Hp} {a : Addr} {vs : List V} {xs : List D} (h : SqT B.K G a vs) (r : RpAll B.K G vs xs) : ItR B (Itt B.K a) G xs where
  go := fun G1 H1 F1 τ1 sm k i x e => by
    obtain ⟨v, ev, rv⟩ := r.getD e
    refine ⟨⟨vs, v, same_seqT (sm.trans k.same) h, ev⟩, fun w H2 ⟨e2, y⟩ => ?_⟩
    subst e2
    have := y vs (same_seqT (sm.trans k.same) h)
    rw [ev] at this
    cases this
    exact ⟨G1, .rfl' k, rv.mono sm⟩
  stop := fun G1 H1 F1 τ1 sm k i hi => ⟨vs, same_seqT (sm.trans k.same) h, by rw [r.length]; exact hi⟩
theorem itr_s {G : Hp} {z : Str} : ItR B (Its z) G (z.cps.toList.map sg) where
  go := fun G1 H1 F1 τ1 sm k i x e => by
    rw [List.getElem?_map] at e
    cases q : z.cps.toList[i]? with
    | none => rw [q] at e; cases e
    | some c =>
      rw [q] at e
      cases e
      have q' : z.cps[i]? = some c := by simpa using q
      refine ⟨(Array.getElem?_eq_some_iff.mp q').1, fun w H2 ⟨e2, c', e3, e4⟩ => ?_⟩
      subst e2 e4
      rw [q'] at e3
      cases e3
      exact ⟨G1, .rfl' k, .str _⟩
  stop := fun G1 H1 F1 τ1 sm k i hi => by
    rw [List.length_map, Array.length_toList] at hi
    exact hi
theorem di_seq (hK : X.K = B.K) {l : Expr} (hl : PE X l (lift B te)) : PI X tg l (liftI B (dSeqI te)) :=
  pi_imp (pi_seq hl) fun σ H R ⟨G, F, env, τ, Qd, s, t, k⟩ => ⟨G, F, env, τ, _, s, t, fun r τ1 G1 F1 H1 v f1 r1 q => by
    obtain ⟨xs, e, q⟩ := opt_of q
    rw [hK]
    match r, r1, e with
    | .d (.list ys), .lst h a, e => cases e; exact .inl ⟨_, rfl, ⟨_, (same_sqp f1.k.same h).sql⟩, k _ _ _ _ _ _ f1 (itr_l h a) q⟩
    | .d (.tuple ys), .tup h a, e => cases e; exact .inr (.inl ⟨_, rfl, ⟨_, same_seqT f1.k.same h⟩, k _ _ _ _ _ _ f1 (itr_t h a) q⟩)
    | .d (.str z), .str _, e => cases e; exact .inr (.inr ⟨z, rfl, k _ _ _ _ _ _ f1 itr_s q⟩)
    | .ol ys, ⟨p, e1, o⟩, e =>
      cases e
      subst e1
      obtain ⟨G2, f2, sm, r2⟩ := f1.frz o
      cases r2 with
      | lst h a => exact .inl ⟨_, rfl, ⟨_, (same_sqp f2.k.same h).sql⟩, k _ _ _ _ _ _ f2 (itr_l h a) q⟩⟩
/-- lo, lo + 1, .. -/
def rgI (lo : Int) (n : Nat) : List D := (List.range n).map fun i => .int (lo + (i : Nat))
theorem itr_r {G : Hp} {lo : Int} {n : Nat} : ItR B (Itr lo n) G (rgI lo n) where
  go := fun G1 H1 F1 τ1 sm k i x e => by
    unfold rgI at e
    rw [List.getElem?_map] at e
    by_cases hi : i < n
    · rw [List.getElem?_range hi] at e
      cases e
      refine ⟨hi, fun w H2 ⟨e2, e3⟩ => ?_⟩
      subst e2 e3
      exact ⟨G1, .rfl' k, .int _⟩
    · rw [List.getElem?_eq_none (by rw [List.length_range]; omega)] at e
      cases e
  stop := fun G1 H1 F1 τ1 sm k i hi => by
    unfold rgI at hi
    rw [List.length_map, List.length_range] at hi
    exact hi
def dRng1 {T : Type} (ta : WA T) : WI T := fun env τ Q => ta env τ fun rs τ1 => ∃ j : Int, rs = [.d (.int j)] ∧ (-(2 ^ 62) ≤ j ∧ j < 2 ^ 62) ∧ Q (rgI 0 j.toNat) τ1
def dRng2 {T : Type} (ta : WA T) : WI T := fun env τ Q => ta env τ fun rs τ1 => ∃ i j : Int, rs = [.d (.int i), .d (.int j)] ∧ (-(2 ^ 62) ≤ i ∧ i < 2 ^ 62 ∧ -(2 ^ 62) ≤ j ∧ j < 2 ^ 62) ∧ Q (rgI i (j - i).toNat) τ1
theorem di_range1 {a : Expr} {ta : WA B.T} {p : Pos} (hg : Gl X "range") (hm : X.mg "range" = none) (ha : PA X [a] (liftA B ta)) (hs : starEach [a] X.env = [(false, eval a X.env)] := by rfl) : PI X tg (.Call (.Name "range" p) [a] [] pos) (liftI B (dRng1 ta)) :=
  pi_imp (pi_range1 hg hm ha hs) fun σ H R ⟨G, F, env, τ, Qd, s, t, k⟩ => ⟨G, F, env, τ, _, s, t, fun rs τ1 G1 F1 H1 vs f1 r1 ⟨j, e, h, q⟩ => by
    subst e
    cases r1 with
    | cons r r' =>
      cases r'
      exact ⟨j, by rw [rint r], h.1, h.2, k _ _ _ _ _ _ f1 itr_r q⟩⟩
theorem di_range2 {a b : Expr} {ta : WA B.T} {p : Pos} (hg : Gl X "range") (hm : X.mg "range" = none) (ha : PA X [a, b] (liftA B ta)) (hs : starEach [a, b] X.env = [(false, eval a X.env), (false, eval b X.env)] := by rfl) (hs2 : starEach [b] X.env = [(false, eval b X.env)] := by rfl) :
    PI X tg (.Call (.Name "range" p) [a, b] [] pos) (liftI B (dRng2 ta)) :=
  pi_imp (pi_range2 hg hm ha hs hs2) fun σ H R ⟨G, F, env, τ, Qd, s, t, k⟩ => ⟨G, F, env, τ, _, s, t, fun rs τ1 G1 F1 H1 vs f1 r1 ⟨i, j, e, h, q⟩ => by
    subst e
    cases r1 with
    | cons r r' =>
      cases r' with
      | cons r2 r3 =>
        cases r3
        exact ⟨i, j, by rw [rint r, rint r2], h, k _ _ _ _ _ _ f1 itr_r q⟩⟩
end
end Z

namespace Z
open PySem L2

section
variable {X : Cx} {B : Bk} {e tg iter : Expr} {pos : Pos} {te : W B.T} {t : Tg} {i : Nat} {x : Str} {body : List Stmt} {tb : WS B.T} {ti : WI B.T} {tc : WT B.T}
/-! ### for -/
def forW {T : Type} (t : Tg) (tb : WS T) (D : DEnds T) : List Z.D → List SV → T → Prop
  | [], env, τ => D.nx env τ
  | x :: xs, env, τ => opt (tgE t x env) fun env' => tb { D with nx := forW t tb D xs, ct := forW t tb D xs, bk := D.nx } env' τ
def dFor {T : Type} (ti : WI T) (t : Tg) (tb : WS T) : WS T := fun D env τ => ti env τ fun xs τ1 => forW t tb D xs env τ1
theorem ds_for (hp : PassesOwn (model X.prog X.w) X.A X.env X.xe) (hc : X.calm = true) (hi : PI X tg iter (liftI B ti)) (hg : PG X tg (tgH B.K t)) (hb : PSs X body (liftS B tb))
    (hs : ∀ x, foldedSetIterable iter X.env x = pure x := by intro _; rfl) : PS X (.For tg iter body [] pos) (liftS B (dFor ti t tb)) :=
  ps_imp (ps_for hp hc hi hg hb hs) fun D σ H ⟨G, F, env, τ, Dd, s, h, E⟩ => ⟨G, F, env, τ, _, s, h, fun xs τ1 G1 F1 H1 J f1 it q => by
    refine ⟨fun i m σ H => m = xs.length - i ∧ i ≤ xs.length ∧ ∃ G2 F2 env2 τ2, StR B G2 F2 σ H env2 τ2 ∧ Same G1 G2 ∧ forW t tb Dd (xs.drop i) env2 τ2, ⟨_, rfl, Nat.zero_le _, G1, F1, env, τ1, s.fin f1, Same.refl _, q⟩, ?_⟩
    rintro i m σ2 H2 ⟨rfl, hi, G2, F2, env2, τ2, s2, sm, q2⟩
    by_cases hl : i < xs.length
    · have hx : xs[i]? = some xs[i] := List.getElem?_eq_getElem hl
      obtain ⟨g, y⟩ := it.go G2 H2 F2 τ2 sm s2.k i _ hx
      rw [List.drop_eq_getElem_cons hl, forW] at q2
      obtain ⟨env3, e3, q3⟩ := opt_of q2
      refine .inr ⟨g, fun σ' H' => ∃ G4 F4 env4 τ4, StR B G4 F4 σ' H' env4 τ4 ∧ Same G1 G4 ∧ forW t tb Dd (xs.drop (i + 1)) env4 τ4, fun σ' H' n => ⟨_, by omega, rfl, by omega, n⟩, fun v H3 yl => ?_⟩
      obtain ⟨G3, f3, r3⟩ := y v H3 yl
      refine tg_ok [] t (s2.fin f3) r3 e3 fun σ' s' _ => ⟨G3, F2, env3, τ2, _, s', q3, ⟨?_, E.rt, ?_, ?_⟩⟩
      · exact fun G' F' σ' H' env' τ' smx sx qx => ⟨G', F', env', τ', sx, sm.trans (f3.s.g.trans smx), qx⟩
      · exact fun G' F' σ' H' env' τ' smx sx qx => E.nx G' F' σ' H' env' τ' (f1.s.g.trans (sm.trans (f3.s.g.trans smx))) sx qx
      · exact fun G' F' σ' H' env' τ' smx sx qx => ⟨G', F', env', τ', sx, sm.trans (f3.s.g.trans smx), qx⟩
    · rw [List.drop_eq_nil_of_le (by omega), forW] at q2
      exact .inl ⟨it.stop G2 H2 F2 τ2 sm s2.k i (by omega), E.nx G2 F2 σ2 H2 env2 τ2 (f1.s.g.trans sm) s2 q2⟩⟩
/-! ### while -/
def whileW {T : Type} (c : WT T) (tb : WS T) (D : DEnds T) : Nat → List SV → T → Prop
  | 0, _, _ => False
  | n + 1, env, τ => c env τ fun k τ1 => if k = true then tb { D with nx := whileW c tb D n, ct := whileW c tb D n, bk := D.nx } env τ1 else D.nx env τ1
def dWhile {T : Type} (c : WT T) (tb : WS T) : WS T := fun D env τ => ∃ n, whileW c tb D n env τ
theorem ds_while {c : Expr} (hp : PassesOwn (model X.prog X.w) X.A X.env X.xe) (hc : PT X c (liftT B tc)) (hb : PSs X body (liftS B tb)) : PS X (.While c body [] pos) (liftS B (dWhile tc tb)) :=
  ps_imp (ps_while hp hc hb) fun D σ H ⟨G, F, env, τ, Dd, s, ⟨n, h⟩, E⟩ => by
    refine ⟨fun m σ H => ∃ G2 F2 env2 τ2, StR B G2 F2 σ H env2 τ2 ∧ Same G G2 ∧ whileW tc tb Dd m env2 τ2, ⟨n, G, F, env, τ, s, Same.refl _, h⟩, ?_⟩
    rintro m σ2 H2 ⟨G2, F2, env2, τ2, s2, sm, q2⟩
    cases m with
    | zero => exact q2.elim
    | succ m =>
      refine ⟨G2, F2, env2, τ2, _, s2, q2, fun b τ3 G3 F3 H3 f3 q3 => ?_⟩
      cases b with
      | false => exact iteF (E.nx G3 F3 σ2 H3 env2 τ3 (sm.trans f3.s.g) (s2.fin f3) q3)
      | true =>
        refine iteT ⟨fun σ' H' => ∃ G4 F4 env4 τ4, StR B G4 F4 σ' H' env4 τ4 ∧ Same G G4 ∧ whileW tc tb Dd m env4 τ4, fun σ' H' z => ⟨m, Nat.lt_succ_self m, z⟩, G3, F3, env2, τ3, _, s2.fin f3, q3, ⟨?_, E.rt, ?_, ?_⟩⟩
        · exact fun G' F' σ' H' env' τ' smx sx qx => ⟨G', F', env', τ', sx, sm.trans (f3.s.g.trans smx), qx⟩
        · exact fun G' F' σ' H' env' τ' smx sx qx => E.nx G' F' σ' H' env' τ' (sm.trans (f3.s.g.trans smx)) sx qx
        · exact fun G' F' σ' H' env' τ' smx sx qx => ⟨G', F', env', τ', sx, sm.trans (f3.s.g.trans smx), qx⟩

/-! ### comprehensions -/
def wipeE (env : List SV) : List Nat → List SV
  | [] => env
  | v :: vs => (wipeE env vs).set v .no
theorem EnvR.wipe {K : PySem.W.Frag} {H0 G H : Hp} {F : Addr → Prop} {σ : L2.St} {env : List SV} (E : EnvR K H0 G F H σ env) : ∀ vs : List Nat, EnvR K H0 G F H (L2.wipe σ vs) (wipeE env vs)
  | [] => E
  | v :: vs => by
    have ih := (E.wipe vs).drop (i := v)
    rw [L2.wipe, wipeE]
    refine ⟨by rw [List.length_set]; exact ih.len, fun j s e => ?_, fun j k xs ys hjk ej ek => ?_⟩
    · have a := ih.at' j s e
      by_cases q : v = j
      · subst q
        by_cases hl : v < (wipeE env vs).length
        · rw [List.getElem?_set_self hl] at e
          cases e
          trivial
        · rw [List.getElem?_eq_none (by rw [List.length_set]; omega)] at e
          cases e
      · rw [List.getElem?_set_ne q]
        exact a
    · have no : ∀ (m : Nat) zs, ((wipeE env vs).set v .no)[m]? = some (.ol zs) → v ≠ m := fun m zs em q => by
        subst q
        by_cases hl : v < (wipeE env vs).length
        · rw [List.getElem?_set_self hl] at em
          cases em
        · rw [List.getElem?_eq_none (by rw [List.length_set]; omega)] at em
          cases em
      rw [List.getElem?_set_ne (no j xs ej), List.getElem?_set_ne (no k ys ek)]
      exact ih.sep j k xs ys hjk ej ek
def lcW {T : Type} (t : Tg) (tt : WT T) (te : W T) (Q : List D → T → Prop) : List D → List D → List SV → T → Prop
  | [], acc, _, τ => Q acc τ
  | x :: xs, acc, env, τ => opt (tgE t x env) fun env' => tt env' τ fun b τ1 => if b = true then te env' τ1 fun r τ2 => opt r.dat? fun y => acc.length < sizeLine ∧ lcW t tt te Q xs (acc ++ [y]) env τ2 else lcW t tt te Q xs acc env τ1
def dLc {T : Type} (ti : WI T) (t : Tg) (tt : WT T) (te : W T) (vs : List Nat) : W T := fun env τ Q => ti env τ fun xs τ1 => lcW t tt te (fun acc τ2 => Q (.ol acc) τ2) xs [] (wipeE env vs) τ1
theorem wipe_idem (σ : L2.St) (vs : List Nat) : wipe (wipe σ vs) vs = wipe σ vs := by
  apply List.ext_getElem?
  intro k
  rw [wipe_get, wipe_get, wipe_length]
  by_cases q : k ∈ vs
  · rw [if_pos q, if_pos q]
  · rw [if_neg q, if_neg q]
/-- an own list, newer than H, is changed -/
theorem Fin.mut {G G2 H H' : Hp} {F F2 : Addr → Prop} {τ : B.T} {p : Addr} {acc acc' : List D} {ws : List V} (f : Fin B G F H τ G2 F2 H') (o : Own B.K H G2 F2 H' p acc) (a : RpAll B.K G2 ws acc') :
    Fin B G F H τ G2 F2 (upd H' p (.lst ws)) ∧ Own B.K H G2 F2 (upd H' p (.lst ws)) p acc' := by
  refine ⟨⟨⟨f.s.g, fun b u nf e => ?_, f.s.gn, f.s.fn, f.s.ff, fun b e => ?_⟩, f.k.mut o.g o.f⟩, ⟨⟨ws, upd_same, a⟩, o.g, o.f, o.new⟩⟩
  · rw [upd_ne (ne_of_none e o.new)]
    exact f.s.h b u nf e
  · by_cases q : b = p
    · subst q
      exact absurd o.new e
    · rw [upd_ne q]
      exact f.s.dom b e
theorem lift_lc {tt : WT B.T} {vs : List Nat} (ht : t.all (· ∈ vs) = true) : ∀ σ H Q, lift B (dLc ti t tt te vs) σ H Q → tLc (liftI B ti) (tgH B.K t) (liftT B tt) (lift B te) vs σ H Q := fun σ H Q ⟨G, F, env, τ, Qd, s, h, k⟩ => by
  refine ⟨G, F, env, τ, _, s, h, fun xs τ1 G1 F1 H1 J f1 it q D hD => ?_⟩
  let P : Nat → Hp → Prop := fun i H' => ∃ G2 F2 τ2 acc, Fin B G1 F1 H1 τ2 G2 F2 H' ∧ Own B.K H1 G2 F2 H' D acc ∧ lcW t tt te (fun acc τ2 => Qd (.ol acc) τ2) (xs.drop i) acc (wipeE env vs) τ2
  refine ⟨fun i m H' => m = xs.length - i ∧ i ≤ xs.length ∧ P i H', ⟨_, rfl, Nat.zero_le _, ?_⟩, ?_⟩
  · obtain ⟨f2, p, e, o⟩ := new_lst (p := D) f1.k hD (.nil : RpAll B.K G1 [] [])
    cases e
    exact ⟨G1, F1, τ1, [], f2, o, q⟩
  rintro i m H2 ⟨rfl, hi, G2, F2, τ2, acc, f2, o2, q2⟩
  by_cases hl : i < xs.length
  · have hx : xs[i]? = some xs[i] := List.getElem?_eq_getElem hl
    obtain ⟨g, y⟩ := it.go G2 H2 F2 τ2 f2.s.g f2.k i _ hx
    rw [List.drop_eq_getElem_cons hl, lcW] at q2
    obtain ⟨env3, e3, q3⟩ := opt_of q2
    refine .inr ⟨g, P (i + 1), fun H' n => ⟨_, by omega, rfl, by omega, n⟩, fun v H3 yl => ?_⟩
    obtain ⟨G3, f3, r3⟩ := y v H3 yl
    have f23 := f2.trans f3
    have s3 := (s.fin f1).fin f23
    have o3 := o2.step f3.s
    refine tg_ok vs t ⟨s3.s, s3.k, s3.e.wipe vs⟩ r3 e3 fun σ' s' w => ⟨(w ht).trans (wipe_idem σ vs), G3, F2, env3, τ2, _, s', q3, fun b τ4 G4 F4 H4 f4 q4 => ?_⟩
    have f24 := f23.trans f4
    have o4 := o3.step f4.s
    cases b with
    | false => exact iteF ⟨G4, F4, τ4, acc, f24, o4, q4⟩
    | true =>
      refine iteT ⟨G4, F4, env3, τ4, _, s'.fin f4, q4, fun r τ5 G5 F5 H5 v5 f5 r5 q5 => ?_⟩
      obtain ⟨z, e5, hz, q5⟩ := opt_of q5
      obtain ⟨G6, f6, sm, r6⟩ := r5.dat f5 e5
      have f26 := f24.trans f6
      have o6 := o4.step f6.s
      obtain ⟨ws, ew, aw⟩ := o6.at'
      obtain ⟨f7, o7⟩ := f26.mut o6 (aw.append (.cons r6 .nil))
      exact ⟨ws, ew, by rw [aw.length]; exact hz, G6, F5, τ5, acc ++ [z], f7, o7, q5⟩
  · rw [List.drop_eq_nil_of_le (by omega), lcW] at q2
    exact .inl ⟨it.stop G2 H2 F2 τ2 f2.s.g f2.k i (by omega), k (.ol acc) τ2 G2 F2 H2 (.ref D) (f1.trans f2) ⟨D, rfl, o2.at', o2.g, o2.f, dead f1.s.dom D o2.new⟩ q2⟩
/-- no test -/
def dYes {T : Type} : WT T := fun _ τ Q => Q true τ
theorem dts_nil : PTs X [] (liftT B dYes) := ⟨fun pins s σ H Q I ⟨G, F, env, τ, Qd, st, h, k⟩ => pts_nil.run pins s σ H Q I (k true τ G F H st.refl h)⟩
theorem dts_one {c : Expr} (h : PT X c (liftT B tc)) : PTs X [c] (liftT B tc) := pts_one h
theorem de_lc {elt : Expr} {ifs : List Expr} {scope : Scope} {own : List (Str × Nat)} {tt : WT B.T} (hc : X.calm = true) (hN : X.N.Nodup) (hi : PI X tg iter (liftI B ti)) (ok : BlkOk X.N X.env.scope scope own) (hv : t.all (· ∈ own.map (·.2)) = true)
    (hg : ∀ (s : Shared) (H : Hp) (C : Addr) (cl : List (Str × Addr)) (fp : List Addr), PG (X.blk s H scope (compEnvC scope cl C X.env) fp) tg (tgH B.K t)) (ht : ∀ (s : Shared) (H : Hp) (C : Addr) (cl : List (Str × Addr)) (fp : List Addr), PTs (X.blk s H scope (compEnvC scope cl C X.env) fp) ifs (liftT B tt))
    (he : ∀ (s : Shared) (H : Hp) (C : Addr) (cl : List (Str × Addr)) (fp : List Addr), PE (X.blk s H scope (compEnvC scope cl C X.env) fp) elt (lift B te)) (hs : ∀ x, foldedSetIterable iter X.env x = pure x := by intro _; rfl) :
    PE X (.ListComp elt [⟨tg, iter, ifs, 0⟩] scope pos) (lift B (dLc ti t tt te (own.map (·.2)))) := pe_imp (pe_lc hc hN hi ok hg ht he hs) (lift_lc hv)
theorem ds_setLc {y : Str} {py spos : Pos} {elt : Expr} {ifs : List Expr} {scope : Scope} {own : List (Str × Nat)} {tt : WT B.T} (hc : X.calm = true) (hN : X.N.Nodup) (hy : X.N[i]? = some y) (hyl : X.env.scope.names.lookup y = some .local)
    (hsw : swapsWith (.ListComp elt [⟨tg, iter, ifs, 0⟩] scope pos) (some (.Name y py)) spos.line X.env = pure true) (hi : PI X tg iter (liftI B ti)) (ok : BlkOk X.N X.env.scope scope own) (hv : t.all (· ∈ own.map (·.2)) = true)
    (hg : ∀ (s : Shared) (H : Hp) (C : Addr) (cl : List (Str × Addr)) (fp : List Addr), PG (X.blk s H scope (compEnvC scope cl C X.env) fp) tg (tgH B.K t)) (ht : ∀ (s : Shared) (H : Hp) (C : Addr) (cl : List (Str × Addr)) (fp : List Addr), PTs (X.blk s H scope (compEnvC scope cl C X.env) fp) ifs (liftT B tt))
    (he : ∀ (s : Shared) (H : Hp) (C : Addr) (cl : List (Str × Addr)) (fp : List Addr), PE (X.blk s H scope (compEnvC scope cl C X.env) fp) elt (lift B te)) (hs : ∀ x, foldedSetIterable iter X.env x = pure x := by intro _; rfl) :
    PS X (.Assign [.Name y py] (.ListComp elt [⟨tg, iter, ifs, 0⟩] scope pos) spos) (liftS B (dSet i (dLc ti t tt te (own.map (·.2))))) :=
  ps_imp (ps_setLc hc hN hy hyl hsw hi ok hg ht he hs) (lift_set (lift_lc hv))

/-! ### own lists -/
/-- from here on the list in slot i never changes -/
def dFrz {T : Type} (i : Nat) (t : WS T) : WS T := fun D env τ => match env[i]? with
  | some (.ol xs) => t D (env.set i (.d (.list xs))) τ
  | some (.d (.list xs)) => t D env τ
  | _ => False
theorem StR.frz {G H : Hp} {F : Addr → Prop} {σ : L2.St} {env : List SV} {τ : B.T} {xs : List D} (s : StR B G F σ H env τ) (e : env[i]? = some (.ol xs)) : ∃ G2, Same G G2 ∧ StR B G2 F σ H (env.set i (.d (.list xs))) τ := by
  obtain ⟨p, e1, o⟩ := s.e.at' i _ e
  obtain ⟨⟨ws, ew, aw⟩, og, onf, onew⟩ := id o
  have hl : i < env.length := (List.getElem?_eq_some_iff.mp e).1
  have hs : σ[i]? = some (some (.ref p)) := by
    cases z : σ[i]? with
    | none => rw [z] at e1; cases e1
    | some u => rw [z] at e1; exact congrArg some e1
  have sm : Same G (upd G p (.lst ws)) := fun b u z => by rw [upd_ne (ne_of_none z og)]; exact z
  have st : Step B.G B.F B.H (upd G p (.lst ws)) F H := ⟨s.s.g.trans sm, s.s.h, fun b u z => by
    by_cases q : b = p
    · subst q; exact .inr onew
    · rw [upd_ne q] at z; exact s.s.gn b u z, s.s.fn, s.s.ff, s.s.dom⟩
  have stay : ∀ (j : Nat) sv, i ≠ j → env[j]? = some sv → SvR B.K B.H (upd G p (.lst ws)) F H sv (σ[j]?.join) := fun j sv hj ej => by
    have h := s.e.at' j sv ej
    cases sv with
    | no => trivial
    | vw _ => exact h
    | raw v => exact h
    | d y =>
      obtain ⟨v, e2, r2⟩ := h
      exact ⟨v, e2, r2.mono sm⟩
    | ol ys =>
      obtain ⟨q, e2, w⟩ := h
      obtain ⟨vs, e3, a⟩ := w.at'
      refine ⟨q, e2, ⟨vs, e3, a.mono sm⟩, ?_, w.f, w.new⟩
      have : q ≠ p := fun z => by
        subst z
        exact s.e.sep i j xs ys hj e ej (e1.trans e2.symm)
      rw [upd_ne this]
      exact w.g
  have get : ∀ (m : Nat) sv, (env.set i (.d (.list xs)))[m]? = some sv → (m = i ∧ sv = .d (.list xs)) ∨ (i ≠ m ∧ env[m]? = some sv) := fun m sv em => by
    by_cases q : i = m
    · subst q
      rw [List.getElem?_set_self hl] at em
      exact .inl ⟨rfl, (Option.some.inj em).symm⟩
    · rw [List.getElem?_set_ne q] at em
      exact .inr ⟨q, em⟩
  refine ⟨upd G p (.lst ws), sm, st, s.k.frz ew og onf, by rw [List.length_set]; exact s.e.len, fun j sv ej => ?_, fun j k ys zs hjk ej ek => ?_⟩
  · rcases get j sv ej with ⟨rfl, rfl⟩ | ⟨q, ej⟩
    · rw [hs]
      exact ⟨.ref p, rfl, Rp.lst (.inl (.inl upd_same)) (aw.mono sm)⟩
    · exact stay j sv q ej
  · rcases get j _ ej with ⟨_, z⟩ | ⟨_, ej⟩
    · cases z
    · rcases get k _ ek with ⟨_, z⟩ | ⟨_, ek⟩
      · cases z
      · exact s.e.sep j k ys zs hjk ej ek
theorem ds_frz {st : Stmt} {tS : WS B.T} (h : PS X st (liftS B tS)) : PS X st (liftS B (dFrz i tS)) :=
  ps_imp h fun D σ H ⟨G, F, env, τ, Dd, s, z, E⟩ => by
    unfold dFrz at z
    split at z
    · rename_i xs e
      obtain ⟨G2, sm, s2⟩ := s.frz e
      exact ⟨G2, F, _, τ, Dd, s2, z, E.mono sm⟩
    · exact ⟨G, F, env, τ, Dd, s, z, E⟩
    · exact z.elim
theorem dss_frz {sts : List Stmt} {tS : WS B.T} (h : PSs X sts (liftS B tS)) : PSs X sts (liftS B (dFrz i tS)) :=
  pss_imp h fun D σ H ⟨G, F, env, τ, Dd, s, z, E⟩ => by
    unfold dFrz at z
    split at z
    · rename_i xs e
      obtain ⟨G2, sm, s2⟩ := s.frz e
      exact ⟨G2, F, _, τ, Dd, s2, z, E.mono sm⟩
    · exact ⟨G, F, env, τ, Dd, s, z, E⟩
    · exact z.elim
/-- the own list in slot i is changed -/
theorem StR.mut {G H : Hp} {F : Addr → Prop} {σ : L2.St} {env : List SV} {τ : B.T} {xs xs' : List D} {p : Addr} {ws : List V} (s : StR B G F σ H env τ) (e : env[i]? = some (.ol xs)) (e1 : σ[i]?.join = some (.ref p)) (a : RpAll B.K G ws xs') :
    StR B G F σ (upd H p (.lst ws)) (env.set i (.ol xs')) τ := by
  obtain ⟨p', e2, o⟩ := s.e.at' i _ e
  have : p' = p := by
    rw [e1] at e2
    cases e2
    rfl
  subst this
  have hl : i < env.length := (List.getElem?_eq_some_iff.mp e).1
  obtain ⟨f, o'⟩ := s.out.mut o a
  have get : ∀ (m : Nat) sv, (env.set i (.ol xs'))[m]? = some sv → (m = i ∧ sv = .ol xs') ∨ (i ≠ m ∧ env[m]? = some sv) := fun m sv em => by
    by_cases q : i = m
    · subst q
      rw [List.getElem?_set_self hl] at em
      exact .inl ⟨rfl, (Option.some.inj em).symm⟩
    · rw [List.getElem?_set_ne q] at em
      exact .inr ⟨q, em⟩
  have was : ∀ (m : Nat) zs, (env.set i (.ol xs'))[m]? = some (.ol zs) → ∃ zs', env[m]? = some (.ol zs') := fun m zs em => by
    rcases get m _ em with ⟨rfl, _⟩ | ⟨_, h⟩
    · exact ⟨xs, e⟩
    · exact ⟨zs, h⟩
  refine ⟨f.s, f.k, by rw [List.length_set]; exact s.e.len, fun j sv ej => ?_, fun j k ys zs hjk ej ek => ?_⟩
  · rcases get j sv ej with ⟨rfl, rfl⟩ | ⟨q, ej⟩
    · exact ⟨p', e1, o'⟩
    · have h := s.e.at' j sv ej
      cases sv with
      | no => trivial
      | vw _ => exact h
      | raw v => exact h
      | d y => exact h
      | ol ys =>
        obtain ⟨q', e3, w⟩ := h
        obtain ⟨vs, e4, a4⟩ := w.at'
        have : q' ≠ p' := fun z => by
          subst z
          exact s.e.sep i j xs ys q e ej (e1.trans e3.symm)
        exact ⟨q', e3, ⟨vs, by rw [upd_ne this]; exact e4, a4⟩, w.g, w.f, w.new⟩
  · obtain ⟨ys', ej'⟩ := was j ys ej
    obtain ⟨zs', ek'⟩ := was k zs ek
    exact s.e.sep j k ys' zs' hjk ej' ek'
end
end Z

namespace Z
open PySem L2

/-! ### defs -/
abbrev FW (T : Type) := List SV → T → (SV → T → Prop) → Prop
def SV.dr : SV → Bool
  | .d _ => true
  | .raw _ => true
  | _ => false
/-- a def's promise, by data -/
def spD (S : Sto) (K : PySem.W.Frag) (FF : FW S.T) : Sp := fun vs H Q _ => ∃ G F τ rs Qd Ha, Ok S K τ G F H ∧ ResAll K Ha G F H rs vs ∧ rs.all SV.dr = true ∧ FF rs τ Qd ∧
  ∀ r τ' G' F' H' v, Step G F H G' F' H' → Ok S K τ' G' F' H' → Res K H G' F' H' r v → Qd r τ' → Q v H'
def dCall {T : Type} (FF : FW T) (ta : WA T) : W T := fun env τ Q => ta env τ fun rs τ1 => rs.all SV.dr = true ∧ FF rs τ1 Q
section
variable {X : Cx} {B : Bk} {e : Expr} {es : List Expr} {pos p : Pos} {ta : WA B.T} {FF : FW B.S.T} {f : Addr} {fd : FuncData} {ps : List Str} {k : Nat} {x : Str}
theorem lift_call {E : XK} (hK : X.K = B.K) : ∀ σ H Q, lift B (dCall FF ta) σ H Q → tCall (spD B.S B.K FF) [] E (liftA B ta) σ H Q := fun σ H Q ⟨G, F, env, τ, Qd, s, t, k⟩ =>
  ⟨G, F, env, τ, _, s, t, fun rs τ1 G1 F1 H1 vs f1 r1 ⟨dr, q⟩ => by
    show spD B.S B.K FF (vs ++ []) H1 Q E
    rw [List.append_nil]
    exact ⟨G1, F1, τ1, rs, Qd, H, f1.k, r1, dr, q, fun r τ' G' F' H' v st ok res qd => k r τ' G' F' H' v (f1.trans ⟨st, ok⟩) (res.back (dead f1.s.dom)) qd⟩⟩
theorem de_call (hK : X.K = B.K) (F : FnOk X.prog X.w X.K X.mg X.base CX0 k f fd ps (spD B.S B.K FF)) (hr : Room k X.A) (hg : Gl X x) (hm : X.mg x = some (.ref f)) (hk : PySem.W.keepIn X.K (.ref f) = true) (hb : Binds X.K fd ps [])
    (ha : PA X (e :: es) (liftA B ta)) (hdb : (x == ("__debug__" : Str)) = false := by decide) (he : starEach (e :: es) X.env = (false, eval e X.env) :: starEach es X.env := by rfl) (hpl : (backTo pos (starEach es X.env)).any (·.1) = false := by rfl) :
    PE X (.Call (.Name x p) (e :: es) [] pos) (lift B (dCall FF ta)) := pe_imp (pe_call F hr hg hm hk hb .nil (pass0 (X := X)) ha hdb he hpl) (lift_call hK)
theorem de_call0 (hK : X.K = B.K) (F : FnOk X.prog X.w X.K X.mg X.base CX0 k f fd ps (spD B.S B.K FF)) (hr : Room k X.A) (hg : Gl X x) (hm : X.mg x = some (.ref f)) (hk : PySem.W.keepIn X.K (.ref f) = true) (hb : Binds X.K fd ps [])
    (hdb : (x == ("__debug__" : Str)) = false := by decide) : PE X (.Call (.Name x p) [] [] pos) (lift B (dCall FF dNil)) :=
  pe_imp (pe_call0 F hr hg hm hk hb .nil (pass0 (X := X)) hdb) fun σ H Q h => by
    obtain ⟨G, F, env, τ, Qd, s, t, k⟩ := lift_call (E := E0) hK σ H Q h
    exact k [] τ G F H [] s.refl .nil t
end
section
variable {P : Program} {w : World} {S : Sto} {K : PySem.W.Frag} {mg : Str → Option Value} {base : Heap}
theorem ResAll.slot {K : PySem.W.Frag} {Ha H0 G F H} : ∀ {rs : List SV} {vs : List V} (i : Nat) (s : SV), ResAll K Ha G F H rs vs → rs.all SV.dr = true → rs[i]? = some s → SvR K H0 G F H s ((vs.map some)[i]?.join)
  | _, _, _, _, .nil, _, e => by simp at e
  | .d x :: r, v :: vs, 0, s, .cons h t, _, e => by cases e; exact ⟨v, rfl, h⟩
  | .raw x :: r, v :: vs, 0, s, .cons h t, _, e => by
    cases e
    have h : v = x := h
    subst h
    rfl
  | .no :: r, _, 0, _, .cons h _, _, _ => h.elim
  | .ol _ :: r, _, 0, _, .cons h _, d, _ => by cases d
  | .vw _ :: r, _, 0, _, .cons h _, d, _ => by cases d
  | a :: r, v :: vs, i + 1, s, .cons h t, d, e => by
    have d' : (a.dr && r.all SV.dr) = true := d
    rw [Bool.and_eq_true] at d'
    exact ResAll.slot i s t d'.2 e
theorem env_start {B : Bk} {Ha G H : Hp} {F : Addr → Prop} {N : List Str} {rs : List SV} {vs : List V} (r : ResAll B.K Ha G F H rs vs) (dr : rs.all SV.dr = true) (hl : rs.length ≤ N.length) :
    EnvR B.K B.H G F H (L2.start N vs) (rs ++ List.replicate (N.length - rs.length) .no) := by
  have el := r.length
  have noOl : ∀ (m : Nat) zs, (rs ++ List.replicate (N.length - rs.length) SV.no)[m]? = some (.ol zs) → False := fun m zs em => by
    by_cases q : m < rs.length
    · rw [List.getElem?_append_left q] at em
      have := List.all_eq_true.mp dr _ (List.mem_of_getElem? em)
      cases this
    · rw [List.getElem?_append_right (by omega), List.getElem?_replicate] at em
      split at em <;> cases em
  refine ⟨?_, fun i s e => ?_, fun i j xs ys _ ei _ => (noOl i xs ei).elim⟩
  · unfold L2.start
    rw [List.length_append, List.length_append, List.length_map, List.length_replicate, List.length_replicate, el]
  · by_cases q : i < rs.length
    · rw [List.getElem?_append_left q] at e
      have z : (L2.start N vs)[i]? = (vs.map some)[i]? := by
        unfold L2.start
        rw [List.getElem?_append_left (by rw [List.length_map, ← el]; exact q)]
      rw [z]
      exact ResAll.slot i s r dr e
    · rw [List.getElem?_append_right (by omega), List.getElem?_replicate] at e
      split at e
      · cases e
        trivial
      · cases e
/-- THE RULE for a def, by data -/
theorem okD {x qual : Str} {st : Stmt} {f : Addr} {fd : FuncData} {N ps : List Str} {k : Nat} {FF : FW S.T} (F : Fun K x qual st f fd) (Sc : FnScope N ps (defScope st)) (len : ∀ rs τ Q, FF rs τ Q → rs.length = ps.length) (hl : ps.length ≤ N.length)
    (hbody : ∀ (cdv : Value) (A : Around) (outer : List Env) (s : Shared) (H : Hp) (E : XK) (G : Hp) (Fp : Addr → Prop), Room k (A.deeper (PyProof.Rows.envOfC qual (defScope st) s.heap.objs.size f cdv)) →
      ∃ t : WS S.T, PSs (cxOf CX0 P w K mg base N qual (defScope st) f cdv A outer s H E).nox (defBody st) (liftS ⟨S, K, G, Fp, H⟩ t) ∧ ∀ rs τ Qd, FF rs τ Qd → t { nx := fun _ τ' => Qd (.d .none) τ', rt := Qd } (rs ++ List.replicate (N.length - rs.length) .no) τ) :
    FnOk P w K mg base CX0 (k + 1) f fd ps (spD S K FF) := by
  refine F.ok Sc (fun vs H Q E ⟨G, F, τ, rs, Qd, Ha, ok, r, dr, h, fin⟩ => by rw [← r.length]; exact len _ _ _ h) fun cdv A outer s H vs Q E hr ⟨G, Fp, τ, rs, Qd, Ha, ok, r, dr, h, fin⟩ => ?_
  obtain ⟨t, d, sem⟩ := hbody cdv A outer s H E G Fp hr
  have hle : rs.length ≤ N.length := by rw [len _ _ _ h]; exact hl
  exact ⟨_, d, G, Fp, _, τ, _, ⟨Step.refl _ _ _, ok, env_start (B := ⟨S, K, G, Fp, H⟩) r dr hle⟩, sem rs τ Qd h,
    ⟨fun G' F' σ' H' env' τ' _ st q => fin (.d .none) τ' G' F' H' .non st.s st.k Rp.non q, fun r τ' G' F' H' v f res q => fin r τ' G' F' H' v f.s f.k res q, fun _ _ _ _ _ _ _ _ q => q.elim, fun _ _ _ _ _ _ _ _ q => q.elim⟩⟩
end

/-! ### methods of own lists -/
section
variable {X : Cx} {B : Bk} {e o : Expr} {pos : Pos} {te : W B.T} {i : Nat}
theorem at_slot {G H : Hp} {F : Addr → Prop} {σ : L2.St} {env : List SV} {τ : B.T} {xs : List D} (s : StR B G F σ H env τ) (e : env[i]? = some (.ol xs)) : ∃ p, σ[i]? = some (some (.ref p)) ∧ Own B.K B.H G F H p xs := by
  obtain ⟨p, e1, w⟩ := s.e.at' i _ e
  refine ⟨p, ?_, w⟩
  cases z : σ[i]? with
  | none => rw [z] at e1; cases e1
  | some u => rw [z] at e1; exact congrArg some e1
/-- x.append(e) -/
def dApp {T : Type} (i : Nat) (te : W T) : WS T := fun D env τ => match env[i]? with
  | some (.ol xs) => te env τ fun r τ1 => opt r.dat? fun y => xs.length < sizeLine ∧ D.nx (env.set i (.ol (xs ++ [y]))) τ1
  | _ => False
theorem ds_app {st : Stmt} (h : PS X st (tDrop (tBM X.K "list" rAppend (tVar i) (tCons (lift B te) tNil)))) : PS X st (liftS B (dApp i te)) :=
  ps_imp h fun D σ H ⟨G, F, env, τ, Dd, s, z, E⟩ => by
    unfold dApp at z
    split at z
    · rename_i xs ee
      obtain ⟨p, e1, w⟩ := at_slot s ee
      obtain ⟨vs, e2, a2⟩ := w.at'
      refine ⟨_, e1, .inl ⟨rfl, _, .of e2⟩, G, F, env, τ, _, s, z, fun r τ1 G1 F1 H1 v f1 r1 q => ?_⟩
      obtain ⟨y, ey, hz, q⟩ := opt_of q
      obtain ⟨G2, f2, sm, r2⟩ := r1.dat f1 ey
      have s2 := s.fin f2
      obtain ⟨vs2, e3, a3⟩ := (w.step f2.s).at'
      have s3 := s2.mut ee (by rw [e1]; rfl) (a3.append (.cons r2 .nil))
      exact ⟨p, vs2, v, rfl, rfl, e3, by rw [a3.length]; exact hz, E.nx G2 F1 σ _ _ τ1 f2.s.g s3 q⟩
    · exact z.elim
end
end Z

namespace Z
open PySem L2

/-! ### more readings of data -/
def SV.seqd? : SV → Option (List D)
  | .d (.list xs) => some xs
  | .d (.tuple xs) => some xs
  | .ol xs => some xs
  | .vw xs => some xs
  | _ => none
/-- as data, a list of one's own as it is now -/
def SV.now? : SV → Option D
  | .d x => some x
  | .ol xs => some (.list xs)
  | .vw xs => some (.list xs)
  | _ => none
theorem Res.seqd {K : PySem.W.Frag} {Ha G F H v} (sm : Same G H) {s : SV} {xs : List D} (r : Res K Ha G F H s v) (e : s.seqd? = some xs) : ∃ p vs, v = .ref p ∧ (SqL K H p vs ∨ SqT K H p vs) ∧ RpAll K G vs xs := by
  have viaL : s.lst? = some xs → ∃ p vs, v = .ref p ∧ (SqL K H p vs ∨ SqT K H p vs) ∧ RpAll K G vs xs := fun e => by
    obtain ⟨p, vs, e1, h, a⟩ := r.sql sm e
    exact ⟨p, vs, e1, .inl h.sql, a⟩
  cases s with
  | no => exact r.elim
  | raw v => cases e
  | ol ys => exact viaL e
  | vw ys => exact viaL e
  | d x =>
    cases x with
    | list ys => exact viaL e
    | tuple ys =>
      cases e
      obtain ⟨p, vs, e1, h, a⟩ := rtup r
      exact ⟨p, vs, e1, .inr (same_seqT sm h), a⟩
    | _ => cases e
theorem Res.now {K : PySem.W.Frag} {Ha G F H v} (sm : Same G H) {s : SV} {x : D} (r : Res K Ha G F H s v) (e : s.now? = some x) : x.canLay0 = true → Dp K H v x := fun c => by
  have viaL : ∀ xs, x = .list xs → s.lst? = some xs → Dp K H v x := fun xs ex el => by
    obtain ⟨p, vs, e1, h, a⟩ := r.sql sm el
    subst ex
    subst e1
    rw [PyData.canLay0] at c
    exact .lst h.sql ((a.mono sm).dp c)
  cases s with
  | no => exact r.elim
  | raw v => cases e
  | ol ys => cases e; exact viaL _ rfl rfl
  | vw ys => cases e; exact viaL _ rfl rfl
  | d y => cases e; exact (Rp.mono sm r).dp c

/-! ### == and != -/
def scalD : D → D → Bool
  | .none, .none => true | .none, .int _ => true | .int _, .none => true | .none, .bool _ => true | .bool _, .none => true | .none, .str _ => true | .str _, .none => true
  | .int _, .int _ => true | .bool _, .bool _ => true | .str _, .str _ => true | .int _, .str _ => true | .str _, .int _ => true | .bool _, .str _ => true | .str _, .bool _ => true
  | _, _ => false
def eqOk (a b : D) : Bool := scalD a b || (SeqAt.shaped a && SeqAt.shaped b)
def gEq (x y : SV) (Q : SV → Prop) : Prop := opt x.now? fun a => opt y.now? fun b => eqOk a b = true ∧ Q (.d (.bool (PyData.eqv a b)))
def gNe (x y : SV) (Q : SV → Prop) : Prop := opt x.now? fun a => opt y.now? fun b => eqOk a b = true ∧ Q (.d (.bool (!PyData.eqv a b)))
theorem scal_eqv {K : PySem.W.Frag} {G : Hp} : ∀ {a b : D} {v w : V}, scalD a b = true → Rp K G v a → Rp K G w b → scal v w = true ∧ decide (v = w) = PyData.eqv a b
  | .none, .none, _, _, _, .non, .non => ⟨rfl, by simp [PyData.eqv]⟩
  | .none, .int _, _, _, _, .non, .int _ => ⟨rfl, by simp [PyData.eqv]⟩
  | .int _, .none, _, _, _, .int _, .non => ⟨rfl, by simp [PyData.eqv]⟩
  | .none, .bool _, _, _, _, .non, .bl _ => ⟨rfl, by simp [PyData.eqv]⟩
  | .bool _, .none, _, _, _, .bl _, .non => ⟨rfl, by simp [PyData.eqv]⟩
  | .none, .str _, _, _, _, .non, .str _ => ⟨rfl, by simp [PyData.eqv]⟩
  | .str _, .none, _, _, _, .str _, .non => ⟨rfl, by simp [PyData.eqv]⟩
  | .int _, .int _, _, _, _, .int _, .int _ => ⟨rfl, by rw [dec_int, PyData.eqv]⟩
  | .bool _, .bool _, _, _, _, .bl _, .bl _ => ⟨rfl, by rw [dec_bl, PyData.eqv]⟩
  | .str _, .str _, _, _, _, .str _, .str _ => ⟨rfl, by rw [dec_str, PyData.eqv]⟩
  | .int _, .str _, _, _, _, .int _, .str _ => ⟨rfl, by simp [PyData.eqv]⟩
  | .str _, .int _, _, _, _, .str _, .int _ => ⟨rfl, by simp [PyData.eqv]⟩
  | .bool _, .str _, _, _, _, .bl _, .str _ => ⟨rfl, by simp [PyData.eqv]⟩
  | .str _, .bool _, _, _, _, .str _, .bl _ => ⟨rfl, by simp [PyData.eqv]⟩
theorem scal_d : ∀ {a b : D} {x : SV}, scalD a b = true → x.now? = some a → x = .d a := fun {a b x} h e => by
  cases x with
  | d y => cases e; rfl
  | ol ys => cases e; cases b <;> cases h
  | vw ys => cases e; cases b <;> cases h
  | no => cases e
  | raw _ => cases e
theorem scal_d2 : ∀ {a b : D} {x : SV}, scalD a b = true → x.now? = some b → x = .d b := fun {a b x} h e => by
  cases x with
  | d y => cases e; rfl
  | ol ys => cases e; cases a <;> cases h
  | vw ys => cases e; cases a <;> cases h
  | no => cases e
  | raw _ => cases e
section
variable {X : Cx} {B : Bk}
def rEqA (K : PySem.W.Frag) : R2 := fun x y H Q => rEq x y H Q ∨ rEqD K x y H Q
def rNeA (K : PySem.W.Frag) : R2 := fun x y H Q => rNe x y H Q ∨ rNeD K x y H Q
theorem op_eqA (hu : X.A.units + 64 < cLine) : OpR X (compareOp .Eq) (rEqA X.K) := op_eq.or (op_eqD hu)
theorem op_neA (hu : X.A.units + 64 < cLine) : OpR X (compareOp .NotEq) (rNeA X.K) := op_ne.or (op_neD hu)
theorem od_eq (hK : X.K = B.K) : OpD B (rEqA X.K) gEq := fun x y vx vy Ha Hb G F H τ Qv Q k rx ry h fin => by
  rw [hK]
  obtain ⟨a, ea, h⟩ := opt_of h
  obtain ⟨b, eb, hk, hq⟩ := opt_of h
  unfold eqOk at hk
  rw [Bool.or_eq_true] at hk
  rcases hk with hk | hk
  · have e1 := scal_d hk ea
    have e2 := scal_d2 hk eb
    subst e1 e2
    obtain ⟨h1, h2⟩ := scal_eqv hk rx ry
    exact .inl ⟨h1, by rw [h2]; exact fin.d k (.bl _) hq⟩
  · rw [Bool.and_eq_true] at hk
    exact .inr ⟨a, b, rx.now k.same ea (SeqAt.canLay_of_shaped hk.1), ry.now k.same eb (SeqAt.canLay_of_shaped hk.2), hk.1, hk.2, fin.d k (.bl _) hq⟩
theorem od_ne (hK : X.K = B.K) : OpD B (rNeA X.K) gNe := fun x y vx vy Ha Hb G F H τ Qv Q k rx ry h fin => by
  rw [hK]
  obtain ⟨a, ea, h⟩ := opt_of h
  obtain ⟨b, eb, hk, hq⟩ := opt_of h
  unfold eqOk at hk
  rw [Bool.or_eq_true] at hk
  rcases hk with hk | hk
  · have e1 := scal_d hk ea
    have e2 := scal_d2 hk eb
    subst e1 e2
    obtain ⟨h1, h2⟩ := scal_eqv hk rx ry
    exact .inl ⟨h1, by rw [h2]; exact fin.d k (.bl _) hq⟩
  · rw [Bool.and_eq_true] at hk
    exact .inr ⟨a, b, rx.now k.same ea (SeqAt.canLay_of_shaped hk.1), ry.now k.same eb (SeqAt.canLay_of_shaped hk.2), hk.1, hk.2, fin.d k (.bl _) hq⟩

/-! ### <, <= of ints and texts -/
def strLt (a b : Str) : Bool := decide (a.cps.toList < b.cps.toList)
def gCmp (f : Int → Int → Bool) (g : Str → Str → Bool) (x y : SV) (Q : SV → Prop) : Prop := match x, y with
  | .d (.int i), .d (.int j) => Q (.d (.bool (f i j)))
  | .d (.str a), .d (.str b) => Q (.d (.bool (g a b)))
  | _, _ => False
def rCmpA (f : Int → Int → Bool) (g : Str → Str → Bool) : R2 := fun x y H Q => (rI0 fun i j => .bl (f i j)) x y H Q ∨ ∃ i j, x = .str i ∧ y = .str j ∧ Q (.bl (g i j)) H
theorem od_cmp {f : Int → Int → Bool} {g : Str → Str → Bool} : OpD B (rCmpA f g) (gCmp f g) := fun x y vx vy Ha Hb G F H τ Qv Q k rx ry h fin => by
  unfold gCmp at h
  split at h
  · exact .inl ⟨_, _, rint rx, rint ry, fin.d k (.bl _) h⟩
  · exact .inr ⟨_, _, rstr rx, rstr ry, fin.d k (.bl _) h⟩
  · exact h.elim
abbrev gLt := gCmp (fun i j => decide (i < j)) strLt
abbrev gLe := gCmp (fun i j => decide (i ≤ j)) (fun a b => !strLt b a)
abbrev gGt := gCmp (fun i j => decide (j < i)) (fun a b => strLt b a)
abbrev gGe := gCmp (fun i j => decide (j ≤ i)) (fun a b => !strLt a b)
theorem op_ltA : OpR X (compareOp .Lt) (rCmpA (fun i j => decide (i < j)) strLt) := op_lt.or op_lt_str
theorem op_leA : OpR X (compareOp .LtE) (rCmpA (fun i j => decide (i ≤ j)) fun a b => !strLt b a) := op_le.or op_le_str
theorem op_gtA : OpR X (compareOp .Gt) (rCmpA (fun i j => decide (j < i)) fun a b => strLt b a) := op_gt.or op_gt_str
theorem op_geA : OpR X (compareOp .GtE) (rCmpA (fun i j => decide (j ≤ i)) fun a b => !strLt a b) := op_ge.or op_ge_str

/-! ### is None -/
def SV.isN : SV → Option Bool
  | .d .none => some true
  | .no => none
  | _ => some false
def gIs (neg : Bool) (x y : SV) (Q : SV → Prop) : Prop := y = .d .none ∧ opt x.isN fun b => Q (.d (.bool (if neg then !b else b)))
theorem isN_ok {K : PySem.W.Frag} {Ha G F H v b} : ∀ {x : SV}, Res K Ha G F H x v → (∀ u, x = .raw u → u ≠ .non) → x.isN = some b → decide (v = .non) = b
  | .d .none, .non, _, e => by cases e; rfl
  | .d (.bool _), .bl _, _, e => by cases e; rfl
  | .d (.int _), .int _, _, e => by cases e; rfl
  | .d (.str _), .str _, _, e => by cases e; rfl
  | .d (.list _), .lst _ _, _, e => by cases e; rfl
  | .d (.tuple _), .tup _ _, _, e => by cases e; rfl
  | .d (.dict _), .emp _, _, e => by cases e; rfl
  | .d (.dict _), .exc _ _, _, e => by cases e; rfl
  | .d (.dict _), .exf _ _ _ _, _, e => by cases e; rfl
  | .d (.dict _), .fn, _, e => by cases e; rfl
  | .ol _, ⟨p, e1, _⟩, _, e => by cases e; subst e1; rfl
  | .vw _, ⟨p, _, e1, _⟩, _, e => by cases e; subst e1; rfl
  | .raw u, h, n, e => by
    cases e
    have h : v = u := h
    subst h
    exact decide_eq_false (n _ rfl)
  | .no, h, _, _ => h.elim
def gIsN (x y : SV) (Q : SV → Prop) : Prop := (∀ u, x = .raw u → u ≠ .non) ∧ y = .d .none ∧ opt x.isN fun b => Q (.d (.bool b))
def gNotN (x y : SV) (Q : SV → Prop) : Prop := (∀ u, x = .raw u → u ≠ .non) ∧ y = .d .none ∧ opt x.isN fun b => Q (.d (.bool (!b)))
theorem od_isN : OpD B (fun x y H Q => y = .non ∧ Q (.bl (decide (x = .non))) H) gIsN := fun x y vx vy Ha Hb G F H τ Qv Q k rx ry h fin => by
  obtain ⟨hn, ey, h⟩ := h
  obtain ⟨b, eb, h⟩ := opt_of h
  subst ey
  exact ⟨rnon ry, by rw [isN_ok rx hn eb]; exact fin.d k (.bl _) h⟩
theorem od_notN : OpD B (fun x y H Q => y = .non ∧ Q (.bl (!decide (x = .non))) H) gNotN := fun x y vx vy Ha Hb G F H τ Qv Q k rx ry h fin => by
  obtain ⟨hn, ey, h⟩ := h
  obtain ⟨b, eb, h⟩ := opt_of h
  subst ey
  exact ⟨rnon ry, by rw [isN_ok rx hn eb]; exact fin.d k (.bl _) h⟩

/-! ### in, not in -/
def flatD : D → Bool
  | .none => true
  | .bool _ => true
  | .int _ => true
  | .str _ => true
  | _ => false
theorem flat_ok {K : PySem.W.Frag} {G : Hp} : ∀ {a : D} {v : V}, flatD a = true → Rp K G v a → flatV v = true
  | .none, _, _, .non => rfl
  | .bool _, _, _, .bl _ => rfl
  | .int _, _, _, .int _ => rfl
  | .str _, _, _, .str _ => rfl
theorem flat_eqV {K : PySem.W.Frag} {G : Hp} : ∀ {a b : D} {v w : V}, flatD a = true → flatD b = true → Rp K G v a → Rp K G w b → eqV v w = PyData.eqv a b
  | .none, .none, _, _, _, _, .non, .non => by simp [PyData.eqv, eqV]
  | .none, .int _, _, _, _, _, .non, .int _ => by simp [PyData.eqv, eqV]
  | .none, .bool _, _, _, _, _, .non, .bl _ => by simp [PyData.eqv, eqV]
  | .none, .str _, _, _, _, _, .non, .str _ => by simp [PyData.eqv, eqV]
  | .bool _, .none, _, _, _, _, .bl _, .non => by simp [PyData.eqv, eqV]
  | .bool _, .int _, _, _, _, _, .bl _, .int _ => by simp [PyData.eqv, eqV]
  | .bool _, .bool _, _, _, _, _, .bl _, .bl _ => by simp [PyData.eqv, eqV]
  | .bool _, .str _, _, _, _, _, .bl _, .str _ => by simp [PyData.eqv, eqV]
  | .int _, .none, _, _, _, _, .int _, .non => by simp [PyData.eqv, eqV]
  | .int _, .int _, _, _, _, _, .int _, .int _ => by simp [PyData.eqv, eqV]
  | .int _, .bool _, _, _, _, _, .int _, .bl _ => by simp [PyData.eqv, eqV]
  | .int _, .str _, _, _, _, _, .int _, .str _ => by simp [PyData.eqv, eqV]
  | .str _, .none, _, _, _, _, .str _, .non => by simp [PyData.eqv, eqV]
  | .str _, .int _, _, _, _, _, .str _, .int _ => by simp [PyData.eqv, eqV]
  | .str _, .bool _, _, _, _, _, .str _, .bl _ => by simp [PyData.eqv, eqV]
  | .str _, .str _, _, _, _, _, .str _, .str _ => by simp [PyData.eqv, eqV]
theorem flat_all {K : PySem.W.Frag} {G : Hp} : ∀ {xs : List D} {vs : List V}, xs.all flatD = true → RpAll K G vs xs → vs.all flatV = true
  | [], _, _, .nil => rfl
  | x :: xs, _, h, .cons r a => by
    rw [List.all_cons, Bool.and_eq_true] at h ⊢
    exact ⟨flat_ok h.1 r, flat_all h.2 a⟩
theorem flat_any {K : PySem.W.Frag} {G : Hp} {b : D} {w : V} (hb : flatD b = true) (rb : Rp K G w b) : ∀ {xs : List D} {vs : List V}, xs.all flatD = true → RpAll K G vs xs → inV w vs = xs.any fun y => PyData.eqv y b
  | [], _, _, .nil => rfl
  | x :: xs, _, h, .cons r a => by
    rw [List.all_cons, Bool.and_eq_true] at h
    unfold inV
    rw [List.any_cons, List.any_cons, flat_eqV h.1 hb r rb]
    exact congrArg _ (flat_any hb rb h.2 a)
def gIn (neg : Bool) (x y : SV) (Q : SV → Prop) : Prop := (∃ c z, x = .d (.str ⟨#[c]⟩) ∧ y = .d (.str z) ∧ Q (.d (.bool (if neg then !decide (c ∈ z.cps.toList) else decide (c ∈ z.cps.toList))))) ∨
  ∃ a xs, x = .d a ∧ y.seqd? = some xs ∧ flatD a = true ∧ xs.all flatD = true ∧ Q (.d (.bool (if neg then !(xs.any fun y => PyData.eqv y a) else xs.any fun y => PyData.eqv y a)))
def rInA (K : PySem.W.Frag) (neg : Bool) : R2 := fun x y H Q => (∃ (c : Nat) (z : Str), x = .str ⟨#[c]⟩ ∧ y = .str z ∧ Q (.bl (if neg then !decide (c ∈ z.cps.toList) else decide (c ∈ z.cps.toList))) H) ∨ rIn K neg x y H Q
theorem op_inA : OpR X (compareOp .In) (rInA X.K false) := op_in_sign.or op_in_seq
theorem op_notInA : OpR X (compareOp .NotIn) (rInA X.K true) := op_notIn_sign.or op_notIn_seq
theorem od_in (hK : X.K = B.K) {neg : Bool} : OpD B (rInA X.K neg) (gIn neg) := fun x y vx vy Ha Hb G F H τ Qv Q k rx ry h fin => by
  rw [hK]
  rcases h with ⟨c, z, ex, ey, h⟩ | ⟨a, xs, ex, ey, fa, fs, h⟩
  · subst ex ey
    exact .inl ⟨c, z, rstr rx, rstr ry, fin.d k (.bl _) h⟩
  · subst ex
    obtain ⟨p, vs, e1, hs, r⟩ := ry.seqd k.same ey
    refine .inr ⟨p, vs, e1, hs, flat_ok fa rx, flat_all fs r, ?_⟩
    rw [flat_any fa rx fs r]
    exact fin.d k (.bl _) h
end
end Z

namespace Z
open PySem L2

/-! ### items and slices -/
def gIx (x y : SV) (Q : SV → Prop) : Prop := ∃ i, y = .d (.int i) ∧ match x with
  | .d (.str z) => z.length ≤ sizeLine ∧ opt (atI z.cps.toList i) fun c => Q (.d (sg c))
  | x => opt x.seqd? fun xs => opt (atI xs i) fun d => Q (.d d)
theorem atI_rp {K : PySem.W.Frag} {G : Hp} {vs : List V} {xs : List D} {i : Int} {d : D} (a : RpAll K G vs xs) (e : atI xs i = some d) : ∃ v, atI vs i = some v ∧ Rp K G v d := by
  unfold atI at e ⊢
  rw [a.length]
  cases q : ixN xs.length i with
  | none => rw [q] at e; cases e
  | some j =>
    rw [q] at e
    exact a.getD e
section
variable {X : Cx} {B : Bk} {a b e : Expr} {pos : Pos} {ta tb te : W B.T} {r : R2} {g : SV → SV → (SV → Prop) → Prop}
theorem IxR.or {r r' : R2} (h : IxR X r) (h' : IxR X r') : IxR X (fun x y H Q => r x y H Q ∨ r' x y H Q) := fun value slice pins s σ H x y v u Q I rx ry q hs =>
  q.elim (fun q => h value slice pins s σ H x y v u Q I rx ry q hs) fun q => h' value slice pins s σ H x y v u Q I rx ry q hs
def rIxA (K : PySem.W.Frag) : R2 := fun x y H Q => rIxL K x y H Q ∨ rIxT K x y H Q ∨ rIxS x y H Q
theorem ix_A : IxR X (rIxA X.K) := IxR.or ix_list (IxR.or ix_tup ix_str)
theorem od_ix (hK : X.K = B.K) : OpD B (rIxA X.K) gIx := fun x y vx vy Ha Hb G F H τ Qv Q k rx ry h fin => by
  rw [hK]
  obtain ⟨i, ey, h⟩ := h
  subst ey
  have go : opt x.seqd? (fun xs => opt (atI xs i) fun d => Qv (.d d)) → rIxA B.K vx vy H Q := fun h => by
    obtain ⟨xs, ex, h⟩ := opt_of h
    obtain ⟨d, ed, h⟩ := opt_of h
    obtain ⟨p, vs, e1, hs, ra⟩ := rx.seqd k.same ex
    obtain ⟨w, ew, rw'⟩ := atI_rp ra ed
    rcases hs with hs | hs
    · exact .inl ⟨p, vs, i, w, e1, rint ry, hs, ew, fin.d k rw' h⟩
    · exact .inr (.inl ⟨p, vs, i, w, e1, rint ry, hs, ew, fin.d k rw' h⟩)
  split at h
  · obtain ⟨hz, h⟩ := h
    obtain ⟨c, ec, h⟩ := opt_of h
    exact .inr (.inr ⟨_, i, c, rstr rx, rint ry, hz, ec, fin.d k (.str _) h⟩)
  · exact go h
theorem de_ix (hr : IxR X r) (hd : OpD B r g) (ha : PE X a (lift B ta)) (hb : PE X b (lift B tb)) (hs : PlainIx b) : PE X (.Subscript a b pos) (lift B (dOp g ta tb)) := pe_imp (pe_ix hr ha hb hs) (lift_op hd)

abbrev WO (T : Type) := List SV → T → (Option Int → T → Prop) → Prop
def liftO (B : Bk) (t : WO B.T) : TO := fun σ H Q => ∃ G F env τ Qd, StR B G F σ H env τ ∧ t env τ Qd ∧ ∀ o τ' G' F' H', Fin B G F H τ' G' F' H' → Qd o τ' → Q o H'
def dNoPart {T : Type} : WO T := fun _ τ Q => Q none τ
def dPart {T : Type} (te : W T) : WO T := fun env τ Q => te env τ fun r τ1 => ∃ i, r = .d (.int i) ∧ Q (some i) τ1
theorem po_imp {e : Option Expr} {t t' : TO} (h : PO X e t) (i : ∀ σ H Q, t' σ H Q → t σ H Q) : PO X e t' := ⟨fun pins s σ H Q I z => h.run pins s σ H Q I (i σ H Q z)⟩
theorem do_none : PO X none (liftO B dNoPart) := po_imp po_none fun σ H Q ⟨G, F, env, τ, Qd, s, t, k⟩ => k none τ G F H s.refl t
theorem do_some (h : PE X e (lift B te)) : PO X (some e) (liftO B (dPart te)) := po_imp (po_some h) fun σ H Q ⟨G, F, env, τ, Qd, s, t, k⟩ => ⟨G, F, env, τ, _, s, t, fun r τ1 G1 F1 H1 v f1 r1 ⟨i, e, q⟩ => by
  subst e
  exact ⟨i, rint r1, k _ τ1 G1 F1 H1 f1 q⟩⟩
def cutL {α : Type} (xs : List α) (lo hi : Option Int) : List α := (xs.drop (HT.sIx xs.length 0 lo)).take (HT.sIx xs.length xs.length hi - HT.sIx xs.length 0 lo)
theorem RpAll.cut {K : PySem.W.Frag} {G : Hp} {vs : List V} {xs : List D} (a : RpAll K G vs xs) (lo hi : Option Int) : RpAll K G (cutV vs lo hi) (cutL xs lo hi) := by
  unfold cutV cutL
  rw [a.length]
  exact (a.drop _).take _
def gSl (x : SV) (lo hi : Option Int) (Q : SV → Prop) : Prop := match x with
  | .d (.str z) => z.length ≤ sizeLine ∧ Q (.d (.str (cutS z lo hi)))
  | .d (.tuple xs) => Q (.d (.tuple (cutL xs lo hi)))
  | x => opt x.lst? fun xs => Q (.ol (cutL xs lo hi))
def dSl {T : Type} (te : W T) (tl th : WO T) : W T := fun env τ Q => te env τ fun x τ1 => tl env τ1 fun lo τ2 => th env τ2 fun hi τ3 => gSl x lo hi fun z => Q z τ3
def rSlAll (K : PySem.W.Frag) : V → Option Int → Option Int → Hp → VK → Prop := fun x lo hi H Q => rSlS x lo hi H Q ∨ rSlA K x lo hi H Q ∨ rSlL K x lo hi H Q
theorem sl_A : SlR X (rSlAll X.K) := SlR.or sl_str (SlR.or sl_tupA sl_list)
theorem cut_whole {α : Type} {xs : List α} {lo hi : Option Int} (h : HT.sIx xs.length 0 lo = 0 ∧ HT.sIx xs.length xs.length hi = xs.length) : cutL xs lo hi = xs := by
  unfold cutL
  rw [h.1, h.2, List.drop_zero, Nat.sub_zero, List.take_length]
theorem de_slice {lo hi : Option Expr} {tl th : WO B.T} {p2 : Pos} (hK : X.K = B.K) (he : PE X e (lift B te)) (hl : PO X lo (liftO B tl)) (hu : PO X hi (liftO B th)) : PE X (.Subscript e (.Slice lo hi none p2) pos) (lift B (dSl te tl th)) :=
  pe_imp (pe_slice sl_A he hl hu) fun σ H Q ⟨G, F, env, τ, Qd, s, t, k⟩ => ⟨G, F, env, τ, _, s, t, fun x τ1 G1 F1 H1 v f1 r1 q1 => ⟨G1, F1, env, τ1, _, s.fin f1, q1, fun l τ2 G2 F2 H2 f2 q2 =>
    ⟨G2, F2, env, τ2, _, s.fin (f1.trans f2), q2, fun u τ3 G3 F3 H3 f3 q3 => by
      have f13 := f1.trans (f2.trans f3)
      have r3 := r1.step (f2.trans f3).s
      have fin := FinT.trans k f13
      show rSlAll X.K v l u H3 Q
      rw [hK]
      unfold gSl at q3
      split at q3
      · exact .inl ⟨_, rstr r3, q3.1, fin.d f13.k (.str _) q3.2⟩
      · obtain ⟨p, vs, e1, h, a⟩ := rtup r3
        refine .inr (.inl ⟨p, vs, e1, same_seqT f13.k.same h, fun w => ?_, fun w p' hp => ?_⟩)
        · rw [a.length] at w
          rw [cut_whole w] at q3
          exact fin.d f13.k (.tup h a) q3
        · exact fin.tup f13.k hp (a.cut l u) q3
      · obtain ⟨xs, ex, q3⟩ := opt_of q3
        obtain ⟨p, vs, e1, h, a⟩ := r3.sql f13.k.same ex
        exact .inr (.inr ⟨p, vs, e1, h.sql, fun p' hp => fin.ol f13.k hp (a.cut l u) q3⟩)⟩⟩⟩
end

/-! ### built-ins -/
section
variable {X : Cx} {B : Bk}
theorem ResAll.one {K : PySem.W.Frag} {Ha G F H} {x : SV} {vs : List V} (r : ResAll K Ha G F H [x] vs) : ∃ v, vs = [v] ∧ Res K Ha G F H x v := by
  cases r with
  | cons r t =>
    cases t
    exact ⟨_, rfl, r⟩
theorem ResAll.two {K : PySem.W.Frag} {Ha G F H} {x y : SV} {vs : List V} (r : ResAll K Ha G F H [x, y] vs) : ∃ v w, vs = [v, w] ∧ Res K Ha G F H x v ∧ Res K Ha G F H y w := by
  cases r with
  | cons r t =>
    cases t with
    | cons r2 t =>
      cases t
      exact ⟨_, _, rfl, r, r2⟩
def SV.size? : SV → Option Nat
  | .d (.str z) => if z.length ≤ sizeLine then some z.length else none
  | x => x.seqd?.map List.length
def gLen (rs : List SV) (Q : SV → Prop) : Prop := match rs with
  | [x] => opt x.size? fun n => Q (.d (.int n))
  | _ => False
theorem cd_len (hK : X.K = B.K) : CallD B (fun xs H Q => ∃ x n, xs = [x] ∧ LenV X.K x H n ∧ Q (.int n) H) gLen := fun rs vs Ha G F H τ Qv Q k r h fin => by
  unfold gLen at h
  split at h
  · rename_i x
    obtain ⟨n, en, h⟩ := opt_of h
    obtain ⟨v, rfl, rx⟩ := r.one
    refine ⟨v, n, rfl, ?_, fin.d k (.int _) h⟩
    rw [hK]
    have viaS : x.seqd?.map List.length = some n → LenV B.K v H n := fun e => by
      cases q : x.seqd? with
      | none => rw [q] at e; cases e
      | some xs =>
        rw [q] at e
        cases e
        obtain ⟨p, ws, e1, hs, a⟩ := rx.seqd k.same q
        subst e1
        rcases hs with hs | hs
        · exact .inl ⟨ws, hs, a.length.symm⟩
        · exact .inr ⟨ws, hs, a.length.symm⟩
    unfold SV.size? at en
    split at en
    · rename_i z
      rw [rstr rx]
      split at en
      · rename_i hz
        cases en
        exact ⟨hz, rfl⟩
      · cases en
    · exact viaS en
  · exact h.elim

/-- the type of data -/
def tyN : D → String
  | .none => "NoneType"
  | .bool _ => "bool"
  | .int _ => "int"
  | .str _ => "str"
  | .list _ => "list"
  | .tuple _ => "tuple"
  | .dict _ => "dict"
def isT (a c : String) : Bool := a == c || (a == "bool" && c == "int")
def SV.tyN : SV → Option String
  | .d .none => some "NoneType"
  | .d (.bool _) => some "bool"
  | .d (.int _) => some "int"
  | .d (.str _) => some "str"
  | .d (.list _) => some "list"
  | .d (.tuple _) => some "tuple"
  | .d (.dict []) => some "dict"
  | .ol _ => some "list"
  | .vw _ => some "list"
  | _ => none
def tyNames : List String := ["NoneType", "bool", "int", "str", "list", "tuple", "dict"]
theorem tyX_ok {K : PySem.W.Frag} {Ha G F H v n} (sm : Same G H) : ∀ {x : SV}, Res K Ha G F H x v → x.tyN = some n → n ∈ tyNames ∧ TyX K H v (.type n)
  | .d .none, .non, e => by cases e; exact ⟨by simp [Z.tyN, tyNames], .base .non⟩
  | .d (.bool _), .bl _, e => by cases e; exact ⟨by simp [Z.tyN, tyNames], .base (.bl _)⟩
  | .d (.int _), .int _, e => by cases e; exact ⟨by simp [Z.tyN, tyNames], .base (.int _)⟩
  | .d (.str _), .str _, e => by cases e; exact ⟨by simp [Z.tyN, tyNames], .base (.str _)⟩
  | .d (.list _), .lst h _, e => by
    cases e
    refine ⟨by simp [Z.tyN, tyNames], ?_⟩
    rcases same_sqp sm h with (h | ⟨o, h⟩) | ⟨its, h, _⟩
    · exact .base (.lst h)
    · exact .base (.frz h)
    · exact .kList h rfl
  | .d (.tuple _), .tup h _, e => by
    cases e
    refine ⟨by simp [Z.tyN, tyNames], ?_⟩
    rcases same_seqT sm h with (h | ⟨o, h⟩) | ⟨o, its, n, h, hc, _⟩
    · exact .base (.tup h)
    · exact .fTuple h
    · exact .kTuple h hc
  | .d (.dict _), .exc _ _, e => by cases e
  | .d (.dict _), .exf _ _ _ _, e => by cases e
  | .d (.dict _), .fn, e => by cases e
  | .d (.dict _), .emp h, e => by cases e; exact ⟨by simp [Z.tyN, tyNames], .base (.dK (sm _ _ h))⟩
  | .ol _, ⟨p, e1, w⟩, e => by
    cases e
    subst e1
    obtain ⟨vs, e2, _⟩ := w.at'
    exact ⟨by simp [Z.tyN, tyNames], .base (.lst e2)⟩
  | .vw _, ⟨p, vs, e1, e2, _⟩, e => by
    cases e
    subst e1
    exact ⟨by simp [Z.tyN, tyNames], .base (.lst e2)⟩
  | .no, h, _ => h.elim
  | .raw _, _, e => by cases e
theorem kit_all : (tyNames.all fun a => tyNames.all fun c => decide (kitB a c = some (isT a c))) = true := by decide +kernel
def gIsi (rs : List SV) (Q : SV → Prop) : Prop := match rs with
  | [x, .raw (.ty c)] => tyNames.contains c = true ∧ opt x.tyN fun n => Q (.d (.bool (isT n c)))
  | _ => False
theorem cd_isi (hK : X.K = B.K) : CallD B (rIsi X.K) gIsi := fun rs vs Ha G F H τ Qv Q k r h fin => by
  unfold gIsi at h
  split at h
  · obtain ⟨hc, h⟩ := h
    obtain ⟨n, en, h⟩ := opt_of h
    obtain ⟨v, w, rfl, rx, ry⟩ := r.two
    have ry : w = .ty _ := ry
    subst ry
    obtain ⟨hn, ty⟩ := tyX_ok k.same rx en
    have z := List.all_eq_true.mp (List.all_eq_true.mp kit_all n hn) _ (List.contains_iff_mem.mp hc)
    rw [hK]
    exact ⟨v, _, _, _, _, rfl, .ty _, ty, kit_ty (of_decide_eq_true z), fin.d k (.bl _) h⟩
  · exact h.elim

/-- data that are truths -/
def bools? : List D → Option (List Bool)
  | [] => some []
  | .bool b :: r => (bools? r).map (b :: ·)
  | _ :: _ => none
theorem bools_ok {K : PySem.W.Frag} {G : Hp} : ∀ {xs : List D} {vs : List V} {bs : List Bool}, RpAll K G vs xs → bools? xs = some bs → vs = bs.map V.bl
  | [], _, _, .nil, e => by cases e; rfl
  | .bool b :: r, _, _, .cons (.bl _) a, e => by
    cases q : bools? r with
    | none => rw [bools?, q] at e; cases e
    | some cs => rw [bools?, q] at e; cases e; rw [bools_ok a q]; rfl
  | .none :: _, _, _, _, e => by cases e
  | .int _ :: _, _, _, _, e => by cases e
  | .str _ :: _, _, _, _, e => by cases e
  | .list _ :: _, _, _, _, e => by cases e
  | .tuple _ :: _, _, _, _, e => by cases e
  | .dict _ :: _, _, _, _, e => by cases e
def ints? : List D → Option (List Int)
  | [] => some []
  | .int b :: r => (ints? r).map (b :: ·)
  | _ :: _ => none
theorem ints_ok {K : PySem.W.Frag} {G : Hp} : ∀ {xs : List D} {vs : List V} {bs : List Int}, RpAll K G vs xs → ints? xs = some bs → vs = bs.map V.int
  | [], _, _, .nil, e => by cases e; rfl
  | .int b :: r, _, _, .cons (.int _) a, e => by
    cases q : ints? r with
    | none => rw [ints?, q] at e; cases e
    | some cs => rw [ints?, q] at e; cases e; rw [ints_ok a q]; rfl
  | .none :: _, _, _, _, e => by cases e
  | .bool _ :: _, _, _, _, e => by cases e
  | .str _ :: _, _, _, _, e => by cases e
  | .list _ :: _, _, _, _, e => by cases e
  | .tuple _ :: _, _, _, _, e => by cases e
  | .dict _ :: _, _, _, _, e => by cases e
def strs? : List D → Option (List Str)
  | [] => some []
  | .str b :: r => (strs? r).map (b :: ·)
  | _ :: _ => none
theorem strs_ok {K : PySem.W.Frag} {G : Hp} : ∀ {xs : List D} {vs : List V} {bs : List Str}, RpAll K G vs xs → strs? xs = some bs → vs = bs.map V.str
  | [], _, _, .nil, e => by cases e; rfl
  | .str b :: r, _, _, .cons (.str _) a, e => by
    cases q : strs? r with
    | none => rw [strs?, q] at e; cases e
    | some cs => rw [strs?, q] at e; cases e; rw [strs_ok a q]; rfl
  | .none :: _, _, _, _, e => by cases e
  | .bool _ :: _, _, _, _, e => by cases e
  | .int _ :: _, _, _, _, e => by cases e
  | .list _ :: _, _, _, _, e => by cases e
  | .tuple _ :: _, _, _, _, e => by cases e
  | .dict _ :: _, _, _, _, e => by cases e
theorem bools_map (bs : List Bool) : bools? (bs.map PyData.bool) = some bs := by
  induction bs with
  | nil => rfl
  | cons b r ih => rw [List.map_cons, bools?, ih]; rfl
theorem ints_map (bs : List Int) : ints? (bs.map PyData.int) = some bs := by
  induction bs with
  | nil => rfl
  | cons b r ih => rw [List.map_cons, ints?, ih]; rfl
theorem strs_map (bs : List Str) : strs? (bs.map PyData.str) = some bs := by
  induction bs with
  | nil => rfl
  | cons b r ih => rw [List.map_cons, strs?, ih]; rfl
def gAll (rs : List SV) (Q : SV → Prop) : Prop := match rs with
  | [x] => opt (x.lst?.bind bools?) fun bs => Q (.d (.bool (bs.all id)))
  | _ => False
def gAny (rs : List SV) (Q : SV → Prop) : Prop := match rs with
  | [x] => opt (x.lst?.bind bools?) fun bs => Q (.d (.bool (bs.any id)))
  | _ => False
theorem bind_of {α β : Type} {o : Option α} {f : α → Option β} {b : β} (h : o.bind f = some b) : ∃ a, o = some a ∧ f a = some b := by
  cases o with
  | none => cases h
  | some a => exact ⟨a, rfl, h⟩
theorem cd_all (hK : X.K = B.K) : CallD B (rAll X.K) gAll := fun rs vs Ha G F H τ Qv Q k r h fin => by
  unfold gAll at h
  split at h
  · obtain ⟨bs, eb, h⟩ := opt_of h
    obtain ⟨xs, ex, eb⟩ := bind_of eb
    obtain ⟨v, rfl, rx⟩ := r.one
    obtain ⟨p, ws, e1, hs, a⟩ := rx.sql k.same ex
    have e2 := bools_ok a eb
    subst e2
    rw [hK]
    exact ⟨p, bs, by rw [e1], hs.sql, fin.d k (.bl _) h⟩
  · exact h.elim
theorem cd_any (hK : X.K = B.K) : CallD B (rAny X.K) gAny := fun rs vs Ha G F H τ Qv Q k r h fin => by
  unfold gAny at h
  split at h
  · obtain ⟨bs, eb, h⟩ := opt_of h
    obtain ⟨xs, ex, eb⟩ := bind_of eb
    obtain ⟨v, rfl, rx⟩ := r.one
    obtain ⟨p, ws, e1, hs, a⟩ := rx.sql k.same ex
    have e2 := bools_ok a eb
    subst e2
    rw [hK]
    exact ⟨p, bs, by rw [e1], hs.sql, fin.d k (.bl _) h⟩
  · exact h.elim
/-- int(x) of an int, a truth, a text that is a number -/
theorem CallR.or {f : Value} {r r' : List V → Hp → VK → Prop} (h : CallR X f r) (h' : CallR X f r') : CallR X f (fun xs H Q => r xs H Q ∨ r' xs H Q) := fun pins s σ H xs us Q I rr q =>
  q.elim (fun q => h pins s σ H xs us Q I rr q) fun q => h' pins s σ H xs us Q I rr q
def rInt : List V → Hp → VK → Prop := fun xs H Q => ((∃ i, xs = [.int i] ∧ Q (.int i) H) ∨ ∃ k, xs = [.bl k] ∧ Q (.int (if k then 1 else 0)) H) ∨ ∃ a n, xs = [.str a] ∧ PySem.intText? a = some n ∧ a.length ≤ 640 ∧ Q (.int n) H
theorem call_intA : CallR X (.type "int") rInt := CallR.or call_int1 call_int_str
def gInt (rs : List SV) (Q : SV → Prop) : Prop := match rs with
  | [.d (.int i)] => Q (.d (.int i))
  | [.d (.bool k)] => Q (.d (.int (if k then 1 else 0)))
  | [.d (.str a)] => ∃ n, PySem.intText? a = some n ∧ a.length ≤ 640 ∧ Q (.d (.int n))
  | _ => False
theorem cd_int : CallD B rInt gInt := fun rs vs Ha G F H τ Qv Q k r h fin => by
  unfold gInt at h
  split at h
  · obtain ⟨v, rfl, rx⟩ := r.one
    exact .inl (.inl ⟨_, by rw [rint rx], fin.d k (.int _) h⟩)
  · obtain ⟨v, rfl, rx⟩ := r.one
    exact .inl (.inr ⟨_, by rw [rbl rx], fin.d k (.int _) h⟩)
  · obtain ⟨n, e1, e2, h⟩ := h
    obtain ⟨v, rfl, rx⟩ := r.one
    exact .inr ⟨_, n, by rw [rstr rx], e1, e2, fin.d k (.int _) h⟩
  · exact h.elim
def gII (f : Int → Int → Int) (rs : List SV) (Q : SV → Prop) : Prop := match rs with
  | [.d (.int i), .d (.int j)] => Q (.d (.int (f i j)))
  | _ => False
theorem cd_II {f : Int → Int → Int} : CallD B (fun xs H Q => ∃ i j, xs = [.int i, .int j] ∧ Q (.int (f i j)) H) (gII f) := fun rs vs Ha G F H τ Qv Q k r h fin => by
  unfold gII at h
  split at h
  · obtain ⟨v, w, rfl, rx, ry⟩ := r.two
    exact ⟨_, _, by rw [rint rx, rint ry], fin.d k (.int _) h⟩
  · exact h.elim
end
end Z

namespace Z
open PySem L2

/-! ### known defs -/
structure Known (P : Program) (w : World) (K : PySem.W.Frag) (mg : Str → Option Value) (base : Heap) (S : Sto) (x : Str) (ps : List Str) (k : Nat) (FF : FW S.T) : Prop where
  ex : ∃ f fd, FnOk P w K mg base CX0 k f fd ps (spD S K FF) ∧ mg x = some (.ref f) ∧ PySem.W.keepIn K (.ref f) = true ∧ Binds K fd ps []
section
variable {X : Cx} {B : Bk} {e : Expr} {es : List Expr} {pos p : Pos} {ta : WA B.T} {FF : FW B.S.T} {ps : List Str} {k : Nat} {x : Str} {te : W B.T}
theorem de_callK (hK : X.K = B.K) (h : Known X.prog X.w X.K X.mg X.base B.S x ps k FF) (hr : Room k X.A) (hg : Gl X x)
    (ha : PA X (e :: es) (liftA B ta)) (hdb : (x == ("__debug__" : Str)) = false := by decide) (he : starEach (e :: es) X.env = (false, eval e X.env) :: starEach es X.env := by rfl) (hpl : (backTo pos (starEach es X.env)).any (·.1) = false := by rfl) :
    PE X (.Call (.Name x p) (e :: es) [] pos) (lift B (dCall FF ta)) := by
  obtain ⟨f, fd, F, hm, hk, hb⟩ := h.ex
  rw [hK] at F
  exact de_call hK (by rw [hK]; exact F) hr hg hm hk hb ha hdb he hpl
theorem de_callK0 (hK : X.K = B.K) (h : Known X.prog X.w X.K X.mg X.base B.S x ps k FF) (hr : Room k X.A) (hg : Gl X x) (hdb : (x == ("__debug__" : Str)) = false := by decide) :
    PE X (.Call (.Name x p) [] [] pos) (lift B (dCall FF dNil)) := by
  obtain ⟨f, fd, F, hm, hk, hb⟩ := h.ex
  rw [hK] at F
  exact de_call0 hK (by rw [hK]; exact F) hr hg hm hk hb hdb
/-- a built-in type as a value -/
theorem de_ty {n : String} (hg : Gl X x) (hm : X.mg x = none) (hv : bootBuiltins x = some (.type n)) (hn : x ≠ "__name__" := by decide) (hd : (x == ("__debug__" : Str)) = false := by decide) : PE X (.Name x p) (lift B (dRaw (.ty n))) :=
  de_raw (pe_bltn hg hm hv rfl hn hd)
/-- a constant of the module -/
theorem de_gint {i : Int} (hg : Gl X x) (hm : ∃ t, X.mg x = some (.int i t)) (hd : (x == ("__debug__" : Str)) = false := by decide) : PE X (.Name x p) (lift B (dC (.int i))) := by
  obtain ⟨t, hm⟩ := hm
  exact de_c (pe_glob (v := .int i) hg hm ⟨t, rfl⟩ hd) fun _ => .int i
theorem de_gstr {z : Str} (hg : Gl X x) (hm : ∃ t, X.mg x = some (.str z t)) (hd : (x == ("__debug__" : Str)) = false := by decide) : PE X (.Name x p) (lift B (dC (.str z))) := by
  obtain ⟨t, hm⟩ := hm
  exact de_c (pe_glob (v := .str z) hg hm ⟨t, rfl⟩ hd) fun _ => .str z
/-- data of the module -/
def GData (mg : Str → Option Value) (K : PySem.W.Frag) (x : Str) (d : D) : Prop := ∃ v u, mg x = some u ∧ RelV v u ∧ ∀ G, Rp K G v d
theorem de_gdat {d : D} (hK : X.K = B.K) (hg : Gl X x) (hm : GData X.mg X.K x d) (hd : (x == ("__debug__" : Str)) = false := by decide) : PE X (.Name x p) (lift B (dC d)) := by
  obtain ⟨v, u, hm, r, h⟩ := hm
  rw [hK] at h
  exact de_c (pe_glob hg hm r hd) h
/-- -a -/
def gNeg (x : SV) (Q : SV → Prop) : Prop := match x with
  | .d (.int i) => Q (.d (.int (-i)))
  | _ => False
def dUn {T : Type} (g : SV → (SV → Prop) → Prop) (ta : W T) : W T := fun env τ Q => ta env τ fun x τ1 => g x fun z => Q z τ1
theorem de_neg (ha : PE X e (lift B te)) : PE X (.UnaryOp .USub e pos) (lift B (dUn gNeg te)) := pe_imp (pe_un un_neg ha) fun σ H Q ⟨G, F, env, τ, Qd, s, t, k⟩ => ⟨G, F, env, τ, _, s, t, fun x τ1 G1 F1 H1 v f1 r1 q => by
  unfold gNeg at q
  split at q
  · exact ⟨_, rint r1, (FinT.trans k f1).d f1.k (.int _) q⟩
  · exact q.elim⟩
/-- {} -/
def dEmp {T : Type} : W T := fun _ τ Q => Q (.d (.dict [])) τ
theorem de_emp : PE X (.Dict [] [] pos) (lift B dEmp) := pe_imp pe_dnewK fun σ H Q ⟨G, F, env, τ, Qd, s, t, k⟩ => fun d hd =>
  k (.d (.dict [])) τ (upd G d (.dK [])) F (upd H d (.dK [])) (.ref d) ⟨Step.new hd s.k.same s.k.fh, s.k.new hd⟩ (Rp.emp upd_same) t
/-- sep.join(texts) -/
def gJoin (x y : SV) (Q : SV → Prop) : Prop := ∃ a, x = .d (.str a) ∧ opt (y.seqd?.bind strs?) fun ys => (ys.map (·.length)).sum + ys.length * a.length ≤ 16777216 ∧ Q (.d (.str (Txt.join a ys)))
def dM1 {T : Type} (g : SV → SV → (SV → Prop) → Prop) (to te : W T) : W T := fun env τ Q => to env τ fun x τ1 => (∃ a, x = .d (.str a)) ∧ te env τ1 fun y τ2 => g x y fun z => Q z τ2
theorem de_m1 {r : V → List V → Hp → VK → Prop} {g : SV → SV → (SV → Prop) → Prop} {to : W B.T} (h : PE X e (tM1 r (lift B to) (lift B te))) (hd : OpD B (fun x y H Q => r x [y] H Q) g) : PE X e (lift B (dM1 g to te)) :=
  pe_imp h fun σ H Q ⟨G, F, env, τ, Qd, s, t, k⟩ => ⟨G, F, env, τ, _, s, t, fun x τ1 G1 F1 H1 vx f1 r1 ⟨⟨a, ea⟩, q1⟩ => ⟨by
      subst ea
      exact ⟨a, rstr r1⟩, G1, F1, env, τ1, _, s.fin f1, q1, fun y τ2 G2 F2 H2 vy f2 r2 q2 =>
      hd x y vx vy _ _ G2 F2 H2 τ2 _ _ f2.k (r1.step f2.s) r2 q2 fun z G3 F3 H3 v f3 r3 q3 => k z τ2 G3 F3 H3 v (f1.trans (f2.trans f3)) (r3.back (dead (f1.trans f2).s.dom)) q3⟩⟩
theorem od_join (hK : X.K = B.K) : OpD B (fun x y H Q => ∃ a p, ∃ ys : List Str, x = .str a ∧ [y] = [.ref p] ∧ (SqL X.K H p (ys.map V.str) ∨ SqT X.K H p (ys.map V.str)) ∧ (ys.map (·.length)).sum + ys.length * a.length ≤ 16777216 ∧ Q (.str (Txt.join a ys)) H) gJoin :=
  fun x y vx vy Ha Hb G F H τ Qv Q k rx ry h fin => by
    obtain ⟨a, ex, h⟩ := h
    obtain ⟨ys, ey, hz, h⟩ := opt_of h
    obtain ⟨xs, e1, e2⟩ := bind_of ey
    subst ex
    obtain ⟨p, vs, e3, hs, ra⟩ := ry.seqd k.same e1
    have e4 := strs_ok ra e2
    subst e4
    rw [hK]
    exact ⟨a, p, ys, rstr rx, by rw [e3], hs, hz, fin.d k (.str _) h⟩
/-- text.index(sign) -/
def gSIndex (x y : SV) (Q : SV → Prop) : Prop := ∃ a b i rest, x = .d (.str a) ∧ y = .d (.str b) ∧ Builtin.Str.occurrences a b 0 a.length 1 = i :: rest ∧ Q (.d (.int (i : Nat)))
theorem od_sindex : OpD B (fun x y H Q => ∃ a b i rest, x = .str a ∧ [y] = [.str b] ∧ Builtin.Str.occurrences a b 0 a.length 1 = i :: rest ∧ Q (.int (i : Nat)) H) gSIndex :=
  fun x y vx vy Ha Hb G F H τ Qv Q k rx ry h fin => by
    obtain ⟨a, b, i, rest, ex, ey, e, h⟩ := h
    subst ex ey
    exact ⟨a, b, i, rest, rstr rx, by rw [rstr ry], e, fin.d k (.int _) h⟩
/-- text * n, n from 2 on -/
def strRep (x : Str) (n : Nat) : Str := ⟨(List.replicate n x.cps).foldl (· ++ ·) #[]⟩
def gMulS (x y : SV) (Q : SV → Prop) : Prop := ∃ a n, x = .d (.str a) ∧ y = .d (.int n) ∧ (2 ≤ n ∧ n ≤ 100000 ∧ 0 < a.length ∧ a.length ≤ 100) ∧ (strRep a n.toNat).length ≤ sizeLine ∧ Q (.d (.str (strRep a n.toNat)))
def rMulS : R2 := fun x y H Q => ∃ a n, x = .str a ∧ y = .int n ∧ (2 ≤ n ∧ n ≤ 100000 ∧ 0 < a.length ∧ a.length ≤ 100) ∧ (strRep a n.toNat).length ≤ sizeLine ∧ Q (.str (strRep a n.toNat)) H
theorem op_mulS : OpR X (binaryOp .Mult) rMulS := by
  intro pins s σ H x y v u Q I rx ry h
  obtain ⟨a, n, rfl, rfl, ⟨h1, h2, h3, h4⟩, h5, q⟩ := h
  obtain ⟨t, rfl⟩ := rx
  obtain ⟨t', rfl⟩ := ry
  have hn : ¬ n < 1 := by omega
  have hb : (n == 1 || a.length == 0) = false := by
    rw [Bool.or_eq_false_iff]
    exact ⟨beq_eq_false_iff_ne.mpr (by omega), beq_eq_false_iff_ne.mpr (by omega)⟩
  refine PySem.P.mul_str ?_ (fun _ _ => ?_) (fun _ _ => ?_) ?_
  · rw [decide_eq_false (by omega), decide_eq_false (by omega)]
    rfl
  · have : (100 : Int) ≤ (2 ^ 63 - 1) / n := by
      refine Int.le_ediv_of_mul_le (by omega) ?_
      omega
    omega
  · unfold Builtin.Str.tooLong
    have : a.length * n.toNat ≤ 100 * 100000 := Nat.mul_le_mul h4 (by omega)
    have hl : sizeLine = 16777216 := sizeLine_eq
    exact decide_eq_false (by omega)
  · rw [if_neg hn, hb]
    exact ⟨h5, .str _, H, I.tok _, ⟨_, rfl⟩, q⟩
theorem od_mulS : OpD B rMulS gMulS := fun x y vx vy Ha Hb G F H τ Qv Q k rx ry h fin => by
  obtain ⟨a, n, ex, ey, h1, h2, h⟩ := h
  subst ex ey
  exact ⟨a, n, rstr rx, rint ry, h1, h2, fin.d k (.str _) h⟩
def gMul (x y : SV) (Q : SV → Prop) : Prop := gI CMul (fun i j => .int (i * j)) x y Q ∨ gMulS x y Q
theorem op_mulA : OpR X (binaryOp .Mult) (fun x y H Q => (rI CMul fun i j => .int (i * j)) x y H Q ∨ rMulS x y H Q) := op_mul.or op_mulS
theorem od_mul : OpD B (fun x y H Q => (rI CMul fun i j => .int (i * j)) x y H Q ∨ rMulS x y H Q) gMul := od_I.or od_mulS
end
end Z

namespace Z
open PySem L2

/-! ### what is drawn by: a dict that the law's own defs share -/
inductive DrT where
  | off
  | on (a : Addr) (b : Nat)
def drK (c : Addr) (i l u : Int) : List (Key × V) := [(Sum.inr ("cells" : Str), V.ref c), (Sum.inr ("at" : Str), V.int i), (Sum.inr ("left" : Str), V.int l), (Sum.inr ("used" : Str), V.int u)]
structure DrAt (K : PySem.W.Frag) (G H : Hp) (a : Addr) (b : Nat) : Prop where
  ex : ∃ (c : Addr) (cs : List Int) (i l u : Int), H a = some (.dK (drK c i l u)) ∧ SqP K G c (cs.map V.int) ∧ cs ≠ [] ∧ (0 ≤ i ∧ 0 ≤ u ∧ i + b ≤ 1152921504606846976 ∧ u + b ≤ 1152921504606846976)
def drR (K : PySem.W.Frag) (t : DrT) (G : Hp) (F : Addr → Prop) (H : Hp) : Prop := match t with
  | .off => ∀ a, ¬ F a
  | .on a b => (∀ p, F p ↔ p = a) ∧ DrAt K G H a b
def theS (Ts : List Addr) : Sto where
  T := DrT
  tb := fun a => a ∈ Ts
  R := drR
  st := fun {K t G G' F H H'} r sm e => by
    cases t with
    | off => exact r
    | on a b =>
      obtain ⟨hF, c, cs, i, l, u, h1, h2, h3, h4⟩ := r
      exact ⟨hF, ⟨c, cs, i, l, u, by rw [e a ((hF a).mpr rfl)]; exact h1, same_sqp sm h2, h3, h4⟩⟩
theorem kne1 : ¬ ("cells" : Str) = "at" := by decide +kernel
theorem kne2 : ¬ ("cells" : Str) = "left" := by decide +kernel
theorem kne3 : ¬ ("cells" : Str) = "used" := by decide +kernel
theorem kne4 : ¬ ("at" : Str) = "left" := by decide +kernel
theorem kne5 : ¬ ("at" : Str) = "used" := by decide +kernel
theorem kne6 : ¬ ("left" : Str) = "used" := by decide +kernel
section
variable {c : Addr} {i l u z : Int} {v : V}
theorem dr_cells : valV (drK c i l u) (Sum.inr ("cells" : Str)) = some (.ref c) := by simp [drK, valV]
theorem dr_at : valV (drK c i l u) (Sum.inr ("at" : Str)) = some (.int i) := by simp [drK, valV, kne1]
theorem dr_left : valV (drK c i l u) (Sum.inr ("left" : Str)) = some (.int l) := by simp [drK, valV, kne2, kne4]
theorem dr_used : valV (drK c i l u) (Sum.inr ("used" : Str)) = some (.int u) := by simp [drK, valV, kne3, kne5, kne6]
theorem dr_pat : putK (drK c i l u) (Sum.inr ("at" : Str)) (.int z) = drK c z l u := by simp [drK, putK, kne1, Ne.symm kne4, Ne.symm kne5]
theorem dr_pleft : putK (drK c i l u) (Sum.inr ("left" : Str)) (.int z) = drK c i z u := by simp [drK, putK, kne2, kne4, Ne.symm kne6]
theorem dr_pused : putK (drK c i l u) (Sum.inr ("used" : Str)) (.int z) = drK c i l z := by simp [drK, putK, kne3, kne5, kne6]
theorem dr_new : mergeK [] (drK c i l u) = drK c i l u := by
  simp [drK, mergeK, putK, kne1, kne2, kne3, kne4, kne5, kne6]
theorem dr_len : (drK c i l u).length = 4 := rfl
end
def FF__law_begin : FW DrT := fun rs τ Q => ∃ ns : List Int, rs = [.d (.list (ns.map PyData.int))] ∧ ns.length ≤ 63 ∧ τ = .off ∧ ∀ a, Q (.raw (.ref a)) (.on a 1152921504606846976)
def FF__law_mixed : FW DrT := fun rs τ Q => ∃ c k : Int, rs = [.d (.int c), .d (.int k)] ∧ (0 ≤ k ∧ k ≤ 1152921504606846976) ∧ ∀ r : Int, 0 ≤ r → Q (.d (.int r)) τ
def FF__law_next : FW DrT := fun rs τ Q => ∃ (a : Addr) (b : Nat) (n : Int), rs = [.raw (.ref a), .d (.int n)] ∧ τ = .on a (b + 1) ∧ (0 < n ∧ n < 1073741824) ∧ ∀ r : Int, 0 ≤ r → r < n → Q (.d (.int r)) (.on a b)
/-- a state of what is drawn by is another one -/
theorem dr_ok {Ts : List Addr} {K : PySem.W.Frag} {a c : Addr} {b b' : Nat} {G H : Hp} {F : Addr → Prop} {cs : List Int} {i' l' u' : Int} (k : Ok (theS Ts) K (.on a b) G F H) (h1 : SqP K G c (cs.map V.int)) (h2 : cs ≠ [])
    (h3 : 0 ≤ i' ∧ 0 ≤ u' ∧ i' + b' ≤ 1152921504606846976 ∧ u' + b' ≤ 1152921504606846976)   : Ok (theS Ts) K (.on a b') G F (upd H a (.dK (drK c i' l' u'))) ∧ Step G F H G F (upd H a (.dK (drK c i' l' u'))) := by
  have hF : ∀ p, F p ↔ p = a := k.r.1
  have fa : F a := (hF a).mpr rfl
  refine ⟨⟨fun p o e => ?_, k.gf, fun p e => ?_, ⟨hF, c, cs, i', l', u', upd_same, h1, h2, h3⟩, k.nt' (fun _ z => by cases z), k.nx' (fun _ z => by cases z)⟩, Same.refl G, fun p o nf e => ?_, fun p o e => .inl e, fun p e => .inl e, fun p e => e, fun p e => ?_⟩
  · have : p ≠ a := fun z => by
      subst z
      rw [k.gf _ fa] at e
      cases e
    rw [upd_ne this]
    exact k.same p o e
  · have := (hF p).mp e
    subst this
    rw [upd_same]
    exact fun z => by cases z
  · have : p ≠ a := fun z => nf ((hF p).mpr z)
    rw [upd_ne this]
    exact e
  · by_cases z : p = a
    · subst z
      rw [upd_same]
      exact fun z => by cases z
    · rw [upd_ne z]
      exact e
theorem Ok.less {Ts : List Addr} {K : PySem.W.Frag} {a : Addr} {b b' : Nat} {G H : Hp} {F : Addr → Prop} (k : Ok (theS Ts) K (.on a b) G F H) (h : b' ≤ b) : Ok (theS Ts) K (.on a b') G F H := by
  obtain ⟨hF, c, cs, i, l, u, h1, h2, h3, h4⟩ := k.r
  exact ⟨k.same, k.gf, k.fh, ⟨hF, c, cs, i, l, u, h1, h2, h3, by omega⟩, k.nt, k.nx⟩
end Z

namespace Z
open PySem L2

section
variable {T : Type} {t : Tg} {tt : WT T} {te : W T} {tb : WS T}
/-- a comprehension whose turns say what each item gives, and change nothing else -/
theorem lcW_fm {Q : List D → T → Prop} {env : List SV} {τ : T} (f : D → Option D) : ∀ (xs acc : List D),
    (∀ x ∈ xs, ∀ (kc : D → T → Prop) (k0 : T → Prop), (match f x with | some y => kc y τ | none => k0 τ) → opt (tgE t x env) fun env' => tt env' τ fun b τ1 => if b = true then te env' τ1 fun r τ2 => opt r.dat? fun y => kc y τ2 else k0 τ1) →
    acc.length + xs.length ≤ sizeLine → Q (acc ++ xs.filterMap f) τ → lcW t tt te Q xs acc env τ
  | [], acc, _, _, q => by
    rw [List.filterMap_nil, List.append_nil] at q
    exact q
  | x :: xs, acc, h, hl, q => by
    rw [List.length_cons] at hl
    refine h x (by simp) _ _ ?_
    cases e : f x with
    | none =>
      rw [List.filterMap_cons, e] at q
      exact lcW_fm f xs acc (fun y hy => h y (by simp [hy])) (by omega) q
    | some y =>
      rw [List.filterMap_cons, e] at q
      refine ⟨by omega, lcW_fm f xs (acc ++ [y]) (fun y hy => h y (by simp [hy])) (by rw [List.length_append, List.length_singleton]; omega) ?_⟩
      rw [List.append_assoc]
      exact q
theorem lcW_map {Q : List D → T → Prop} {env : List SV} {τ : T} (f : D → D) (xs : List D)
    (h : ∀ x ∈ xs, ∀ (kc : D → T → Prop) (k0 : T → Prop), kc (f x) τ → opt (tgE t x env) fun env' => tt env' τ fun b τ1 => if b = true then te env' τ1 fun r τ2 => opt r.dat? fun y => kc y τ2 else k0 τ1)
    (hl : xs.length ≤ sizeLine) (q : Q (xs.map f) τ) : lcW t tt te Q xs [] env τ :=
  lcW_fm (fun x => some (f x)) xs [] (fun x hx kc k0 z => h x hx kc k0 z) (by simpa using hl) (by
    rw [List.nil_append, show (fun x => some (f x)) = some ∘ f from rfl, List.filterMap_eq_map]
    exact q)
/-- by what holds behind each turn -/
theorem lcW_inv {Q : List D → T → Prop} {env : List SV} (P : Nat → List D → T → Prop) : ∀ (xs : List D) (i : Nat) (acc : List D) (τ : T), P i acc τ →
    (∀ j x acc τ, xs[j]? = some x → P (i + j) acc τ → acc.length ≤ i + j → ∀ (kc : D → T → Prop) (k0 : T → Prop), (∀ y τ', P (i + j + 1) (acc ++ [y]) τ' → kc y τ') → (∀ τ', P (i + j + 1) acc τ' → k0 τ') →
      opt (tgE t x env) fun env' => tt env' τ fun b τ1 => if b = true then te env' τ1 fun r τ2 => opt r.dat? fun y => kc y τ2 else k0 τ1) →
    acc.length ≤ i → i + xs.length ≤ sizeLine → (∀ acc τ, P (i + xs.length) acc τ → Q acc τ) → lcW t tt te Q xs acc env τ
  | [], i, acc, τ, p, _, _, _, q => q acc τ p
  | x :: xs, i, acc, τ, p, h, ha, hl, q => by
    rw [List.length_cons] at hl
    have h' : ∀ (j : Nat) (y : D) (acc : List D) (τ : T), xs[j]? = some y → P (i + 1 + j) acc τ → acc.length ≤ i + 1 + j → ∀ (kc : D → T → Prop) (k0 : T → Prop), (∀ y τ', P (i + 1 + j + 1) (acc ++ [y]) τ' → kc y τ') → (∀ τ', P (i + 1 + j + 1) acc τ' → k0 τ') →
        opt (tgE t y env) fun env' => tt env' τ fun b τ1 => if b = true then te env' τ1 fun r τ2 => opt r.dat? fun y => kc y τ2 else k0 τ1 := fun j y acc τ e p => by
      have z := h (j + 1) y acc τ (by simpa using e)
      rw [show i + (j + 1) = i + 1 + j by omega] at z
      exact z p
    have q' : ∀ acc τ, P (i + 1 + xs.length) acc τ → Q acc τ := fun acc τ p => q acc τ (by rw [List.length_cons, show i + (xs.length + 1) = i + 1 + xs.length by omega]; exact p)
    refine h 0 x acc τ rfl p ha _ _ (fun y τ' p' => ⟨by omega, ?_⟩) fun τ' p' => ?_
    · exact lcW_inv P xs (i + 1) _ τ' p' h' (by rw [List.length_append, List.length_singleton]; omega) (by omega) q'
    · exact lcW_inv P xs (i + 1) _ τ' p' h' (by omega) (by omega) q'
theorem forW_inv {D : DEnds T} (P : Nat → List SV → T → Prop) : ∀ (xs : List Z.D) (i : Nat) (env : List SV) (τ : T), P i env τ →
    (∀ j x env τ, xs[j]? = some x → P (i + j) env τ → ∀ kn : List SV → T → Prop, (∀ env' τ', P (i + j + 1) env' τ' → kn env' τ') → opt (tgE t x env) fun env' => tb { D with nx := kn, ct := kn, bk := D.nx } env' τ) →
    (∀ env τ, P (i + xs.length) env τ → D.nx env τ) → forW t tb D xs env τ
  | [], i, env, τ, p, _, q => q env τ p
  | x :: xs, i, env, τ, p, h, q => by
    refine h 0 x env τ rfl p _ fun env' τ' p' => ?_
    refine forW_inv P xs (i + 1) env' τ' p' (fun j y env τ e p => ?_) fun env τ p => q env τ (by rw [List.length_cons, show i + (xs.length + 1) = i + 1 + xs.length by omega]; exact p)
    have z := h (j + 1) y env τ (by simpa using e)
    rw [show i + (j + 1) = i + 1 + j by omega] at z
    exact z p
end
end Z

namespace Z
open PySem L2
/-! ### texts as lists of signs -/
abbrev cs (z : Str) : List Nat := z.cps.toList
def mkS (l : List Nat) : Str := ⟨l.toArray⟩
theorem cs_mk (l : List Nat) : cs (mkS l) = l := rfl
theorem mk_cs (z : Str) : mkS (cs z) = z := by cases z; rfl
theorem str_ext {a b : Str} (h : cs a = cs b) : a = b := by rw [← mk_cs a, ← mk_cs b, h]
theorem str_len (z : Str) : z.length = (cs z).length := by
  show z.cps.size = z.cps.toList.length
  rw [Array.length_toList]
theorem mk_inj {a b : List Nat} : mkS a = mkS b ↔ a = b := ⟨fun h => by
  have := congrArg cs h
  exact this, fun h => by rw [h]⟩
theorem beq_cs (a b : Str) : (a == b) = decide (cs a = cs b) := by
  rw [Bool.eq_iff_iff, beq_iff_eq, decide_eq_true_iff]
  exact ⟨fun h => by rw [h], str_ext⟩
theorem cs_append (a b : Str) : cs (a ++ b) = cs a ++ cs b := TL.tl_append a b
theorem cs_ofString (s : String) : cs (Str.ofString s) = s.toList.map Char.toNat := TL.tl_ofString s
theorem cs_pre (z : Str) (k : Nat) : cs (cutS z none (some (k : Int))) = (cs z).take k := by
  unfold cutS
  show ((z.cps.toList.drop (HT.sIx z.length 0 none)).take (HT.sIx z.length z.length (some (k : Int)) - HT.sIx z.length 0 none)) = (cs z).take k
  rw [HT.sIx_none, HT.sIx_nat, List.drop_zero, Nat.sub_zero, str_len]
  rw [List.take_eq_take_iff]
  show min (min k (cs z).length) (cs z).length = min k (cs z).length
  omega
theorem cs_post (z : Str) (k : Nat) : cs (cutS z (some (k : Int)) none) = (cs z).drop k := by
  unfold cutS
  show ((z.cps.toList.drop (HT.sIx z.length 0 (some (k : Int)))).take (HT.sIx z.length z.length none - HT.sIx z.length 0 (some (k : Int)))) = (cs z).drop k
  rw [HT.sIx_none, HT.sIx_nat, str_len]
  by_cases h : k ≤ (cs z).length
  · rw [Nat.min_eq_left h, List.take_of_length_le (by rw [List.length_drop]; exact Nat.le_refl _)]
  · rw [Nat.min_eq_right (by omega), List.drop_eq_nil_of_le (Nat.le_refl _), List.drop_eq_nil_of_le (by omega)]
    exact List.take_nil
end Z

namespace Z
open PySem L2
/-! ### in use -/
theorem ixN_ok {n : Nat} {i : Int} (h0 : 0 ≤ i) (h1 : i < n) : ixN n i = some i.toNat := by
  unfold ixN
  rw [if_pos h0, if_pos h1]
theorem atI_all {α : Type} {xs : List α} {i : Int} {Q : α → Prop} (h0 : 0 ≤ i) (h1 : i < (xs.length : Int)) (h : ∀ x ∈ xs, Q x) : opt (atI xs i) Q := by
  unfold atI
  rw [ixN_ok h0 h1]
  have hi : i.toNat < xs.length := by omega
  show opt xs[i.toNat]? Q
  rw [List.getElem?_eq_getElem hi]
  exact h _ (List.getElem_mem hi)
theorem atI_some {α : Type} {xs : List α} {i : Int} (h0 : 0 ≤ i) (h1 : i < (xs.length : Int)) : ∃ x, atI xs i = some x ∧ xs[i.toNat]? = some x ∧ x ∈ xs := by
  have hi : i.toNat < xs.length := by omega
  refine ⟨xs[i.toNat], ?_, List.getElem?_eq_getElem hi, List.getElem_mem hi⟩
  unfold atI
  rw [ixN_ok h0 h1]
  exact List.getElem?_eq_getElem hi
theorem next_use {a : Addr} {b : Nat} {n : Int} {Q : SV → DrT → Prop} (hb : 1 ≤ b) (h0 : 0 < n) (h1 : n < 1073741824) (h : ∀ r : Int, 0 ≤ r → r < n → Q (.d (.int r)) (.on a (b - 1))) : FF__law_next [.raw (.ref a), .d (.int n)] (.on a b) Q :=
  ⟨a, b - 1, n, rfl, by rw [Nat.sub_add_cancel hb], ⟨h0, h1⟩, h⟩
/-- a text of no great length, of signs -/
def okS (s : Str) : Prop := s.length ≤ 100000 ∧ ∀ c ∈ cs s, c < 1114112
theorem okS.sz {s : Str} (h : okS s) : s.length ≤ sizeLine := by
  rw [sizeLine_eq]
  have := h.1
  omega
theorem okS.lay {s : Str} (h : okS s) : (PyData.str s).canLay0 = true := by
  rw [PyData.canLay0]
  unfold PyData.strOk
  rw [← Array.all_toList, List.all_eq_true]
  exact fun c hc => decide_eq_true (h.2 c hc)
theorem okS.of {l : List Nat} (h1 : l.length ≤ 100000) (h2 : ∀ c ∈ l, c < 1114112) : okS (mkS l) := ⟨by rw [str_len]; exact h1, h2⟩
theorem canAll {xs : List D} (h : ∀ x ∈ xs, x.canLay0 = true) : PyData.canLayAll0 xs = true := by
  induction xs with
  | nil => rfl
  | cons x xs ih =>
    rw [PyData.canLayAll0, h x (by simp), ih fun y hy => h y (by simp [hy])]
    rfl
theorem depAll {xs : List D} {n : Nat} (h : ∀ x ∈ xs, x.depth ≤ n) : PyData.depthAll xs ≤ n := by
  induction xs with
  | nil => rw [PyData.depthAll]; omega
  | cons x xs ih =>
    rw [PyData.depthAll]
    exact Nat.max_le.mpr ⟨h x (by simp), ih fun y hy => h y (by simp [hy])⟩
theorem shaped_of {x : D} (h1 : x.canLay0 = true) (h2 : x.depth ≤ 64) : SeqAt.shaped x = true := by
  unfold SeqAt.shaped
  rw [h1, decide_eq_true h2]
  rfl
theorem shaped_list {xs : List D} (h : ∀ x ∈ xs, x.canLay0 = true ∧ x.depth ≤ 63) : SeqAt.shaped (.list xs) = true := by
  refine shaped_of ?_ ?_
  · rw [PyData.canLay0]
    exact canAll fun x hx => (h x hx).1
  · rw [PyData.depth]
    have := depAll fun x hx => (h x hx).2
    omega
theorem shaped_tuple {xs : List D} (h : ∀ x ∈ xs, x.canLay0 = true ∧ x.depth ≤ 63) : SeqAt.shaped (.tuple xs) = true := by
  refine shaped_of ?_ ?_
  · rw [PyData.canLay0]
    exact canAll fun x hx => (h x hx).1
  · rw [PyData.depth]
    have := depAll fun x hx => (h x hx).2
    omega
theorem eqv_nil (xs : List D) : PyData.eqv (.list xs) (.list []) = xs.isEmpty := by
  cases xs <;> simp [PyData.eqv, PyData.eqvAll]
theorem shaped_nil : SeqAt.shaped (.list []) = true := by decide +kernel
theorem sg_lay {c : Nat} (h : c < 1114112) : (sg c).canLay0 = true ∧ (sg c).depth ≤ 63 := by
  constructor
  · exact okS.lay (s := ⟨#[c]⟩) ⟨by show 1 ≤ 100000; decide, fun d hd => by
      have : d ∈ [c] := hd
      rw [List.mem_singleton] at this
      omega⟩
  · show (PyData.str _).depth ≤ 63
    rw [PyData.depth]
    omega
/-- texts put together -/
theorem cs_join0 (ys : List Str) : cs (Txt.join (Str.ofString "") ys) = (ys.map cs).flatten := by
  rw [TL.join_eq]
  show TL.tl _ = _
  rw [TL.tl_join]
  have e : TL.tl (Str.ofString "") = [] := by decide +kernel
  rw [e]
  show TL.joinL [] (ys.map cs) = _
  generalize ys.map cs = ls
  induction ls with
  | nil => rfl
  | cons a r ih =>
    cases r with
    | nil => simp [TL.joinL]
    | cons b r' =>
      rw [TL.joinL, List.nil_append, ih, List.flatten_cons, List.flatten_cons, List.flatten_cons]
theorem strs_sg (l : List Nat) : strs? (l.map sg) = some (l.map fun c => (⟨#[c]⟩ : Str)) := by
  have : l.map sg = (l.map fun c => (⟨#[c]⟩ : Str)).map PyData.str := by
    rw [List.map_map]
    rfl
  rw [this, strs_map]
theorem join_sg (l : List Nat) : Txt.join (Str.ofString "") (l.map fun c => (⟨#[c]⟩ : Str)) = mkS l := by
  apply str_ext
  rw [cs_join0, List.map_map, cs_mk]
  induction l with
  | nil => rfl
  | cons a r ih => rw [List.map_cons, List.flatten_cons, ih]; rfl
theorem sum_sg (l : List Nat) : ((l.map fun c => (⟨#[c]⟩ : Str)).map (·.length)).sum = l.length := by
  induction l with
  | nil => rfl
  | cons a r ih =>
    rw [List.map_cons, List.map_cons, List.sum_cons, ih, List.length_cons]
    show 1 + r.length = r.length + 1
    omega
theorem rgI_len (lo : Int) (n : Nat) : (rgI lo n).length = n := by
  unfold rgI
  rw [List.length_map, List.length_range]
theorem rgI_get {lo : Int} {n i : Nat} {x : D} (h : (rgI lo n)[i]? = some x) : i < n ∧ x = .int (lo + (i : Nat)) := by
  unfold rgI at h
  rw [List.getElem?_map] at h
  by_cases hi : i < n
  · rw [List.getElem?_range hi] at h
    exact ⟨hi, (Option.some.inj h).symm⟩
  · rw [List.getElem?_eq_none (by rw [List.length_range]; omega)] at h
    cases h
theorem len4 {a b : Nat} {c : Int} (h : a = b) (h2 : (b : Int) = c) : (a : Int) = c := by omega
end Z

namespace Z
open PySem L2
/-! ### signs of texts, in comprehensions -/
theorem eqv_str (a b : Str) : PyData.eqv (.str a) (.str b) = decide (cs a = cs b) := by
  rw [← beq_cs, PyData.eqv]
theorem all_map (f : Nat → Bool) (l : List Nat) : (l.map f).all id = l.all f := by
  rw [List.all_map]
  rfl
section
variable {T : Type} {t : Tg} {tt : WT T} {te : W T}
theorem dVar_self {i : Nat} {env : List SV} {x : D} {τ : T} {Q : SV → T → Prop} (hi : i < env.length) : dVar i (env.set i (.d x)) τ Q = Q (.d x) τ := by
  unfold dVar
  rw [List.getElem?_set_self hi]
theorem lc_filter' {Q : List D → T → Prop} {env : List SV} {τ : T} (p : Nat → Bool) : ∀ (l : List Nat) (acc : List D),
    (∀ c ∈ l, ∀ (kc : D → T → Prop) (k0 : T → Prop), (if p c = true then kc (sg c) τ else k0 τ) → opt (tgE t (sg c) env) fun env' => tt env' τ fun b τ1 => if b = true then te env' τ1 fun r τ2 => opt r.dat? fun y => kc y τ2 else k0 τ1) →
    acc.length + l.length ≤ sizeLine → Q (acc ++ (l.filter p).map sg) τ → lcW t tt te Q (l.map sg) acc env τ
  | [], acc, _, _, q => by
    rw [List.filter_nil, List.map_nil, List.append_nil] at q
    exact q
  | c :: l, acc, h, hl, q => by
    rw [List.length_cons] at hl
    refine h c (by simp) _ _ ?_
    cases e : p c with
    | false =>
      rw [List.filter_cons, e] at q
      exact iteF (lc_filter' p l acc (fun y hy => h y (by simp [hy])) (by omega) q)
    | true =>
      rw [List.filter_cons, e] at q
      refine iteT ⟨by omega, lc_filter' p l (acc ++ [sg c]) (fun y hy => h y (by simp [hy])) (by rw [List.length_append, List.length_singleton]; omega) ?_⟩
      rw [List.append_assoc]
      exact q
theorem lc_filter {Q : List D → T → Prop} {env : List SV} {τ : T} (p : Nat → Bool) (l : List Nat)
    (h : ∀ c ∈ l, ∀ (kc : D → T → Prop) (k0 : T → Prop), (if p c = true then kc (sg c) τ else k0 τ) → opt (tgE t (sg c) env) fun env' => tt env' τ fun b τ1 => if b = true then te env' τ1 fun r τ2 => opt r.dat? fun y => kc y τ2 else k0 τ1)
    (hl : l.length ≤ sizeLine) (q : Q ((l.filter p).map sg) τ) : lcW t tt te Q (l.map sg) [] env τ :=
  lc_filter' p l [] h (by simpa using hl) q
theorem lc_sgs' {Q : List D → T → Prop} {env : List SV} {τ : T} {β : Type} (f : Nat → β) (g : β → D) : ∀ (l : List Nat) (acc : List D),
    (∀ c ∈ l, ∀ (kc : D → T → Prop) (k0 : T → Prop), kc (g (f c)) τ → opt (tgE t (sg c) env) fun env' => tt env' τ fun b τ1 => if b = true then te env' τ1 fun r τ2 => opt r.dat? fun y => kc y τ2 else k0 τ1) →
    acc.length + l.length ≤ sizeLine → Q (acc ++ (l.map f).map g) τ → lcW t tt te Q (l.map sg) acc env τ
  | [], acc, _, _, q => by
    rw [List.map_nil, List.map_nil, List.append_nil] at q
    exact q
  | c :: l, acc, h, hl, q => by
    rw [List.length_cons] at hl
    refine h c (by simp) _ _ ⟨by omega, lc_sgs' f g l (acc ++ [g (f c)]) (fun y hy => h y (by simp [hy])) (by rw [List.length_append, List.length_singleton]; omega) ?_⟩
    rw [List.append_assoc]
    exact q
theorem lc_alls {Q : List D → T → Prop} {env : List SV} {τ : T} {i : Nat} {st : Str} {f : Nat → Bool} (hf : ∀ c, decide (c ∈ st.cps.toList) = f c) (l : List Nat) (hi : i < env.length) (hl : l.length ≤ sizeLine)
    (q : Q ((l.map f).map PyData.bool) τ) : lcW (.nm i) dYes (dOp (gIn false) (dVar i) (dC (.str st))) Q (l.map sg) [] env τ := by
  refine lc_sgs' f PyData.bool l [] (fun c hc kc k0 hk => ?_) (by simpa using hl) q
  rw [← hf] at hk
  rw [tgE, opt_some]
  unfold dYes dOp
  refine iteT ?_
  rw [dVar_self hi]
  exact .inl ⟨c, _, rfl, rfl, hk⟩
theorem lc_bad {Q : List D → T → Prop} {env : List SV} {τ : T} {i : Nat} {st : Str} {f : Nat → Bool} (hf : ∀ c, decide (c ∈ st.cps.toList) = f c) (l : List Nat) (hi : i < env.length) (hl : l.length ≤ sizeLine)
    (q : Q ((l.filter fun c => !f c).map sg) τ) : lcW (.nm i) (dT (dOp (gIn true) (dVar i) (dC (.str st)))) (dVar i) Q (l.map sg) [] env τ := by
  refine lc_filter (fun c => !f c) l (fun c hc kc k0 z => ?_) hl q
  rw [tgE, opt_some]
  unfold dT dOp
  rw [dVar_self hi]
  refine .inl ⟨c, _, rfl, rfl, _, rfl, ?_⟩
  show (if (!decide (c ∈ st.cps.toList)) = true then dVar i _ τ _ else _)
  rw [hf, dVar_self hi]
  exact z
end
end Z

namespace Z
open PySem L2
/-! ### the readings, by named continuations -/
theorem opt_e {α : Type} {o : Option α} {P : α → Prop} {k : Option α → Prop} (h1 : ∀ a, P a = k (some a)) (h2 : k none = False) : opt o P = k o := by
  cases o with
  | none => exact h2.symm
  | some a => exact h1 a
theorem ex_e {α : Type} {o : Option α} {P : α → Prop} {k : Option α → Prop} (h1 : ∀ a, P a = k (some a)) (h2 : k none = False) : (∃ b, o = some b ∧ P b) = k o := by
  cases o with
  | none => rw [h2]; simp
  | some a => rw [← h1]; simp
section
variable {T : Type}
def kG (Q : SV → T → Prop) (τ : T) (z : SV) : Prop := Q z τ
def kV (Q : SV → T → Prop) (τ : T) : Option SV → Prop
  | some (.d x) => Q (.d x) τ
  | some (.ol xs) => Q (.vw xs) τ
  | some (.raw v) => Q (.raw v) τ
  | _ => False
theorem dVar_k (i : Nat) (env : List SV) (τ : T) (Q : SV → T → Prop) : dVar i env τ Q = kV Q τ env[i]? := by
  unfold dVar
  generalize env[i]? = o
  match o with
  | some (.ol xs) => rfl
  | some (.d _) => rfl
  | some (.vw _) => rfl
  | some (.raw _) => rfl
  | some .no => rfl
  | none => rfl
theorem dC_k (x : D) (env : List SV) (τ : T) (Q : SV → T → Prop) : dC x env τ Q = Q (.d x) τ := rfl
theorem dRaw_k (x : V) (env : List SV) (τ : T) (Q : SV → T → Prop) : dRaw x env τ Q = Q (.raw x) τ := rfl
def kOp2 (g : SV → SV → (SV → Prop) → Prop) (x : SV) (Q : SV → T → Prop) (y : SV) (τ : T) : Prop := g x y (kG Q τ)
def kOp1 (tb : W T) (env : List SV) (g : SV → SV → (SV → Prop) → Prop) (Q : SV → T → Prop) (x : SV) (τ : T) : Prop := tb env τ (kOp2 g x Q)
theorem dOp_k (g : SV → SV → (SV → Prop) → Prop) (ta tb : W T) (env : List SV) (τ : T) (Q : SV → T → Prop) : dOp g ta tb env τ Q = ta env τ (kOp1 tb env g Q) := rfl
def kTb (Q : Bool → T → Prop) (τ : T) : Option Bool → Prop
  | some b => Q b τ
  | none => False
def SV.bl? : SV → Option Bool
  | .d (.bool b) => some b
  | _ => none
def kT (Q : Bool → T → Prop) (x : SV) (τ : T) : Prop := kTb Q τ x.bl?
theorem bl_e {x : SV} {P : Bool → Prop} {k : Option Bool → Prop} (h1 : ∀ a, P a = k (some a)) (h2 : k none = False) : (∃ b, x = .d (.bool b) ∧ P b) = k x.bl? := by
  refine propext ⟨?_, fun h => ?_⟩
  · rintro ⟨b, rfl, h⟩
    rw [h1] at h
    exact h
  · unfold SV.bl? at h
    split at h
    · exact ⟨_, rfl, by rw [h1]; exact h⟩
    · rw [h2] at h
      exact h.elim
theorem dT_k (t : W T) (env : List SV) (τ : T) (Q : Bool → T → Prop) : dT t env τ Q = t env τ (kT Q) := by
  unfold dT
  congr 1
  funext x τ1
  exact bl_e (fun _ => rfl) rfl
def kCh3 (Q : SV → T → Prop) (τ : T) (u : SV) : Prop := Q u τ
def kCh4 (g' : SV → SV → (SV → Prop) → Prop) (y : SV) (Q : SV → T → Prop) (w : SV) (τ : T) : Prop := g' y w (kG Q τ)
def kChB (tc : W T) (env : List SV) (g' : SV → SV → (SV → Prop) → Prop) (y : SV) (Q : SV → T → Prop) (b : Bool) (τ : T) : Prop := if b = true then tc env τ (kCh4 g' y Q) else Q (.d (.bool false)) τ
def kCh2 (tc : W T) (env : List SV) (g g' : SV → SV → (SV → Prop) → Prop) (Q : SV → T → Prop) (x y : SV) (τ : T) : Prop := g x y (kG (kT (kChB tc env g' y Q)) τ)
def kCh1 (tb tc : W T) (env : List SV) (g g' : SV → SV → (SV → Prop) → Prop) (Q : SV → T → Prop) (x : SV) (τ : T) : Prop := tb env τ (kCh2 tc env g g' Q x)
theorem kChB_t {tc : W T} {env : List SV} {g' : SV → SV → (SV → Prop) → Prop} {y : SV} {Q : SV → T → Prop} {τ : T} : kChB tc env g' y Q true τ = tc env τ (kCh4 g' y Q) := by simp [kChB]
theorem kChB_f {tc : W T} {env : List SV} {g' : SV → SV → (SV → Prop) → Prop} {y : SV} {Q : SV → T → Prop} {τ : T} : kChB tc env g' y Q false τ = Q (.d (.bool false)) τ := by simp [kChB]
theorem dChain_k (g g' : SV → SV → (SV → Prop) → Prop) (ta tb tc : W T) (env : List SV) (τ : T) (Q : SV → T → Prop) : dChain g g' ta tb tc env τ Q = ta env τ (kCh1 tb tc env g g' Q) := by
  unfold dChain
  congr 1
  funext x τ1
  unfold kCh1
  congr 1
  funext y τ2
  unfold kCh2
  congr 1
  funext z
  exact bl_e (k := kTb (kChB tc env g' y Q) τ2) (fun _ => rfl) rfl
def kTru (Q : Bool → T → Prop) (x : SV) (τ : T) : Prop := kTb Q τ x.truth
theorem dTru_k (t : W T) (env : List SV) (τ : T) (Q : Bool → T → Prop) : dTru t env τ Q = t env τ (kTru Q) := by
  unfold dTru
  congr 1
  funext x τ1
  exact ex_e (fun _ => rfl) rfl
def kAndT (u : WT T) (env : List SV) (Q : Bool → T → Prop) (c : Bool) (τ : T) : Prop := if c = true then u env τ Q else Q false τ
def kOrT (u : WT T) (env : List SV) (Q : Bool → T → Prop) (c : Bool) (τ : T) : Prop := if c = true then Q true τ else u env τ Q
def kNotT (Q : Bool → T → Prop) (c : Bool) (τ : T) : Prop := Q (!c) τ
theorem kAndT_t {u : WT T} {env : List SV} {Q : Bool → T → Prop} {τ : T} : kAndT u env Q true τ = u env τ Q := by simp [kAndT]
theorem kAndT_f {u : WT T} {env : List SV} {Q : Bool → T → Prop} {τ : T} : kAndT u env Q false τ = Q false τ := by simp [kAndT]
theorem kOrT_t {u : WT T} {env : List SV} {Q : Bool → T → Prop} {τ : T} : kOrT u env Q true τ = Q true τ := by simp [kOrT]
theorem kOrT_f {u : WT T} {env : List SV} {Q : Bool → T → Prop} {τ : T} : kOrT u env Q false τ = u env τ Q := by simp [kOrT]
theorem dAndT_k (t u : WT T) (env : List SV) (τ : T) (Q : Bool → T → Prop) : dAndT t u env τ Q = t env τ (kAndT u env Q) := rfl
theorem dOrT_k (t u : WT T) (env : List SV) (τ : T) (Q : Bool → T → Prop) : dOrT t u env τ Q = t env τ (kOrT u env Q) := rfl
theorem dNotT_k (t : WT T) (env : List SV) (τ : T) (Q : Bool → T → Prop) : dNotT t env τ Q = t env τ (kNotT Q) := rfl
def kAndB (tb : W T) (env : List SV) (Q : SV → T → Prop) (x : SV) (τ : T) : Option Bool → Prop
  | some true => tb env τ Q
  | some false => Q x τ
  | none => False
def kOrB (tb : W T) (env : List SV) (Q : SV → T → Prop) (x : SV) (τ : T) : Option Bool → Prop
  | some true => Q x τ
  | some false => tb env τ Q
  | none => False
def kAnd (tb : W T) (env : List SV) (Q : SV → T → Prop) (x : SV) (τ : T) : Prop := kAndB tb env Q x τ x.truth
def kOr (tb : W T) (env : List SV) (Q : SV → T → Prop) (x : SV) (τ : T) : Prop := kOrB tb env Q x τ x.truth
theorem dAnd_k (ta tb : W T) (env : List SV) (τ : T) (Q : SV → T → Prop) : dAnd ta tb env τ Q = ta env τ (kAnd tb env Q) := by
  unfold dAnd
  congr 1
  funext x τ1
  exact ex_e (k := kAndB tb env Q x τ1) (fun b => by cases b <;> simp [kAndB]) rfl
theorem dOr_k (ta tb : W T) (env : List SV) (τ : T) (Q : SV → T → Prop) : dOr ta tb env τ Q = ta env τ (kOr tb env Q) := by
  unfold dOr
  congr 1
  funext x τ1
  exact ex_e (k := kOrB tb env Q x τ1) (fun b => by cases b <;> simp [kOrB]) rfl
def kNotB (Q : SV → T → Prop) (τ : T) : Option Bool → Prop
  | some b => Q (.d (.bool (!b))) τ
  | none => False
def kNot (Q : SV → T → Prop) (x : SV) (τ : T) : Prop := kNotB Q τ x.truth
theorem dNot_k (ta : W T) (env : List SV) (τ : T) (Q : SV → T → Prop) : dNot ta env τ Q = ta env τ (kNot Q) := by
  unfold dNot
  congr 1
  funext x τ1
  exact ex_e (fun _ => rfl) rfl
def kIf (ta tb : W T) (env : List SV) (Q : SV → T → Prop) (c : Bool) (τ : T) : Prop := if c = true then ta env τ Q else tb env τ Q
theorem kIf_t {ta tb : W T} {env : List SV} {Q : SV → T → Prop} {τ : T} : kIf ta tb env Q true τ = ta env τ Q := by simp [kIf]
theorem kIf_f {ta tb : W T} {env : List SV} {Q : SV → T → Prop} {τ : T} : kIf ta tb env Q false τ = tb env τ Q := by simp [kIf]
theorem dIf_k (t : WT T) (ta tb : W T) (env : List SV) (τ : T) (Q : SV → T → Prop) : dIf t ta tb env τ Q = t env τ (kIf ta tb env Q) := rfl
/-! arguments -/
def kCo2 (Q : List SV → T → Prop) (a : SV) (rs : List SV) (τ : T) : Prop := Q (a :: rs) τ
def kCoB (ta : WA T) (env : List SV) (Q : List SV → T → Prop) (τ : T) : Option SV → Prop
  | some a => ta env τ (kCo2 Q a)
  | none => False
def kCo (ta : WA T) (env : List SV) (Q : List SV → T → Prop) (r : SV) (τ : T) : Prop := kCoB ta env Q τ r.arg
theorem dNil_k (env : List SV) (τ : T) (Q : List SV → T → Prop) : dNil env τ Q = Q [] τ := rfl
theorem dCons_k (t : W T) (ta : WA T) (env : List SV) (τ : T) (Q : List SV → T → Prop) : dCons t ta env τ Q = t env τ (kCo ta env Q) := by
  unfold dCons
  congr 1
  funext x τ1
  exact ex_e (fun _ => rfl) rfl
def kTupB (Q : SV → T → Prop) (τ : T) : Option (List D) → Prop
  | some xs => xs.length ≤ sizeLine ∧ Q (.d (.tuple xs)) τ
  | none => False
def kTup (Q : SV → T → Prop) (rs : List SV) (τ : T) : Prop := kTupB Q τ (allD rs)
theorem dTup_k (ta : WA T) (env : List SV) (τ : T) (Q : SV → T → Prop) : dTup ta env τ Q = ta env τ (kTup Q) := by
  unfold dTup
  congr 1
  funext x τ1
  exact ex_e (fun _ => rfl) rfl
def kLstB (Q : SV → T → Prop) (τ : T) : Option (List D) → Prop
  | some xs => xs.length ≤ sizeLine ∧ Q (.ol xs) τ
  | none => False
def kLst (Q : SV → T → Prop) (rs : List SV) (τ : T) : Prop := kLstB Q τ (allD rs)
theorem dLst_k (ta : WA T) (env : List SV) (τ : T) (Q : SV → T → Prop) : dLst ta env τ Q = ta env τ (kLst Q) := by
  unfold dLst
  congr 1
  funext x τ1
  exact ex_e (fun _ => rfl) rfl
def kCB (g : List SV → (SV → Prop) → Prop) (Q : SV → T → Prop) (rs : List SV) (τ : T) : Prop := g rs (kG Q τ)
theorem dCB_k (g : List SV → (SV → Prop) → Prop) (ta : WA T) (env : List SV) (τ : T) (Q : SV → T → Prop) : dCB g ta env τ Q = ta env τ (kCB g Q) := rfl
def kCall (FF : FW T) (Q : SV → T → Prop) (rs : List SV) (τ : T) : Prop := rs.all SV.dr = true ∧ FF rs τ Q
theorem dCall_k (FF : FW T) (ta : WA T) (env : List SV) (τ : T) (Q : SV → T → Prop) : dCall FF ta env τ Q = ta env τ (kCall FF Q) := rfl
/-! statements -/
def kNx (t : WS T) (D : DEnds T) (env : List SV) (τ : T) : Prop := t D env τ
theorem dNext_k (D : DEnds T) (env : List SV) (τ : T) : dNext D env τ = D.nx env τ := rfl
theorem dSeq_k (t u : WS T) (nx : List SV → T → Prop) (rt : SV → T → Prop) (bk ct : List SV → T → Prop) (env : List SV) (τ : T) : dSeq t u ⟨nx, rt, bk, ct⟩ env τ = t ⟨kNx u ⟨nx, rt, bk, ct⟩, rt, bk, ct⟩ env τ := rfl
theorem dBreak_k (D : DEnds T) (env : List SV) (τ : T) : dBreak D env τ = D.bk env τ := rfl
theorem dCont_k (D : DEnds T) (env : List SV) (τ : T) : dCont D env τ = D.ct env τ := rfl
theorem dNever_k (D : DEnds T) (env : List SV) (τ : T) : dNever D env τ = False := rfl
def kDrop (D : DEnds T) (env : List SV) (r : SV) (τ : T) : Prop := D.nx env τ
theorem dDrop_k (te : W T) (D : DEnds T) (env : List SV) (τ : T) : dDrop te D env τ = te env τ (kDrop D env) := rfl
def kRet (D : DEnds T) (r : SV) (τ : T) : Prop := r.out = true ∧ D.rt r τ
theorem dRet_k (te : W T) (D : DEnds T) (env : List SV) (τ : T) : dRet te D env τ = te env τ (kRet D) := rfl
theorem dRetN_k (D : DEnds T) (env : List SV) (τ : T) : dRetN D env τ = D.rt (.d .none) τ := rfl
def kIfS (t u : WS T) (D : DEnds T) (env : List SV) (b : Bool) (τ : T) : Prop := if b = true then t D env τ else u D env τ
theorem kIfS_t {t u : WS T} {D : DEnds T} {env : List SV} {τ : T} : kIfS t u D env true τ = t D env τ := by simp [kIfS]
theorem kIfS_f {t u : WS T} {D : DEnds T} {env : List SV} {τ : T} : kIfS t u D env false τ = u D env τ := by simp [kIfS]
theorem dIfS_k (c : WT T) (t u : WS T) (D : DEnds T) (env : List SV) (τ : T) : dIfS c t u D env τ = c env τ (kIfS t u D env) := rfl
def kStB (i : Nat) (D : DEnds T) (env : List SV) (τ : T) : Option SV → Prop
  | some a => D.nx (env.set i a) τ
  | none => False
def kSet (i : Nat) (D : DEnds T) (env : List SV) (r : SV) (τ : T) : Prop := kStB i D env τ r.sto
theorem dSet_k (i : Nat) (te : W T) (D : DEnds T) (env : List SV) (τ : T) : dSet i te D env τ = te env τ (kSet i D env) := by
  unfold dSet
  congr 1
  funext x τ1
  exact opt_e (fun _ => rfl) rfl
def kEnv (D : DEnds T) (τ : T) : Option (List SV) → Prop
  | some env => D.nx env τ
  | none => False
def kAsB (t : Tg) (D : DEnds T) (env : List SV) (τ : T) : Option Z.D → Prop
  | some x => kEnv D τ (tgE t x env)
  | none => False
def kAsg (t : Tg) (D : DEnds T) (env : List SV) (r : SV) (τ : T) : Prop := kAsB t D env τ r.dat?
theorem dAsg_k (t : Tg) (te : W T) (D : DEnds T) (env : List SV) (τ : T) : dAsg t te D env τ = te env τ (kAsg t D env) := by
  unfold dAsg
  congr 1
  funext x τ1
  exact opt_e (k := kAsB t D env τ1) (fun x => opt_e (k := kEnv D τ1) (fun _ => rfl) rfl) rfl
def kPar (i j : Nat) (D : DEnds T) (env : List SV) (rs : List SV) (τ : T) : Prop := match rs with
  | [.d x, .d y] => D.nx ((env.set i (.d x)).set j (.d y)) τ
  | _ => False
theorem dPar_k (i j : Nat) (ta : WA T) (D : DEnds T) (env : List SV) (τ : T) : dPar i j ta D env τ = ta env τ (kPar i j D env) := rfl
theorem kPar_k {i j : Nat} {D : DEnds T} {env : List SV} {x y : Z.D} {τ : T} : kPar i j D env [.d x, .d y] τ = D.nx ((env.set i (.d x)).set j (.d y)) τ := rfl
def kApD (i : Nat) (D : DEnds T) (env : List SV) (xs : List Z.D) (τ : T) : Option Z.D → Prop
  | some y => xs.length < sizeLine ∧ D.nx (env.set i (.ol (xs ++ [y]))) τ
  | none => False
def kAp (i : Nat) (D : DEnds T) (env : List SV) (xs : List Z.D) (r : SV) (τ : T) : Prop := kApD i D env xs τ r.dat?
def kApp (i : Nat) (te : W T) (D : DEnds T) (env : List SV) (τ : T) : Option SV → Prop
  | some (.ol xs) => te env τ (kAp i D env xs)
  | _ => False
theorem dApp_k (i : Nat) (te : W T) (D : DEnds T) (env : List SV) (τ : T) : dApp i te D env τ = kApp i te D env τ env[i]? := by
  unfold dApp
  generalize env[i]? = o
  match o with
  | some (.ol xs) =>
    show te env τ _ = te env τ (kAp i D env xs)
    congr 1
    funext r τ1
    exact opt_e (fun _ => rfl) rfl
  | some (.d _) => rfl
  | some (.vw _) => rfl
  | some (.raw _) => rfl
  | some .no => rfl
  | none => rfl
def kFrz (i : Nat) (t : WS T) (D : DEnds T) (env : List SV) (τ : T) : Option SV → Prop
  | some (.ol xs) => t D (env.set i (.d (.list xs))) τ
  | some (.d (.list xs)) => t D env τ
  | _ => False
theorem dFrz_k (i : Nat) (t : WS T) (D : DEnds T) (env : List SV) (τ : T) : dFrz i t D env τ = kFrz i t D env τ env[i]? := by
  unfold dFrz
  generalize env[i]? = o
  match o with
  | some (.ol xs) => rfl
  | some (.d (.list _)) => rfl
  | some (.d .none) => rfl
  | some (.d (.bool _)) => rfl
  | some (.d (.int _)) => rfl
  | some (.d (.str _)) => rfl
  | some (.d (.tuple _)) => rfl
  | some (.d (.dict _)) => rfl
  | some (.vw _) => rfl
  | some (.raw _) => rfl
  | some .no => rfl
  | none => rfl
/-! loops -/
def kSqB (Q : List D → T → Prop) (τ : T) : Option (List D) → Prop
  | some xs => Q xs τ
  | none => False
def kSq (Q : List D → T → Prop) (r : SV) (τ : T) : Prop := kSqB Q τ r.seq?
theorem dSeqI_k (te : W T) (env : List SV) (τ : T) (Q : List D → T → Prop) : dSeqI te env τ Q = te env τ (kSq Q) := by
  unfold dSeqI
  congr 1
  funext x τ1
  exact opt_e (fun _ => rfl) rfl
def kR1 (Q : List D → T → Prop) (rs : List SV) (τ : T) : Prop := ∃ j : Int, rs = [.d (.int j)] ∧ (-(2 ^ 62) ≤ j ∧ j < 2 ^ 62) ∧ Q (rgI 0 j.toNat) τ
def kR2 (Q : List D → T → Prop) (rs : List SV) (τ : T) : Prop := ∃ i j : Int, rs = [.d (.int i), .d (.int j)] ∧ (-(2 ^ 62) ≤ i ∧ i < 2 ^ 62 ∧ -(2 ^ 62) ≤ j ∧ j < 2 ^ 62) ∧ Q (rgI i (j - i).toNat) τ
theorem dRng1_k (ta : WA T) (env : List SV) (τ : T) (Q : List D → T → Prop) : dRng1 ta env τ Q = ta env τ (kR1 Q) := rfl
theorem dRng2_k (ta : WA T) (env : List SV) (τ : T) (Q : List D → T → Prop) : dRng2 ta env τ Q = ta env τ (kR2 Q) := rfl
theorem kR1_k {Q : List D → T → Prop} {j : Int} {τ : T} : kR1 Q [.d (.int j)] τ = ((-(2 ^ 62) ≤ j ∧ j < 2 ^ 62) ∧ Q (rgI 0 j.toNat) τ) := by
  simp [kR1]
theorem kR2_k {Q : List D → T → Prop} {i j : Int} {τ : T} : kR2 Q [.d (.int i), .d (.int j)] τ = ((-(2 ^ 62) ≤ i ∧ i < 2 ^ 62 ∧ -(2 ^ 62) ≤ j ∧ j < 2 ^ 62) ∧ Q (rgI i (j - i).toNat) τ) := by
  refine propext ⟨?_, fun h => ⟨i, j, rfl, h⟩⟩
  rintro ⟨a, b, e, h⟩
  cases e
  exact h
def kFor (t : Tg) (tb : WS T) (D : DEnds T) (env : List SV) (xs : List Z.D) (τ : T) : Prop := forW t tb D xs env τ
theorem dFor_k (ti : WI T) (t : Tg) (tb : WS T) (D : DEnds T) (env : List SV) (τ : T) : dFor ti t tb D env τ = ti env τ (kFor t tb D env) := rfl
def kOl (Q : SV → T → Prop) (acc : List D) (τ : T) : Prop := Q (.ol acc) τ
def kLc (t : Tg) (tt : WT T) (te : W T) (Q : SV → T → Prop) (env : List SV) (xs : List D) (τ : T) : Prop := lcW t tt te (kOl Q) xs [] env τ
theorem dLc_k (ti : WI T) (t : Tg) (tt : WT T) (te : W T) (vs : List Nat) (env : List SV) (τ : T) (Q : SV → T → Prop) : dLc ti t tt te vs env τ Q = ti env τ (kLc t tt te Q (wipeE env vs)) := rfl
theorem dYes_k (env : List SV) (τ : T) (Q : Bool → T → Prop) : dYes env τ Q = Q true τ := rfl
/-- a turn of a comprehension -/
def kDt (kc : D → T → Prop) (τ : T) : Option D → Prop
  | some y => kc y τ
  | none => False
def kDat (kc : D → T → Prop) (r : SV) (τ : T) : Prop := kDt kc τ r.dat?
def kTurn (te : W T) (env : List SV) (kc : D → T → Prop) (k0 : T → Prop) (b : Bool) (τ : T) : Prop := if b = true then te env τ (kDat kc) else k0 τ
theorem kTurn_t {te : W T} {env : List SV} {kc : D → T → Prop} {k0 : T → Prop} {τ : T} : kTurn te env kc k0 true τ = te env τ (kDat kc) := by simp [kTurn]
theorem kTurn_f {te : W T} {env : List SV} {kc : D → T → Prop} {k0 : T → Prop} {τ : T} : kTurn te env kc k0 false τ = k0 τ := by simp [kTurn]
def kTgB (tt : WT T) (te : W T) (kc : D → T → Prop) (k0 : T → Prop) (τ : T) : Option (List SV) → Prop
  | some env => tt env τ (kTurn te env kc k0)
  | none => False
theorem turn_k {t : Tg} {x : D} {env : List SV} {tt : WT T} {te : W T} {kc : D → T → Prop} {k0 : T → Prop} {τ : T} (h : kTgB tt te kc k0 τ (tgE t x env)) :
    opt (tgE t x env) fun env' => tt env' τ fun b τ1 => if b = true then te env' τ1 fun r τ2 => opt r.dat? fun y => kc y τ2 else k0 τ1 := by
  cases e : tgE t x env with
  | none => rw [e] at h; exact h.elim
  | some a =>
    rw [e] at h
    show tt a τ _
    have e : (fun (b : Bool) (τ1 : T) => if b = true then te a τ1 fun r τ2 => opt r.dat? fun y => kc y τ2 else k0 τ1) = kTurn te a kc k0 := by
      funext b τ1
      unfold kTurn
      congr 1
      congr 1
      funext r τ2
      exact opt_e (fun _ => rfl) rfl
    rw [e]
    exact h
/-- a turn of a for -/
def kFtB (tb : WS T) (D : DEnds T) (τ : T) : Option (List SV) → Prop
  | some env => tb D env τ
  | none => False
theorem fturn_k {t : Tg} {x : Z.D} {env : List SV} {tb : WS T} {D : DEnds T} {kn : List SV → T → Prop} {τ : T} (h : kFtB tb ⟨kn, D.rt, D.nx, kn⟩ τ (tgE t x env)) :
    opt (tgE t x env) fun env' => tb { D with nx := kn, ct := kn, bk := D.nx } env' τ := by
  cases e : tgE t x env with
  | none => rw [e] at h; exact h.elim
  | some a => rw [e] at h; exact h
/-! the rules, with turns said so -/
theorem lc_fm {t : Tg} {tt : WT T} {te : W T} {Q : List D → T → Prop} {env : List SV} {τ : T} (f : D → Option D) (xs : List D)
    (h : ∀ x ∈ xs, ∀ (kc : D → T → Prop) (k0 : T → Prop), (match f x with | some y => kc y τ | none => k0 τ) → kTgB tt te kc k0 τ (tgE t x env))
    (hl : xs.length ≤ sizeLine) (q : Q (xs.filterMap f) τ) : lcW t tt te Q xs [] env τ :=
  lcW_fm f xs [] (fun x hx kc k0 z => turn_k (h x hx kc k0 z)) (by simpa using hl) q
theorem lc_map {t : Tg} {tt : WT T} {te : W T} {Q : List D → T → Prop} {env : List SV} {τ : T} (f : D → D) (xs : List D)
    (h : ∀ x ∈ xs, ∀ (kc : D → T → Prop) (k0 : T → Prop), kc (f x) τ → kTgB tt te kc k0 τ (tgE t x env))
    (hl : xs.length ≤ sizeLine) (q : Q (xs.map f) τ) : lcW t tt te Q xs [] env τ :=
  lcW_map f xs (fun x hx kc k0 z => turn_k (h x hx kc k0 z)) hl q
theorem lc_inv {t : Tg} {tt : WT T} {te : W T} {Q : List D → T → Prop} {env : List SV} (P : Nat → List D → T → Prop) (xs : List D) (τ : T) (h0 : P 0 [] τ)
    (h : ∀ j x acc τ, xs[j]? = some x → P j acc τ → acc.length ≤ j → ∀ (kc : D → T → Prop) (k0 : T → Prop), (∀ y τ', P (j + 1) (acc ++ [y]) τ' → kc y τ') → (∀ τ', P (j + 1) acc τ' → k0 τ') → kTgB tt te kc k0 τ (tgE t x env))
    (hl : xs.length ≤ sizeLine) (q : ∀ acc τ, P xs.length acc τ → Q acc τ) : lcW t tt te Q xs [] env τ :=
  lcW_inv P xs 0 [] τ h0 (fun j x acc τ e p hl kc k0 h1 h2 => by
    rw [Nat.zero_add] at *
    exact turn_k (h j x acc τ e p hl kc k0 h1 h2)) (Nat.le_refl 0) (by omega) (by rw [Nat.zero_add]; exact q)
theorem for_inv {t : Tg} {tb : WS T} {D : DEnds T} (P : Nat → List SV → T → Prop) (xs : List Z.D) (env : List SV) (τ : T) (h0 : P 0 env τ)
    (h : ∀ j x env τ, xs[j]? = some x → P j env τ → ∀ kn : List SV → T → Prop, (∀ env' τ', P (j + 1) env' τ' → kn env' τ') → kFtB tb ⟨kn, D.rt, D.nx, kn⟩ τ (tgE t x env))
    (q : ∀ env τ, P xs.length env τ → D.nx env τ) : forW t tb D xs env τ :=
  forW_inv P xs 0 env τ h0 (fun j x env τ e p kn h1 => by
    rw [Nat.zero_add] at *
    exact fturn_k (h j x env τ e p kn h1)) (by rw [Nat.zero_add]; exact q)
/-! slices and more -/
def kSl3 (x : SV) (lo : Option Int) (Q : SV → T → Prop) (hi : Option Int) (τ : T) : Prop := gSl x lo hi (kG Q τ)
def kSl2 (th : WO T) (env : List SV) (x : SV) (Q : SV → T → Prop) (lo : Option Int) (τ : T) : Prop := th env τ (kSl3 x lo Q)
def kSl1 (tl th : WO T) (env : List SV) (Q : SV → T → Prop) (x : SV) (τ : T) : Prop := tl env τ (kSl2 th env x Q)
theorem dSl_k (te : W T) (tl th : WO T) (env : List SV) (τ : T) (Q : SV → T → Prop) : dSl te tl th env τ Q = te env τ (kSl1 tl th env Q) := rfl
theorem dNoPart_k (env : List SV) (τ : T) (Q : Option Int → T → Prop) : dNoPart env τ Q = Q none τ := rfl
def SV.int? : SV → Option Int
  | .d (.int i) => some i
  | _ => none
def kPtB (Q : Option Int → T → Prop) (τ : T) : Option Int → Prop
  | some i => Q (some i) τ
  | none => False
def kPt (Q : Option Int → T → Prop) (x : SV) (τ : T) : Prop := kPtB Q τ x.int?
theorem dPart_k (te : W T) (env : List SV) (τ : T) (Q : Option Int → T → Prop) : dPart te env τ Q = te env τ (kPt Q) := by
  unfold dPart
  congr 1
  funext x τ1
  refine propext ⟨?_, fun h => ?_⟩
  · rintro ⟨i, rfl, h⟩
    exact h
  · unfold kPt SV.int? at h
    split at h
    · exact ⟨_, rfl, h⟩
    · exact h.elim
def kUn (g : SV → (SV → Prop) → Prop) (Q : SV → T → Prop) (x : SV) (τ : T) : Prop := g x (kG Q τ)
theorem dUn_k (g : SV → (SV → Prop) → Prop) (ta : W T) (env : List SV) (τ : T) (Q : SV → T → Prop) : dUn g ta env τ Q = ta env τ (kUn g Q) := rfl
theorem dEmp_k (env : List SV) (τ : T) (Q : SV → T → Prop) : dEmp env τ Q = Q (.d (.dict [])) τ := rfl
def kM2 (g : SV → SV → (SV → Prop) → Prop) (x : SV) (Q : SV → T → Prop) (y : SV) (τ : T) : Prop := g x y (kG Q τ)
def kM1 (te : W T) (env : List SV) (g : SV → SV → (SV → Prop) → Prop) (Q : SV → T → Prop) (x : SV) (τ : T) : Prop := (∃ a, x = .d (.str a)) ∧ te env τ (kM2 g x Q)
theorem dM1_k (g : SV → SV → (SV → Prop) → Prop) (to te : W T) (env : List SV) (τ : T) (Q : SV → T → Prop) : dM1 g to te env τ Q = to env τ (kM1 te env g Q) := rfl
theorem kM1_k {te : W T} {env : List SV} {g : SV → SV → (SV → Prop) → Prop} {Q : SV → T → Prop} {a : Str} {τ : T} : kM1 te env g Q (.d (.str a)) τ = te env τ (kM2 g (.d (.str a)) Q) := by
  unfold kM1
  simp
end
/-! ### operators on what is known -/
theorem gI_n {f : Int → Int → D} {i j : Int} {Q : SV → Prop} : gI noC f (.d (.int i)) (.d (.int j)) Q = Q (.d (f i j)) := by
  unfold gI noC
  simp
theorem gI_k {C : Int → Int → Prop} {f : Int → Int → D} {i j : Int} {Q : SV → Prop} : gI C f (.d (.int i)) (.d (.int j)) Q = (C i j ∧ Q (.d (f i j))) := by
  unfold gI
  simp
theorem gAdd_i {i j : Int} {Q : SV → Prop} : gAdd (.d (.int i)) (.d (.int j)) Q = Q (.d (.int (i + j))) := rfl
theorem gAdd_s {i j : Str} {Q : SV → Prop} : gAdd (.d (.str i)) (.d (.str j)) Q = (i.length + j.length ≤ sizeLine ∧ Q (.d (.str (i ++ j)))) := rfl
theorem gAdd_t {i j : List D} {Q : SV → Prop} : gAdd (.d (.tuple i)) (.d (.tuple j)) Q = (i.length + j.length ≤ sizeLine ∧ Q (.d (.tuple (i ++ j)))) := rfl
theorem gAdd_ll {i j : List D} {Q : SV → Prop} : gAdd (.d (.list i)) (.d (.list j)) Q = (i.length + j.length ≤ sizeLine ∧ Q (.ol (i ++ j))) := by simp [gAdd, SV.lst?]
theorem gAdd_lo {i j : List D} {Q : SV → Prop} : gAdd (.d (.list i)) (.ol j) Q = (i.length + j.length ≤ sizeLine ∧ Q (.ol (i ++ j))) := by simp [gAdd, SV.lst?]
theorem gAdd_ol {i j : List D} {Q : SV → Prop} : gAdd (.ol i) (.d (.list j)) Q = (i.length + j.length ≤ sizeLine ∧ Q (.ol (i ++ j))) := by simp [gAdd, SV.lst?]
theorem gAdd_oo {i j : List D} {Q : SV → Prop} : gAdd (.ol i) (.ol j) Q = (i.length + j.length ≤ sizeLine ∧ Q (.ol (i ++ j))) := by simp [gAdd, SV.lst?]
theorem gAdd_vo {i j : List D} {Q : SV → Prop} : gAdd (.vw i) (.ol j) Q = (i.length + j.length ≤ sizeLine ∧ Q (.ol (i ++ j))) := by simp [gAdd, SV.lst?]
theorem gAdd_ov {i j : List D} {Q : SV → Prop} : gAdd (.ol i) (.vw j) Q = (i.length + j.length ≤ sizeLine ∧ Q (.ol (i ++ j))) := by simp [gAdd, SV.lst?]
theorem gAdd_vv {i j : List D} {Q : SV → Prop} : gAdd (.vw i) (.vw j) Q = (i.length + j.length ≤ sizeLine ∧ Q (.ol (i ++ j))) := by simp [gAdd, SV.lst?]
def kEq2 (neg : Bool) (a : D) (Q : SV → Prop) : Option D → Prop
  | some b => eqOk a b = true ∧ Q (.d (.bool (neg ^^ PyData.eqv a b)))
  | none => False
def kEq1 (neg : Bool) (y : SV) (Q : SV → Prop) : Option D → Prop
  | some a => kEq2 neg a Q y.now?
  | none => False
theorem gEq_k (x y : SV) (Q : SV → Prop) : gEq x y Q = kEq1 false y Q x.now? := by
  unfold gEq
  exact opt_e (k := kEq1 false y Q) (fun a => opt_e (k := kEq2 false a Q) (fun b => by simp [kEq2]) rfl) rfl
theorem gNe_k (x y : SV) (Q : SV → Prop) : gNe x y Q = kEq1 true y Q x.now? := by
  unfold gNe
  exact opt_e (k := kEq1 true y Q) (fun a => opt_e (k := kEq2 true a Q) (fun b => by simp [kEq2]) rfl) rfl
theorem gCmp_i {f : Int → Int → Bool} {g : Str → Str → Bool} {i j : Int} {Q : SV → Prop} : gCmp f g (.d (.int i)) (.d (.int j)) Q = Q (.d (.bool (f i j))) := rfl
theorem gCmp_s {f : Int → Int → Bool} {g : Str → Str → Bool} {i j : Str} {Q : SV → Prop} : gCmp f g (.d (.str i)) (.d (.str j)) Q = Q (.d (.bool (g i j))) := rfl
def kIsB (neg : Bool) (Q : SV → Prop) : Option Bool → Prop
  | some b => Q (.d (.bool (neg ^^ b)))
  | none => False
theorem gIsN_d {x : D} {Q : SV → Prop} : gIsN (.d x) (.d .none) Q = kIsB false Q (SV.isN (.d x)) := by
  cases x <;> simp [gIsN, opt, kIsB, SV.isN]
theorem gNotN_d {x : D} {Q : SV → Prop} : gNotN (.d x) (.d .none) Q = kIsB true Q (SV.isN (.d x)) := by
  cases x <;> simp [gNotN, opt, kIsB, SV.isN]
theorem gIsN_ol {x : List D} {Q : SV → Prop} : gIsN (.ol x) (.d .none) Q = kIsB false Q (some false) := by
  simp [gIsN, opt, kIsB, SV.isN]
theorem gNotN_ol {x : List D} {Q : SV → Prop} : gNotN (.ol x) (.d .none) Q = kIsB true Q (some false) := by
  simp [gNotN, opt, kIsB, SV.isN]
theorem gIsN_vw {x : List D} {Q : SV → Prop} : gIsN (.vw x) (.d .none) Q = kIsB false Q (some false) := by
  simp [gIsN, opt, kIsB, SV.isN]
theorem gNotN_vw {x : List D} {Q : SV → Prop} : gNotN (.vw x) (.d .none) Q = kIsB true Q (some false) := by
  simp [gNotN, opt, kIsB, SV.isN]
def kAtS (Q : SV → Prop) : Option Nat → Prop
  | some c => Q (.d (sg c))
  | none => False
def kAt (Q : SV → Prop) : Option D → Prop
  | some c => Q (.d c)
  | none => False
theorem gIx_s {z : Str} {i : Int} {Q : SV → Prop} : gIx (.d (.str z)) (.d (.int i)) Q = (z.length ≤ sizeLine ∧ kAtS Q (atI z.cps.toList i)) := by
  unfold gIx
  simp only [SV.d.injEq, PyData.int.injEq, exists_eq_left']
  rw [show (opt (atI z.cps.toList i) fun c => Q (SV.d (sg c))) = kAtS Q (atI z.cps.toList i) from opt_e (fun _ => rfl) rfl]
theorem gIx_t {z : List D} {i : Int} {Q : SV → Prop} : gIx (.d (.tuple z)) (.d (.int i)) Q = kAt Q (atI z i) := by
  unfold gIx
  simp only [SV.d.injEq, PyData.int.injEq, exists_eq_left']
  exact opt_e (k := kAt Q) (fun _ => rfl) rfl
theorem gIx_l {z : List D} {i : Int} {Q : SV → Prop} : gIx (.d (.list z)) (.d (.int i)) Q = kAt Q (atI z i) := by
  unfold gIx
  simp only [SV.d.injEq, PyData.int.injEq, exists_eq_left']
  exact opt_e (k := kAt Q) (fun _ => rfl) rfl
theorem gIx_ol {z : List D} {i : Int} {Q : SV → Prop} : gIx (.ol z) (.d (.int i)) Q = kAt Q (atI z i) := by
  unfold gIx
  simp only [SV.d.injEq, PyData.int.injEq, exists_eq_left']
  exact opt_e (k := kAt Q) (fun _ => rfl) rfl
theorem gIx_vw {z : List D} {i : Int} {Q : SV → Prop} : gIx (.vw z) (.d (.int i)) Q = kAt Q (atI z i) := by
  unfold gIx
  simp only [SV.d.injEq, PyData.int.injEq, exists_eq_left']
  exact opt_e (k := kAt Q) (fun _ => rfl) rfl
theorem gSl_s {z : Str} {lo hi : Option Int} {Q : SV → Prop} : gSl (.d (.str z)) lo hi Q = (z.length ≤ sizeLine ∧ Q (.d (.str (cutS z lo hi)))) := rfl
theorem gSl_t {z : List D} {lo hi : Option Int} {Q : SV → Prop} : gSl (.d (.tuple z)) lo hi Q = Q (.d (.tuple (cutL z lo hi))) := rfl
theorem gSl_l {z : List D} {lo hi : Option Int} {Q : SV → Prop} : gSl (.d (.list z)) lo hi Q = Q (.ol (cutL z lo hi)) := rfl
theorem gSl_ol {z : List D} {lo hi : Option Int} {Q : SV → Prop} : gSl (.ol z) lo hi Q = Q (.ol (cutL z lo hi)) := rfl
theorem gSl_vw {z : List D} {lo hi : Option Int} {Q : SV → Prop} : gSl (.vw z) lo hi Q = Q (.ol (cutL z lo hi)) := rfl
theorem gLen_s {z : Str} {Q : SV → Prop} : gLen [.d (.str z)] Q = (z.length ≤ sizeLine ∧ Q (.d (.int z.length))) := by
  unfold gLen opt SV.size?
  by_cases h : z.length ≤ sizeLine
  · simp [h]
  · simp [h]
theorem gLen_t {z : List D} {Q : SV → Prop} : gLen [.d (.tuple z)] Q = Q (.d (.int z.length)) := rfl
theorem gLen_l {z : List D} {Q : SV → Prop} : gLen [.d (.list z)] Q = Q (.d (.int z.length)) := rfl
theorem gLen_ol {z : List D} {Q : SV → Prop} : gLen [.ol z] Q = Q (.d (.int z.length)) := rfl
theorem gLen_vw {z : List D} {Q : SV → Prop} : gLen [.vw z] Q = Q (.d (.int z.length)) := rfl
def kTy (c : String) (Q : SV → Prop) : Option String → Prop
  | some n => Q (.d (.bool (isT n c)))
  | none => False
theorem gIsi_k {x : SV} {c : String} {Q : SV → Prop} : gIsi [x, .raw (.ty c)] Q = (tyNames.contains c = true ∧ kTy c Q x.tyN) := by
  show (_ ∧ (opt x.tyN fun n => Q (SV.d (PyData.bool (isT n c))))) = _
  rw [show (opt x.tyN fun n => Q (SV.d (PyData.bool (isT n c)))) = kTy c Q x.tyN from opt_e (fun _ => rfl) rfl]
def kBls (f : List Bool → Bool) (Q : SV → Prop) : Option (List Bool) → Prop
  | some bs => Q (.d (.bool (f bs)))
  | none => False
theorem gAll_d {xs : List D} {Q : SV → Prop} : gAll [.d (.list xs)] Q = kBls (·.all id) Q (bools? xs) := opt_e (fun _ => rfl) rfl
theorem gAll_ol {xs : List D} {Q : SV → Prop} : gAll [.ol xs] Q = kBls (·.all id) Q (bools? xs) := opt_e (fun _ => rfl) rfl
theorem gAny_d {xs : List D} {Q : SV → Prop} : gAny [.d (.list xs)] Q = kBls (·.any id) Q (bools? xs) := opt_e (fun _ => rfl) rfl
theorem gAny_ol {xs : List D} {Q : SV → Prop} : gAny [.ol xs] Q = kBls (·.any id) Q (bools? xs) := opt_e (fun _ => rfl) rfl
theorem gInt_i {i : Int} {Q : SV → Prop} : gInt [.d (.int i)] Q = Q (.d (.int i)) := rfl
theorem gInt_b {i : Bool} {Q : SV → Prop} : gInt [.d (.bool i)] Q = Q (.d (.int (if i then 1 else 0))) := rfl
theorem gInt_s {i : Str} {Q : SV → Prop} : gInt [.d (.str i)] Q = ∃ n, PySem.intText? i = some n ∧ i.length ≤ 640 ∧ Q (.d (.int n)) := rfl
theorem gII_k {f : Int → Int → Int} {i j : Int} {Q : SV → Prop} : gII f [.d (.int i), .d (.int j)] Q = Q (.d (.int (f i j))) := rfl
theorem gNeg_k {i : Int} {Q : SV → Prop} : gNeg (.d (.int i)) Q = Q (.d (.int (-i))) := rfl
def kJn (a : Str) (Q : SV → Prop) : Option (List Str) → Prop
  | some ys => (ys.map (·.length)).sum + ys.length * a.length ≤ 16777216 ∧ Q (.d (.str (Txt.join a ys)))
  | none => False
theorem gJoin_ol {a : Str} {xs : List D} {Q : SV → Prop} : gJoin (.d (.str a)) (.ol xs) Q = kJn a Q (strs? xs) := by
  unfold gJoin
  simp only [SV.d.injEq, PyData.str.injEq, exists_eq_left']
  exact opt_e (fun _ => rfl) rfl
theorem gJoin_l {a : Str} {xs : List D} {Q : SV → Prop} : gJoin (.d (.str a)) (.d (.list xs)) Q = kJn a Q (strs? xs) := by
  unfold gJoin
  simp only [SV.d.injEq, PyData.str.injEq, exists_eq_left']
  exact opt_e (fun _ => rfl) rfl
theorem gJoin_t {a : Str} {xs : List D} {Q : SV → Prop} : gJoin (.d (.str a)) (.d (.tuple xs)) Q = kJn a Q (strs? xs) := by
  unfold gJoin
  simp only [SV.d.injEq, PyData.str.injEq, exists_eq_left']
  exact opt_e (fun _ => rfl) rfl
theorem gJoin_vw {a : Str} {xs : List D} {Q : SV → Prop} : gJoin (.d (.str a)) (.vw xs) Q = kJn a Q (strs? xs) := by
  unfold gJoin
  simp only [SV.d.injEq, PyData.str.injEq, exists_eq_left']
  exact opt_e (fun _ => rfl) rfl
theorem gMul_i {i j : Int} {Q : SV → Prop} : gMul (.d (.int i)) (.d (.int j)) Q = (CMul i j ∧ Q (.d (.int (i * j)))) := by
  unfold gMul gMulS
  rw [gI_k]
  simp
theorem gMul_s {i : Str} {j : Int} {Q : SV → Prop} : gMul (.d (.str i)) (.d (.int j)) Q = ((2 ≤ j ∧ j ≤ 100000 ∧ 0 < i.length ∧ i.length ≤ 100) ∧ (strRep i j.toNat).length ≤ sizeLine ∧ Q (.d (.str (strRep i j.toNat)))) := by
  unfold gMul gMulS gI
  simp
theorem kV_1 {T : Type} {Q : SV → T → Prop} {τ : T} {x : _} : kV Q τ (some (.d x)) = (Q (.d x) τ) := rfl
theorem kV_2 {T : Type} {Q : SV → T → Prop} {τ : T} {xs : _} : kV Q τ (some (.ol xs)) = (Q (.vw xs) τ) := rfl
theorem kV_3 {T : Type} {Q : SV → T → Prop} {τ : T} {v : _} : kV Q τ (some (.raw v)) = (Q (.raw v) τ) := rfl
theorem kTb_1 {T : Type} {Q : Bool → T → Prop} {τ : T} {b : _} : kTb Q τ (some b) = (Q b τ) := rfl
theorem kTb_2 {T : Type} {Q : Bool → T → Prop} {τ : T}  : kTb Q τ (none) = (False) := rfl
theorem kAndB_1 {T : Type} {tb : W T} {env : List SV} {Q : SV → T → Prop} {x : SV} {τ : T}  : kAndB tb env Q x τ (some true) = (tb env τ Q) := rfl
theorem kAndB_2 {T : Type} {tb : W T} {env : List SV} {Q : SV → T → Prop} {x : SV} {τ : T}  : kAndB tb env Q x τ (some false) = (Q x τ) := rfl
theorem kAndB_3 {T : Type} {tb : W T} {env : List SV} {Q : SV → T → Prop} {x : SV} {τ : T}  : kAndB tb env Q x τ (none) = (False) := rfl
theorem kOrB_1 {T : Type} {tb : W T} {env : List SV} {Q : SV → T → Prop} {x : SV} {τ : T}  : kOrB tb env Q x τ (some true) = (Q x τ) := rfl
theorem kOrB_2 {T : Type} {tb : W T} {env : List SV} {Q : SV → T → Prop} {x : SV} {τ : T}  : kOrB tb env Q x τ (some false) = (tb env τ Q) := rfl
theorem kOrB_3 {T : Type} {tb : W T} {env : List SV} {Q : SV → T → Prop} {x : SV} {τ : T}  : kOrB tb env Q x τ (none) = (False) := rfl
theorem kNotB_1 {T : Type} {Q : SV → T → Prop} {τ : T} {b : _} : kNotB Q τ (some b) = (Q (.d (.bool (!b))) τ) := rfl
theorem kNotB_2 {T : Type} {Q : SV → T → Prop} {τ : T}  : kNotB Q τ (none) = (False) := rfl
theorem kCoB_1 {T : Type} {ta : WA T} {env : List SV} {Q : List SV → T → Prop} {τ : T} {a : _} : kCoB ta env Q τ (some a) = (ta env τ (kCo2 Q a)) := rfl
theorem kCoB_2 {T : Type} {ta : WA T} {env : List SV} {Q : List SV → T → Prop} {τ : T}  : kCoB ta env Q τ (none) = (False) := rfl
theorem kTupB_1 {T : Type} {Q : SV → T → Prop} {τ : T} {xs : _} : kTupB Q τ (some xs) = (xs.length ≤ sizeLine ∧ Q (.d (.tuple xs)) τ) := rfl
theorem kTupB_2 {T : Type} {Q : SV → T → Prop} {τ : T}  : kTupB Q τ (none) = (False) := rfl
theorem kLstB_1 {T : Type} {Q : SV → T → Prop} {τ : T} {xs : _} : kLstB Q τ (some xs) = (xs.length ≤ sizeLine ∧ Q (.ol xs) τ) := rfl
theorem kLstB_2 {T : Type} {Q : SV → T → Prop} {τ : T}  : kLstB Q τ (none) = (False) := rfl
theorem kStB_1 {T : Type} {i : Nat} {D : DEnds T} {env : List SV} {τ : T} {a : _} : kStB i D env τ (some a) = (D.nx (env.set i a) τ) := rfl
theorem kStB_2 {T : Type} {i : Nat} {D : DEnds T} {env : List SV} {τ : T}  : kStB i D env τ (none) = (False) := rfl
theorem kEnv_1 {T : Type} {D : DEnds T} {τ : T} {env : _} : kEnv D τ (some env) = (D.nx env τ) := rfl
theorem kEnv_2 {T : Type} {D : DEnds T} {τ : T}  : kEnv D τ (none) = (False) := rfl
theorem kAsB_1 {T : Type} {t : Tg} {D : DEnds T} {env : List SV} {τ : T} {x : _} : kAsB t D env τ (some x) = (kEnv D τ (tgE t x env)) := rfl
theorem kAsB_2 {T : Type} {t : Tg} {D : DEnds T} {env : List SV} {τ : T}  : kAsB t D env τ (none) = (False) := rfl
theorem kApD_1 {T : Type} {i : Nat} {D : DEnds T} {env : List SV} {xs : List Z.D} {τ : T} {y : _} : kApD i D env xs τ (some y) = (xs.length < sizeLine ∧ D.nx (env.set i (.ol (xs ++ [y]))) τ) := rfl
theorem kApD_2 {T : Type} {i : Nat} {D : DEnds T} {env : List SV} {xs : List Z.D} {τ : T}  : kApD i D env xs τ (none) = (False) := rfl
theorem kApp_1 {T : Type} {i : Nat} {te : W T} {D : DEnds T} {env : List SV} {τ : T} {xs : _} : kApp i te D env τ (some (.ol xs)) = (te env τ (kAp i D env xs)) := rfl
theorem kFrz_1 {T : Type} {i : Nat} {t : WS T} {D : DEnds T} {env : List SV} {τ : T} {xs : _} : kFrz i t D env τ (some (.ol xs)) = (t D (env.set i (.d (.list xs))) τ) := rfl
theorem kFrz_2 {T : Type} {i : Nat} {t : WS T} {D : DEnds T} {env : List SV} {τ : T} {xs : _} : kFrz i t D env τ (some (.d (.list xs))) = (t D env τ) := rfl
theorem kSqB_1 {T : Type} {Q : List D → T → Prop} {τ : T} {xs : _} : kSqB Q τ (some xs) = (Q xs τ) := rfl
theorem kSqB_2 {T : Type} {Q : List D → T → Prop} {τ : T}  : kSqB Q τ (none) = (False) := rfl
theorem kDt_1 {T : Type} {kc : D → T → Prop} {τ : T} {y : _} : kDt kc τ (some y) = (kc y τ) := rfl
theorem kDt_2 {T : Type} {kc : D → T → Prop} {τ : T}  : kDt kc τ (none) = (False) := rfl
theorem kTgB_1 {T : Type} {tt : WT T} {te : W T} {kc : D → T → Prop} {k0 : T → Prop} {τ : T} {env : _} : kTgB tt te kc k0 τ (some env) = (tt env τ (kTurn te env kc k0)) := rfl
theorem kTgB_2 {T : Type} {tt : WT T} {te : W T} {kc : D → T → Prop} {k0 : T → Prop} {τ : T}  : kTgB tt te kc k0 τ (none) = (False) := rfl
theorem kFtB_1 {T : Type} {tb : WS T} {D : DEnds T} {τ : T} {env : _} : kFtB tb D τ (some env) = (tb D env τ) := rfl
theorem kFtB_2 {T : Type} {tb : WS T} {D : DEnds T} {τ : T}  : kFtB tb D τ (none) = (False) := rfl
theorem kPtB_1 {T : Type} {Q : Option Int → T → Prop} {τ : T} {i : _} : kPtB Q τ (some i) = (Q (some i) τ) := rfl
theorem kPtB_2 {T : Type} {Q : Option Int → T → Prop} {τ : T}  : kPtB Q τ (none) = (False) := rfl
theorem kEq2_1  {neg : Bool} {a : D} {Q : SV → Prop} {b : _} : kEq2 neg a Q (some b) = (eqOk a b = true ∧ Q (.d (.bool (neg ^^ PyData.eqv a b)))) := rfl
theorem kEq2_2  {neg : Bool} {a : D} {Q : SV → Prop}  : kEq2 neg a Q (none) = (False) := rfl
theorem kEq1_1  {neg : Bool} {y : SV} {Q : SV → Prop} {a : _} : kEq1 neg y Q (some a) = (kEq2 neg a Q y.now?) := rfl
theorem kEq1_2  {neg : Bool} {y : SV} {Q : SV → Prop}  : kEq1 neg y Q (none) = (False) := rfl
theorem kIsB_1  {neg : Bool} {Q : SV → Prop} {b : _} : kIsB neg Q (some b) = (Q (.d (.bool (neg ^^ b)))) := rfl
theorem kIsB_2  {neg : Bool} {Q : SV → Prop}  : kIsB neg Q (none) = (False) := rfl
theorem kAtS_1  {Q : SV → Prop} {c : _} : kAtS Q (some c) = (Q (.d (sg c))) := rfl
theorem kAtS_2  {Q : SV → Prop}  : kAtS Q (none) = (False) := rfl
theorem kAt_1  {Q : SV → Prop} {c : _} : kAt Q (some c) = (Q (.d c)) := rfl
theorem kAt_2  {Q : SV → Prop}  : kAt Q (none) = (False) := rfl
theorem kTy_1  {c : String} {Q : SV → Prop} {n : _} : kTy c Q (some n) = (Q (.d (.bool (isT n c)))) := rfl
theorem kTy_2  {c : String} {Q : SV → Prop}  : kTy c Q (none) = (False) := rfl
theorem kBls_1  {f : List Bool → Bool} {Q : SV → Prop} {bs : _} : kBls f Q (some bs) = (Q (.d (.bool (f bs)))) := rfl
theorem kBls_2  {f : List Bool → Bool} {Q : SV → Prop}  : kBls f Q (none) = (False) := rfl
theorem kJn_1  {a : Str} {Q : SV → Prop} {ys : _} : kJn a Q (some ys) = ((ys.map (·.length)).sum + ys.length * a.length ≤ 16777216 ∧ Q (.d (.str (Txt.join a ys)))) := rfl
theorem kJn_2  {a : Str} {Q : SV → Prop}  : kJn a Q (none) = (False) := rfl
/-! ### by cases -/
section
variable {T : Type}
theorem kIfS_of {t u : WS T} {D : DEnds T} {env : List SV} {b : Bool} {τ : T} (h1 : b = true → t D env τ) (h2 : b = false → u D env τ) : kIfS t u D env b τ := by
  cases b with
  | true => rw [kIfS_t]; exact h1 rfl
  | false => rw [kIfS_f]; exact h2 rfl
theorem kIf_of {t u : W T} {Q : SV → T → Prop} {env : List SV} {b : Bool} {τ : T} (h1 : b = true → t env τ Q) (h2 : b = false → u env τ Q) : kIf t u env Q b τ := by
  cases b with
  | true => rw [kIf_t]; exact h1 rfl
  | false => rw [kIf_f]; exact h2 rfl
theorem kAndT_of {u : WT T} {Q : Bool → T → Prop} {env : List SV} {b : Bool} {τ : T} (h1 : b = true → u env τ Q) (h2 : b = false → Q false τ) : kAndT u env Q b τ := by
  cases b with
  | true => rw [kAndT_t]; exact h1 rfl
  | false => rw [kAndT_f]; exact h2 rfl
theorem kOrT_of {u : WT T} {Q : Bool → T → Prop} {env : List SV} {b : Bool} {τ : T} (h1 : b = true → Q true τ) (h2 : b = false → u env τ Q) : kOrT u env Q b τ := by
  cases b with
  | true => rw [kOrT_t]; exact h1 rfl
  | false => rw [kOrT_f]; exact h2 rfl
theorem kAndB_of {u : W T} {Q : SV → T → Prop} {env : List SV} {x : SV} {b : Bool} {τ : T} (h1 : b = true → u env τ Q) (h2 : b = false → Q x τ) : kAndB u env Q x τ (some b) := by
  cases b with
  | true => exact h1 rfl
  | false => exact h2 rfl
theorem kOrB_of {u : W T} {Q : SV → T → Prop} {env : List SV} {x : SV} {b : Bool} {τ : T} (h1 : b = true → Q x τ) (h2 : b = false → u env τ Q) : kOrB u env Q x τ (some b) := by
  cases b with
  | true => exact h1 rfl
  | false => exact h2 rfl
theorem kChB_of {tc : W T} {env : List SV} {g' : SV → SV → (SV → Prop) → Prop} {y : SV} {Q : SV → T → Prop} {b : Bool} {τ : T} (h1 : b = true → tc env τ (kCh4 g' y Q)) (h2 : b = false → Q (.d (.bool false)) τ) : kChB tc env g' y Q b τ := by
  cases b with
  | true => rw [kChB_t]; exact h1 rfl
  | false => rw [kChB_f]; exact h2 rfl
theorem kTurn_of {te : W T} {env : List SV} {kc : D → T → Prop} {k0 : T → Prop} {b : Bool} {τ : T} (h1 : b = true → te env τ (kDat kc)) (h2 : b = false → k0 τ) : kTurn te env kc k0 b τ := by
  cases b with
  | true => rw [kTurn_t]; exact h1 rfl
  | false => rw [kTurn_f]; exact h2 rfl
theorem kAt_of {Q : SV → Prop} {xs : List D} {i : Int} (h0 : 0 ≤ i) (h1 : i < (xs.length : Int)) (h : ∀ x, xs[i.toNat]? = some x → x ∈ xs → Q (.d x)) : kAt Q (atI xs i) := by
  obtain ⟨x, e, e2, hx⟩ := atI_some h0 h1
  rw [e]
  exact h x e2 hx
theorem kAtS_of {Q : SV → Prop} {xs : List Nat} {i : Int} (h0 : 0 ≤ i) (h1 : i < (xs.length : Int)) (h : ∀ x, xs[i.toNat]? = some x → x ∈ xs → Q (.d (sg x))) : kAtS Q (atI xs i) := by
  obtain ⟨x, e, e2, hx⟩ := atI_some h0 h1
  rw [e]
  exact h x e2 hx
end
/-- a text of no more than n signs -/
def okN (n : Nat) (s : Str) : Prop := s.length ≤ n ∧ ∀ c ∈ cs s, c < 1114112
def okNb (n : Nat) (s : Str) : Bool := decide (s.length ≤ n) && (cs s).all fun c => decide (c < 1114112)
theorem okN_b {n : Nat} {s : Str} (h : okNb n s = true) : okN n s := by
  unfold okNb at h
  rw [Bool.and_eq_true, List.all_eq_true] at h
  exact ⟨of_decide_eq_true h.1, fun c hc => of_decide_eq_true (h.2 c hc)⟩
theorem okN.ok {n : Nat} {s : Str} (h : okN n s) (hn : n ≤ 100000) : okS s := ⟨Nat.le_trans h.1 hn, h.2⟩
theorem okN.le {n m : Nat} {s : Str} (h : okN n s) (hn : n ≤ m) : okN m s := ⟨Nat.le_trans h.1 hn, h.2⟩
theorem okN.add {n m : Nat} {s t : Str} (h : okN n s) (h' : okN m t) : okN (n + m) (s ++ t) := by
  constructor
  · rw [str_len, cs_append, List.length_append, ← str_len, ← str_len]
    exact Nat.add_le_add h.1 h'.1
  · rw [cs_append]
    intro c hc
    rcases List.mem_append.mp hc with hc | hc
    · exact h.2 c hc
    · exact h'.2 c hc
theorem cs_cut (s : Str) (lo hi : Option Int) : ∃ a b, cs (cutS s lo hi) = ((cs s).drop a).take b := ⟨_, _, rfl⟩
theorem okN.cut {n : Nat} {s : Str} (h : okN n s) (lo hi : Option Int) : okN n (cutS s lo hi) := by
  obtain ⟨a, b, e⟩ := cs_cut s lo hi
  have h1 := h.1
  rw [str_len] at h1
  constructor
  · rw [str_len, e, List.length_take, List.length_drop]
    omega
  · rw [e]
    exact fun c hc => h.2 c (List.mem_of_mem_drop (List.mem_of_mem_take hc))
theorem okN.sg {c : Nat} (h : c < 1114112) : okN 1 ⟨#[c]⟩ := ⟨Nat.le_refl 1, fun d hd => by
  have : d ∈ [c] := hd
  rw [List.mem_singleton] at this
  omega⟩
theorem okN.mk {l : List Nat} {n : Nat} (h1 : l.length ≤ n) (h : ∀ c ∈ l, c < 1114112) : okN n (mkS l) := ⟨by rw [str_len]; exact h1, h⟩
theorem okN.sum {n m : Nat} {s t : Str} (h : okN n s) (h' : okN m t) (hn : n + m ≤ 100000) : s.length + t.length ≤ sizeLine := by
  have := h.1
  have := h'.1
  rw [sizeLine_eq]
  omega
theorem okN.sz {n : Nat} {s : Str} (h : okN n s) (hn : n ≤ 100000) : s.length ≤ sizeLine := (h.ok hn).sz
def okDb (n : Nat) (x : D) : Bool := match x with
  | .str s => okNb n s
  | _ => false
theorem okD_b {n : Nat} {xs : List D} (h : xs.all (okDb n) = true) : ∀ x ∈ xs, ∃ s, x = .str s ∧ okN n s := fun x hx => by
  have := List.all_eq_true.mp h x hx
  cases x with
  | str s => exact ⟨s, rfl, okN_b this⟩
  | _ => cases this
theorem kAt_lit {Q : SV → Prop} {xs : List D} {i : Int} (P : D → Prop) (hall : ∀ x ∈ xs, P x) (h0 : 0 ≤ i) (h1 : i < (xs.length : Int)) (h : ∀ x, P x → Q (.d x)) : kAt Q (atI xs i) :=
  kAt_of h0 h1 fun x _ hx => h x (hall x hx)
theorem kAtS_lit {Q : SV → Prop} {z : Str} {i : Int} (n : Nat) (hn : z.cps.toList.length = n) (hall : okNb n z = true) (h0 : 0 ≤ i) (h1 : i < (n : Int)) (h : ∀ c, c < 1114112 → Q (.d (sg c))) : kAtS Q (atI z.cps.toList i) :=
  kAtS_of h0 (by rw [hn]; exact h1) fun c _ hc => h c ((okN_b hall).2 c hc)
theorem noC_t (i j : Int) : noC i j = True := rfl
theorem rep_cs (x : Array Nat) : ∀ (n : Nat) (acc : Array Nat), ((List.replicate n x).foldl (· ++ ·) acc).toList = acc.toList ++ (List.replicate n x.toList).flatten
  | 0, acc => by simp
  | n + 1, acc => by
    rw [List.replicate_succ, List.foldl_cons, rep_cs x n, List.replicate_succ, List.flatten_cons, Array.toList_append, List.append_assoc]
theorem cs_rep (a : Str) (n : Nat) : cs (strRep a n) = (List.replicate n (cs a)).flatten := by
  show ((List.replicate n a.cps).foldl (· ++ ·) #[]).toList = _
  rw [rep_cs]
  rfl
theorem okN.rep {m : Nat} {a : Str} (h : okN m a) (k : Nat) : okN (k * m) (strRep a k) := by
  constructor
  · rw [str_len, cs_rep, List.length_flatten, List.map_replicate, List.sum_replicate_nat, ← str_len]
    exact Nat.mul_le_mul_left k h.1
  · rw [cs_rep]
    intro c hc
    obtain ⟨l, hl, hc⟩ := List.mem_flatten.mp hc
    rw [List.mem_replicate] at hl
    rw [hl.2] at hc
    exact h.2 c hc
theorem strs_of {n : Nat} {a : Str} {P : D → Prop} (h : okN n a) (hp : ∀ s, okN n s → P (.str s)) : P (.str a) := hp a h
theorem szs : 1 ≤ sizeLine ∧ 2 ≤ sizeLine ∧ 3 ≤ sizeLine ∧ 4 ≤ sizeLine ∧ 5 ≤ sizeLine ∧ 6 ≤ sizeLine ∧ 7 ≤ sizeLine ∧ 8 ≤ sizeLine ∧ 9 ≤ sizeLine ∧ 10 ≤ sizeLine ∧ 11 ≤ sizeLine ∧ 12 ≤ sizeLine ∧ 13 ≤ sizeLine ∧ 14 ≤ sizeLine ∧ 15 ≤ sizeLine ∧ 16 ≤ sizeLine ∧ 17 ≤ sizeLine ∧ 18 ≤ sizeLine ∧ 19 ≤ sizeLine ∧ 20 ≤ sizeLine ∧ 21 ≤ sizeLine ∧ 22 ≤ sizeLine ∧ 23 ≤ sizeLine ∧ 24 ≤ sizeLine ∧ 25 ≤ sizeLine ∧ 26 ≤ sizeLine ∧ 27 ≤ sizeLine ∧ 28 ≤ sizeLine ∧ 29 ≤ sizeLine ∧ 30 ≤ sizeLine ∧ 31 ≤ sizeLine ∧ 32 ≤ sizeLine ∧ 33 ≤ sizeLine ∧ 34 ≤ sizeLine ∧ 35 ≤ sizeLine ∧ 36 ≤ sizeLine ∧ 37 ≤ sizeLine ∧ 38 ≤ sizeLine ∧ 39 ≤ sizeLine ∧ 40 ≤ sizeLine ∧ 41 ≤ sizeLine ∧ 42 ≤ sizeLine ∧ 43 ≤ sizeLine ∧ 44 ≤ sizeLine ∧ 45 ≤ sizeLine ∧ 46 ≤ sizeLine ∧ 47 ≤ sizeLine ∧ 48 ≤ sizeLine ∧ 49 ≤ sizeLine ∧ 50 ≤ sizeLine ∧ 51 ≤ sizeLine ∧ 52 ≤ sizeLine ∧ 53 ≤ sizeLine ∧ 54 ≤ sizeLine ∧ 55 ≤ sizeLine ∧ 56 ≤ sizeLine ∧ 57 ≤ sizeLine ∧ 58 ≤ sizeLine ∧ 59 ≤ sizeLine ∧ 60 ≤ sizeLine ∧ 61 ≤ sizeLine ∧ 62 ≤ sizeLine ∧ 63 ≤ sizeLine ∧ 64 ≤ sizeLine := by
  rw [sizeLine_eq]
  decide
/-- the rule for a def, at the store of draws -/
theorem okDr {Ts : List Addr} {P : Program} {w : World} {K : PySem.W.Frag} {mg : Str → Option Value} {base : Heap} {x qual : Str} {st : Stmt} {f : Addr} {fd : FuncData} {N ps : List Str} {k : Nat} {FF : FW DrT} (F : Fun K x qual st f fd) (Sc : FnScope N ps (defScope st)) (len : ∀ rs τ Q, FF rs τ Q → rs.length = ps.length) (hl : ps.length ≤ N.length)
    (hbody : ∀ (cdv : Value) (A : Around) (outer : List Env) (s : Shared) (H : Hp) (E : XK) (G : Hp) (Fp : Addr → Prop), Room k (A.deeper (PyProof.Rows.envOfC qual (defScope st) s.heap.objs.size f cdv)) →
      ∃ t : WS DrT, PSs (cxOf CX0 P w K mg base N qual (defScope st) f cdv A outer s H E).nox (defBody st) (liftS ⟨theS Ts, K, G, Fp, H⟩ t) ∧ ∀ (rs : List SV) (τ : DrT) (Qd : SV → DrT → Prop), FF rs τ Qd → t ⟨fun _ τ' => Qd (.d .none) τ', Qd, fun _ _ => False, fun _ _ => False⟩ (rs ++ List.replicate (N.length - rs.length) .no) τ) :
    FnOk P w K mg base CX0 (k + 1) f fd ps (spD (theS Ts) K FF) := okD (S := theS Ts) F Sc len hl hbody
/-! ### == on what is known -/
theorem eqOks_none_none   : eqOk .none .none = true := rfl
theorem eqOks_none_int  (b : Int) : eqOk .none (.int b) = true := rfl
theorem eqOks_int_none (a : Int)  : eqOk (.int a) .none = true := rfl
theorem eqOks_none_bool  (b : Bool) : eqOk .none (.bool b) = true := rfl
theorem eqOks_bool_none (a : Bool)  : eqOk (.bool a) .none = true := rfl
theorem eqOks_none_str  (b : Str) : eqOk .none (.str b) = true := rfl
theorem eqOks_str_none (a : Str)  : eqOk (.str a) .none = true := rfl
theorem eqOks_int_int (a : Int) (b : Int) : eqOk (.int a) (.int b) = true := rfl
theorem eqOks_bool_bool (a : Bool) (b : Bool) : eqOk (.bool a) (.bool b) = true := rfl
theorem eqOks_str_str (a : Str) (b : Str) : eqOk (.str a) (.str b) = true := rfl
theorem eqOks_int_str (a : Int) (b : Str) : eqOk (.int a) (.str b) = true := rfl
theorem eqOks_str_int (a : Str) (b : Int) : eqOk (.str a) (.int b) = true := rfl
theorem eqOks_bool_str (a : Bool) (b : Str) : eqOk (.bool a) (.str b) = true := rfl
theorem eqOks_str_bool (a : Str) (b : Bool) : eqOk (.str a) (.bool b) = true := rfl
theorem eqv_int (i j : Int) : PyData.eqv (.int i) (.int j) = decide (i = j) := by
  rw [PyData.eqv]
  rfl
theorem eqv_bool (i j : Bool) : PyData.eqv (.bool i) (.bool j) = (i == j) := by rw [PyData.eqv]
theorem eqv_none_none   : PyData.eqv .none .none = true := by simp [PyData.eqv]
theorem eqv_none_bool  (b : Bool) : PyData.eqv .none (.bool b) = false := by simp [PyData.eqv]
theorem eqv_none_int  (b : Int) : PyData.eqv .none (.int b) = false := by simp [PyData.eqv]
theorem eqv_none_str  (b : Str) : PyData.eqv .none (.str b) = false := by simp [PyData.eqv]
theorem eqv_none_list  (b : List D) : PyData.eqv .none (.list b) = false := by simp [PyData.eqv]
theorem eqv_none_tuple  (b : List D) : PyData.eqv .none (.tuple b) = false := by simp [PyData.eqv]
theorem eqv_bool_none (a : Bool)  : PyData.eqv (.bool a) .none = false := by simp [PyData.eqv]
theorem eqv_bool_str (a : Bool) (b : Str) : PyData.eqv (.bool a) (.str b) = false := by simp [PyData.eqv]
theorem eqv_bool_list (a : Bool) (b : List D) : PyData.eqv (.bool a) (.list b) = false := by simp [PyData.eqv]
theorem eqv_bool_tuple (a : Bool) (b : List D) : PyData.eqv (.bool a) (.tuple b) = false := by simp [PyData.eqv]
theorem eqv_int_none (a : Int)  : PyData.eqv (.int a) .none = false := by simp [PyData.eqv]
theorem eqv_int_str (a : Int) (b : Str) : PyData.eqv (.int a) (.str b) = false := by simp [PyData.eqv]
theorem eqv_int_list (a : Int) (b : List D) : PyData.eqv (.int a) (.list b) = false := by simp [PyData.eqv]
theorem eqv_int_tuple (a : Int) (b : List D) : PyData.eqv (.int a) (.tuple b) = false := by simp [PyData.eqv]
theorem eqv_str_none (a : Str)  : PyData.eqv (.str a) .none = false := by simp [PyData.eqv]
theorem eqv_str_bool (a : Str) (b : Bool) : PyData.eqv (.str a) (.bool b) = false := by simp [PyData.eqv]
theorem eqv_str_int (a : Str) (b : Int) : PyData.eqv (.str a) (.int b) = false := by simp [PyData.eqv]
theorem eqv_str_list (a : Str) (b : List D) : PyData.eqv (.str a) (.list b) = false := by simp [PyData.eqv]
theorem eqv_str_tuple (a : Str) (b : List D) : PyData.eqv (.str a) (.tuple b) = false := by simp [PyData.eqv]
theorem eqv_list_none (a : List D)  : PyData.eqv (.list a) .none = false := by simp [PyData.eqv]
theorem eqv_list_bool (a : List D) (b : Bool) : PyData.eqv (.list a) (.bool b) = false := by simp [PyData.eqv]
theorem eqv_list_int (a : List D) (b : Int) : PyData.eqv (.list a) (.int b) = false := by simp [PyData.eqv]
theorem eqv_list_str (a : List D) (b : Str) : PyData.eqv (.list a) (.str b) = false := by simp [PyData.eqv]
theorem eqv_list_tuple (a : List D) (b : List D) : PyData.eqv (.list a) (.tuple b) = false := by simp [PyData.eqv]
theorem eqv_tuple_none (a : List D)  : PyData.eqv (.tuple a) .none = false := by simp [PyData.eqv]
theorem eqv_tuple_bool (a : List D) (b : Bool) : PyData.eqv (.tuple a) (.bool b) = false := by simp [PyData.eqv]
theorem eqv_tuple_int (a : List D) (b : Int) : PyData.eqv (.tuple a) (.int b) = false := by simp [PyData.eqv]
theorem eqv_tuple_str (a : List D) (b : Str) : PyData.eqv (.tuple a) (.str b) = false := by simp [PyData.eqv]
theorem eqv_tuple_list (a : List D) (b : List D) : PyData.eqv (.tuple a) (.list b) = false := by simp [PyData.eqv]
theorem isTs : isT "NoneType" "NoneType" = true ∧ isT "NoneType" "bool" = false ∧ isT "NoneType" "int" = false ∧ isT "NoneType" "str" = false ∧ isT "NoneType" "list" = false ∧ isT "NoneType" "tuple" = false ∧ isT "NoneType" "dict" = false ∧ isT "bool" "NoneType" = false ∧ isT "bool" "bool" = true ∧ isT "bool" "int" = true ∧ isT "bool" "str" = false ∧ isT "bool" "list" = false ∧ isT "bool" "tuple" = false ∧ isT "bool" "dict" = false ∧ isT "int" "NoneType" = false ∧ isT "int" "bool" = false ∧ isT "int" "int" = true ∧ isT "int" "str" = false ∧ isT "int" "list" = false ∧ isT "int" "tuple" = false ∧ isT "int" "dict" = false ∧ isT "str" "NoneType" = false ∧ isT "str" "bool" = false ∧ isT "str" "int" = false ∧ isT "str" "str" = true ∧ isT "str" "list" = false ∧ isT "str" "tuple" = false ∧ isT "str" "dict" = false ∧ isT "list" "NoneType" = false ∧ isT "list" "bool" = false ∧ isT "list" "int" = false ∧ isT "list" "str" = false ∧ isT "list" "list" = true ∧ isT "list" "tuple" = false ∧ isT "list" "dict" = false ∧ isT "tuple" "NoneType" = false ∧ isT "tuple" "bool" = false ∧ isT "tuple" "int" = false ∧ isT "tuple" "str" = false ∧ isT "tuple" "list" = false ∧ isT "tuple" "tuple" = true ∧ isT "tuple" "dict" = false ∧ isT "dict" "NoneType" = false ∧ isT "dict" "bool" = false ∧ isT "dict" "int" = false ∧ isT "dict" "str" = false ∧ isT "dict" "list" = false ∧ isT "dict" "tuple" = false ∧ isT "dict" "dict" = true := by decide
theorem tyCs : tyNames.contains "NoneType" = true ∧ tyNames.contains "bool" = true ∧ tyNames.contains "int" = true ∧ tyNames.contains "str" = true ∧ tyNames.contains "list" = true ∧ tyNames.contains "tuple" = true ∧ tyNames.contains "dict" = true := by decide
theorem tyNs_none  : tyN .none = "NoneType" := rfl
theorem tyNs_bool (a : Bool) : tyN (.bool a) = "bool" := rfl
theorem tyNs_int (a : Int) : tyN (.int a) = "int" := rfl
theorem tyNs_str (a : Str) : tyN (.str a) = "str" := rfl
theorem tyNs_list (a : List D) : tyN (.list a) = "list" := rfl
theorem tyNs_tuple (a : List D) : tyN (.tuple a) = "tuple" := rfl
theorem tyNs_dict (a : List (D × D)) : tyN (.dict a) = "dict" := rfl
end Z

namespace Z
open PySem L2
/-! ### the law's promise, and the end -/
def FF_law : FW DrT := fun rs τ Q => ∃ ns : List Int, rs = [.d (.list (ns.map PyData.int))] ∧ ns.length ≤ 63 ∧ τ = .off ∧ ∀ τ', Q (.d (.bool true)) τ'
theorem rp_ints {K : PySem.W.Frag} {G : Hp} : ∀ ns : List Int, RpAll K G (ns.map V.int) (ns.map PyData.int)
  | [] => .nil
  | i :: r => .cons (.int i) (rp_ints r)
theorem law_start {Ts : List Addr} {K : PySem.W.Frag} {H : Hp} {a : Addr} {ns : List Int} (hl : ns.length ≤ 63) (h : SqP K H a (ns.map V.int)) (hnt : ∀ b ps, H b = some (.tbl ps) → b ∈ Ts) (hnx : ∀ b φ, H b ≠ some (.ext φ)) : spD (theS Ts) K FF_law [.ref a] H (fun v _ => v = .bl true) fun _ _ _ => False := by
  refine ⟨H, fun _ => False, .off, [.d (.list (ns.map PyData.int))], fun r _ => r = .d (.bool true), H, ⟨Same.refl H, fun _ h => h.elim, fun _ h => h.elim, fun _ h => h, hnt, fun b φ e => absurd e (hnx b φ)⟩, .cons (.lst h (rp_ints ns)) .nil, rfl, ⟨ns, rfl, hl, rfl, fun _ => rfl⟩, ?_⟩
  rintro r τ' G' F' H' v _ _ res rfl
  exact rbl res
theorem walk_ofZ {l : PySem.W.OpenLaw} {k : Nat} {q : Program} {loose : List Str} {XP : (Str → Option Value) → Heap → Prop} {YP : World → Heap → Prop} {d : DefRec} {K : Params → PySem.W.Frag} {x : Str}
    (hn : l.most = some 63) (hdf : d.params.defaults = []) (hr : Room k callerA)
    (hY : ∀ (w : World) (h : Heap), YP w h → (K w.params).In h)
    (F : ∀ (w : World) (mg : Str → Option Value) (fa : Addr) (h : Heap), (K w.params).In h → h.Ns mainGlobals mg → mg d.name = some (.ref fa) →
      ∃ fd : FuncData, (∀ (s : Shared) (u : Value), BindsTo s fd ⟨[u], []⟩ [(x, u)]) ∧
        ∀ base : Heap, (K w.params).In base → base.Ns mainGlobals mg → FnOk l.prog w (K w.params) mg base CX0 k fa fd [x] (spD (theS []) (K w.params) FF_law))
    : PySem.W.WalkO q loose XP YP l.row.toRowW d [] (fun f vs => PySem.call f vs) := by
  refine Att.attach_call hn hdf fun w s₀ s₁ mg mb fa o pm cd doc a vs ns G Y ho hd hcd hmg hobj hints hlen hg => ?_
  have KX := hY w _ Y
  obtain ⟨fd, hb, hF⟩ := F w mg fa _ KX G.T.g hmg
  have h63 : 63 ≤ sizeLine := by rw [sizeLine_eq]; decide
  refine law_call KX G.T.g G.T.b G.T.builtins G.T.nolimit hg hobj hints (Nat.le_trans hlen h63) hr hF hb (fun H hO hS => law_start hlen ?_ ?_ ?_) fun H e s' h => h
  rotate_left
  · intro b ps e
    rcases hO b with z | ⟨o, xs, z⟩ <;> rw [z] at e <;> cases e
  · intro b φ e
    rcases hO b with z | ⟨o, xs, z⟩ <;> rw [z] at e <;> cases e
  rcases hS with h | ⟨o, its, n, hk, _⟩
  · exact .inl h
  · have e := KX a o hk
    rw [hobj] at e
    cases e
    exact .inr ⟨vs, hk, by rw [List.length_map]; exact Nat.le_trans hlen h63, vals_ints hints⟩
end Z

namespace Z
open PySem L2

/-! ### what is given back may be a list of one's own -/
def liftR (B : Bk) (t : W B.T) : TE := fun σ H Q => ∃ G F env τ Qd, StR B G F σ H env τ ∧ t env τ Qd ∧
  ∀ r τ' G' F' H' v, Fin B B.G B.F B.H τ' G' F' H' → Res B.K B.H G' F' H' r v → Qd r τ' → Q v H'
def dOwn {T : Type} (i : Nat) : W T := fun env τ Q => match env[i]? with
  | some (.d x) => Q (.d x) τ
  | some (.ol xs) => Q (.ol xs) τ
  | some (.raw v) => Q (.raw v) τ
  | _ => False
section
variable {X : Cx} {B : Bk} {a b c e : Expr} {pos : Pos} {ta tb te : W B.T} {tA : WT B.T} {i : Nat}
theorem dr_e (h : PE X e (lift B te)) : PE X e (liftR B te) := pe_imp h fun σ H Q ⟨G, F, env, τ, Qd, s, t, k⟩ =>
  ⟨G, F, env, τ, Qd, s, t, fun r τ' G' F' H' v f res q => k r τ' G' F' H' v (s.out.trans f) (res.back (dead s.s.dom)) q⟩
theorem dr_own (h : PE X e (tVar i)) : PE X e (liftR B (dOwn i)) := by
  refine pe_imp h fun σ H Q ⟨G, F, env, τ, Qd, s, t, k⟩ => ?_
  unfold dOwn at t
  cases q : env[i]? with
  | none => rw [q] at t; exact t.elim
  | some sv =>
    rw [q] at t
    have r := s.e.at' i sv q
    have up : ∀ {v : V}, σ[i]?.join = some v → σ[i]? = some (some v) := fun {v} e1 => by
      cases z : σ[i]? with
      | none => rw [z] at e1; cases e1
      | some o => rw [z] at e1; exact congrArg some e1
    cases sv with
    | no => exact t.elim
    | vw _ => exact t.elim
    | d x =>
      obtain ⟨v, e1, r⟩ := r
      exact ⟨v, up e1, k (.d x) _ _ _ _ _ s.out r t⟩
    | ol xs =>
      obtain ⟨p, e1, w⟩ := r
      exact ⟨_, up e1, k (.ol xs) _ _ _ _ _ s.out ⟨p, rfl, w⟩ t⟩
    | raw v => exact ⟨v, up r, k (.raw v) _ _ _ _ _ s.out rfl t⟩
theorem dr_if (hc : PT X c (liftT B tA)) (ha : PE X a (liftR B ta)) (hb : PE X b (liftR B tb)) : PE X (.IfExp c a b pos) (liftR B (dIf tA ta tb)) :=
  pe_imp (pe_ifExp hc ha hb) fun σ H Q ⟨G, F, env, τ, Qd, s, t, k⟩ => ⟨G, F, env, τ, _, s, t, fun c τ1 G1 F1 H1 f1 q => by
    cases c with
    | true => exact iteT ⟨G1, F1, env, τ1, _, s.fin f1, q, k⟩
    | false => exact iteF ⟨G1, F1, env, τ1, _, s.fin f1, q, k⟩⟩
theorem ds_retR (he : PE X e (liftR B te)) : PS X (.Return (some e) pos) (liftS B (dRet te)) :=
  ps_imp (ps_ret he) fun D σ H ⟨G, F, env, τ, Dd, s, h, E⟩ => ⟨G, F, env, τ, _, s, h, fun r τ1 G1 F1 H1 v f1 r1 ⟨_, q⟩ => E.rt r τ1 G1 F1 H1 v f1 r1 q⟩
end

/-! ### more of own lists -/
theorem RpAll.setA {K : PySem.W.Frag} {G : Hp} : ∀ {vs : List V} {xs : List D} (_ : RpAll K G vs xs) (j : Nat) {v : V} {x : D}, Rp K G v x → RpAll K G (vs.set j v) (xs.set j x)
  | _, _, .nil, _, _, _, _ => .nil
  | _, _, .cons _ t, 0, _, _, r => .cons r t
  | _, _, .cons h t, j + 1, _, _, r => .cons h (t.setA j r)
section
variable {X : Cx} {B : Bk} {pos : Pos} {te ti : W B.T} {i : Nat}
/-- x.extend(e), e a new list -/
def dExt {T : Type} (i : Nat) (te : W T) : WS T := fun D env τ => match env[i]? with
  | some (.ol xs) => te env τ fun r τ1 => ∃ zs, r = .ol zs ∧ xs.length + zs.length ≤ sizeLine ∧ D.nx (env.set i (.ol (xs ++ zs))) τ1
  | _ => False
theorem RpAll.app {K : PySem.W.Frag} {G : Hp} : ∀ {vs : List V} {xs : List D} {ws : List V} {ys : List D}, RpAll K G vs xs → RpAll K G ws ys → RpAll K G (vs ++ ws) (xs ++ ys)
  | _, _, _, _, .nil, r => r
  | _, _, _, _, .cons h t, r => .cons h (t.app r)
theorem ds_ext {st : Stmt} (h : PS X st (tDrop (tBM X.K "list" rExtend (tVar i) (tCons (lift B te) tNil)))) : PS X st (liftS B (dExt i te)) :=
  ps_imp h fun D σ H ⟨G, F, env, τ, Dd, s, z, E⟩ => by
    unfold dExt at z
    split at z
    · rename_i xs ee
      obtain ⟨p, e1, w⟩ := at_slot s ee
      obtain ⟨vs, e2, a2⟩ := w.at'
      refine ⟨_, e1, .inl ⟨rfl, _, .of e2⟩, G, F, env, τ, _, s, z, fun r τ1 G1 F1 H1 v f1 r1 ⟨zs, ez, hz, q⟩ => ?_⟩
      subst ez
      obtain ⟨b, ev, wb⟩ := r1
      subst ev
      obtain ⟨ws, eb, ab⟩ := wb.at'
      have s2 := s.fin f1
      obtain ⟨vs2, e3, a3⟩ := (w.step f1.s).at'
      have s3 := s2.mut ee (by rw [e1]; rfl) (a3.app ab)
      exact ⟨p, b, vs2, ws, rfl, rfl, e3, eb, by rw [a3.length, ab.length]; exact hz, E.nx G1 F1 σ _ _ τ1 f1.s.g s3 q⟩
    · exact z.elim
/-- x[k] = e -/
def dSetI {T : Type} (i : Nat) (te ti : W T) : WS T := fun D env τ => match env[i]? with
  | some (.ol xs) => te env τ fun r τ1 => opt r.dat? fun y => ti env τ1 fun z τ2 => ∃ k, z = .d (.int k) ∧ opt (ixN xs.length k) fun j => D.nx (env.set i (.ol (xs.set j y))) τ2
  | _ => False
theorem ds_seti {st : Stmt} (h : PS X st (tAsg (lift B te) (gSub (tVar i) (lift B ti) rSetL))) : PS X st (liftS B (dSetI i te ti)) :=
  ps_imp h fun D σ H ⟨G, F, env, τ, Dd, s, z, E⟩ => by
    unfold dSetI at z
    split at z
    · rename_i xs ee
      obtain ⟨p, e1, w⟩ := at_slot s ee
      refine ⟨G, F, env, τ, _, s, z, fun r τ1 G1 F1 H1 v f1 r1 q => ?_⟩
      obtain ⟨y, ey, q⟩ := opt_of q
      obtain ⟨G2, f2, sm, r2⟩ := r1.dat f1 ey
      have s2 := s.fin f2
      refine ⟨_, e1, G2, F1, env, τ1, _, s2, q, fun z τ3 G3 F3 H3 iv f3 r3 ⟨k, ez, q3⟩ => ?_⟩
      subst ez
      obtain ⟨j, ej, q3⟩ := opt_of q3
      have f23 := f2.trans f3
      have s3 := s.fin f23
      obtain ⟨vs3, e3, a3⟩ := (w.step f23.s).at'
      have r4 : Rp B.K G3 v y := Rp.mono f3.s.g r2
      have s4 := s3.mut ee (by rw [e1]; rfl) (a3.setA j r4)
      exact ⟨p, vs3, k, j, rfl, rint r3, e3, by rw [a3.length]; exact ej, E.nx G3 F3 σ _ _ τ3 f23.s.g s4 q3⟩
    · exact z.elim
end

/-! ### many times a list, a tuple -/
theorem RpAll.flat {K : PySem.W.Frag} {G : Hp} {vs : List V} {xs : List D} (a : RpAll K G vs xs) : ∀ n : Nat, RpAll K G (List.replicate n vs).flatten (List.replicate n xs).flatten
  | 0 => .nil
  | n + 1 => by
    rw [List.replicate_succ, List.replicate_succ, List.flatten_cons, List.flatten_cons]
    exact a.app (a.flat n)
def gMulL (x y : SV) (Q : SV → Prop) : Prop := ∃ xs k, (x = .ol xs ∨ x = .vw xs) ∧ y = .d (.int k) ∧ (-(2 ^ 63) ≤ k ∧ k < 2 ^ 63) ∧ xs.length * k.toNat ≤ sizeLine ∧ Q (.ol (List.replicate k.toNat xs).flatten)
def gMulT (x y : SV) (Q : SV → Prop) : Prop := ∃ xs k, x = .d (.tuple xs) ∧ y = .d (.int k) ∧ xs ≠ [] ∧ (2 ≤ k ∧ k ≤ 1000) ∧ xs.length ≤ 1000 ∧ Q (.d (.tuple (List.replicate k.toNat xs).flatten))
section
variable {X : Cx} {B : Bk}
theorem od_mulL : OpD B rRep gMulL := fun x y vx vy Ha Hb G F H τ Qv Q k rx ry h fin => by
  obtain ⟨xs, n, ex, ey, hn, hz, h⟩ := h
  subst ey
  have go : ∀ p vs, vx = .ref p → H p = some (.lst vs) → RpAll B.K G vs xs → rRep vx vy H Q := fun p vs e1 e2 a => by
    refine ⟨p, n, vs, e1, rint ry, e2, hn.1, hn.2, by rw [a.length]; exact hz, fun p' hp => fin.ol k hp (a.flat _) h⟩
  rcases ex with rfl | rfl
  · obtain ⟨p, e1, w⟩ := rx
    obtain ⟨vs, e2, a⟩ := w.at'
    exact go p vs e1 e2 a
  · obtain ⟨p, vs, e1, e2, a, _⟩ := rx
    exact go p vs e1 e2 a
theorem od_mulT (hK : X.K = B.K) : OpD B (rRepT X.K) gMulT := fun x y vx vy Ha Hb G F H τ Qv Q k rx ry h fin => by
  obtain ⟨xs, n, ex, ey, hne, hn, hz, h⟩ := h
  subst ex ey
  rw [hK]
  obtain ⟨p, vs, e1, hs, a⟩ := rtup rx
  have hl := a.length
  refine ⟨p, n, vs, e1, rint ry, same_seqT k.same hs, fun z => hne ?_, hn.1, hn.2, by omega, fun p' hp => fin.tup k hp (a.flat _) h⟩
  subst z
  exact List.length_eq_zero_iff.mp hl.symm
def gMulA (x y : SV) (Q : SV → Prop) : Prop := gMul x y Q ∨ gMulL x y Q ∨ gMulT x y Q
theorem op_mulB : OpR X (binaryOp .Mult) (fun x y H Q => ((rI CMul fun i j => .int (i * j)) x y H Q ∨ rMulS x y H Q) ∨ rRep x y H Q ∨ rRepT X.K x y H Q) := op_mulA.or (op_rep.or op_repT)
theorem od_mulB (hK : X.K = B.K) : OpD B (fun x y H Q => ((rI CMul fun i j => .int (i * j)) x y H Q ∨ rMulS x y H Q) ∨ rRep x y H Q ∨ rRepT X.K x y H Q) gMulA := od_mul.or (od_mulL.or (od_mulT hK))
end

/-! ### enumerate, zip -/
def enumD (xs : List D) : List D := xs.zipIdx.map fun p => .tuple [.int (p.2 : Nat), p.1]
def zipD (xs ys : List D) : List D := (xs.zip ys).map fun p => .tuple [p.1, p.2]
theorem enum_get {xs : List D} {i : Nat} {x : D} (h : (enumD xs)[i]? = some x) : ∃ y, xs[i]? = some y ∧ x = .tuple [.int (i : Nat), y] := by
  unfold enumD at h
  rw [List.getElem?_map, List.getElem?_zipIdx] at h
  cases e : xs[i]? with
  | none => rw [e] at h; cases h
  | some y =>
    rw [e] at h
    cases h
    exact ⟨y, rfl, by rw [Nat.zero_add]⟩
theorem enum_len (xs : List D) : (enumD xs).length = xs.length := by
  unfold enumD
  rw [List.length_map, List.length_zipIdx]
theorem zip_get {xs ys : List D} {i : Nat} {x : D} (h : (zipD xs ys)[i]? = some x) : ∃ a b, xs[i]? = some a ∧ ys[i]? = some b ∧ x = .tuple [a, b] := by
  unfold zipD at h
  rw [List.getElem?_map] at h
  cases e : (xs.zip ys)[i]? with
  | none => rw [e] at h; cases h
  | some p =>
    rw [e] at h
    cases h
    have e2 := List.getElem?_zip_eq_some.mp e
    exact ⟨_, _, e2.1, e2.2, rfl⟩
theorem zip_len (xs ys : List D) : (zipD xs ys).length = min xs.length ys.length := by
  unfold zipD
  rw [List.length_map, List.length_zip]
section
variable {X : Cx} {B : Bk} {tg : Expr} {pos : Pos}
/-- a new pair -/
theorem new_pair {G H : Hp} {F : Addr → Prop} {τ : B.T} {T : Addr} {a b : V} {x y : D} (k : Ok B.S B.K τ G F H) (n : H T = none) (ha : Rp B.K G a x) (hb : Rp B.K G b y) :
    ∃ G2, Fin B G F H τ G2 F (upd H T (.tup [a, b])) ∧ Rp B.K G2 (.ref T) (.tuple [x, y]) :=
  ⟨_, (new_tup k n (.cons ha (.cons hb .nil))).1, (new_tup k n (.cons ha (.cons hb .nil))).2⟩
theorem itr_e {G : Hp} {a : Addr} {vs : List V} {xs : List D} (h : SqP B.K G a vs) (r : RpAll B.K G vs xs) : ItR B (Ite B.K a) G (enumD xs) where
  go := fun G1 H1 F1 τ1 sm k i x e => by
    obtain ⟨y, ey, ex⟩ := enum_get e
    subst ex
    obtain ⟨v, ev, rv⟩ := r.getD ey
    have hq := (same_sqp (sm.trans k.same) h).sql
    refine ⟨⟨vs, v, hq, ev⟩, fun w H2 ⟨T, x', e2, hT, e3, hx⟩ => ?_⟩
    have := hx vs hq
    rw [ev] at this
    cases this
    subst e2 e3
    exact new_pair k hT (.int _) (rv.mono sm)
  stop := fun G1 H1 F1 τ1 sm k i hi => ⟨vs, (same_sqp (sm.trans k.same) h).sql, by rw [r.length]; rw [enum_len] at hi; exact hi⟩
theorem itr_z {G : Hp} {a b : Addr} {vs ws : List V} {xs ys : List D} (h : SqP B.K G a vs) (r : RpAll B.K G vs xs) (h' : SqP B.K G b ws) (r' : RpAll B.K G ws ys) : ItR B (Itz B.K a b) G (zipD xs ys) where
  go := fun G1 H1 F1 τ1 sm k i x e => by
    obtain ⟨y, z, ey, ez, ex⟩ := zip_get e
    subst ex
    obtain ⟨v, ev, rv⟩ := r.getD ey
    obtain ⟨u, eu, ru⟩ := r'.getD ez
    have hq := (same_sqp (sm.trans k.same) h).sql
    have hq' := (same_sqp (sm.trans k.same) h').sql
    refine ⟨⟨vs, ws, v, u, hq, hq', ev, eu⟩, fun w H2 ⟨T, x', y', e2, hT, e3, hx, hy⟩ => ?_⟩
    have := hx vs hq
    rw [ev] at this
    cases this
    have := hy ws hq'
    rw [eu] at this
    cases this
    subst e2 e3
    exact new_pair k hT (rv.mono sm) (ru.mono sm)
  stop := fun G1 H1 F1 τ1 sm k i hi => by
    rw [zip_len] at hi
    have h1 := r.length
    have h2 := r'.length
    exact ⟨vs, ws, (same_sqp (sm.trans k.same) h).sql, (same_sqp (sm.trans k.same) h').sql, by omega⟩
theorem itr_zt {G : Hp} {a b : Addr} {vs ws : List V} {xs ys : List D} (h : SqT B.K G a vs) (r : RpAll B.K G vs xs) (h' : SqT B.K G b ws) (r' : RpAll B.K G ws ys) : ItR B (RZ.ItzT B.K a b) G (zipD xs ys) where
  go := fun G1 H1 F1 τ1 sm k i x e => by
    obtain ⟨y, z, ey, ez, ex⟩ := zip_get e
    subst ex
    obtain ⟨v, ev, rv⟩ := r.getD ey
    obtain ⟨u, eu, ru⟩ := r'.getD ez
    have hq := same_seqT (sm.trans k.same) h
    have hq' := same_seqT (sm.trans k.same) h'
    refine ⟨⟨vs, ws, v, u, hq, hq', ev, eu⟩, fun w H2 ⟨T, x', y', e2, hT, e3, hx, hy⟩ => ?_⟩
    have := hx vs hq
    rw [ev] at this
    cases this
    have := hy ws hq'
    rw [eu] at this
    cases this
    subst e2 e3
    exact new_pair k hT (rv.mono sm) (ru.mono sm)
  stop := fun G1 H1 F1 τ1 sm k i hi => by
    rw [zip_len] at hi
    have h1 := r.length
    have h2 := r'.length
    exact ⟨vs, ws, same_seqT (sm.trans k.same) h, same_seqT (sm.trans k.same) h', by omega⟩
def dEnum {T : Type} (ta : WA T) : WI T := fun env τ Q => ta env τ fun rs τ1 => ∃ xs, rs = [.d (.list xs)] ∧ Q (enumD xs) τ1
def dZip {T : Type} (ta : WA T) : WI T := fun env τ Q => ta env τ fun rs τ1 => ∃ xs ys, (rs = [.d (.list xs), .d (.list ys)] ∨ rs = [.d (.tuple xs), .d (.tuple ys)]) ∧ Q (zipD xs ys) τ1
theorem di_enumerate (hK : X.K = B.K) {e : Expr} {ta : WA B.T} {p tpos : Pos} {elts : List Expr} {kk : Nat} (hg : Gl X "enumerate") (hm : X.mg "enumerate" = none) (ha : PA X [e] (liftA B ta)) (hs : starEach [e] X.env = [(false, eval e X.env)] := by rfl) :
    PI X (.Tuple elts kk tpos) (.Call (.Name "enumerate" p) [e] [] pos) (liftI B (dEnum ta)) :=
  pi_imp (pi_enum hg hm ha hs) fun σ H R ⟨G, F, env, τ, Qd, s, t, k⟩ => ⟨G, F, env, τ, _, s, t, fun rs τ1 G1 F1 H1 vs f1 r1 ⟨xs, e, q⟩ => by
    subst e
    obtain ⟨v, e1, r⟩ := r1.one
    subst e1
    rw [hK]
    match r with
    | .lst h a => exact ⟨_, _, rfl, (same_sqp f1.k.same h).sql, k _ _ _ _ _ _ f1 (itr_e h a) q⟩⟩
theorem di_zip (hK : X.K = B.K) {e e2 : Expr} {ta : WA B.T} {p tpos : Pos} {elts : List Expr} {kk : Nat} (hg : Gl X "zip") (hm : X.mg "zip" = none) (ha : PA X [e, e2] (liftA B ta))
    (hs : starEach [e, e2] X.env = (false, eval e X.env) :: starEach [e2] X.env := by rfl) (hpl : (backTo pos (starEach [e2] X.env)).any (·.1) = false := by rfl) :
    PI X (.Tuple elts kk tpos) (.Call (.Name "zip" p) [e, e2] [] pos) (liftI B (dZip ta)) :=
  pi_imp (RZ.pi_zipA hg hm ha hs hpl) fun σ H R ⟨G, F, env, τ, Qd, s, t, k⟩ => ⟨G, F, env, τ, _, s, t, fun rs τ1 G1 F1 H1 vs f1 r1 ⟨xs, ys, e, q⟩ => by
    rw [hK]
    rcases e with e | e
    · subst e
      obtain ⟨v, w, e1, r, r'⟩ := r1.two
      subst e1
      match r, r' with
      | .lst h a, .lst h' a' => exact ⟨_, _, _, _, rfl, .inl ⟨(same_sqp f1.k.same h).sql, (same_sqp f1.k.same h').sql, k _ _ _ _ _ _ f1 (itr_z h a h' a') q⟩⟩
    · subst e
      obtain ⟨v, w, e1, r, r'⟩ := r1.two
      subst e1
      obtain ⟨_, _, e2, h, a⟩ := rtup r
      obtain ⟨_, _, e3, h', a'⟩ := rtup r'
      subst e2 e3
      exact ⟨_, _, _, _, rfl, .inr ⟨same_seqT f1.k.same h, same_seqT f1.k.same h', k _ _ _ _ _ _ f1 (itr_zt h a h' a') q⟩⟩⟩
end

/-! ### the readings, by named continuations -/
section
variable {T : Type}
def kOw (Q : SV → T → Prop) (τ : T) : Option SV → Prop
  | some (.d x) => Q (.d x) τ
  | some (.ol xs) => Q (.ol xs) τ
  | some (.raw v) => Q (.raw v) τ
  | _ => False
theorem dOwn_k (i : Nat) (env : List SV) (τ : T) (Q : SV → T → Prop) : dOwn i env τ Q = kOw Q τ env[i]? := by
  unfold dOwn
  generalize env[i]? = o
  match o with
  | some (.ol xs) => rfl
  | some (.d _) => rfl
  | some (.vw _) => rfl
  | some (.raw _) => rfl
  | some .no => rfl
  | none => rfl
theorem kOw_1 {Q : SV → T → Prop} {τ : T} {x : D} : kOw Q τ (some (.d x)) = Q (.d x) τ := rfl
theorem kOw_2 {Q : SV → T → Prop} {τ : T} {x : List D} : kOw Q τ (some (.ol x)) = Q (.ol x) τ := rfl
theorem kOw_3 {Q : SV → T → Prop} {τ : T} {x : V} : kOw Q τ (some (.raw x)) = Q (.raw x) τ := rfl
def kEx (i : Nat) (D : DEnds T) (env : List SV) (xs : List Z.D) (r : SV) (τ : T) : Prop := match r with
  | .ol zs => xs.length + zs.length ≤ sizeLine ∧ D.nx (env.set i (.ol (xs ++ zs))) τ
  | _ => False
theorem kEx_1 {i : Nat} {D : DEnds T} {env : List SV} {xs zs : List Z.D} {τ : T} : kEx i D env xs (.ol zs) τ = (xs.length + zs.length ≤ sizeLine ∧ D.nx (env.set i (.ol (xs ++ zs))) τ) := rfl
def kExt (i : Nat) (te : W T) (D : DEnds T) (env : List SV) (τ : T) : Option SV → Prop
  | some (.ol xs) => te env τ (kEx i D env xs)
  | _ => False
theorem kExt_1 {i : Nat} {te : W T} {D : DEnds T} {env : List SV} {τ : T} {xs : List Z.D} : kExt i te D env τ (some (.ol xs)) = te env τ (kEx i D env xs) := rfl
theorem dExt_k (i : Nat) (te : W T) (D : DEnds T) (env : List SV) (τ : T) : dExt i te D env τ = kExt i te D env τ env[i]? := by
  unfold dExt
  generalize env[i]? = o
  match o with
  | some (.ol xs) =>
    show te env τ _ = te env τ _
    congr 1
    funext r τ1
    cases r <;> simp [kEx]
  | some (.d _) => rfl
  | some (.vw _) => rfl
  | some (.raw _) => rfl
  | some .no => rfl
  | none => rfl
def kSI4 (i : Nat) (D : DEnds T) (env : List SV) (xs : List Z.D) (y : Z.D) (τ : T) : Option Nat → Prop
  | some j => D.nx (env.set i (.ol (xs.set j y))) τ
  | none => False
theorem kSI4_1 {i : Nat} {D : DEnds T} {env : List SV} {xs : List Z.D} {y : Z.D} {τ : T} {j : Nat} : kSI4 i D env xs y τ (some j) = D.nx (env.set i (.ol (xs.set j y))) τ := rfl
def kSI3 (i : Nat) (D : DEnds T) (env : List SV) (xs : List Z.D) (y : Z.D) (z : SV) (τ : T) : Prop := match z with
  | .d (.int k) => kSI4 i D env xs y τ (ixN xs.length k)
  | _ => False
theorem kSI3_1 {i : Nat} {D : DEnds T} {env : List SV} {xs : List Z.D} {y : Z.D} {k : Int} {τ : T} : kSI3 i D env xs y (.d (.int k)) τ = kSI4 i D env xs y τ (ixN xs.length k) := rfl
def kSI2 (i : Nat) (ti : W T) (D : DEnds T) (env : List SV) (xs : List Z.D) (τ : T) : Option Z.D → Prop
  | some y => ti env τ (kSI3 i D env xs y)
  | none => False
theorem kSI2_1 {i : Nat} {ti : W T} {D : DEnds T} {env : List SV} {xs : List Z.D} {τ : T} {y : Z.D} : kSI2 i ti D env xs τ (some y) = ti env τ (kSI3 i D env xs y) := rfl
def kSI1 (i : Nat) (ti : W T) (D : DEnds T) (env : List SV) (xs : List Z.D) (r : SV) (τ : T) : Prop := kSI2 i ti D env xs τ r.dat?
def kSetI (i : Nat) (te ti : W T) (D : DEnds T) (env : List SV) (τ : T) : Option SV → Prop
  | some (.ol xs) => te env τ (kSI1 i ti D env xs)
  | _ => False
theorem kSetI_1 {i : Nat} {te ti : W T} {D : DEnds T} {env : List SV} {τ : T} {xs : List Z.D} : kSetI i te ti D env τ (some (.ol xs)) = te env τ (kSI1 i ti D env xs) := rfl
theorem dSetI_k (i : Nat) (te ti : W T) (D : DEnds T) (env : List SV) (τ : T) : dSetI i te ti D env τ = kSetI i te ti D env τ env[i]? := by
  unfold dSetI
  generalize env[i]? = o
  match o with
  | some (.ol xs) =>
    show te env τ _ = te env τ (kSI1 i ti D env xs)
    congr 1
    funext r τ1
    refine opt_e (k := kSI2 i ti D env xs τ1) (fun y => ?_) rfl
    show ti env τ1 _ = ti env τ1 (kSI3 i D env xs y)
    congr 1
    funext z τ2
    match z with
    | .d (.int k) =>
      refine propext ⟨?_, fun h => ⟨k, rfl, ?_⟩⟩
      · rintro ⟨k', e, h⟩
        cases e
        obtain ⟨j, ej, h⟩ := opt_of h
        show kSI4 i D env xs y τ2 (ixN xs.length k)
        rw [ej]
        exact h
      · have h : kSI4 i D env xs y τ2 (ixN xs.length k) := h
        cases e : ixN xs.length k with
        | none => rw [e] at h; exact h.elim
        | some j => rw [e] at h; exact h
    | .d .none => exact propext ⟨fun ⟨_, e, _⟩ => (nomatch e), fun h => h.elim⟩
    | .d (.bool _) => exact propext ⟨fun ⟨_, e, _⟩ => (nomatch e), fun h => h.elim⟩
    | .d (.str _) => exact propext ⟨fun ⟨_, e, _⟩ => (nomatch e), fun h => h.elim⟩
    | .d (.list _) => exact propext ⟨fun ⟨_, e, _⟩ => (nomatch e), fun h => h.elim⟩
    | .d (.tuple _) => exact propext ⟨fun ⟨_, e, _⟩ => (nomatch e), fun h => h.elim⟩
    | .d (.dict _) => exact propext ⟨fun ⟨_, e, _⟩ => (nomatch e), fun h => h.elim⟩
    | .vw _ => exact propext ⟨fun ⟨_, e, _⟩ => (nomatch e), fun h => h.elim⟩
    | .ol _ => exact propext ⟨fun ⟨_, e, _⟩ => (nomatch e), fun h => h.elim⟩
    | .raw _ => exact propext ⟨fun ⟨_, e, _⟩ => (nomatch e), fun h => h.elim⟩
    | .no => exact propext ⟨fun ⟨_, e, _⟩ => (nomatch e), fun h => h.elim⟩
  | some (.d _) => rfl
  | some (.vw _) => rfl
  | some (.raw _) => rfl
  | some .no => rfl
  | none => rfl
def kEn (Q : List D → T → Prop) (rs : List SV) (τ : T) : Prop := ∃ xs, rs = [.d (.list xs)] ∧ Q (enumD xs) τ
theorem kEn_k {Q : List D → T → Prop} {xs : List D} {τ : T} : kEn Q [.d (.list xs)] τ = Q (enumD xs) τ := by simp [kEn]
theorem dEnum_k (ta : WA T) (env : List SV) (τ : T) (Q : List D → T → Prop) : dEnum ta env τ Q = ta env τ (kEn Q) := rfl
def kZp (Q : List D → T → Prop) (rs : List SV) (τ : T) : Prop := ∃ xs ys, (rs = [.d (.list xs), .d (.list ys)] ∨ rs = [.d (.tuple xs), .d (.tuple ys)]) ∧ Q (zipD xs ys) τ
theorem kZp_l {Q : List D → T → Prop} {xs ys : List D} {τ : T} : kZp Q [.d (.list xs), .d (.list ys)] τ = Q (zipD xs ys) τ := propext ⟨fun ⟨a, b, e, h⟩ => by
  rcases e with e | e <;> cases e
  exact h, fun h => ⟨_, _, .inl rfl, h⟩⟩
theorem kZp_u {Q : List D → T → Prop} {xs ys : List D} {τ : T} : kZp Q [.d (.tuple xs), .d (.tuple ys)] τ = Q (zipD xs ys) τ := propext ⟨fun ⟨a, b, e, h⟩ => by
  rcases e with e | e <;> cases e
  exact h, fun h => ⟨_, _, .inr rfl, h⟩⟩
theorem dZip_k (ta : WA T) (env : List SV) (τ : T) (Q : List D → T → Prop) : dZip ta env τ Q = ta env τ (kZp Q) := rfl
end
theorem gMulA_i {i j : Int} {Q : SV → Prop} : gMulA (.d (.int i)) (.d (.int j)) Q = (CMul i j ∧ Q (.d (.int (i * j)))) := by
  unfold gMulA gMulL gMulT
  rw [gMul_i]
  simp
theorem gMulA_s {i : Str} {j : Int} {Q : SV → Prop} : gMulA (.d (.str i)) (.d (.int j)) Q = ((2 ≤ j ∧ j ≤ 100000 ∧ 0 < i.length ∧ i.length ≤ 100) ∧ (strRep i j.toNat).length ≤ sizeLine ∧ Q (.d (.str (strRep i j.toNat)))) := by
  unfold gMulA gMulL gMulT
  rw [gMul_s]
  simp
theorem gMulA_ol {i : List D} {j : Int} {Q : SV → Prop} (h : (-(2 ^ 63) ≤ j ∧ j < 2 ^ 63) ∧ i.length * j.toNat ≤ sizeLine ∧ Q (.ol (List.replicate j.toNat i).flatten)) : gMulA (.ol i) (.d (.int j)) Q := .inr (.inl ⟨i, j, .inl rfl, rfl, h.1, h.2.1, h.2.2⟩)
theorem gMulA_vw {i : List D} {j : Int} {Q : SV → Prop} (h : (-(2 ^ 63) ≤ j ∧ j < 2 ^ 63) ∧ i.length * j.toNat ≤ sizeLine ∧ Q (.ol (List.replicate j.toNat i).flatten)) : gMulA (.vw i) (.d (.int j)) Q := .inr (.inl ⟨i, j, .inr rfl, rfl, h.1, h.2.1, h.2.2⟩)
end Z

namespace Z
open PySem L2
/-! ### more of what is known -/
theorem gIn_sf {c : Nat} {z : Str} {Q : SV → Prop} : gIn false (.d (.str ⟨#[c]⟩)) (.d (.str z)) Q = Q (.d (.bool (decide (c ∈ z.cps.toList)))) := by
  refine propext ⟨?_, fun h => .inl ⟨c, z, rfl, rfl, h⟩⟩
  rintro (⟨c', z', e1, e2, h⟩ | ⟨a, xs, _, e2, _⟩)
  · cases e1
    cases e2
    exact h
  · cases e2
theorem gIn_st {c : Nat} {z : Str} {Q : SV → Prop} : gIn true (.d (.str ⟨#[c]⟩)) (.d (.str z)) Q = Q (.d (.bool (!decide (c ∈ z.cps.toList)))) := by
  refine propext ⟨?_, fun h => .inl ⟨c, z, rfl, rfl, h⟩⟩
  rintro (⟨c', z', e1, e2, h⟩ | ⟨a, xs, _, e2, _⟩)
  · cases e1
    cases e2
    exact h
  · cases e2
theorem gIn_tf {a : D} {xs : List D} {Q : SV → Prop} : gIn false (.d a) (.d (.tuple xs)) Q = (flatD a = true ∧ xs.all flatD = true ∧ Q (.d (.bool (xs.any fun y => PyData.eqv y a)))) := by
  refine propext ⟨?_, fun h => .inr ⟨a, xs, rfl, rfl, h.1, h.2.1, h.2.2⟩⟩
  rintro (⟨c', z', e1, e2, h⟩ | ⟨a', xs', e1, e2, h⟩)
  · cases e2
  · cases e1
    cases e2
    exact h
theorem gIn_tt {a : D} {xs : List D} {Q : SV → Prop} : gIn true (.d a) (.d (.tuple xs)) Q = (flatD a = true ∧ xs.all flatD = true ∧ Q (.d (.bool (!(xs.any fun y => PyData.eqv y a))))) := by
  refine propext ⟨?_, fun h => .inr ⟨a, xs, rfl, rfl, h.1, h.2.1, h.2.2⟩⟩
  rintro (⟨c', z', e1, e2, h⟩ | ⟨a', xs', e1, e2, h⟩)
  · cases e2
  · cases e1
    cases e2
    exact h
theorem flatD_none : flatD .none = true := rfl
theorem flatD_int (a : Int) : flatD (.int a) = true := rfl
theorem flatD_str (a : Str) : flatD (.str a) = true := rfl
theorem flatD_bool (a : Bool) : flatD (.bool a) = true := rfl
/-! ### lists of texts -/
def dS (l : List Nat) : D := .str (mkS l)
theorem dS_cs (s : Str) : PyData.str s = dS (cs s) := by
  unfold dS
  rw [mk_cs]
theorem empty_mk : Str.ofString "" = mkS [] := str_ext (by decide +kernel)
theorem eqv_dS (a b : List Nat) : PyData.eqv (dS a) (dS b) = decide (a = b) := by
  show PyData.eqv (.str (mkS a)) (.str (mkS b)) = _
  rw [eqv_str]
  rfl
theorem eqvAll_dS : ∀ a b : List (List Nat), PyData.eqvAll (a.map dS) (b.map dS) = decide (a = b)
  | [], [] => by simp [PyData.eqvAll]
  | [], b :: bs => by simp [PyData.eqvAll]
  | a :: as, [] => by simp [PyData.eqvAll]
  | a :: as, b :: bs => by
    rw [List.map_cons, List.map_cons, PyData.eqvAll, eqv_dS, eqvAll_dS as bs]
    simp
theorem eqv_dSs (a b : List (List Nat)) : PyData.eqv (.list (a.map dS)) (.list (b.map dS)) = decide (a = b) := by
  rw [PyData.eqv, eqvAll_dS]
theorem shaped_dSs {l : List (List Nat)} (h : ∀ w ∈ l, w.length ≤ 100000 ∧ ∀ c ∈ w, c < 1114112) : SeqAt.shaped (.list (l.map dS)) = true := shaped_list fun x hx => by
  obtain ⟨w, hw, rfl⟩ := List.mem_map.mp hx
  refine ⟨okS.lay (okS.of (h w hw).1 (h w hw).2), ?_⟩
  show (PyData.str _).depth ≤ 63
  rw [PyData.depth]
  omega
theorem eqOk_dSs {l l' : List (List Nat)} (h : ∀ w ∈ l, w.length ≤ 100000 ∧ ∀ c ∈ w, c < 1114112) (h' : ∀ w ∈ l', w.length ≤ 100000 ∧ ∀ c ∈ w, c < 1114112) : eqOk (.list (l.map dS)) (.list (l'.map dS)) = true := by
  unfold eqOk
  rw [shaped_dSs h, shaped_dSs h']
  simp
theorem ixN_last (n : Nat) : ixN (n + 1) (-1) = some n := by
  unfold ixN
  rw [if_neg (by decide), if_pos (by omega)]
  congr 1
  omega
theorem atI_last {α : Type} {l : List α} {x : α} : atI (l ++ [x]) (-1) = some x := by
  unfold atI
  rw [List.length_append, List.length_singleton, ixN_last]
  show (l ++ [x])[l.length]? = some x
  rw [List.getElem?_append_right (Nat.le_refl _), Nat.sub_self]
  rfl
section
variable {T : Type} {t : Tg} {tt : WT T} {te : W T}
theorem lc_keep' {Q : List D → T → Prop} {env : List SV} {τ : T} (p : List Nat → Bool) : ∀ (l : List (List Nat)) (acc : List D),
    (∀ c ∈ l, ∀ (kc : D → T → Prop) (k0 : T → Prop), (if p c = true then kc (dS c) τ else k0 τ) → kTgB tt te kc k0 τ (tgE t (dS c) env)) →
    acc.length + l.length ≤ sizeLine → Q (acc ++ (l.filter p).map dS) τ → lcW t tt te Q (l.map dS) acc env τ
  | [], acc, _, _, q => by
    rw [List.filter_nil, List.map_nil, List.append_nil] at q
    exact q
  | c :: l, acc, h, hl, q => by
    rw [List.length_cons] at hl
    refine turn_k (h c (by simp) _ _ ?_)
    cases e : p c with
    | false =>
      rw [List.filter_cons, e] at q
      exact iteF (lc_keep' p l acc (fun y hy => h y (by simp [hy])) (by omega) q)
    | true =>
      rw [List.filter_cons, e] at q
      refine iteT ⟨by omega, lc_keep' p l (acc ++ [dS c]) (fun y hy => h y (by simp [hy])) (by rw [List.length_append, List.length_singleton]; omega) ?_⟩
      rw [List.append_assoc]
      exact q
theorem lc_keep {Q : List D → T → Prop} {env : List SV} {τ : T} (p : List Nat → Bool) (l : List (List Nat))
    (h : ∀ c ∈ l, ∀ (kc : D → T → Prop) (k0 : T → Prop), (if p c = true then kc (dS c) τ else k0 τ) → kTgB tt te kc k0 τ (tgE t (dS c) env))
    (hl : l.length ≤ sizeLine) (q : Q ((l.filter p).map dS) τ) : lcW t tt te Q (l.map dS) [] env τ :=
  lc_keep' p l [] h (by simpa using hl) q
end
end Z

namespace Z
open PySem L2 PySem.Spec PyProof.Rows
/-! ### defs that are run where nothing is being told (so repr may be asked) -/
structure RoomG (k : Nat) (A : Around) : Prop where
  r : Room k A
  g : A.guards = some []
theorem RoomG.mono {j k : Nat} {A : Around} (h : RoomG k A) (l : j ≤ k) : RoomG j A := ⟨h.r.mono l, h.g⟩
structure FnG (P : Program) (w : World) (K : PySem.W.Frag) (mg : Str → Option Value) (base : Heap) (k : Nat) (f : Addr) (fd : FuncData) (ps : List Str) (sp : Sp) : Prop where
  len : ∀ vs H Q E, sp vs H Q E → vs.length = ps.length
  run : ∀ (A : Around) (st : List Env) (s : Shared) (H : Hp) (as : Args) (us : List Value) (vs : List V) (Q : VK) (E : XK), RoomG k A → Env0 P w K mg base A st s H → BindsTo s fd as (ps.zip us) → Vals vs us → sp vs H Q E →
    codeAny (model P w) A (.call (.ref f) as) (CR CX0 st P w H s Q E) s
theorem fng_of {P : Program} {w : World} {K : PySem.W.Frag} {mg : Str → Option Value} {base : Heap} {x qual : Str} {st : Stmt} {f : Addr} {fd : FuncData} {N ps : List Str} {k : Nat} {sp : Sp} (F : Fun K x qual st f fd) (Sc : FnScope N ps (defScope st)) (len : ∀ vs H Q E, sp vs H Q E → vs.length = ps.length)
    (hb : ∀ (cd : Value) (A : Around) (ev : List Env) (s : Shared) (H : Hp) (vs : List V) (Q : VK) (E : XK), fd.code = cd → RoomG k (A.deeper (envOfC qual (defScope st) s.heap.objs.size f cd)) → sp vs H Q E →
      ∃ t, PSs (cxOf CX0 P w K mg base N qual (defScope st) f cd A ev s H E).nox (defBody st) t ∧ t { nx := fun _ H' => Q .non H', rt := Q } (L2.start N vs) H) : FnG P w K mg base (k + 1) f fd ps sp := by
  obtain ⟨oc, od, kV, doc, pm, an, cd, ct, osl, rfl, lk, hcd⟩ := F.ex
  refine ⟨len, fun A ev s H as us vs Q E rg z0 hbt rv hq => ?_⟩
  have lv := len _ _ _ _ hq
  have inK : K.In s.heap := z0.mod.kin.keeps fun b o e => (z0.bs b o e).1
  have noL : s.heap.NoLimit := z0.mod.nolimit.keeps fun b o e => (z0.bs b o e).1
  have kinds : ∀ y ∈ ps.zip us, (defScope st).names.lookup y.1 = some .local ∨ ((defScope st).names.lookup y.1 = some .cell ∧ ((cellsFrom (s.heap.objs.size + 1) (defScope st).names []).lookup y.1).isSome = true) := by
    rintro ⟨n, v⟩ hy
    rcases Sc.par n (List.of_mem_zip hy).1 with e | e
    · exact Or.inl e
    · exact Or.inr ⟨e, PySem.W.cellsFrom_some _ _ _ (Or.inl e)⟩
  refine codeAny_call_function rg.r.depth (inK _ _ lk) rfl Sc.co Sc.gen rfl (PySem.W.codeRec_of inK hcd) (hbt _ _ _ _ ?_)
  refine wpAny_newFunctionEnv_cells Sc.kind kinds fun env he s2 y => ?_
  subst he
  refine ⟨noL.keeps y.toInCall.keep, codeAny_func ?_⟩
  obtain ⟨t, ht, ht2⟩ := hb cd A ev s H vs Q E rfl ⟨rg.r.deeper _, rg.g⟩ hq
  have J0 : Inv (cxOf CX0 P w K mg base N qual (defScope st) f cd A ev s H E) [] (L2.start N vs) H s2 := inv_start Sc rg.r.hd z0 lv rv y
  refine wpAny_mono (ht.nox.run [] s2 (L2.start N vs) H _ J0 ht2) (fun fl s3 hs => ?_) fun e s3 hs => hs
  cases fl with
  | ret u =>
    obtain ⟨v, _, H', J, r2, q⟩ := hs
    exact ⟨v, H', J.os, J.bare, J.base, J.hok, r2, q⟩
  | next =>
    obtain ⟨_, H', J, q⟩ := hs
    exact ⟨V.non, H', J.os, J.bare, J.base, J.hok, rfl, q⟩
  | brk => exact hs.elim fun _ h => h.elim fun _ h => h.2.elim
  | cont => exact hs.elim fun _ h => h.elim fun _ h => h.2.elim
section
variable {X : Cx} {x : Str} {f : Addr} {fd : FuncData} {ps : List Str} {k : Nat} {sp : Sp} {e : Expr} {es : List Expr} {t : TA} {p pos : Pos}
theorem run_g {pins : List (Addr × Obj)} {σ : L2.St} {H : Hp} {s : Shared} {Q : VK} {us : List Value} {vs : List V} (F : FnG X.prog X.w X.K X.mg X.base k f fd ps sp) (hr : RoomG k X.A) (hb : Binds X.K fd ps [])
    (I : Inv X pins σ H s) (r : Vals vs us) (h : sp vs H Q E0) : wpAny (model X.prog X.w) X.A (call (.ref f) us) (EP X pins σ Q) X.xe s := by
  have lu : us.length = ps.length := by rw [← r.length]; exact F.len _ _ _ _ h
  have bd : BindsTo s fd ⟨us, []⟩ (ps.zip us) := by
    have := hb s us I.kIn (by rw [List.append_nil]; exact lu)
    rwa [List.append_nil] at this
  refine wpAny_call (codeAny_mono (F.run X.A X.stack s H ⟨us, []⟩ us vs Q E0 hr I.env0 bd r h) fun res s' hq => ?_)
  cases res with
  | error ex => exact pass0 pins σ H s ex s' I hq
  | ok fl =>
    cases fl with
    | ret u => exact I.after hq
    | next => exact hq.elim
    | brk => exact hq.elim
    | cont => exact hq.elim
theorem pe_callG (F : FnG X.prog X.w X.K X.mg X.base k f fd ps sp) (hr : RoomG k X.A) (hg : Gl X x) (hm : X.mg x = some (.ref f)) (hk : PySem.W.keepIn X.K (.ref f) = true) (hb : Binds X.K fd ps [])
    (ha : PA X (e :: es) t) (hdb : (x == ("__debug__" : Str)) = false := by decide) (hst : starEach (e :: es) X.env = (false, eval e X.env) :: starEach es X.env := by rfl) (hpl : (backTo pos (starEach es X.env)).any (·.1) = false := by rfl) :
    PE X (.Call (.Name x p) (e :: es) [] pos) (fun σ H Q => t σ H fun vs H1 => sp vs H1 Q E0) := by
  refine ⟨fun pins s σ H Q I h => ?_⟩
  refine wpAny_Call_Name_kw (ld_glob I hg hm ?_ hdb)
  exact PySem.W.callWith_K (h₀ := X.base) I.ok.mod.kin hk (thn (ha.run pos pins s σ H _ I h) fun us s1 ⟨vs, H1, I1, r, q⟩ => ⟨I1.kIn, run_g F hr hb I1 r q⟩) hst hpl
end
/-! ### repr of data -/
def rRepr (K : PySem.W.Frag) : List V → Hp → VK → Prop := fun xs H Q => ∃ v d, xs = [v] ∧ Dp K H v d ∧ d.showable = true ∧ d.hasDict = false ∧ d.depth ≤ 64 ∧ d.shown.length ≤ sizeLine ∧ Q (.str d.shown) H
theorem cr_repr {X : Cx} (hg : X.A.guards = some []) (hu : X.A.units + 64 + 1 < cLine) : CallR X (.builtin "repr") (rRepr X.K) := by
  intro pins s σ H xs us Q I r h
  obtain ⟨v, d, rfl, hd, h1, h2, h3, h4, q⟩ := h
  obtain ⟨u, rfl, ru⟩ := vals1 r
  cases d with
  | none =>
    cases hd
    cases ru
    exact PySem.P.repr_of_none ⟨.str _, H, I.tok _, ⟨_, rfl⟩, q⟩
  | bool b =>
    cases hd
    cases ru
    refine PySem.P.repr_of_bool ⟨.str (if b then "True" else "False"), H, I.tok _, ⟨_, rfl⟩, q⟩
  | int i =>
    cases hd
    obtain ⟨t, rfl⟩ := ru
    rw [PyData.showable] at h1
    exact PySem.P.repr_of_int (of_decide_eq_true h1) ⟨.str _, H, I.tok _, ⟨_, rfl⟩, q⟩
  | str z =>
    cases hd
    obtain ⟨t, rfl⟩ := ru
    exact PySem.P.repr_of_str ⟨.str _, H, I.tok _, ⟨_, rfl⟩, q⟩ h4
  | dict kvs => cases hd
  | list ds =>
    obtain ⟨as, rd⟩ := Dp.reads I _ _ _ hd ru
    cases hd
    have eu : u = Value.ref _ := ru
    subst eu
    refine PySem.repr_of_reads' rd h1 (fun z => by rw [h2] at z; cases z) hg (by omega) (fun _ _ e => e) (fun h' t tk hk => ?_) h4
    exact ⟨.str _, H, I.kept hk, ⟨t, rfl⟩, q⟩
  | tuple ds =>
    obtain ⟨as, rd⟩ := Dp.reads I _ _ _ hd ru
    cases hd
    have eu : u = Value.ref _ := ru
    subst eu
    refine PySem.repr_of_reads' rd h1 (fun z => by rw [h2] at z; cases z) hg (by omega) (fun _ _ e => e) (fun h' t tk hk => ?_) h4
    exact ⟨.str _, H, I.kept hk, ⟨t, rfl⟩, q⟩
def gRepr (rs : List SV) (Q : SV → Prop) : Prop := match rs with
  | [x] => opt x.now? fun d => (d.canLay0 = true ∧ d.showable = true ∧ d.hasDict = false ∧ d.depth ≤ 64 ∧ d.shown.length ≤ sizeLine) ∧ Q (.d (.str d.shown))
  | _ => False
theorem cd_repr {X : Cx} {B : Bk} (hK : X.K = B.K) : CallD B (rRepr X.K) gRepr := fun rs vs Ha G F H τ Qv Q k r h fin => by
  unfold gRepr at h
  split at h
  · obtain ⟨d, ed, ⟨h0, h1, h2, h3, h4⟩, h⟩ := opt_of h
    obtain ⟨v, rfl, rx⟩ := r.one
    rw [hK]
    exact ⟨v, d, rfl, rx.now k.same ed h0, h1, h2, h3, h4, fin.d k (.str _) h⟩
  · exact h.elim
theorem RoomG.un {k : Nat} {A : Around} (h : RoomG k A) : A.units + 64 + 1 < cLine := by
  have := h.r.un
  omega
theorem RoomG.units {k : Nat} {A : Around} (h : RoomG k A) : A.units + 64 < cLine := by
  have := h.r.un
  omega
end Z

namespace Z
open PySem L2 PySem.Spec PyProof.Rows
structure KnownG (P : Program) (w : World) (K : PySem.W.Frag) (mg : Str → Option Value) (base : Heap) (S : Sto) (x : Str) (ps : List Str) (k : Nat) (FF : FW S.T) : Prop where
  ex : ∃ f fd, FnG P w K mg base k f fd ps (spD S K FF) ∧ mg x = some (.ref f) ∧ PySem.W.keepIn K (.ref f) = true ∧ Binds K fd ps []
section
variable {X : Cx} {B : Bk} {e : Expr} {es : List Expr} {pos p : Pos} {ta : WA B.T} {FF : FW B.S.T} {ps : List Str} {k : Nat} {x : Str}
theorem de_callG (hK : X.K = B.K) (h : KnownG X.prog X.w X.K X.mg X.base B.S x ps k FF) (hr : RoomG k X.A) (hg : Gl X x)
    (ha : PA X (e :: es) (liftA B ta)) (hdb : (x == ("__debug__" : Str)) = false := by decide) (hst : starEach (e :: es) X.env = (false, eval e X.env) :: starEach es X.env := by rfl) (hpl : (backTo pos (starEach es X.env)).any (·.1) = false := by rfl) :
    PE X (.Call (.Name x p) (e :: es) [] pos) (lift B (dCall FF ta)) := by
  obtain ⟨f, fd, F, hm, hk, hb⟩ := h.ex
  rw [hK] at F
  refine pe_imp (pe_callG (by rw [hK]; exact F) hr hg hm hk hb ha hdb hst hpl) fun σ H Q ⟨G, Fp, env, τ, Qd, s, t, fin⟩ => ⟨G, Fp, env, τ, _, s, t, fun rs τ1 G1 F1 H1 vs f1 r1 ⟨dr, q⟩ => ?_⟩
  exact ⟨G1, F1, τ1, rs, Qd, H, f1.k, r1, dr, q, fun r τ' G' F' H' v st ok res qd => fin r τ' G' F' H' v (f1.trans ⟨st, ok⟩) (res.back (dead f1.s.dom)) qd⟩
end
/-- the rule for a def, at the store of draws, where repr may be asked -/
theorem okDg {Ts : List Addr} {P : Program} {w : World} {K : PySem.W.Frag} {mg : Str → Option Value} {base : Heap} {x qual : Str} {st : Stmt} {f : Addr} {fd : FuncData} {N ps : List Str} {k : Nat} {FF : FW DrT} (F : Fun K x qual st f fd) (Sc : FnScope N ps (defScope st)) (len : ∀ rs τ Q, FF rs τ Q → rs.length = ps.length) (hl : ps.length ≤ N.length)
    (hbody : ∀ (cdv : Value) (A : Around) (outer : List Env) (s : Shared) (H : Hp) (E : XK) (G : Hp) (Fp : Addr → Prop), RoomG k (A.deeper (PyProof.Rows.envOfC qual (defScope st) s.heap.objs.size f cdv)) →
      ∃ t : WS DrT, PSs (cxOf CX0 P w K mg base N qual (defScope st) f cdv A outer s H E).nox (defBody st) (liftS ⟨theS Ts, K, G, Fp, H⟩ t) ∧ ∀ (rs : List SV) (τ : DrT) (Qd : SV → DrT → Prop), FF rs τ Qd → t ⟨fun _ τ' => Qd (.d .none) τ', Qd, fun _ _ => False, fun _ _ => False⟩ (rs ++ List.replicate (N.length - rs.length) .no) τ) :
    FnG P w K mg base (k + 1) f fd ps (spD (theS Ts) K FF) := by
  refine fng_of F Sc (fun vs H Q E ⟨G, F, τ, rs, Qd, Ha, ok, r, dr, h, fin⟩ => by rw [← r.length]; exact len _ _ _ h) fun cdv A outer s H vs Q E _ hr ⟨G, Fp, τ, rs, Qd, Ha, ok, r, dr, h, fin⟩ => ?_
  obtain ⟨t, d, sem⟩ := hbody cdv A outer s H E G Fp hr
  have hle : rs.length ≤ N.length := by rw [len _ _ _ h]; exact hl
  exact ⟨_, d, G, Fp, _, τ, _, ⟨Step.refl _ _ _, ok, env_start (B := ⟨theS Ts, K, G, Fp, H⟩) r dr hle⟩, sem rs τ Qd h,
    ⟨fun G' F' σ' H' env' τ' _ st q => fin (.d .none) τ' G' F' H' .non st.s st.k Rp.non q, fun r τ' G' F' H' v f res q => fin r τ' G' F' H' v f.s f.k res q, fun _ _ _ _ _ _ _ _ q => q.elim, fun _ _ _ _ _ _ _ _ q => q.elim⟩⟩
/-- a def that asks nothing of the kind -/
theorem FnG.of {P : Program} {w : World} {K : PySem.W.Frag} {mg : Str → Option Value} {base : Heap} {k : Nat} {f : Addr} {fd : FuncData} {ps : List Str} {sp : Sp} (F : FnOk P w K mg base CX0 k f fd ps sp) : FnG P w K mg base k f fd ps sp :=
  ⟨F.len, fun A st s H as us vs Q E rg => F.run A st s H as us vs Q E rg.r⟩
theorem KnownG.of {P : Program} {w : World} {K : PySem.W.Frag} {mg : Str → Option Value} {base : Heap} {S : Sto} {x : Str} {ps : List Str} {k : Nat} {FF : FW S.T} (h : Known P w K mg base S x ps k FF) : KnownG P w K mg base S x ps k FF :=
  let ⟨f, fd, F, hm, hk, hb⟩ := h.ex
  ⟨f, fd, .of F, hm, hk, hb⟩
end Z

namespace Z
open PySem L2
/-! ### more built-ins over lists -/
section
variable {X : Cx} {B : Bk}
def gTupC (rs : List SV) (Q : SV → Prop) : Prop := match rs with
  | [x] => opt x.seqd? fun xs => Q (.d (.tuple xs))
  | _ => False
def rTupC (K : PySem.W.Frag) : List V → Hp → VK → Prop := fun xs H Q => ∃ p ys, xs = [.ref p] ∧ ((SqL K H p ys ∧ ∀ l, H l = none → Q (.ref l) (upd H l (.tup ys))) ∨ (SqT K H p ys ∧ Q (.ref p) H))
theorem cd_tuple (hK : X.K = B.K) : CallD B (rTupC X.K) gTupC := fun rs vs Ha G F H τ Qv Q k r h fin => by
  unfold gTupC at h
  split at h
  · rename_i x
    obtain ⟨xs, ex, h⟩ := opt_of h
    obtain ⟨v, rfl, rx⟩ := r.one
    rw [hK]
    by_cases ht : x = .d (.tuple xs)
    · subst ht
      obtain ⟨p, ws, e1, hs, a⟩ := rtup rx
      exact ⟨p, ws, by rw [e1], .inr ⟨same_seqT k.same hs, by rw [← e1]; exact fin.d k rx h⟩⟩
    · have el : x.lst? = some xs := by
        cases x with
        | d y =>
          cases y with
          | list ys => cases ex; rfl
          | tuple ys => cases ex; exact absurd rfl ht
          | _ => cases ex
        | ol ys => cases ex; rfl
        | vw ys => cases ex; rfl
        | _ => cases ex
      obtain ⟨p, ws, e1, hs, a⟩ := rx.sql k.same el
      exact ⟨p, ws, by rw [e1], .inl ⟨hs.sql, fun l hl => fin.tup k hl a h⟩⟩
  · exact h.elim
def gLstC (rs : List SV) (Q : SV → Prop) : Prop := match rs with
  | [x] => opt x.seqd? fun xs => Q (.ol xs)
  | _ => False
def rLstC (K : PySem.W.Frag) : List V → Hp → VK → Prop := fun xs H Q => ∃ p ys, xs = [.ref p] ∧ (SqL K H p ys ∨ SqT K H p ys) ∧ ∀ l, H l = none → Q (.ref l) (upd H l (.lst ys))
theorem cd_list (hK : X.K = B.K) : CallD B (rLstC X.K) gLstC := fun rs vs Ha G F H τ Qv Q k r h fin => by
  unfold gLstC at h
  split at h
  · obtain ⟨xs, ex, h⟩ := opt_of h
    obtain ⟨v, rfl, rx⟩ := r.one
    obtain ⟨p, ws, e1, hs, a⟩ := rx.seqd k.same ex
    rw [hK]
    exact ⟨p, ws, by rw [e1], hs, fun l hl => fin.ol k hl a h⟩
  · exact h.elim
def gSumC (rs : List SV) (Q : SV → Prop) : Prop := match rs with
  | [x] => opt (x.lst?.bind ints?) fun ns => Q (.d (.int ns.sum))
  | _ => False
theorem cd_sum (hK : X.K = B.K) : CallD B (rSum X.K) gSumC := fun rs vs Ha G F H τ Qv Q k r h fin => by
  unfold gSumC at h
  split at h
  · obtain ⟨ns, en, h⟩ := opt_of h
    obtain ⟨xs, ex, en⟩ := bind_of en
    obtain ⟨v, rfl, rx⟩ := r.one
    obtain ⟨p, ws, e1, hs, a⟩ := rx.sql k.same ex
    have e2 := ints_ok a en
    subst e2
    rw [hK]
    exact ⟨p, ns, by rw [e1], hs.sql, fin.d k (.int _) h⟩
  · exact h.elim
def gSortC (rs : List SV) (Q : SV → Prop) : Prop := match rs with
  | [x] => opt (x.lst?.bind ints?) fun ns => ∀ ns' : List Int, ns'.Perm ns → ns'.Pairwise (· ≤ ·) → Q (.ol (ns'.map PyData.int))
  | _ => False
theorem cd_sorted (hK : X.K = B.K) : CallD B (rSortedI X.K) gSortC := fun rs vs Ha G F H τ Qv Q k r h fin => by
  unfold gSortC at h
  split at h
  · obtain ⟨ns, en, h⟩ := opt_of h
    obtain ⟨xs, ex, en⟩ := bind_of en
    obtain ⟨v, rfl, rx⟩ := r.one
    obtain ⟨p, ws, e1, hs, a⟩ := rx.sql k.same ex
    have e2 := ints_ok a en
    subst e2
    rw [hK]
    exact ⟨p, ns, by rw [e1], hs.sql, fun ns' l h1 h2 hl => fin.ol k hl (rp_ints ns') (h ns' h1 h2)⟩
  · exact h.elim
def gMaxC (rs : List SV) (Q : SV → Prop) : Prop := match rs with
  | [x] => opt (x.lst?.bind ints?) fun ns => 0 < ns.length ∧ ∀ m, m ∈ ns → (∀ y, y ∈ ns → y ≤ m) → Q (.d (.int m))
  | _ => False
def gMinC (rs : List SV) (Q : SV → Prop) : Prop := match rs with
  | [x] => opt (x.lst?.bind ints?) fun ns => 0 < ns.length ∧ ∀ m, m ∈ ns → (∀ y, y ∈ ns → m ≤ y) → Q (.d (.int m))
  | _ => False
theorem cd_max (hK : X.K = B.K) : CallD B (rMax X.K) gMaxC := fun rs vs Ha G F H τ Qv Q k r h fin => by
  unfold gMaxC at h
  split at h
  · obtain ⟨ns, en, h⟩ := opt_of h
    obtain ⟨xs, ex, en⟩ := bind_of en
    obtain ⟨v, rfl, rx⟩ := r.one
    obtain ⟨p, ws, e1, hs, a⟩ := rx.sql k.same ex
    have e2 := ints_ok a en
    subst e2
    rw [hK]
    exact ⟨p, ns, by rw [e1], hs.sql, h.1, fun m h1 h2 => fin.d k (.int _) (h.2 m h1 h2)⟩
  · exact h.elim
theorem cd_min (hK : X.K = B.K) : CallD B (rMin X.K) gMinC := fun rs vs Ha G F H τ Qv Q k r h fin => by
  unfold gMinC at h
  split at h
  · obtain ⟨ns, en, h⟩ := opt_of h
    obtain ⟨xs, ex, en⟩ := bind_of en
    obtain ⟨v, rfl, rx⟩ := r.one
    obtain ⟨p, ws, e1, hs, a⟩ := rx.sql k.same ex
    have e2 := ints_ok a en
    subst e2
    rw [hK]
    exact ⟨p, ns, by rw [e1], hs.sql, h.1, fun m h1 h2 => fin.d k (.int _) (h.2 m h1 h2)⟩
  · exact h.elim
end
/-! ### x.pop() -/
theorem RpAll.front {K : PySem.W.Frag} {G : Hp} {vs : List V} {xs : List D} (a : RpAll K G vs xs) : RpAll K G vs.dropLast xs.dropLast := by
  rw [List.dropLast_eq_take, List.dropLast_eq_take, a.length]
  exact a.take _
/-! ### calls without arguments, where repr may be asked -/
section
variable {X : Cx} {B : Bk} {pos p : Pos} {FF : FW B.S.T} {ps : List Str} {k : Nat} {x : Str}
theorem de_callG0 (hK : X.K = B.K) (h : KnownG X.prog X.w X.K X.mg X.base B.S x ps k FF) (hr : RoomG k X.A) (hg : Gl X x) (hdb : (x == ("__debug__" : Str)) = false := by decide) :
    PE X (.Call (.Name x p) [] [] pos) (lift B (dCall FF dNil)) := by
  obtain ⟨f, fd, F, hm, hk, hb⟩ := h.ex
  refine ⟨fun pins s σ H Q I ⟨G, Fp, env, τ, Qd, st, t, fin⟩ => ?_⟩
  refine wpAny_Call_Name_kw (ld_glob I hg hm ?_ hdb)
  refine PySem.W.callWith_K0 I.kIn hk (run_g (us := []) (vs := []) F hr hb I .nil ?_)
  rw [hK]
  exact ⟨G, Fp, τ, [], Qd, H, st.k, .nil, rfl, t.2, fun r τ' G' F' H' v st2 ok res qd => fin r τ' G' F' H' v ⟨st2, ok⟩ res qd⟩
end
/-! ### the readings -/
def kSe (Q : SV → Prop) (f : List D → SV) : Option (List D) → Prop
  | some xs => Q (f xs)
  | none => False
theorem kSe_1 {Q : SV → Prop} {f : List D → SV} {xs : List D} : kSe Q f (some xs) = Q (f xs) := rfl
theorem gTupC_k (x : SV) (Q : SV → Prop) : gTupC [x] Q = kSe Q (fun xs => .d (.tuple xs)) x.seqd? := opt_e (fun _ => rfl) rfl
theorem gLstC_k (x : SV) (Q : SV → Prop) : gLstC [x] Q = kSe Q (fun xs => .ol xs) x.seqd? := opt_e (fun _ => rfl) rfl
end Z

namespace Z
open PySem L2
/-! ### x op= e, over ints -/
section
variable {X : Cx} {B : Bk} {e : Expr} {pos pos' : Pos} {te : W B.T} {i : Nat} {x : Str} {op : Operator}
def dAug {T : Type} (f : Int → Int → Int) (i : Nat) (te : W T) : WS T := fun D env τ => match env[i]? with
  | some (.d (.int a)) => te env τ fun r τ1 => ∃ b, r = .d (.int b) ∧ D.nx (env.set i (.d (.int (f a b)))) τ1
  | _ => False
theorem ds_aug {f : Int → Int → Int} (hN : X.N.Nodup) (hi : X.N[i]? = some x) (hx : Loc X.env.scope x) (he : PE X e (lift B te)) (ho : PIp X op (ipI f)) (hf : X.fn x = true ∨ X.env.scope.names.lookup x = some .local := by first | exact .inl rfl | exact .inr rfl | assumption) :
    PS X (.AugAssign (.Name x pos') op e pos) (liftS B (dAug f i te)) :=
  ps_imp (ps_aug hN hi hx he ho hf) fun D σ H ⟨G, F, env, τ, Dd, s, z, E⟩ => by
    unfold dAug at z
    split at z
    · rename_i a ea
      obtain ⟨v, e1, rv⟩ := s.e.at' i _ ea
      have rv : Rp B.K G v (.int a) := rv
      have ev : v = .int a := by cases rv; rfl
      subst ev
      have e2 : σ[i]? = some (some (.int a)) := by
        cases q : σ[i]? with
        | none => rw [q] at e1; cases e1
        | some o => rw [q] at e1; exact congrArg some e1
      refine ⟨_, e2, G, F, env, τ, _, s, z, fun r τ1 G1 F1 H1 w f1 r1 ⟨b, er, q⟩ => ?_⟩
      subst er
      refine ⟨a, b, rfl, rint r1, ?_⟩
      have s1 := s.fin f1
      exact E.nx G1 F1 _ H1 _ τ1 f1.s.g ⟨s1.s, s1.k, s1.e.setD (Rp.int (f a b))⟩ q
    · exact z.elim
end
section
variable {T : Type}
def kAu (f : Int → Int → Int) (i : Nat) (D : DEnds T) (env : List SV) (a : Int) (r : SV) (τ : T) : Prop := ∃ b, r = .d (.int b) ∧ D.nx (env.set i (.d (.int (f a b)))) τ
theorem kAu_i {f : Int → Int → Int} {i : Nat} {D : DEnds T} {env : List SV} {a b : Int} {τ : T} : kAu f i D env a (.d (.int b)) τ = D.nx (env.set i (.d (.int (f a b)))) τ := by simp [kAu]
def kAug (f : Int → Int → Int) (i : Nat) (te : W T) (D : DEnds T) (env : List SV) (τ : T) : Option SV → Prop
  | some (.d (.int a)) => te env τ (kAu f i D env a)
  | _ => False
theorem kAug_1 {f : Int → Int → Int} {i : Nat} {te : W T} {D : DEnds T} {env : List SV} {τ : T} {a : Int} : kAug f i te D env τ (some (.d (.int a))) = te env τ (kAu f i D env a) := rfl
theorem dAug_i {f : Int → Int → Int} {i : Nat} {te : W T} {D : DEnds T} {env : List SV} {τ : T} {a : Int} (h : env[i]? = some (.d (.int a))) : dAug f i te D env τ = te env τ (kAu f i D env a) := by
  unfold dAug
  rw [h]
  rfl
end
/-! ### range with a step -/
def rgC (lo c : Int) (n : Nat) : List D := (List.range n).map fun i => .int (lo + (i : Nat) * c)
theorem rgC_len (lo c : Int) (n : Nat) : (rgC lo c n).length = n := by
  unfold rgC
  rw [List.length_map, List.length_range]
theorem rgC_get {lo c : Int} {n i : Nat} {x : D} (h : (rgC lo c n)[i]? = some x) : i < n ∧ x = .int (lo + (i : Nat) * c) := by
  unfold rgC at h
  rw [List.getElem?_map] at h
  by_cases hi : i < n
  · rw [List.getElem?_range hi] at h
    exact ⟨hi, (Option.some.inj h).symm⟩
  · rw [List.getElem?_eq_none (by rw [List.length_range]; omega)] at h
    cases h
section
variable {X : Cx} {B : Bk} {tg : Expr} {pos : Pos}
theorem itr_c {G : Hp} {lo c : Int} {n : Nat} : ItR B (Itc lo c n) G (rgC lo c n) where
  go := fun G1 H1 F1 τ1 sm k i x e => by
    obtain ⟨hi, rfl⟩ := rgC_get e
    refine ⟨hi, fun w H2 ⟨e2, e3⟩ => ?_⟩
    subst e2 e3
    exact ⟨G1, .rfl' k, .int _⟩
  stop := fun G1 H1 F1 τ1 sm k i hi => by
    rw [rgC_len] at hi
    exact hi
def dRng3 {T : Type} (ta : WA T) : WI T := fun env τ Q => ta env τ fun rs τ1 => ∃ (i j c : Int) (n : Nat), rs = [.d (.int i), .d (.int j), .d (.int c)] ∧ RgC i j c n ∧ Q (rgC i c n) τ1
theorem di_range3 {a b c : Expr} {ta : WA B.T} {p : Pos} (hg : Gl X "range") (hm : X.mg "range" = none) (ha : PA X [a, b, c] (liftA B ta))
    (hs : starEach [a, b, c] X.env = (false, eval a X.env) :: starEach [b, c] X.env := by rfl) (hpl : (backTo pos (starEach [b, c] X.env)).any (·.1) = false := by rfl) :
    PI X tg (.Call (.Name "range" p) [a, b, c] [] pos) (liftI B (dRng3 ta)) :=
  pi_imp (pi_range3 hg hm ha hs hpl) fun σ H R ⟨G, F, env, τ, Qd, s, t, k⟩ => ⟨G, F, env, τ, _, s, t, fun rs τ1 G1 F1 H1 vs f1 r1 ⟨i, j, c, n, e, h, q⟩ => by
    subst e
    cases r1 with
    | cons r r' =>
      cases r' with
      | cons r2 r3 =>
        cases r3 with
        | cons r4 r5 =>
          cases r5
          exact ⟨i, j, c, n, by rw [rint r, rint r2, rint r4], h, k _ _ _ _ _ _ f1 itr_c q⟩⟩
end
section
variable {T : Type}
def kR3 (Q : List D → T → Prop) (rs : List SV) (τ : T) : Prop := ∃ (i j c : Int) (n : Nat), rs = [.d (.int i), .d (.int j), .d (.int c)] ∧ RgC i j c n ∧ Q (rgC i c n) τ
theorem dRng3_k (ta : WA T) (env : List SV) (τ : T) (Q : List D → T → Prop) : dRng3 ta env τ Q = ta env τ (kR3 Q) := rfl
theorem kR3_of {Q : List D → T → Prop} {i j c : Int} {n : Nat} {τ : T} (h : RgC i j c n) (q : Q (rgC i c n) τ) : kR3 Q [.d (.int i), .d (.int j), .d (.int c)] τ := ⟨i, j, c, n, rfl, h, q⟩
end
end Z

namespace Z
open PySem L2
/-! ### x.bit_length() -/
section
variable {X : Cx} {B : Bk} {o : Expr} {apos pos : Pos} {te : W B.T}
def gBits (x : SV) (Q : SV → Prop) : Prop := match x with
  | .d (.int i) => Q (.d (.int (Builtin.Int.intBits i : Nat)))
  | _ => False
theorem de_bits (ho : PE X o (lift B te)) (hbase : attributeBase o "bit_length" X.env (eval o X.env) = eval o X.env := by rfl) (hline : (apos.endLine == pos.line) = true := by rfl) : PE X (.Call (.Attribute o "bit_length" apos) [] [] pos) (lift B (dUn gBits te)) :=
  pe_imp (pe_bits ho hbase hline) fun σ H Q ⟨G, F, env, τ, Qd, s, t, k⟩ => ⟨G, F, env, τ, _, s, t, fun x τ1 G1 F1 H1 v f1 r1 q => by
    unfold gBits at q
    split at q
    · exact ⟨_, rint r1, (FinT.trans k f1).d f1.k (.int _) q⟩
    · exact q.elim⟩
theorem gBits_k {i : Int} {Q : SV → Prop} : gBits (.d (.int i)) Q = Q (.d (.int (Builtin.Int.intBits i : Nat))) := rfl
end
end Z

/-! ### an exception that was caught, kept as a value -/
namespace Z
open PySem PySem.Spec PyProof.Rows L2
/-- an exception's object at a: its class, its dict -/
def exV (cls : Value) (d : Option Addr) (a : Addr) : HO := .ext fun h => ∃ (ob : Obj) (fs : Array Value), h.get? a = some ob ∧ Zc cls d ob ∧ ob.data = .fields fs
theorem exV_ok {P : Program} {w : World} {H : Hp} {h : Heap} {a : Addr} {cls : Value} {d : Option Addr} {ob : Obj} {fs : Array Value} (e : h.get? a = some ob) (z : Zc cls d ob) (q : ob.data = .fields fs) : ObjOk P w H h a (exV cls d a) :=
  ⟨⟨ob, fs, e, z, q⟩, ⟨ob, e⟩, fun h1 h2 ⟨o, f, e1, e2, e3⟩ k => ⟨o, f, k o e1, e2, e3⟩⟩
section
variable {X : Cx} {pins : List (Addr × Obj)} {σ : L2.St} {H : Hp} {s : Shared} {a : Addr} {ob : Obj} {fs : Array Value} {cls : Value} {d : Option Addr}
/-- what is pinned, and new since the def's begin, is tracked from now on -/
theorem Inv_track (I : Inv X ((a, ob) :: pins) σ H s) (z : Zc cls d ob) (q : ob.data = .fields fs) (n0 : X.s_0.heap.get? a = none) (np : ∀ p ∈ X.pn ++ pins, p.1 ≠ a) : Inv X pins σ (upd H a (exV cls d a)) s := by
  obtain ⟨ha, hn, hL, hF, hc⟩ := I.pin (a, ob) (List.mem_append_right _ List.mem_cons_self)
  have hn : H a = none := hn
  have ha : s.heap.get? a = some ob := ha
  have up : ∀ {b u}, H b = some u → upd H a (exV cls d a) b = some u := fun {b u} e => by rw [upd_ne (ne_of_none e hn)]; exact e
  refine { ok := I.ok, os := I.os, bare := I.bare, loc := I.loc, cell := I.cell, len := I.len, base := ?_, free := ?_, freeC := ?_, pin := ?_, hok := ?_ }
  · refine { keep := I.base.keep, slot := I.base.slot, there := I.base.there, free := ?_, tups := fun b v e => up (I.base.tups b v e), frzs := fun b o u e => up (I.base.frzs b o u e), tbls := ?_ }
    · intro b o e n x
      have : b ≠ a := fun z => by rw [z, n0] at e; cases e
      rw [upd_ne this]
      exact I.base.free b o e n x
    · intro b ps e
      obtain ⟨m, e2⟩ := I.base.tbls b ps e
      exact ⟨m, up e2⟩
  · rw [upd_ne (Ne.symm hL)]
    exact I.free
  · intro x c e
    have : c ≠ a := fun z => by
      obtain ⟨v, o, e1, e2⟩ := I.cell x c e
      rw [z, ha] at e1
      cases e1
      exact hc v e2
    rw [upd_ne this]
    exact I.freeC x c e
  · intro p hp
    obtain ⟨h1, h2, h3⟩ := I.pin p (by
      rcases List.mem_append.mp hp with h | h
      · exact List.mem_append_left _ h
      · exact List.mem_append_right _ (List.mem_cons_of_mem _ h))
    exact ⟨h1, by rw [upd_ne (np p hp)]; exact h2, h3⟩
  · intro b u e
    by_cases hb : b = a
    · rw [hb, upd_same] at e
      cases e
      rw [hb]
      exact exV_ok ha z q
    · rw [upd_ne hb] at e
      exact (I.hok b u e).stay (fun _ _ _ y => y) (fun c y => up y) fun c ys y => up y
end
/-- what the clause 'except x as n: m = n' wishes of an exception: slot i is n's, slot j is m's -/
def wKeep (K : PySem.W.Frag) (c : Value) (n i j : Nat) (Wo : WX) (D : Ends) : WX := fun cls d σ H =>
  ∃ b, PySem.W.exmOne K cls c = some b ∧ (b = true → ∀ a, H a = none → σ.length = n → D.nx ((σ.set j (some (.ref a))).set i none) (upd H a (exV cls d a))) ∧ (b = false → Wo cls d σ H)
section
variable {X : Cx} {x n m : Str} {c : Value} {i j : Nat} {body : List Stmt} {np p1 p2 p3 pos pos' : Pos} {tb : WX → TS} {Wo : WX}
theorem ps_try_keep (hs : X.stack = X.env :: X.outer) (hf : X.env.frame = some X.env.locals) (hN : X.N.Nodup) (hi : X.N[i]? = some n) (hln : X.env.kindOf n = some .local) (hj : X.N[j]? = some m) (hlm : X.env.scope.names.lookup m = some .local) (hln2 : X.env.scope.names.lookup n = some .local)
    (hex : X.ex = []) (hc : Names X x c) (tk : Takes X Wo) (hd : (n == ("__debug__" : Str)) = false) (hcd : (n == ("__classdict__" : Str)) = false) (hdm : (m == ("__debug__" : Str)) = false)
    (hb : ∀ (W : WX) (pn : List (Addr × Obj)) (xe : Value → Shared → Prop), Takes (X.tr pn xe) W → PassesOwn (model X.prog X.w) X.A X.env xe → PSs (X.tr pn xe) body (tb W)) :
    PS X (.Try body [.ExceptHandler (some (.Name x np)) (some n) [.Assign [.Name m p1] (.Name n p2) p3] pos'] [] [] pos) (fun D σ H => tb (wKeep X.K c X.N.length i j Wo D) D σ H) := by
  constructor
  intro pins s σ H D I hyp
  have ok := I.ok
  have hfr : X.A.frames = some (X.env :: X.outer) := by rw [← hs]; exact ok.frames
  have hloc : Loc X.env.scope n := .inl hln
  have efrs : frs X.stack = X.env.locals :: X.fs := by rw [hs]; unfold frs Cx.fs; rw [List.filterMap_cons, hf]; rfl
  refine wpAny_Try_except (wpAny_mono ((hb (wKeep X.K c X.N.length i j Wo D) (X.pn ++ pins) (fun e t1 => wpAny (model X.prog X.w) X.A (noteFrame e X.env)
    (fun _ t2 => wpAny (model X.prog X.w) X.A (setFlight e none) (fun _ t3 => wpAny (model X.prog X.w) X.A (handleBy e X.env [.ExceptHandler (some (.Name x np)) (some n) [.Assign [.Name m p1] (.Name n p2) p3] pos']) (SP X pins D) X.xe t3) X.xe t2) X.xe t1)
    (fun u t xx => ?_) PassesOwn.looking).run [] s σ H D (I.toTry _) hyp) (fun f t hsp => ?_) (fun _ _ he => he))
  · obtain ⟨a, B, sI, qs, σ', H', cls, d, rfl, J0, nb, up, sky, na, os, ag, b, hb1, hy, hno⟩ := xx
    have J : Inv X pins σ' H' sI := J0.ofTry ok
    have sky2 : Sky B (X.env :: X.outer) a (Zc cls d) X.env.locals t.heap := by rw [← hs]; exact sky
    refine Sky.land Zc.steady hfr hf sky2 fun g3 fl3 up3 => ?_
    have J3 : Inv X pins σ' H' { t with heap := g3 } := J.landed nb fl3.1 (up.trans up3) os ag
    obtain ⟨o3, v3, e3, z3, d3⟩ := fl3.there
    have nfr : a ∉ frs (X.env :: X.outer) := fun hm => by
      obtain ⟨_, o', e', hnf⟩ := fl3.2.2.1.mem hm
      rw [e3] at e'
      cases e'
      exact hnf _ d3
    have nfr' : a ∉ X.env.locals :: X.fs := by rw [← efrs, hs]; exact nfr
    have nL : a ≠ X.env.locals := fun z => nfr' (by rw [z]; exact List.mem_cons_self)
    have nF : a ∉ X.fs := fun z => nfr' (List.mem_cons_of_mem _ z)
    have hB : B.get? a = none := fl3.2.1
    have notIn : ∀ o, sI.heap.get? a = some o → False := fun o e => by
      have := nb a o e (by rw [efrs]; exact nfr')
      rw [hB] at this
      cases this
    have n0 : X.s_0.heap.get? a = none := by
      cases e : X.s_0.heap.get? a with
      | none => rfl
      | some o =>
        obtain ⟨o', e'⟩ := J.base.there a o e (by rw [hex]; exact fun z => nomatch z)
        exact (notIn o' e').elim
    have npin : ∀ p ∈ X.pn ++ pins, p.1 ≠ a := fun p hp z => notIn p.2 (by rw [← z]; exact (J.pin p hp).1)
    have S3 := J3.suite e3 d3 na nL nF
    refine wpAny_handleBy_cons (codeAny_handlers_test ?_) (by intro q; cases q)
    have LT : PySem.W.Looks (model X.prog X.w) g3 (typeOf (.ref a)) cls := fun A Q E s k q => wpAny_typeOf_ref (k _ _ e3) (by rw [z3.1]; exact q)
    have LM := PySem.W.exm_one (M := model X.prog X.w) J3.kIn LT hb1
    have test : ∀ {Q : Value → Shared → Prop} {E : Value → Shared → Prop}, Q c { t with heap := g3 } → wpAny (model X.prog X.w) (X.A.mark (some (.ref a))) (eval (.Name x np) X.env) Q E { t with heap := g3 } := fun {Q E} q => by
      obtain ⟨hg, hdbg, hm | ⟨hm, hv, hnn⟩⟩ := hc
      · exact ld_glob (X := X.suite a ((a, o3) :: (X.pn ++ pins))) S3 hg hm q hdbg
      · exact ld_blt (X := X.suite a ((a, o3) :: (X.pn ++ pins))) S3 hg hm hv q hnn hdbg
    refine test (LM.here ?_)
    cases b with
    | true =>
      refine codeAny_handlers_suite_as (HandSPX.lands_againZ fl3 fun g4 fl4 up4 => ?_)
      have J4 : Inv X pins σ' H' { t with heap := g4 } := J.landed nb fl4.1 ((up.trans up3).trans up4) os ag
      obtain ⟨o4, v4, e4, z4, d4⟩ := fl4.there
      have S4 := J4.suite e4 d4 na nL nF
      refine store_ok (X := X.suite a ((a, o4) :: (X.pn ++ pins))) (v := .ref a) S4 hN hi hloc rfl (fun s5 S5 => ?_) (.inr hln)
      have il : i < σ'.length := by rw [J.len]; exact (List.getElem?_eq_some_iff.mp hi).1
      have hset : PSs (X.suite a ((a, o4) :: (X.pn ++ pins))) [.Assign [.Name m p1] (.Name n p2) p3] (tAsg (tVar i) (gName j)) :=
        pss_one (ps_set (X := X.suite a ((a, o4) :: (X.pn ++ pins))) hN hj (.inl hlm) (pe_var (X := X.suite a ((a, o4) :: (X.pn ++ pins))) hi (.inl hln2) hd hcd) (hf := .inr hlm))
      refine wpAny_mono (hset.run [] s5 (σ'.set i (some (.ref a))) H' { nx := fun σ6 H6 => σ6 = (σ'.set i (some (.ref a))).set j (some (.ref a)) ∧ H6 = H', rt := fun _ _ => False } S5 ?_) (fun f s6 hq => ?_) (fun _ _ z => False.elim z)
      · exact ⟨.ref a, List.getElem?_set_self il, rfl, rfl⟩
      · cases f with
        | next =>
          obtain ⟨σ6, H6, S6, rfl, rfl⟩ := hq
          have J6 : Inv X ((a, o4) :: pins) ((σ'.set i (some (.ref a))).set j (some (.ref a))) H6 s6 := { ok := ok, os := S6.os, bare := S6.bare, base := S6.base, loc := S6.loc, cell := S6.cell, free := S6.free, freeC := S6.freeC, hok := S6.hok, len := S6.len, pin := fun p hp => S6.pin p (by
            rw [List.append_nil]
            rcases List.mem_append.mp hp with h | h
            · exact List.mem_cons_of_mem _ (List.mem_append_left _ h)
            · rcases List.mem_cons.mp h with h | h
              · rw [h]; exact List.mem_cons_self
              · exact List.mem_cons_of_mem _ (List.mem_append_right _ h)) }
          refine gone_ok J6 hN hi hln fun s7 J7 => ?_
          refine ⟨_, _, Inv_track J7 z4 d4 n0 npin, ?_⟩
          have e : ((σ'.set i (some (.ref a))).set j (some (.ref a))).set i none = (σ'.set j (some (.ref a))).set i none := by
            by_cases h : i = j
            · subst h; simp
            · rw [List.set_comm _ _ h, List.set_set]
          rw [e]
          exact hy rfl a na J.len
        | brk =>
          obtain ⟨_, _, _, z⟩ := hq
          exact z.elim
        | cont =>
          obtain ⟨_, _, _, z⟩ := hq
          exact z.elim
        | ret u =>
          obtain ⟨_, _, _, _, _, z⟩ := hq
          exact z.elim
    | false =>
      show wpAny _ X.A (handleBy (.ref a) X.env []) _ _ _
      refine wpAny_handleBy_nil ?_
      obtain ⟨k1, k2, k3, oe, vs, T, oT, ts, he, hz, hd', h1, hr⟩ := id fl3
      have fin : wpAny (model X.prog X.w) X.A (setFlight (.ref a) X.env.frame) (fun _ s4 => wpAny (model X.prog X.w) X.A (throw (.ref a) : Sem Flow) (SP X pins D) X.xe s4) X.xe { t with heap := g3 } := by
        rw [hf]
        refine HandSPX.setFlight_upZ fl3 fun g4 hg4 up4 => wpAny_throw (tk _ _ ⟨a, B, sI, pins, σ', H', cls, d, rfl, J, nb, (up.trans up3).trans up4, ?_, na, os, ag, hno rfl⟩)
        exact .inr (.inr (by rw [hs]; exact hg4))
      unfold PySem.passOn
      refine wpAny_bind (wpAny_field he hd' h1 ?_)
      rw [if_neg (show ¬ ((Value.ref T == Value.none) = true) from by simp)]
      first
        | exact wpAny_bind (wpAny_pure (wpAny_bind fin))
        | exact wpAny_bind fin
  · cases f with
    | next =>
      obtain ⟨σ', H', J', q⟩ := hsp
      exact wpAny_execs_nil ⟨σ', H', J'.ofTry ok, q⟩
    | brk =>
      obtain ⟨σ', H', J', q⟩ := hsp
      exact ⟨σ', H', J'.ofTry ok, q⟩
    | cont =>
      obtain ⟨σ', H', J', q⟩ := hsp
      exact ⟨σ', H', J'.ofTry ok, q⟩
    | ret u =>
      obtain ⟨v, σ', H', J', r, q⟩ := hsp
      exact ⟨v, σ', H', J'.ofTry ok, r, q⟩
end
end Z

/-! ### a lambda without parameters handed to a def: which things stay -/
namespace Z
open PySem PySem.Spec PyProof.Rows L2 LamX
/-- all but the table at P stays, and nothing but a code object at c comes beside -/
structure Mks (P : Addr) (H H' : Hp) : Prop where
  old : ∀ b o, H b = some o → b ≠ P → H' b = some o
  new : ∀ b o, H' b = some o → b = P ∨ H b = some o ∨ (H b = none ∧ ∃ q, o = CodeO b q)
section
variable {X : Cx} {pins : List (Addr × Obj)} {σ : L2.St} {H : Hp} {s : Shared}
theorem lam_mk {T : List (Addr × Str)} {c P : Addr} {params : Arguments} {body : Expr} {scope : Scope} {pos : Pos} {E : Value → Shared → Prop} {Q : Value → Shared → Prop} (I : Inv X pins σ H s) (tb : TabB X.base X.mg c P) (hc : X.env.code = .ref c)
    (hm : (P, X.env.qual ++ "<lambda>") ∈ T) (hu : ∀ p ∈ T, p.1 = P → p.2 = X.env.qual ++ "<lambda>") (hT : Tabs T H) (hdf : defaultsOf params X.env = ([], [])) (hfr : ∀ y ∈ scope.names, y.2 = .free → ∃ c, X.env.cells.lookup y.1 = some c)
    (fin : ∀ (f c' : Addr) (pm ctv : Value) (H1 : Hp) (s' : Shared), Inv X pins σ H1 s' → Mks P H H1 → Tabs T H1 →
      s'.heap.get? f = some (PySem.W.kla_obj "<lambda>" (X.env.qual ++ "<lambda>") params body scope (cloFrom X.env.cells scope.names []) pm c' ctv) → H1 f = none → f ∉ frs X.stack → H1 c' = some (CodeO c' (X.env.qual ++ "<lambda>")) → Q (.ref f) s') :
    wpAny (model X.prog X.w) X.A (eval (.Lambda params body scope pos) X.env) Q E s := by
  obtain ⟨ps, hP, ht, ha⟩ := hT _ hm
  have atP := I.hok P _ hP
  have bP := tb.bm.keeps I.bk
  have away : ∀ f, s.heap.objs.size ≤ f → f ∉ frs X.stack := fun f hf z => by
    rcases List.mem_cons.mp (I.stkSub _ z) with e | e
    · exact absurd (Nat.lt_of_lt_of_le I.lt hf) (by rw [← e]; exact Nat.lt_irrefl _)
    · exact I.nofs hf e
  refine PySem.W.kla_eval hdf ?_
  cases found : codeAmong pos ps.toList with
  | some cv =>
    obtain ⟨c', rfl, hco⟩ := ha pos cv found
    refine PySem.W.kla_makeFunctionHit (mg := X.mg) (c := c) (P := P) (ps := ps) (closure_ok hfr) I.ok.glob (I.mod.glob.keeps I.bk) hc (tb.code.keeps I.bk) atP ht found bP fun ctv h' tk hx hz => ?_
    refine fin h'.objs.size c' ((X.mg "__name__").getD .none) ctv H _ (I.kept (t' := tk) fun b o e => Heap.get?_push_of_some _ (hx b o e)) ⟨fun _ _ e _ => e, fun _ _ e => .inr (.inl e)⟩ hT (Heap.get?_push_size _ rfl) (I.hok.fresh hz) (away _ hz) hco
  | none =>
    refine PySem.W.kla_makeFunction (mg := X.mg) (c := c) (P := P) (ps := ps) (closure_ok hfr) I.ok.glob (I.mod.glob.keeps I.bk) hc (tb.code.keeps I.bk) atP ht found tb.gP bP fun c' ctv h' tk hx hge hlt hr htb => ?_
    obtain ⟨c2, oc, vs, t, ec, hoc, hd, hv⟩ := hr
    cases ec
    have nC : H c' = none := I.hok.fresh hge
    have nPC : P ≠ c' := ne_of_none hP nC
    have hz : s.heap.objs.size ≤ h'.objs.size := Nat.le_trans hge (Nat.le_of_lt hlt)
    have J := inv_table (t' := tk) (more := #[rawInt pos.line, rawInt pos.col, .ref c']) (q := X.env.qual ++ "<lambda>") (h' := h'.push (PySem.W.kla_obj "<lambda>" (X.env.qual ++ "<lambda>") params body scope (cloFrom X.env.cells scope.names []) ((X.mg "__name__").getD .none) c' ctv))
      I hP (fun b o hb e => Heap.get?_push_of_some _ (hx b o hb e)) (Heap.get?_push_of_some _ htb) hge ⟨oc, vs, t, Heap.get?_push_of_some _ hoc, hd, hv⟩
    have mk : Mks P H (upd (upd H P (.tbl (ps ++ #[rawInt pos.line, rawInt pos.col, .ref c']))) c' (CodeO c' (X.env.qual ++ "<lambda>"))) := by
      refine ⟨fun b o e hb => by rw [upd_ne (ne_of_none e nC), upd_ne hb]; exact e, fun b o e => ?_⟩
      by_cases h1 : b = c'
      · subst h1
        rw [upd_same] at e
        exact .inr (.inr ⟨nC, _, (Option.some.inj e).symm⟩)
      · rw [upd_ne h1] at e
        by_cases h2 : b = P
        · exact .inl h2
        · rw [upd_ne h2] at e
          exact .inr (.inl e)
    have keepC : ∀ {c0 q0}, H c0 = some (CodeO c0 q0) → upd (upd H P (.tbl (ps ++ #[rawInt pos.line, rawInt pos.col, .ref c']))) c' (CodeO c' (X.env.qual ++ "<lambda>")) c0 = some (CodeO c0 q0) := fun {c0 q0} e =>
      mk.old _ _ e fun z => by
        rw [z, hP] at e
        exact codeO_ne _ (Option.some.inj e).symm
    refine fin h'.objs.size c' ((X.mg "__name__").getD .none) ctv _ _ J mk (fun p hp => ?_) (Heap.get?_push_size _ rfl) ?_ (away _ hz) upd_same
    · by_cases hb : p.1 = P
      · have el : (ps ++ #[rawInt pos.line, rawInt pos.col, .ref c']).toList = ps.toList ++ [rawInt pos.line, rawInt pos.col, .ref c'] := by simp
        rw [hu p hp hb, hb]
        refine ⟨_, by rw [upd_ne nPC, upd_same], by rw [el]; exact PySem.TriplesOk_snoc _ _ _ _ ht, fun p' cv hcv => ?_⟩
        rw [el] at hcv
        rcases among_app _ ht hcv with z | z
        · obtain ⟨c0, e1, e2⟩ := ha p' cv z
          exact ⟨c0, e1, keepC e2⟩
        · exact ⟨c', z, upd_same⟩
      · obtain ⟨ps', a1, a2, a3⟩ := hT p hp
        refine ⟨ps', mk.old _ _ a1 hb, a2, fun p' cv hcv => ?_⟩
        obtain ⟨c0, e1, e2⟩ := a3 p' cv hcv
        exact ⟨c0, e1, keepC e2⟩
    · rw [upd_ne (Nat.ne_of_gt hlt), upd_ne (Nat.ne_of_gt (Nat.lt_of_lt_of_le (Heap.lt_size atP) hz))]
      exact I.hok.fresh hz
end
/-- the def that calls what it got, in its first slot -/
def Calls1 (k : Nat) (X : Cx) (Ng : List Str) (x : Str) (sg : Scope) (g : Addr) (cdg : Value) (bg : List Stmt) (a : Str) (q : Str) (TT : (XK → Hp → VK → Prop) → Hp → VK → Prop) : Prop :=
  ∀ (f c' : Addr) (s : Shared) (H : Hp) (Q : VK) (tl : XK → Hp → VK → Prop),
    (∀ (W : WX) (pn : List (Addr × Obj)) (xe : Value → Shared → Prop) (E : XK) (p1 p2 : Pos), Takes ((cxOf CX0 X.prog X.w X.K X.mg X.base Ng x sg g cdg X.A X.stack s H E0).tr pn xe) W → (∀ cls d σ' H', E cls d H' → W cls d σ' H') →
      PE ((cxOf CX0 X.prog X.w X.K X.mg X.base Ng x sg g cdg X.A X.stack s H E0).tr pn xe) (.Call (.Name a p1) [] [] p2) (fun σZ HZ Q => σZ[0]? = some (some (.ref f)) ∧ HZ c' = some (CodeO c' q) ∧ tl E HZ Q)) →
    Room (k + 1) (X.A.deeper (envOfC x sg s.heap.objs.size g cdg)) → H c' = some (CodeO c' q) → TT tl H Q →
    ∃ t, PSs (cxOf CX0 X.prog X.w X.K X.mg X.base Ng x sg g cdg X.A X.stack s H E0).nox bg t ∧ t { nx := fun _ H' => Q .non H', rt := Q } (L2.start Ng [.ref f]) H
def tLamK (T : List (Addr × Str)) (P : Addr) (TT : (XK → Hp → VK → Prop) → Hp → VK → Prop) (t : XK → TE) : TE := fun σ H Q => Tabs T H ∧ ∀ H1, Mks P H H1 → Tabs T H1 → TT (fun E H' Q' => t E σ H' Q') H1 Q
section
variable {X : Cx}
/-- x(lambda: body) -/
theorem pe_lamk {T : List (Addr × Str)} {TT : (XK → Hp → VK → Prop) → Hp → VK → Prop} {x a : Str} {g c P : Addr} {k : Nat} {pg : Arguments} {bg : List Stmt} {sg : Scope} {dV kV doc pm cdv ct oc : Value} {an od : Option Addr} {osl : Array (Option Value)} {Ng : List Str}
    {params : Arguments} {body : Expr} {scope : Scope} {t : XK → TE} {p lpos pos : Pos} (gl : Gl X x) (hm : X.mg x = some (.ref g)) (hk : PySem.W.keepIn X.K (.ref g) = true)
    (lk : X.K.lookup g = some ⟨oc, od, .func (PySem.W.fnOf x x pg bg sg dV kV doc pm an cdv ct), osl⟩) (cg : PySem.W.codeIn X.K cdv x = true) (bd : L2.Binds X.K (PySem.W.fnOf x x pg bg sg dV kV doc pm an cdv ct) [a] []) (Sg : FnScope Ng [a] sg) (h0 : Ng[0]? = some a) (va : Vis sg a)
    (hG : Calls1 k X Ng x sg g cdv bg a (X.env.qual ++ "<lambda>") TT)
    (tb : TabB X.base X.mg c P) (hc : X.env.code = .ref c) (hmT : (P, X.env.qual ++ "<lambda>") ∈ T) (hu : ∀ p ∈ T, p.1 = P → p.2 = X.env.qual ++ "<lambda>") (hr : Room (k + 2) X.A) (L : LamS X.env.scope scope) (hdf : defaultsOf params X.env = ([], []))
    (hbi : ∀ (q : Str) (cl : List (Str × Addr)) (pm cv ctv : Value), bindArgs (PySem.W.kla_fn "<lambda>" q params body scope cl pm cv ctv) ⟨[], []⟩ = pure [])
    (hbody : ∀ (A : Around) (outer : List Env) (s : Shared) (H : Hp) (E : XK) (f c' : Addr), Room k (A.deeper (lamEnv X scope s.heap.objs.size f c')) → PE (lamCx X A outer s H E scope f c') body (t E))
    (d1 : (x == ("__debug__" : Str)) = false := by decide) (d2 : (a == ("__debug__" : Str)) = false := by decide) (d3 : (a == ("__classdict__" : Str)) = false := by decide) :
    PE X (.Call (.Name x p) [.Lambda params body scope lpos] [] pos) (tLamK T P TT t) := by
  constructor
  intro pins s σ H Q I ⟨hT, hyp⟩
  refine wpAny_Call_Name_kw (ld_glob I gl hm (PySem.W.callWith_K (h₀ := X.base) I.ok.mod.kin hk ?_ (by rfl) (by rfl)) d1)
  show wpAny _ _ (spliced ((false, eval (.Lambda params body scope lpos) X.env) :: backTo pos (starEach [] X.env))) _ _ s
  refine Calls.spliced_cons (lam_mk I tb hc hmT hu hT hdf (L.has I.ok) fun f c' pm' ctv H1 t1 I1 mk T1 hf hfn hfr hco => Calls.spliced_nil ⟨I1.kIn, ?_⟩)
  have bound := bd t1 [.ref f] I1.kIn rfl
  refine wpAny_call (codeAny_mono (run_ofS (CX := CX0) (Q := Q) (E := E0) (N := Ng) (ps := [a]) (us := [.ref f]) (vs := [.ref f]) lk cg Sg hr I1.env0 bound (.cons rfl .nil) rfl fun hr' => ?_) fun r t2 hq => ?_)
  · obtain ⟨t', ht', hq'⟩ := hG f c' t1 H1 Q (fun E H' Q' => t E σ H' Q')
      (fun W pn xe E p1 p2 tk hW => pe_act (i := 0) I1 L hf hfn hfr (hbi _ _ _ _ _) tk hW hr' (fun A outer s H hr2 => hbody A outer s H E f c' hr2) h0 va d2 d3) hr' hco (hyp H1 mk T1)
    exact ⟨t', ht'.nox, hq'⟩
  · match r, hq with
    | .error _, hq => exact False.elim hq
    | .ok (.ret _), hq => exact I1.after hq
    | .ok .next, hq => exact False.elim hq
    | .ok .brk, hq => exact False.elim hq
    | .ok .cont, hq => exact False.elim hq
end
end Z

namespace Z
open PySem L2
/-! ### the store: what is drawn by, cells (dicts, lists, instances), tables of code objects -/
inductive Cel where
  | dk (m : List (Key × D))
  | dt (m : List (List Key × D))
  | ls (xs : List D)
  | ins (C dx : Addr) (fs : List (Str × SV))
def Cel.own : Cel → Addr → Prop
  | .ins _ dx _, p => p = dx
  | _, _ => False
structure T2 where
  dr : DrT
  cs : List (Addr × Cel)
def FvR (K : PySem.W.Frag) (G : Hp) (v : V) : SV → Prop
  | .d x => Rp K G v x
  | .raw u => v = u
  | _ => False
theorem FvR.mono {K : PySem.W.Frag} {G G' : Hp} (e : Same G G') {v : V} : ∀ {s : SV}, FvR K G v s → FvR K G' v s
  | .d _, h => Rp.mono e h
  | .raw _, h => h
  | .no, h => h.elim
  | .ol _, h => h.elim
  | .vw _, h => h.elim
def CelR (K : PySem.W.Frag) (G H : Hp) (p : Addr) : Cel → Prop
  | .dk m => ∃ kvs : List (Key × V), H p = some (.dK kvs) ∧ Paired (fun (x : Key × V) (y : Key × D) => x.1 = y.1 ∧ Rp K G x.2 y.2) kvs m
  | .dt m => ∃ kvs : List (List Key × V), H p = some (.dT kvs) ∧ Paired (fun (x : List Key × V) (y : List Key × D) => x.1 = y.1 ∧ Rp K G x.2 y.2) kvs m
  | .ls xs => ∃ vs, H p = some (.lst vs) ∧ RpAll K G vs xs
  | .ins C dx fs => ∃ fv : List (Str × V), H p = some (.ins C dx fv) ∧ H dx = some (.own p) ∧ Paired (fun (x : Str × V) (y : Str × SV) => x.1 = y.1 ∧ FvR K G x.2 y.2) fv fs
theorem CelR.mono {K : PySem.W.Frag} {G G' H H' : Hp} {p : Addr} (e : Same G G') : ∀ {c : Cel}, CelR K G H p c → H' p = H p → (∀ q, c.own q → H' q = H q) → CelR K G' H' p c
  | .dk _, ⟨kvs, h, r⟩, q, _ => ⟨kvs, by rw [q]; exact h, Paired.mapP r fun _ _ z => ⟨z.1, z.2.mono e⟩⟩
  | .dt _, ⟨kvs, h, r⟩, q, _ => ⟨kvs, by rw [q]; exact h, Paired.mapP r fun _ _ z => ⟨z.1, z.2.mono e⟩⟩
  | .ls _, ⟨vs, h, r⟩, q, _ => ⟨vs, by rw [q]; exact h, r.mono e⟩
  | .ins _ dx _, ⟨fv, h, h2, r⟩, q, q2 => ⟨fv, by rw [q]; exact h, by rw [q2 dx rfl]; exact h2, Paired.mapP r fun _ _ z => ⟨z.1, z.2.mono e⟩⟩
theorem CelR.some {K : PySem.W.Frag} {G H : Hp} {p : Addr} : ∀ {c : Cel}, CelR K G H p c → ∃ o, H p = some o ∧ (∀ ps, o ≠ .tbl ps) ∧ ∀ x, o ≠ .own x
  | .dk _, ⟨_, h, _⟩ => ⟨_, h, (fun _ z => by cases z), (fun _ z => by cases z)⟩
  | .dt _, ⟨_, h, _⟩ => ⟨_, h, (fun _ z => by cases z), (fun _ z => by cases z)⟩
  | .ls _, ⟨_, h, _⟩ => ⟨_, h, (fun _ z => by cases z), (fun _ z => by cases z)⟩
  | .ins _ _ _, ⟨_, h, _⟩ => ⟨_, h, (fun _ z => by cases z), (fun _ z => by cases z)⟩
theorem CelR.own {K : PySem.W.Frag} {G H : Hp} {p q : Addr} : ∀ {c : Cel}, CelR K G H p c → c.own q → H q = .some (.own p)
  | .ins _ _ _, ⟨_, _, h, _⟩, e => by cases e; exact h
  | .dk _, _, e => e.elim
  | .dt _, _, e => e.elim
  | .ls _, _, e => e.elim
def drF : DrT → Addr → Prop
  | .off, _ => False
  | .on a _, p => p = a
def celF (cs : List (Addr × Cel)) (p : Addr) : Prop := ∃ e ∈ cs, e.1 = p ∨ e.2.own p
def tF (Ts : List (Addr × Str)) (t : T2) (p : Addr) : Prop := drF t.dr p ∨ celF t.cs p ∨ p ∈ Ts.map (·.1)
def drP (K : PySem.W.Frag) (cs : List (Addr × Cel)) (G H : Hp) : DrT → Prop
  | .off => True
  | .on a b => DrAt K G H a b ∧ ∀ e ∈ cs, e.1 ≠ a
def TbR (G H : Hp) (p : Addr × Str) : Prop := ∃ ps : Array Value, H p.1 = some (.tbl ps) ∧ TriplesOk ps.toList ∧ ∀ (pos : Pos) (cv : Value), codeAmong pos ps.toList = some cv → ∃ c, cv = .ref c ∧ G c = some (LamX.CodeO c p.2)
structure TR (Ts : List (Addr × Str)) (K : PySem.W.Frag) (t : T2) (G : Hp) (F : Addr → Prop) (H : Hp) : Prop where
  f : ∀ p, F p ↔ tF Ts t p
  dr : drP K t.cs G H t.dr
  cs : ∀ e ∈ t.cs, CelR K G H e.1 e.2
  nd : (t.cs.map (·.1)).Nodup
  tb : ∀ p ∈ Ts, TbR G H p
theorem DrAt.mono {K : PySem.W.Frag} {G G' H H' : Hp} {a : Addr} {b : Nat} (h : DrAt K G H a b) (e : Same G G') (q : H' a = H a) : DrAt K G' H' a b := by
  obtain ⟨c, cs, i, l, u, h1, h2, h3, h4⟩ := h
  exact ⟨c, cs, i, l, u, by rw [q]; exact h1, same_sqp e h2, h3, h4⟩
theorem DrAt.some {K : PySem.W.Frag} {G H : Hp} {a : Addr} {b : Nat} (h : DrAt K G H a b) : ∃ kvs, H a = some (.dK kvs) := by
  obtain ⟨c, cs, i, l, u, h1, h2, h3, h4⟩ := h
  exact ⟨_, h1⟩
theorem drP.mono {K : PySem.W.Frag} {cs : List (Addr × Cel)} {G G' H H' : Hp} (e : Same G G') : ∀ {d : DrT}, drP K cs G H d → (∀ p, drF d p → H' p = H p) → drP K cs G' H' d
  | .off, _, _ => trivial
  | .on a b, ⟨h, n⟩, q => ⟨h.mono e (q a rfl), n⟩
theorem TbR.mono {G G' H H' : Hp} {p : Addr × Str} (h : TbR G H p) (e : Same G G') (q : H' p.1 = H p.1) : TbR G' H' p := by
  obtain ⟨ps, h1, h2, h3⟩ := h
  exact ⟨ps, by rw [q]; exact h1, h2, fun pos cv hc => let ⟨c, a, b⟩ := h3 pos cv hc; ⟨c, a, e _ _ b⟩⟩
def theT (Ts : List (Addr × Str)) : Sto where
  T := T2
  tb := fun a => a ∈ Ts.map (·.1)
  R := fun K t G F H => TR Ts K t G F H
  st := fun {K t G G' F H H'} r sm e => by
    have e : ∀ a, tF Ts t a → H' a = H a := fun a h => e a ((r.f a).mpr h)
    refine ⟨r.f, r.dr.mono sm fun p h => e p (.inl h), fun x hx => (r.cs x hx).mono sm (e _ (.inr (.inl ⟨x, hx, .inl rfl⟩))) fun q hq => e q (.inr (.inl ⟨x, hx, .inr hq⟩)), r.nd, fun p hp => (r.tb p hp).mono sm (e _ (.inr (.inr (List.mem_map.mpr ⟨p, hp, rfl⟩))))⟩
/-! ### a def that knows of nothing but what is drawn by -/
def frm (FF : FW DrT) : FW T2 := fun rs τ Q => FF rs τ.dr fun r d => r.out = true ∧ Q r ⟨d, τ.cs⟩
section
variable {Ts : List (Addr × Str)} {K : PySem.W.Frag} {τ : T2} {G H : Hp} {F : Addr → Prop}
theorem Ok.fr (k : Ok (theT Ts) K τ G F H) : Ok (theS (Ts.map (·.1))) K τ.dr G (drF τ.dr) H := by
  have r : TR Ts K τ G F H := k.r
  refine ⟨k.same, fun a h => k.gf a ((r.f a).mpr (.inl h)), fun a h => k.fh a ((r.f a).mpr (.inl h)), ?_, k.nt, k.nx⟩
  show drR K τ.dr G (drF τ.dr) H
  have hd := r.dr
  cases e : τ.dr with
  | off => exact fun a h => h
  | on a b =>
    rw [e] at hd
    exact ⟨fun p => Iff.rfl, hd.1⟩
theorem Ok.unfr (k : Ok (theT Ts) K τ G F H) {d : DrT} {G' H' : Hp} {F0 : Addr → Prop} (st : Step G (drF τ.dr) H G' F0 H') (ok : Ok (theS (Ts.map (·.1))) K d G' F0 H') :
    Step G F H G' (tF Ts ⟨d, τ.cs⟩) H' ∧ Ok (theT Ts) K ⟨d, τ.cs⟩ G' (tF Ts ⟨d, τ.cs⟩) H' := by
  have r : TR Ts K τ G F H := k.r
  have eF : ∀ p, F0 p ↔ drF d p := by
    have h : drR K d G' F0 H' := ok.r
    cases d with
    | off => exact fun p => ⟨fun z => (h p z).elim, fun z => z.elim⟩
    | on a b => exact h.1
  have inF : ∀ p, celF τ.cs p ∨ p ∈ Ts.map (·.1) → F p := fun p h => (r.f p).mpr (.inr h)
  -- what stands in cells and tables is none of what is drawn by
  have noDr : ∀ p o, H p = some o → (∀ kvs, o ≠ .dK kvs) → ¬ drF τ.dr p := fun p o e n z => by
    have hd := r.dr
    cases q : τ.dr with
    | off => rw [q] at z; exact z
    | on a b =>
      rw [q] at z hd
      have z : p = a := z
      subst z
      obtain ⟨kvs, h⟩ := hd.1.some
      rw [e] at h
      exact n _ (Option.some.inj h)
  have cellNo : ∀ e ∈ τ.cs, ¬ drF τ.dr e.1 := fun e he z => by
    have hd := r.dr
    cases q : τ.dr with
    | off => rw [q] at z; exact z
    | on a b =>
      rw [q] at z hd
      exact hd.2 e he z
  have stay : ∀ p, ¬ drF τ.dr p → ∀ o, H p = some o → H' p = H p := fun p n o e => by rw [e]; exact st.h p o n e
  have cellS : ∀ e ∈ τ.cs, H' e.1 = H e.1 ∧ ∀ q, e.2.own q → H' q = H q := fun e he => by
    obtain ⟨o, h1, _⟩ := (r.cs e he).some
    refine ⟨stay _ (cellNo e he) o h1, fun q hq => ?_⟩
    have h2 := (r.cs e he).own hq
    exact stay q (noDr q _ h2 fun _ z => by cases z) _ h2
  have tabS : ∀ p ∈ Ts, H' p.1 = H p.1 := fun p hp => by
    obtain ⟨ps, h, _⟩ := r.tb p hp
    exact stay _ (noDr _ _ h fun _ z => by cases z) _ h
  refine ⟨⟨st.g, fun a o n e => st.h a o (fun z => n ((r.f a).mpr (.inl z))) e, st.gn, fun a h => ?_, fun a h => ?_, st.dom⟩, ⟨ok.same, fun a h => ?_, fun a h => ?_, ⟨fun p => Iff.rfl, ?_, fun e he => (r.cs e he).mono st.g (cellS e he).1 (cellS e he).2, r.nd, fun p hp => (r.tb p hp).mono st.g (tabS p hp)⟩, ok.nt, ok.nx⟩⟩
  · rcases h with h | h
    · rcases st.fn a ((eF a).mpr h) with z | z
      · exact .inl ((r.f a).mpr (.inl z))
      · exact .inr z
    · exact .inl (inF a h)
  · rcases (r.f a).mp h with z | z
    · exact .inl ((eF a).mp (st.ff a z))
    · exact .inr z
  · rcases h with h | h
    · exact ok.gf a ((eF a).mpr h)
    · have hF := inF a h
      cases q : G' a with
      | none => rfl
      | some o =>
        rcases st.gn a o q with z | z
        · rw [k.gf a hF] at z; cases z
        · exact absurd z (k.fh a hF)
  · rcases h with h | h
    · exact ok.fh a ((eF a).mpr h)
    · exact st.dom a (k.fh a (inF a h))
  · have h : drR K d G' F0 H' := ok.r
    cases d with
    | off => trivial
    | on a b =>
      refine ⟨h.2, fun e he z => ?_⟩
      rcases st.fn a ((h.1 a).mpr rfl) with y | y
      · exact cellNo e he (by rw [z]; exact y)
      · obtain ⟨o, h1, _⟩ := (r.cs e he).some
        rw [z, y] at h1
        cases h1
/-- the promise at the wider store -/
theorem spD_fr {FF : FW DrT} {vs : List V} {Q : VK} {E : XK} (h : spD (theT Ts) K (frm FF) vs H Q E) : spD (theS (Ts.map (·.1))) K FF vs H Q E := by
  obtain ⟨G, F, τ, rs, Qd, Ha, k, r, dr, hf, fin⟩ := h
  refine ⟨G, drF τ.dr, τ.dr, rs, fun r d => r.out = true ∧ Qd r ⟨d, τ.cs⟩, Ha, k.fr, ?_, dr, hf, fun r' d' G' F' H' v st ok res q => ?_⟩
  · clear hf fin
    induction r with
    | nil => exact .nil
    | @cons a as v vs h t ih =>
      have d2 : (a.dr && as.all SV.dr) = true := dr
      rw [Bool.and_eq_true] at d2
      refine .cons ?_ (ih d2.2)
      cases a with
      | d x => exact h
      | raw v => exact h
      | no => exact h.elim
      | ol _ => cases d2.1
      | vw _ => cases d2.1
  · obtain ⟨st2, ok2⟩ := k.unfr st ok
    obtain ⟨qo, q⟩ := q
    refine fin r' ⟨d', τ.cs⟩ G' _ H' v st2 ok2 ?_ q
    have r : TR Ts K τ G F H := k.r
    have eF : ∀ p, F' p → tF Ts ⟨d', τ.cs⟩ p := fun p hp => by
      have h : drR K d' G' F' H' := ok.r
      cases d' with
      | off => exact (h p hp).elim
      | on a b => exact .inl ((h.1 p).mp hp)
    cases r' with
    | no => exact res
    | d x => exact res
    | raw v => exact res
    | ol xs =>
      obtain ⟨p, e, w⟩ := res
      refine ⟨p, e, w.at', w.g, fun z => ?_, w.new⟩
      rcases st2.fn p z with y | y
      · exact k.fh p y w.new
      · rcases z with z | z | z
        · have h : drR K d' G' F' H' := ok.r
          refine w.f ?_
          cases d' with
          | off => exact z.elim
          | on a b => exact (h.1 p).mpr z
        · exact k.fh p ((r.f p).mpr (.inr (.inl z))) w.new
        · exact k.fh p ((r.f p).mpr (.inr (.inr z))) w.new
    | vw xs => cases qo
end
end Z

namespace Z
open PySem L2
/-! ### exceptions as data -/
/-- an exception of the class at C, without fields -/
def exD (C : Addr) : D := .dict [(.none, .int (C : Nat))]
/-- what flies, told as data -/
def XR (K : PySem.W.Frag) (G : Hp) (x : D) (cls : Value) (d : Option Addr) : Prop :=
  (∃ C : Addr, x = exD C ∧ cls = .ref C ∧ d = none) ∨
  ∃ (C dx : Addr) (ks : List Str) (vs : List V) (ds : List D), x = .dict ((.none, .int (C : Nat)) :: (ks.map PyData.str).zip ds) ∧ cls = .ref C ∧ d = some dx ∧ G dx = some (.xd (ks.zip vs)) ∧ RpAll K G vs ds
/-- a caught one, kept -/
theorem XR.rp {K : PySem.W.Frag} {G G' : Hp} {x : D} {cls : Value} {d : Option Addr} {a : Addr} (h : XR K G x cls d) (sm : Same G G') (e : G' a = some (exV cls d a)) : Rp K G' (.ref a) x := by
  rcases h with ⟨C, rfl, rfl, rfl⟩ | ⟨C, dx, ks, vs, ds, rfl, rfl, rfl, h1, h2⟩
  · exact .exc e fun h z => z
  · exact .exf e (fun h z => z) (sm _ _ h1) (h2.mono sm)
/-- a promise with a way out by an exception -/
abbrev FWX (T : Type) := List SV → T → (SV → T → Prop) → (D → T → Prop) → Prop
def spDX (S : Sto) (K : PySem.W.Frag) (FX : FWX S.T) : Sp := fun vs H Q E => ∃ G F τ rs Qd Ed Ha, Ok S K τ G F H ∧ ResAll K Ha G F H rs vs ∧ rs.all SV.dr = true ∧ FX rs τ Qd Ed ∧
  (∀ r τ' G' F' H' v, Step G F H G' F' H' → Ok S K τ' G' F' H' → Res K H G' F' H' r v → Qd r τ' → Q v H') ∧
  ∀ x τ' G' F' H' cls d, Step G F H G' F' H' → Ok S K τ' G' F' H' → XR K G' x cls d → Ed x τ' → E cls d H'
/-- the def's own way out -/
def EdR (B : Bk) (Ed : D → B.T → Prop) (E : XK) : Prop := ∀ x τ' G' F' H' cls d, Step B.G B.F B.H G' F' H' → Ok B.S B.K τ' G' F' H' → XR B.K G' x cls d → Ed x τ' → E cls d H'
def dCallX {T : Type} (FX : FWX T) (Ed : D → T → Prop) (ta : WA T) : W T := fun env τ Q => ta env τ fun rs τ1 => rs.all SV.dr = true ∧ FX rs τ1 Q Ed
structure KnownX (P : Program) (w : World) (K : PySem.W.Frag) (mg : Str → Option Value) (base : Heap) (S : Sto) (x : Str) (ps : List Str) (k : Nat) (FX : FWX S.T) : Prop where
  ex : ∃ f fd, FnOk P w K mg base (L2.CX P w) k f fd ps (spDX S K FX) ∧ mg x = some (.ref f) ∧ PySem.W.keepIn K (.ref f) = true ∧ Binds K fd ps []
section
variable {X : Cx} {B : Bk} {e : Expr} {es : List Expr} {pos p : Pos} {ta : WA B.T} {FX : FWX B.S.T} {Ed : D → B.T → Prop} {E : XK} {ps : List Str} {k : Nat} {x : Str}
theorem lift_callX (hE : EdR B Ed E) : ∀ σ H Q, lift B (dCallX FX Ed ta) σ H Q → tCall (spDX B.S B.K FX) [] E (liftA B ta) σ H Q := fun σ H Q ⟨G, F, env, τ, Qd, s, t, fin⟩ =>
  ⟨G, F, env, τ, _, s, t, fun rs τ1 G1 F1 H1 vs f1 r1 ⟨dr, q⟩ => by
    show spDX B.S B.K FX (vs ++ []) H1 Q E
    rw [List.append_nil]
    refine ⟨G1, F1, τ1, rs, Qd, Ed, H, f1.k, r1, dr, q, fun r τ' G' F' H' v st ok res qd => fin r τ' G' F' H' v (f1.trans ⟨st, ok⟩) (res.back (dead f1.s.dom)) qd, fun x τ' G' F' H' cls d st ok xr ed => ?_⟩
    exact hE x τ' G' F' H' cls d ((s.s.trans f1.s).trans st) ok xr ed⟩
theorem de_callX (hK : X.K = B.K) (hE : EdR B Ed E) (hx : Passes (L2.CX X.prog X.w) X E) (h : KnownX X.prog X.w X.K X.mg X.base B.S x ps k FX) (hr : Room k X.A) (hg : Gl X x)
    (ha : PA X (e :: es) (liftA B ta)) (hdb : (x == ("__debug__" : Str)) = false := by decide) (he : starEach (e :: es) X.env = (false, eval e X.env) :: starEach es X.env := by rfl) (hpl : (backTo pos (starEach es X.env)).any (·.1) = false := by rfl) :
    PE X (.Call (.Name x p) (e :: es) [] pos) (lift B (dCallX FX Ed ta)) := by
  obtain ⟨f, fd, F, hm, hk, hb⟩ := h.ex
  rw [hK] at F
  exact pe_imp (pe_call (by rw [hK]; exact F) hr hg hm hk hb .nil hx ha hdb he hpl) (lift_callX hE)
/-- a raising def called where nothing is let out -/
def noE {T : Type} : D → T → Prop := fun _ _ => False
theorem edr_no : EdR B noE E0 := fun _ _ _ _ _ _ _ _ _ _ z => z.elim
theorem de_callN (hK : X.K = B.K) (h : KnownX X.prog X.w X.K X.mg X.base B.S x ps k FX) (hr : Room k X.A) (hg : Gl X x)
    (ha : PA X (e :: es) (liftA B ta)) (hdb : (x == ("__debug__" : Str)) = false := by decide) (he : starEach (e :: es) X.env = (false, eval e X.env) :: starEach es X.env := by rfl) (hpl : (backTo pos (starEach es X.env)).any (·.1) = false := by rfl) :
    PE X (.Call (.Name x p) (e :: es) [] pos) (lift B (dCallX FX noE ta)) := de_callX hK edr_no L2.passL h hr hg ha hdb he hpl
/-! raise -/
structure ClsX (K : PySem.W.Frag) (mg : Str → Option Value) (x : Str) (C : Addr) : Prop where
  g : mg x = some (.ref C)
  x : PySem.W.excIn K C [.type "ValueError", .type "Exception", .type "BaseException", .type "object"] "ValueError.__new__" = true
  k : PySem.W.keepIn K (.ref C) = true
  b : PySem.W.subIn K (.ref C) (.type "BaseException") = some true
  t : PySem.W.typeIn K (.ref C) = some (.type "type")
def dRaise {T : Type} (x : D) (Ed : D → T → Prop) : WS T := fun _ _ τ => Ed x τ
theorem ds_raise {C : Addr} {m : Str} {j : Nat} {p2 pos2 : Pos} (hc : X.calm = true) (hK : X.K = B.K) (hE : EdR B Ed E) (tk : Takes X (fun cls d _ H => E cls d H)) (c : ClsX X.K X.mg x C) (hg : Gl X x) (hdb : (x == ("__debug__" : Str)) = false := by decide) :
    PS X (.Raise (some (.Call (.Name x p) [.Constant (.str m) j p2] [] pos)) none pos2) (liftS B (dRaise (exD C) Ed)) :=
  ps_imp (ps_raise hc tk (pmk_own PySem.F.excBase_ValueError c.x c.g c.k (raises_own c.b c.t) hg hdb)) fun D σ H ⟨G, F, env, τ, Dd, s, h, _⟩ => hE (exD C) τ G F H _ _ s.s s.k (.inl ⟨C, rfl, rfl, rfl⟩) h
end
section
variable {P : Program} {w : World} {S : Sto} {K : PySem.W.Frag} {mg : Str → Option Value} {base : Heap}
/-- THE RULE for a def that may raise, by data -/
theorem okDx {x qual : Str} {st : Stmt} {f : Addr} {fd : FuncData} {N ps : List Str} {k : Nat} {FX : FWX S.T} (F : Fun K x qual st f fd) (Sc : FnScope N ps (defScope st)) (len : ∀ rs τ Q Ed, FX rs τ Q Ed → rs.length = ps.length) (hl : ps.length ≤ N.length)
    (hbody : ∀ (cdv : Value) (A : Around) (outer : List Env) (s : Shared) (H : Hp) (E : XK) (G : Hp) (Fp : Addr → Prop) (Ed : D → S.T → Prop), Room k (A.deeper (PyProof.Rows.envOfC qual (defScope st) s.heap.objs.size f cdv)) → EdR ⟨S, K, G, Fp, H⟩ Ed E →
      Takes (cxOf (L2.CX P w) P w K mg base N qual (defScope st) f cdv A outer s H E) (fun cls d _ H' => E cls d H') → Passes (L2.CX P w) (cxOf (L2.CX P w) P w K mg base N qual (defScope st) f cdv A outer s H E) E →
      PassesOwn (model P w) (A.deeper (PyProof.Rows.envOfC qual (defScope st) s.heap.objs.size f cdv)) (cxOf (L2.CX P w) P w K mg base N qual (defScope st) f cdv A outer s H E).env (cxOf (L2.CX P w) P w K mg base N qual (defScope st) f cdv A outer s H E).xe →
      ∃ t : WS S.T, PSs (cxOf (L2.CX P w) P w K mg base N qual (defScope st) f cdv A outer s H E) (defBody st) (liftS ⟨S, K, G, Fp, H⟩ t) ∧ ∀ rs τ Qd, FX rs τ Qd Ed → t ⟨fun _ τ' => Qd (.d .none) τ', Qd, fun _ _ => False, fun _ _ => False⟩ (rs ++ List.replicate (N.length - rs.length) .no) τ) :
    FnOk P w K mg base (L2.CX P w) (k + 1) f fd ps (spDX S K FX) := by
  refine F.okX Sc (fun vs H Q E ⟨G, F, τ, rs, Qd, Ed, Ha, ok, r, dr, h, _⟩ => by rw [← r.length]; exact len _ _ _ _ h) fun cdv A outer s H vs Q E hr ⟨G, Fp, τ, rs, Qd, Ed, Ha, ok, r, dr, h, fin, fe⟩ => ?_
  have tk : Takes (cxOf (L2.CX P w) P w K mg base N qual (defScope st) f cdv A outer s H E) (fun cls d _ H' => E cls d H') := takes_of rfl rfl rfl rfl
  obtain ⟨t, d, sem⟩ := hbody cdv A outer s H E G Fp Ed hr (fun x τ' G' F' H' cls d st ok xr ed => fe x τ' G' F' H' cls d st ok xr ed) tk (passes_call tk fun _ _ _ _ z => z) (passes_of rfl)
  have hle : rs.length ≤ N.length := by rw [len _ _ _ _ h]; exact hl
  exact ⟨_, d, G, Fp, _, τ, _, ⟨Step.refl _ _ _, ok, env_start (B := ⟨S, K, G, Fp, H⟩) r dr hle⟩, sem rs τ Qd h,
    ⟨fun G' F' σ' H' env' τ' _ st q => fin (.d .none) τ' G' F' H' .non st.s st.k Rp.non q, fun r τ' G' F' H' v f res q => fin r τ' G' F' H' v f.s f.k res q, fun _ _ _ _ _ _ _ _ q => q.elim, fun _ _ _ _ _ _ _ _ q => q.elim⟩⟩
end
/-! ### isinstance of an exception -/
structure ExC (K : PySem.W.Frag) (D : Addr) : Prop where
  c : (PySem.W.clsIn K D).isSome = true
  hg : PySem.W.findIn K (.ref D) "__getattribute__" = some (some (.builtin "BaseException.__getattribute__"))
  hk : PySem.W.findIn K (.ref D) "__getattr__" = some none
  hs : PySem.W.subIn K (.ref D) (.type "BaseException") = some true
  ha : PySem.W.findIn K (.ref D) "__class__" = some (some (.builtin "object.__class__"))
  hn : PySem.W.specialIn K (.builtin "object.__class__") "__get__" = some (some (.builtin "getset_descriptor.__get__"))
  ht : PySem.W.takesIn K (.builtin "object.__class__") = some true
  hm : PySem.W.mroIn K D (.type "object") = some true
/-- the class of an exception's data -/
def exC? : D → Option Int
  | .dict ((.none, .int c) :: _) => some c
  | _ => none
section
variable {X : Cx} {B : Bk} {e : Expr} {cs : List Expr} {p q q2 pos : Pos} {te : W B.T} {us : List Value} {cv : List V} {kk : Nat}
theorem isx_run {pins : List (Addr × Obj)} {σ : L2.St} {H : Hp} {s : Shared} {v : V} {u : Value} {x : D} {C : Addr} {G : Hp} (I : Inv X pins σ H s) (r : RelV v u) (sm : Same G H) (rp : Rp X.K G v x) (ex : exC? x = some (C : Nat)) (c : ExC X.K C) :
    ∃ (Pz : Heap → Prop), PySem.W.KitX X.K u (.ref C) Pz ∧ Pz s.heap ∧ u ≠ .builtin "__main__.__loader__#opaque" := by
  have kit : ∀ {a : Addr} {ox : Obj} {od : Option Obj}, PySem.W.KitX X.K (.ref a) (.ref C) (fun h => PySem.W.InstAt h a ox C od) := fun {a ox od} => PySem.W.kitx_exc c.c c.hg c.hk c.hs c.ha c.hn c.ht c.hm
  cases rp with
  | @exc a C' φ h z =>
    have e2 : C' = C := by
      have := Option.some.inj ex
      exact Int.ofNat.inj this
    subst e2
    cases (show u = Value.ref a from r)
    obtain ⟨ob, fs, e1, ⟨e2, e3⟩, e4⟩ := z _ (I.hok a _ (sm _ _ h)).1
    refine ⟨_, kit (ox := ob) (od := none), ⟨e1, e2, ?_, ?_⟩, fun z => nomatch z⟩
    · unfold PySem.W.notCls; rw [e4] <;> rfl
    · rw [e3]; trivial
  | @exf a dx C' φ ks vs ds h z hx ra =>
    have e2 : C' = C := by
      have := Option.some.inj ex
      exact Int.ofNat.inj this
    subst e2
    cases (show u = Value.ref a from r)
    obtain ⟨ob, fs, e1, ⟨e2, e3⟩, e4⟩ := z _ (I.hok a _ (sm _ _ h)).1
    obtain ⟨mA, ⟨od, es, ep, hd, _⟩, _⟩ := (I.hok dx _ (sm _ _ hx))
    refine ⟨_, kit (ox := ob) (od := some od), ⟨e1, e2, ?_, ?_⟩, fun z => nomatch z⟩
    · unfold PySem.W.notCls; rw [e4] <;> rfl
    · rw [e3]; exact hd
  | emp h => cases ex
  | fn => cases ex
  | non => cases ex
  | bl b => cases ex
  | int i => cases ex
  | str x => cases ex
  | lst h a => cases ex
  | tup h a => cases ex
/-- isinstance(e, C), isinstance(e, (C1, C2, ..)): classes of the program, or built-in ones -/
def dIsX {T : Type} (K : PySem.W.Frag) (us : List Value) (te : W T) : W T := fun env τ Q => te env τ fun r τ1 => ∃ (x : D) (C : Addr) (b : Bool), r = .d x ∧ exC? x = some (C : Nat) ∧ ExC K C ∧ PySem.W.kitAny K (.ref C) us = some b ∧ Q (.d (.bool b)) τ1
def rIsX (K : PySem.W.Frag) (c : V) (u : Value) : List V → Hp → VK → Prop := fun xs H Q => ∃ (v : V) (x : D) (C : Addr) (b : Bool) (G : Hp), xs = [v, c] ∧ Same G H ∧ Rp K G v x ∧ exC? x = some (C : Nat) ∧ ExC K C ∧ PySem.W.kitAny K (.ref C) [u] = some b ∧ Q (.bl b) H
theorem call_isX {c : V} {u : Value} (hc : ClsV c u) : CallR X (.builtin "isinstance") (rIsX X.K c u) := by
  intro pins s σ H xs ws Q I r h
  obtain ⟨v, x, C, b, G, rfl, sm, rp, ex, cc, kt, hq⟩ := h
  obtain ⟨u1, u2, rfl, r1, r2⟩ := vals2 r
  have e2 := hc.eq r2
  subst e2
  obtain ⟨Pz, Z, p, hx⟩ := isx_run I r1 sm rp ex cc
  have k1 : PySem.W.kitOne X.K (.ref C) u2 = some b := by
    unfold PySem.W.kitAny at kt
    cases z : PySem.W.kitOne X.K (.ref C) u2 with
    | none => rw [z] at kt; cases kt
    | some y =>
      rw [z] at kt
      cases y with
      | true => exact kt
      | false => unfold PySem.W.kitAny at kt; exact kt
  exact PySem.W.kia_one Z I.kIn p k1 hx fun tk => ⟨.bl b, H, I.tok tk, rfl, hq⟩
/-- with a tuple of classes that was just laid -/
def rIsXT (K : PySem.W.Frag) (cs : List V) (us : List Value) : List V → Hp → VK → Prop := fun xs H Q => ∃ (v : V) (x : D) (tp C : Addr) (b : Bool) (G : Hp), xs = [v, .ref tp] ∧ H tp = some (.tup cs) ∧ Same G H ∧ Rp K G v x ∧ exC? x = some (C : Nat) ∧ ExC K C ∧ PySem.W.kitAny K (.ref C) us = some b ∧ Q (.bl b) H
theorem call_isXT {cs : List V} {us : List Value} (hc : Paired ClsV cs us) : CallR X (.builtin "isinstance") (rIsXT X.K cs us) := by
  intro pins s σ H xs ws Q I r h
  obtain ⟨v, x, tp, C, b, G, rfl, hT, sm, rp, ex, cc, kt, hq⟩ := h
  obtain ⟨u1, u2, rfl, r1, r2⟩ := vals2 r
  cases (show u2 = Value.ref tp from r2)
  obtain ⟨Pz, Z, p, hx⟩ := isx_run I r1 sm rp ex cc
  obtain ⟨_, its, rv, o, h1, h2, n, h3⟩ := (show ObjOk X.prog X.w H s.heap tp (.tup cs) from I.hok tp _ hT)
  have e3 := ClsV.all hc rv
  subst e3
  obtain ⟨oc, od, dt, sl⟩ := o
  simp only at h2 h3
  subst h2 h3
  exact PySem.W.kia_tup Z I.kIn p h1 kt hx fun tk => ⟨.bl b, H, I.tok tk, rfl, hq⟩
/-- some values that are always the same -/
def tCs (vs : List V) : TA := fun _ H Q => Q vs H
theorem pa_cs0 : PA X [] (tCs []) := pa_imp pa_nil fun _ _ _ h => h
theorem pa_cs {y : Expr} {v : V} {vs : List V} (hy : PE X y (tC v)) (hr : PA X cs (tCs vs)) (hs : starEach (y :: cs) X.env = (false, eval y X.env) :: starEach cs X.env := by rfl) : PA X (y :: cs) (tCs (v :: vs)) :=
  pa_imp (pa_cons hy hr hs) fun _ _ _ h => h
variable (hK : X.K = B.K) (hgi : Gl X "isinstance") (hmi : X.mg "isinstance" = none) (hvi : bootBuiltins "isinstance" = some (.builtin "isinstance"))
include hK hgi hmi hvi
theorem de_isx {y : Expr} {c : V} {u : Value} (he : PE X e (lift B te)) (hy : PE X y (tC c)) (hc : ClsV c u)
    (h1 : starEach (e :: [y]) X.env = (false, eval e X.env) :: starEach [y] X.env := by rfl) (h2 : (backTo pos (starEach [y] X.env)).any (·.1) = false := by rfl) (h3 : starEach (y :: []) X.env = (false, eval y X.env) :: starEach [] X.env := by rfl) :
    PE X (.Call (.Name "isinstance" p) [e, y] [] pos) (lift B (dIsX B.K [u] te)) :=
  pe_imp (pe_callB (call_isX hc) hgi hmi hvi (pa_cons he (pa_cons hy pa_nil h3) h1) (by decide) (by decide) h1 h2) fun σ H Q ⟨G, F, env, τ, Qd, s, t, fin⟩ =>
    ⟨G, F, env, τ, _, s, t, fun r τ1 G1 F1 H1 v f1 r1 ⟨x, C, b, er, ex, cc, kt, hq⟩ => by
      subst er
      refine ⟨v, x, C, b, G1, rfl, f1.k.same, by rw [hK]; exact r1, ex, by rw [hK]; exact cc, by rw [hK]; exact kt, fin (.d (.bool b)) τ1 G1 F1 H1 (.bl b) f1 (.bl b) hq⟩⟩
theorem de_isxT (he : PE X e (lift B te)) (hy : PA X cs (tCs cv)) (hc : Paired ClsV cv us) (hl : cv.length ≤ sizeLine)
    (h1 : starEach (e :: [.Tuple cs kk q]) X.env = (false, eval e X.env) :: starEach [.Tuple cs kk q] X.env := by rfl) (h2 : (backTo pos (starEach [.Tuple cs kk q] X.env)).any (·.1) = false := by rfl) (h3 : starEach ((.Tuple cs kk q : Expr) :: []) X.env = (false, eval (.Tuple cs kk q) X.env) :: starEach [] X.env := by rfl) :
    PE X (.Call (.Name "isinstance" p) [e, .Tuple cs kk q] [] pos) (lift B (dIsX B.K us te)) :=
  pe_imp (pe_callB (call_isXT hc) hgi hmi hvi (pa_cons he (pa_cons (pe_tup hy) pa_nil h3) h1) (by decide) (by decide) h1 h2) fun σ H Q ⟨G, F, env, τ, Qd, s, t, fin⟩ =>
    ⟨G, F, env, τ, _, s, t, fun r τ1 G1 F1 H1 v f1 r1 ⟨x, C, b, er, ex, cc, kt, hq⟩ => by
      subst er
      refine ⟨hl, fun tp htp => ?_⟩
      have f2 : Fin B G1 F1 H1 τ1 G1 F1 (upd H1 tp (.tup cv)) := ⟨Step.alloc htp, f1.k.alloc htp⟩
      refine ⟨v, x, tp, C, b, G1, rfl, upd_same, f2.k.same, by rw [hK]; exact r1, ex, by rw [hK]; exact cc, by rw [hK]; exact kt, fin (.d (.bool b)) τ1 G1 F1 _ (.bl b) (f1.trans f2) (.bl b) hq⟩⟩
end
end Z

namespace Z
open PySem PySem.Spec PyProof.Rows L2 LamX
/-! ### a lambda handed to a def that calls it and catches -/
/-- what a lambda does, by data -/
abbrev LD (T : Type) := T → (SV → T → Prop) → (D → T → Prop) → Prop
/-- a promise of a def that calls what it got -/
abbrev FC (T : Type) := LD T → T → (SV → T → Prop) → Prop
/-- what a lambda sees of its maker's slots -/
def capS : SV → SV
  | .ol _ => .no
  | s => s
def dLam {T : Type} (fc : FC T) (tb : (D → T → Prop) → W T) : W T := fun env τ Q => fc (fun τ' Q' Ed' => tb Ed' (env.map capS) τ' Q') τ Q
/-- tl does what tlD tells, from (G, F, H) on -/
def Real (S : Sto) (K : PySem.W.Frag) (G : Hp) (F : Addr → Prop) (H : Hp) (tlD : LD S.T) (tl : XK → Hp → VK → Prop) : Prop :=
  ∀ (E : XK) (H' : Hp) (Q' : VK) (G' : Hp) (F' : Addr → Prop) (τ' : S.T) (Qd : SV → S.T → Prop) (Ed : D → S.T → Prop), Step G F H G' F' H' → Ok S K τ' G' F' H' → tlD τ' Qd Ed →
    (∀ r τ2 G2 F2 H2 v, Step G' F' H' G2 F2 H2 → Ok S K τ2 G2 F2 H2 → Res K H' G2 F2 H2 r v → Qd r τ2 → Q' v H2) →
    (∀ x τ2 G2 F2 H2 cls d, Step G' F' H' G2 F2 H2 → Ok S K τ2 G2 F2 H2 → XR K G2 x cls d → Ed x τ2 → E cls d H2) → tl E H' Q'
def TTD (S : Sto) (K : PySem.W.Frag) (fc : FC S.T) : (XK → Hp → VK → Prop) → Hp → VK → Prop := fun tl H Q => ∃ G F τ Qd tlD, Ok S K τ G F H ∧ Real S K G F H tlD tl ∧ fc tlD τ Qd ∧
  ∀ r τ' G' F' H' v, Step G F H G' F' H' → Ok S K τ' G' F' H' → Res K H G' F' H' r v → Qd r τ' → Q v H'
section
variable {Ts : List (Addr × Str)} {K : PySem.W.Frag} {τ : T2} {G H H1 : Hp} {F : Addr → Prop} {P : Addr} {q : Str}
/-- a lambda was made -/
theorem Ok.made (k : Ok (theT Ts) K τ G F H) (mk : Mks P H H1) (t1 : Tabs Ts H1) (hP : (P, q) ∈ Ts) : ∃ G1, Step G F H G1 F H1 ∧ Ok (theT Ts) K τ G1 F H1 := by
  classical
  have r : TR Ts K τ G F H := k.r
  have FP : F P := (r.f P).mpr (.inr (.inr (List.mem_map.mpr ⟨_, hP, rfl⟩)))
  have GP : G P = none := k.gf P FP
  obtain ⟨ps1, hP1, _⟩ := t1 _ hP
  have dom : ∀ a, H a ≠ none → H1 a ≠ none := fun a h => by
    cases e : H a with
    | none => exact absurd e h
    | some o =>
      by_cases q : a = P
      · rw [q, hP1]; exact fun z => by cases z
      · rw [mk.old a o e q]; exact fun z => by cases z
  have sm : Same G (fun b => if H b = none then H1 b else G b) := fun b o e => by
    have : H b ≠ none := fun z => by rw [k.same b o e] at z; cases z
    show (if H b = none then H1 b else G b) = some o
    rw [if_neg this]; exact e
  have keep : ∀ b o, H b = some o → (∀ ps, o ≠ .tbl ps) → H1 b = H b := fun b o e n => by
    rw [e]
    refine mk.old b o e fun z => ?_
    obtain ⟨ps, h, _⟩ := r.tb _ hP
    rw [z] at e
    exact n ps (Option.some.inj (e.symm.trans h))
  refine ⟨fun b => if H b = none then H1 b else G b, ⟨sm, fun a o n e => mk.old a o e fun z => n (by rw [z]; exact FP), fun a o e => ?_, fun a h => .inl h, fun a h => h, dom⟩, ⟨fun a o e => ?_, fun a h => ?_, fun a h => dom a (k.fh a h), ⟨r.f, ?_, fun e he => ?_, r.nd, fun p hp => ?_⟩, fun a ps e => ?_, fun a φ e => ?_⟩⟩
  · by_cases h : H a = none
    · exact .inr h
    · have e : (if H a = none then H1 a else G a) = some o := e
      rw [if_neg h] at e
      exact .inl e
  · have e : (if H a = none then H1 a else G a) = some o := e
    by_cases h : H a = none
    · rw [if_pos h] at e; exact e
    · rw [if_neg h] at e
      exact mk.old a o (k.same a o e) fun z => by rw [z, GP] at e; cases e
  · show (if H a = none then H1 a else G a) = none
    rw [if_neg (k.fh a h)]
    exact k.gf a h
  · refine drP.mono sm r.dr fun p hp => ?_
    have hd := r.dr
    cases e : τ.dr with
    | off => rw [e] at hp; exact hp.elim
    | on a b =>
      rw [e] at hp hd
      have hp : p = a := hp
      subst hp
      obtain ⟨kvs, h⟩ := hd.1.some
      exact keep _ _ h fun _ z => by cases z
  · obtain ⟨o, h, n, _⟩ := (r.cs e he).some
    refine (r.cs e he).mono sm (keep _ o h n) fun q hq => ?_
    exact keep q _ ((r.cs e he).own hq) fun _ z => by cases z
  · obtain ⟨ps, h1, h2, h3⟩ := t1 p hp
    refine ⟨ps, h1, h2, fun pos cv hc => ?_⟩
    obtain ⟨c, e1, e2⟩ := h3 pos cv hc
    refine ⟨c, e1, ?_⟩
    show (if H c = none then H1 c else G c) = _
    by_cases h : H c = none
    · rw [if_pos h]; exact e2
    · rw [if_neg h]
      rcases mk.new c _ e2 with z | z | ⟨z, _⟩
      · rw [z, hP1] at e2; cases e2
      · exact k.nx c _ z
      · exact absurd z h
  · rcases mk.new a _ e with z | z | ⟨_, _, z⟩
    · rw [z]; exact List.mem_map.mpr ⟨_, hP, rfl⟩
    · exact k.nt a ps z
    · cases z
  · show (if H a = none then H1 a else G a) = some (.ext φ)
    by_cases h : H a = none
    · rw [if_pos h]; exact e
    · rw [if_neg h]
      rcases mk.new a _ e with z | z | ⟨z, _⟩
      · rw [z, hP1] at e; cases e
      · exact k.nx a φ z
      · exact absurd z h
theorem Ok.tabs (k : Ok (theT Ts) K τ G F H) : Tabs Ts H := fun p hp => by
  have r : TR Ts K τ G F H := k.r
  obtain ⟨ps, h1, h2, h3⟩ := r.tb p hp
  exact ⟨ps, h1, h2, fun pos cv hc => let ⟨c, a, b⟩ := h3 pos cv hc; ⟨c, a, k.same _ _ b⟩⟩
end
theorem EnvR.cap {K : PySem.W.Frag} {H0 G H : Hp} {F : Addr → Prop} {σ : L2.St} {env : List SV} (e : EnvR K H0 G F H σ env) (Hx : Hp) : EnvR K Hx G F H σ (env.map capS) := by
  have get : ∀ (i : Nat) (s : SV), (env.map capS)[i]? = some s → ∃ s', env[i]? = some s' ∧ s = capS s' := fun i s h => by
    rw [List.getElem?_map] at h
    cases q : env[i]? with
    | none => rw [q] at h; cases h
    | some s' => rw [q] at h; exact ⟨s', rfl, (Option.some.inj h).symm⟩
  refine ⟨by rw [List.length_map]; exact e.len, fun i s h => ?_, fun i j xs ys hij h1 h2 => ?_⟩
  · obtain ⟨s', h1, rfl⟩ := get i s h
    have z := e.at' i s' h1
    cases s' with
    | no => trivial
    | d x => exact z
    | ol xs => trivial
    | vw xs => exact z
    | raw v => exact z
  · obtain ⟨s', _, z⟩ := get i _ h1
    cases s' <;> cases z
/-- a def that calls the lambda it got: how it stands -/
structure KnownC (P : Program) (w : World) (K : PySem.W.Frag) (mg : Str → Option Value) (base : Heap) (S : Sto) (x a : Str) (k : Nat) (fc : FC S.T) : Prop where
  ex : ∃ (g : Addr) (pg : Arguments) (bg : List Stmt) (sg : Scope) (dV kV doc pm cdv ct oc : Value) (an od : Option Addr) (osl : Array (Option Value)) (Ng : List Str),
    mg x = some (.ref g) ∧ PySem.W.keepIn K (.ref g) = true ∧ K.lookup g = some ⟨oc, od, .func (PySem.W.fnOf x x pg bg sg dV kV doc pm an cdv ct), osl⟩ ∧ PySem.W.codeIn K cdv x = true ∧ L2.Binds K (PySem.W.fnOf x x pg bg sg dV kV doc pm an cdv ct) [a] [] ∧ FnScope Ng [a] sg ∧ Ng[0]? = some a ∧ Vis sg a ∧
    ∀ (X : Cx) (q : Str), X.prog = P → X.w = w → X.K = K → X.mg = mg → X.base = base → Calls1 k X Ng x sg g cdv bg a q (TTD S K fc)
section
variable {X : Cx} {B : Bk} {G0 : Hp} {F0 : Addr → Prop} {H0 : Hp}
/-- x(lambda: body) -/
theorem de_lam {Ts : List (Addr × Str)} {fc : FC T2} {tb : (D → T2 → Prop) → W T2} {x a : Str} {c P : Addr} {k : Nat} {params : Arguments} {body : Expr} {scope : Scope} {p lpos pos : Pos}
    (h : KnownC X.prog X.w X.K X.mg X.base (theT Ts) x a k fc) (gl : Gl X x)
    (tbb : TabB X.base X.mg c P) (hc : X.env.code = .ref c) (hmT : (P, X.env.qual ++ "<lambda>") ∈ Ts) (hu : ∀ p ∈ Ts, p.1 = P → p.2 = X.env.qual ++ "<lambda>") (hr : Room (k + 2) X.A) (L : LamS X.env.scope scope) (hdf : defaultsOf params X.env = ([], []))
    (hbi : ∀ (q : Str) (cl : List (Str × Addr)) (pm cv ctv : Value), bindArgs (PySem.W.kla_fn "<lambda>" q params body scope cl pm cv ctv) ⟨[], []⟩ = pure [])
    (hbody : ∀ (A : Around) (outer : List Env) (s : Shared) (H : Hp) (E : XK) (f c' : Addr) (G0 : Hp) (F0 : Addr → Prop) (H0 : Hp) (Ed : D → T2 → Prop), Room k (A.deeper (lamEnv X scope s.heap.objs.size f c')) → EdR ⟨theT Ts, X.K, G0, F0, H0⟩ Ed E →
      Passes (L2.CX X.prog X.w) (lamCx X A outer s H E scope f c') E → PE (lamCx X A outer s H E scope f c') body (lift ⟨theT Ts, X.K, G0, F0, H0⟩ (tb Ed)))
    (d1 : (x == ("__debug__" : Str)) = false := by decide) (d2 : (a == ("__debug__" : Str)) = false := by decide) (d3 : (a == ("__classdict__" : Str)) = false := by decide) :
    PE X (.Call (.Name x p) [.Lambda params body scope lpos] [] pos) (lift ⟨theT Ts, X.K, G0, F0, H0⟩ (dLam fc tb)) := by
  obtain ⟨g, pg, bg, sg, dV, kV, doc, pm, cdv, ct, oc, an, od, osl, Ng, hm, hk, lk, cg, bd, Sg, h0, va, hG⟩ := h.ex
  let tE : XK → TE := fun E σ H Q => ∃ G0 F0 H0 Ed, EdR ⟨theT Ts, X.K, G0, F0, H0⟩ Ed E ∧ lift ⟨theT Ts, X.K, G0, F0, H0⟩ (tb Ed) σ H Q
  refine pe_imp (pe_lamk (t := tE) gl hm hk lk cg bd Sg h0 va (hG X _ rfl rfl rfl rfl rfl) tbb hc hmT hu hr L hdf hbi (fun A outer s H E f c' hr2 => ⟨fun pins s2 σ H2 Q I ⟨G0, F0, H0, Ed, hE, hl⟩ => ?_⟩) d1 d2 d3) ?_
  · exact (hbody A outer s H E f c' G0 F0 H0 Ed hr2 hE (passes_call (takes_of rfl rfl rfl rfl) fun _ _ _ _ z => z)).run pins s2 σ H2 Q I hl
  · rintro σ H Q ⟨G, F, env, τ, Qd, s, t, fin⟩
    refine ⟨s.k.tabs, fun H1 mk t1 => ?_⟩
    obtain ⟨G1, st, ok⟩ := s.k.made mk t1 hmT
    refine ⟨G1, F, τ, Qd, _, ok, ?_, t, fun r τ' G' F' H' v st' ok' res q => fin r τ' G' F' H' v ⟨st.trans st', ok'⟩ (res.back (dead st.dom)) q⟩
    intro E H' Q' G' F' τ' Qd' Ed' st' ok' htl fQ fE
    refine ⟨G', F', H', Ed', fE, G', F', env.map capS, τ', Qd', ⟨Step.refl _ _ _, ok', ((s.e.step st).step st').cap H'⟩, htl, fun r τ2 G2 F2 H2 v f res q => fQ r τ2 G2 F2 H2 v f.s f.k res q⟩
end
end Z

namespace Z
open PySem PySem.Spec PyProof.Rows L2 LamX
/-! ### try: told = deed() / except C as n: kept = n -/
/-- what is known of the deed that stands in slot 0 -/
structure DeedD (X : Cx) (B : Bk) (a : Str) (f c' : Addr) (q : Str) (tlD : LD B.T) (tl : XK → Hp → VK → Prop) : Prop where
  act : ∀ (W : WX) (pn : List (Addr × Obj)) (xe : Value → Shared → Prop) (E : XK) (p1 p2 : Pos), Takes (X.tr pn xe) W → (∀ cls d σ' H', E cls d H' → W cls d σ' H') →
    PE (X.tr pn xe) (.Call (.Name a p1) [] [] p2) (fun σZ HZ Q => σZ[0]? = some (some (.ref f)) ∧ HZ c' = some (CodeO c' q) ∧ tl E HZ Q)
  code : B.G c' = some (CodeO c' q)
  real : Real B.S B.K B.G B.F B.H tlD tl
/-- the class that is caught -/
def CatR (K : PySem.W.Frag) (c : Value) (x : D) : Prop := ∃ C : Addr, exC? x = some (C : Nat) ∧ PySem.W.exmOne K (.ref C) c = some true
def dTry {T : Type} (K : PySem.W.Frag) (c : Value) (f : Addr) (tlD : LD T) (n it i j : Nat) : WS T := fun D env τ => env[0]? = some (.raw (.ref f)) ∧
  tlD τ (fun r τ' => opt r.sto fun a => D.nx (env.set it a) τ') (fun x τ' => CatR K c x ∧ D.nx ((List.replicate n .no).set j (.d x)) τ')
theorem XR.cls {K : PySem.W.Frag} {G : Hp} {x : D} {cls : Value} {d : Option Addr} {C : Addr} (h : XR K G x cls d) (e : exC? x = some (C : Nat)) : cls = .ref C := by
  rcases h with ⟨C', rfl, rfl, _⟩ | ⟨C', dx, ks, vs, ds, rfl, rfl, _⟩
  · have e := Option.some.inj e
    rw [Int.ofNat.inj e]
  · have e := Option.some.inj e
    rw [Int.ofNat.inj e]
section
variable {X : Cx} {B : Bk} {x n m a t : Str} {c : Value} {i j it : Nat} {np p1 p2 p3 p4 p5 p6 p7 pos pos' : Pos} {f c' : Addr} {q : Str} {tlD : LD B.T} {tl : XK → Hp → VK → Prop} {KK : PySem.W.Frag} {nn : Nat}
theorem ds_try (hs : X.stack = X.env :: X.outer) (hf : X.env.frame = some X.env.locals) (hN : X.N.Nodup) (hi : X.N[i]? = some n) (hln : X.env.kindOf n = some .local) (hj : X.N[j]? = some m) (hlm : X.env.scope.names.lookup m = some .local) (hln2 : X.env.scope.names.lookup n = some .local)
    (ht : X.N[it]? = some t) (hlt : X.env.scope.names.lookup t = some .local) (hij : i ≠ j) (hK : X.K = B.K)
    (hex : X.ex = []) (hc : Names X x c) (hd : (n == ("__debug__" : Str)) = false) (hcd : (n == ("__classdict__" : Str)) = false) (hdm : (m == ("__debug__" : Str)) = false) (dd : DeedD X B a f c' q tlD tl)
    (hsw : swapsWith (.Call (.Name a p4) [] [] p5) (some (.Name t p6)) p7.line X.env = pure false := by rfl) (hKK : X.K = KK := by rfl) (hnn : X.N.length = nn := by rfl) :
    PS X (.Try [.Assign [.Name t p6] (.Call (.Name a p4) [] [] p5) p7] [.ExceptHandler (some (.Name x np)) (some n) [.Assign [.Name m p1] (.Name n p2) p3] pos'] [] [] pos) (liftS B (dTry KK c f tlD nn it i j)) := by
  subst hKK hnn
  let tb : WX → TS := fun W D σ H => ∃ (E : XK), (∀ cls d σ' H', E cls d H' → W cls d σ' H') ∧ σ[0]? = some (some (.ref f)) ∧ H c' = some (CodeO c' q) ∧ tl E H fun v H' => D.nx (σ.set it (some v)) H'
  refine ps_imp (ps_try_keep (tb := tb) hs hf hN hi hln hj hlm hln2 hex hc (Wo := fun _ _ _ _ => False) L2.takes0 hd hcd hdm (fun W pn xe tk _ => ?_)) ?_
  · refine ⟨fun pins s σ H D I ⟨E, hW, h0, hC, ht'⟩ => ?_⟩
    have act := dd.act W pn xe E p4 p5 tk hW
    have st := pss_one (ps_set (X := X.tr pn xe) (pos := p7) (pos' := p6) hN ht (.inl hlt) act hsw (hf := .inr hlt))
    exact st.run pins s σ H D I ⟨h0, hC, ht'⟩
  · rintro D σ H ⟨G, F, env, τ, Dd, s, ⟨h0, h⟩, En⟩
    have e0 : σ[0]? = some (some (.ref f)) := by
      have z : σ[0]?.join = some (.ref f) := s.e.at' 0 _ h0
      cases y : σ[0]? with
      | none => rw [y] at z; cases z
      | some o => rw [y] at z; exact congrArg some z
    refine ⟨fun cls d H2 => ∃ (x : Z.D) (τ2 : B.T) (G2 : Hp) (F2 : Addr → Prop), Step G F H G2 F2 H2 ∧ Ok B.S B.K τ2 G2 F2 H2 ∧ XR B.K G2 x cls d ∧ CatR X.K c x ∧ Dd.nx ((List.replicate X.N.length .no).set j (.d x)) τ2, ?_, e0, s.k.same _ _ (s.s.g _ _ dd.code), ?_⟩
    · rintro cls d σ' H2 ⟨x, τ2, G2, F2, st, ok, xr, ⟨C, eC, ex⟩, nx⟩
      refine ⟨true, by rw [xr.cls eC]; exact ex, fun _ a na hlen => ?_, fun z => by cases z⟩
      have f2 : Fin B G2 F2 H2 τ2 (upd G2 a (exV cls d a)) F2 (upd H2 a (exV cls d a)) := ⟨Step.new na ok.same ok.fh, ok.new na fun _ z => by cases z⟩
      have jl : j < X.N.length := (List.getElem?_eq_some_iff.mp hj).1
      have rp : Rp B.K (upd G2 a (exV cls d a)) (.ref a) x := xr.rp f2.s.g upd_same
      refine En.nx (upd G2 a (exV cls d a)) F2 _ _ _ τ2 (st.g.trans f2.s.g) ⟨(s.s.trans st).trans f2.s, f2.k, ?_, fun k sv e => ?_, fun k l xs ys _ e _ => ?_⟩ nx
      · rw [List.length_set, List.length_set, List.length_set, List.length_replicate, hlen]
      · by_cases hk : k = j
        · subst hk
          rw [List.getElem?_set_self (by rw [List.length_replicate]; exact jl)] at e
          cases e
          refine ⟨.ref a, ?_, rp⟩
          rw [List.getElem?_set_ne hij, List.getElem?_set_self (by rw [hlen]; exact jl)]
          rfl
        · rw [List.getElem?_set_ne (Ne.symm hk), List.getElem?_replicate] at e
          split at e
          · cases e; trivial
          · cases e
      · by_cases hk : k = j
        · subst hk
          rw [List.getElem?_set_self (by rw [List.length_replicate]; exact jl)] at e
          cases e
        · rw [List.getElem?_set_ne (Ne.symm hk), List.getElem?_replicate] at e
          split at e <;> cases e
    · refine dd.real _ H _ G F τ _ _ s.s s.k h (fun r τ2 G2 F2 H2 v st ok res q => ?_) fun x τ2 G2 F2 H2 cls d st ok xr ⟨q1, q2⟩ => ⟨x, τ2, G2, F2, st, ok, xr, q1, q2⟩
      obtain ⟨sa, e, q⟩ := opt_of q
      exact En.nx G2 F2 _ H2 _ τ2 st.g (s.sto ⟨st, ok⟩ res e) q
end
/-- THE RULE for such a def -/
theorem okC {P : Program} {w : World} {S : Sto} {K : PySem.W.Frag} {mg : Str → Option Value} {base : Heap} {x a : Str} {st : Stmt} {g : Addr} {fd : FuncData} {N : List Str} {k : Nat} {fc : FC S.T} (F : Fun K x x st g fd) (Sc : FnScope N [a] (defScope st)) (va : Vis (defScope st) a) (h0 : N[0]? = some a)
    (gm : mg x = some (.ref g)) (bd : L2.Binds K fd [a] [])
    (hbody : ∀ (cdv : Value) (A : Around) (outer : List Env) (s : Shared) (H : Hp) (G : Hp) (Fp : Addr → Prop) (f c' : Addr) (q : Str) (tlD : LD S.T) (tl : XK → Hp → VK → Prop), Room (k + 1) (A.deeper (envOfC x (defScope st) s.heap.objs.size g cdv)) →
      DeedD (cxOf CX0 P w K mg base N x (defScope st) g cdv A outer s H E0).nox ⟨S, K, G, Fp, H⟩ a f c' q tlD tl →
      ∃ t : WS S.T, PSs (cxOf CX0 P w K mg base N x (defScope st) g cdv A outer s H E0).nox (defBody st) (liftS ⟨S, K, G, Fp, H⟩ t) ∧ ∀ τ Qd, fc tlD τ Qd → t ⟨fun _ τ' => Qd (.d .none) τ', Qd, fun _ _ => False, fun _ _ => False⟩ ([.raw (.ref f)] ++ List.replicate (N.length - 1) .no) τ) :
    KnownC P w K mg base S x a k fc := by
  obtain ⟨oc, od, kV, doc, pm, an, cdv, ct, osl, rfl, lk, hcd⟩ := F.ex
  refine ⟨⟨g, _, _, _, _, _, doc, pm, cdv, ct, oc, an, od, osl, N, gm, F.kp, lk, hcd, bd, Sc, h0, va, ?_⟩⟩
  rintro X q rfl rfl rfl rfl rfl
  intro f c' s H Q tl act hr hco ⟨G, Fp, τ, Qd, tlD, ok, real, hfc, fin⟩
  obtain ⟨t, d, sem⟩ := hbody cdv X.A X.stack s H G Fp f c' q tlD tl hr ⟨fun W pn xe E p1 p2 tk hW => act W pn xe E p1 p2 tk hW, ok.nx c' _ hco, real⟩
  have hN : 1 ≤ N.length := (List.getElem?_eq_some_iff.mp h0).1
  exact ⟨_, d, G, Fp, _, τ, _, ⟨Step.refl _ _ _, ok, env_start (B := ⟨S, X.K, G, Fp, H⟩) (Ha := H) (rs := [.raw (.ref f)]) (.cons (show Res X.K H G Fp H (.raw (.ref f)) (.ref f) from rfl) .nil) rfl hN⟩, sem τ Qd hfc,
    ⟨fun G' F' σ' H' env' τ' _ st q => fin (.d .none) τ' G' F' H' .non st.s st.k Rp.non q, fun r τ' G' F' H' v f res q => fin r τ' G' F' H' v f.s f.k res q, fun _ _ _ _ _ _ _ _ q => q.elim, fun _ _ _ _ _ _ _ _ q => q.elim⟩⟩
end Z

namespace Z
open PySem PySem.Spec PyProof.Rows L2 LamX
/-! ### the end, with the tables of those defs that make lambdas -/
abbrev lamQ (x : Str) : Str := (x ++ ".<locals>.") ++ "<lambda>"
/-- a def's name, its code object, its table -/
abbrev TN := Str × Addr × Addr
abbrev tsOf (Tn : List TN) : List (Addr × Str) := Tn.map fun e => (e.2.2, lamQ e.1)
def FF_lawT : FW T2 := fun rs τ Q => ∃ ns : List Int, rs = [.d (.list (ns.map PyData.int))] ∧ ns.length ≤ 63 ∧ τ = ⟨.off, []⟩ ∧ ∀ τ', Q (.d (.bool true)) τ'
theorem law_startT {Tn : List TN} {K : PySem.W.Frag} {H : Hp} {a : Addr} {ns : List Int} (hl : ns.length ≤ 63) (h : SqP K H a (ns.map V.int)) (ht : ∀ p ∈ tsOf Tn, H p.1 = some (.tbl #[])) (hnt : ∀ b ps, H b = some (.tbl ps) → b ∈ (tsOf Tn).map (·.1)) (hnx : ∀ b φ, H b ≠ some (.ext φ)) :
    spD (theT (tsOf Tn)) K FF_lawT [.ref a] H (fun v _ => v = .bl true) fun _ _ _ => False := by
  classical
  have isT : ∀ b, b ∈ (tsOf Tn).map (·.1) → H b = some (.tbl #[]) := fun b hb => by
    obtain ⟨p, hp, e⟩ := List.mem_map.mp hb
    rw [← e]; exact ht p hp
  have sm : Same (fun b => if b ∈ (tsOf Tn).map (·.1) then none else H b) H := fun b o e => by
    have e : (if b ∈ (tsOf Tn).map (·.1) then none else H b) = some o := e
    by_cases h : b ∈ (tsOf Tn).map (·.1)
    · rw [if_pos h] at e; cases e
    · rw [if_neg h] at e; exact e
  have hS : SqP K (fun b => if b ∈ (tsOf Tn).map (·.1) then none else H b) a (ns.map V.int) := by
    have na : ∀ o, H a = some o → (∀ ps, o ≠ .tbl ps) → (if a ∈ (tsOf Tn).map (·.1) then none else H a) = some o := fun o e n => by
      rw [if_neg fun z => n _ (Option.some.inj (e.symm.trans (isT a z)))]; exact e
    rcases h with (h | ⟨o, h⟩) | h
    · exact .inl (.inl (na _ h fun _ z => by cases z))
    · exact .inl (.inr ⟨o, na _ h fun _ z => by cases z⟩)
    · exact .inr h
  refine ⟨_, fun b => b ∈ (tsOf Tn).map (·.1), ⟨.off, []⟩, [.d (.list (ns.map PyData.int))], fun r _ => r = .d (.bool true), H, ⟨sm, fun b hb => if_pos hb, (fun b hb => by rw [isT b hb]; exact fun z => by cases z), ⟨fun p => ⟨fun h => .inr (.inr h), fun h => ?_⟩, trivial, fun e he => (nomatch he), List.nodup_nil, fun p hp => ⟨#[], ht p hp, True.intro, fun pos cv hc => ?_⟩⟩, hnt, fun b φ e => absurd e (hnx b φ)⟩,
    .cons (.lst hS (rp_ints ns)) .nil, rfl, ⟨ns, rfl, hl, rfl, fun _ => rfl⟩, ?_⟩
  · rcases h with h | ⟨e, he, _⟩ | h
    · exact h.elim
    · exact nomatch he
    · exact h
  · have z : codeAmong pos [] = some cv := hc
    simp [codeAmong] at z
  · rintro r τ' G' F' H' v _ _ res rfl
    exact rbl res
section
variable {P : Program} {w : World} {K : PySem.W.Frag} {mg mb : Str → Option Value} {k : Nat} {fa a : Addr} {fd : FuncData} {x : Str} {sp : Sp} {s₁ : Shared} {vs : List Value} {ns : List Int} {Tn : List TN}
theorem law_gT (KX : K.In s₁.heap) (nsM : s₁.heap.Ns mainGlobals mg) (nsB : s₁.heap.Ns builtinsNs mb) (bb : ∀ x : Str, x ≠ "__name__" → mb x = bootBuiltins x) (lim : s₁.heap.NoLimit) (noG : s₁.gens = #[])
    (hT : ∀ e ∈ Tn, PySem.W.CodeHd s₁.heap e.2.1 e.2.2 ∧ s₁.heap.get? e.2.2 = some (PySem.W.tabObj #[])) (nT : ∀ e ∈ Tn, K.lookup e.2.2 = none)
    (hbm : ∃ (bm : Addr) (ob : Obj), mg "__builtins__" = some (.ref bm) ∧ bm ≠ builtinsNs ∧ s₁.heap.get? bm = some ob ∧ ob.cls = .type "module" ∧ ob.dict = some builtinsNs ∧ ob.data = .plain)
    (ha : s₁.heap.get? a = some { cls := .type "list", data := .seq vs.toArray }) (hi : IntsAre vs ns) (hl : ns.length ≤ sizeLine) (hr : Room k callerA)
    (F : ∀ base : Heap, K.In base → base.Ns mainGlobals mg → (∀ e ∈ Tn, TabB base mg e.2.1 e.2.2) → FnG P w K mg base k fa fd [x] sp) (bd : ∀ (s : Shared) (u : Value), BindsTo s fd ⟨[u], []⟩ [(x, u)])
    (start : ∀ H : Hp, SqP K H a (ns.map V.int) → (∀ p ∈ tsOf Tn, H p.1 = some (.tbl #[])) → (∀ b ps, H b = some (.tbl ps) → b ∈ (tsOf Tn).map (·.1)) → (∀ b φ, H b ≠ some (.ext φ)) → sp [.ref a] H (fun v _ => v = .bl true) fun _ _ _ => False) :
    codeAny (model P w) callerA (.call (.ref fa) ⟨[.ref a], []⟩) (fun r s' => r = .ok (.ret (.bool true)) ∧ OldK s₁.heap s'.heap ∧ s'.os = s₁.os ∧ AllBare s'.gens) s₁ := by
  classical
  have rv := vals_ints hi
  have lv := hi.length
  have hz : (ns.map V.int).length ≤ sizeLine := by rw [List.length_map]; exact hl
  let obj : Obj := { cls := .type "list", data := .seq vs.toArray }
  let tbs : List Addr := Tn.map fun e => e.2.2
  have etb : (tsOf Tn).map (·.1) = tbs := by show (Tn.map fun e => (e.2.2, lamQ e.1)).map (·.1) = _; rw [List.map_map]; rfl
  have atT : ∀ b, b ∈ tbs → s₁.heap.get? b = some (PySem.W.tabObj #[]) := fun b hb => by
    obtain ⟨e, he, q⟩ := List.mem_map.mp hb
    rw [← q]; exact (hT e he).2
  have aT : a ∉ tbs := fun z => by
    have q := atT a z
    rw [ha] at q
    have z2 : Data.seq vs.toArray _ = Data.fields #[] := congrArg Obj.data (Option.some.inj q)
    cases z2
  have main : ∀ H : Hp, SqP K H a (ns.map V.int) → (∀ b ∈ tbs, H b = some (.tbl #[])) → HOk P w H s₁.heap → (∀ b u, H b = some u → (b = a ∧ u = .frz obj (.lst (ns.map V.int)) ∧ K.lookup a = none) ∨ (b ∈ tbs ∧ u = .tbl #[])) →
      codeAny (model P w) callerA (.call (.ref fa) ⟨[.ref a], []⟩) (fun r s' => r = .ok (.ret (.bool true)) ∧ OldK s₁.heap s'.heap ∧ s'.os = s₁.os ∧ AllBare s'.gens) s₁ := by
    intro H hS hTb ok only
    -- what is neither the script nor a table is untracked
    have free : ∀ {b : Addr} {o : Obj}, s₁.heap.get? b = some o → o.data ≠ obj.data → o.data ≠ .fields #[] → H b = none := fun {b o} e n1 n2 => by
      cases q : H b with
      | none => rfl
      | some u =>
        rcases only b u q with ⟨z, _⟩ | ⟨z, _⟩
        · subst z
          rw [ha] at e
          exact (n1 (congrArg Obj.data (Option.some.inj e)).symm).elim
        · rw [atT b z] at e
          exact (n2 (congrArg Obj.data (Option.some.inj e)).symm).elim
    have stay : ∀ {b : Addr} {o : Obj}, s₁.heap.get? b = some o → H b = none → (hidT s₁.heap H).get? b = some o := fun e n => hidT_get e n
    have freeD : ∀ {b : Addr} {o : Obj} {es : Array DictEntry} {ep : Nat}, s₁.heap.get? b = some o → o.data = .dict es ep → H b = none := fun {b o es ep} e d =>
      free e (fun z => by rw [d] at z; cases z) fun z => by rw [d] at z; cases z
    have nsH : ∀ {b : Addr} {m : Str → Option Value}, s₁.heap.Ns b m → (hidT s₁.heap H).Ns b m := fun {b m} ⟨o, es, ep, e, d, r⟩ => ⟨o, es, ep, stay e (freeD e d), d, r⟩
    have inH : K.In (hidT s₁.heap H) := fun b o e => stay (KX b o e) (by
      cases q : H b with
      | none => rfl
      | some u =>
        rcases only b u q with ⟨z, _, n⟩ | ⟨z, _⟩
        · subst z
          rw [n] at e
          cases e
        · obtain ⟨t, ht, et⟩ := List.mem_map.mp z
          rw [← et, nT t ht] at e
          cases e)
    have md : Mod K mg (hidT s₁.heap H) := ⟨inH, nsH nsM, ⟨mb, nsH nsB, bb⟩, let ⟨mc, h1, h2⟩ := lim; ⟨mc, nsH h1, h2⟩⟩
    have tabB : ∀ e ∈ Tn, TabB (hidT s₁.heap H) mg e.2.1 e.2.2 := fun e he => by
      obtain ⟨hc, hp⟩ := hT e he
      refine ⟨?_, ?_, fun z => ?_⟩
      · obtain ⟨o, us, file, tf, flags, tg, inF, text, tt, e1, r1, r2, r3, r⟩ := hc
        refine ⟨o, us, file, tf, flags, tg, inF, text, tt, stay e1 (free e1 (fun z => ?_) fun z => ?_), r1, r2, r3, r⟩
        · rw [r2] at z; cases z
        · rw [r2] at z
          cases z
          simp at r3
      · obtain ⟨bm, ob, b1, b2, b3, b4, b5, b6⟩ := hbm
        refine ⟨bm, ob, b1, b2, fun q => ?_, fun q => ?_, stay b3 (free b3 (fun z => ?_) fun z => ?_), b4, b5, b6⟩
        · obtain ⟨o, es, ep, e2, d2, _⟩ := nsM
          rw [q, e2] at b3
          cases b3
          rw [d2] at b6
          cases b6
        · rw [q, hp] at b3
          cases b3
          cases b6
        · rw [b6] at z; cases z
        · rw [b6] at z; cases z
      · obtain ⟨o, es, ep, e2, d2, _⟩ := nsM
        rw [z, hp] at e2
        cases e2
        cases d2
    have z0 : Env0 P w K mg (hidT s₁.heap H) callerA [] s₁ H := ⟨rfl, md, fun b o e => of_hidT e, Nat.le_of_eq (hidT_size _ _), trivial, fun b hb => (nomatch hb), ok, .of_eq noG⟩
    have st := start H hS (fun p hp => hTb _ (by rw [← etb]; exact List.mem_map.mpr ⟨p, hp, rfl⟩)) (fun b ps e => by
      rcases only b _ e with ⟨_, z, _⟩ | ⟨z, _⟩
      · cases z
      · rw [etb]; exact z) (fun b φ e => by
      rcases only b _ e with ⟨_, z, _⟩ | ⟨_, z⟩ <;> cases z)
    refine codeAny_mono ((F _ inH (nsH nsM) tabB).run callerA [] s₁ H ⟨[.ref a], []⟩ [.ref a] [.ref a] _ _ ⟨hr, rfl⟩ z0 (bd s₁ (.ref a)) (.cons rfl .nil) st) fun r s2 h => ?_
    match r, h with
    | .error e, h => exact False.elim h
    | .ok .next, h => exact False.elim h
    | .ok .brk, h => exact False.elim h
    | .ok .cont, h => exact False.elim h
    | .ok (.ret u), ⟨v, H2, os, bare, un, ok2, rr, q⟩ =>
      have q : v = .bl true := q
      subst q
      have eu : u = Value.bool true := rr
      subst eu
      have key : ∀ b o, b ∉ tbs → s₁.heap.get? b = some o → s2.heap.get? b = some o := fun b o nb e => by
        cases q : H b with
        | none => exact un.keep b o e q (fun z => nomatch z) (fun z => nomatch z)
        | some u =>
          rcases only b u q with ⟨z, eu, _⟩ | ⟨z, _⟩
          · subst eu
            obtain ⟨e1, _⟩ := ok b _ q
            obtain ⟨e2, _⟩ := ok2 b _ (un.frzs b obj _ q)
            rw [e] at e1
            cases e1
            exact e2
          · exact (nb z).elim
      have grown : ∀ b ∈ tbs, ∃ more : Array Value, s2.heap.get? b = some (PySem.W.tabObj more) := fun b hb => by
        obtain ⟨more, z⟩ := un.tbls b #[] (hTb b hb)
        exact ⟨_, ok2 b _ z⟩
      refine ⟨rfl, ⟨fun b o e => ?_, fun b o e => ?_⟩, os, bare⟩
      · by_cases hb : b ∈ tbs
        · obtain ⟨t, ht, et⟩ := List.mem_map.mp hb
          obtain ⟨more, hm⟩ := grown b hb
          rw [atT b hb] at e
          cases e
          have hc := ((hT t ht).1.tab (hT t ht).2).isCodeTable
          rw [et] at hc
          exact .inr (.inl ⟨hc, rfl, #[], more, rfl, by rw [Array.empty_append]; exact hm⟩)
        · exact .inl (key b o hb e)
      · by_cases hb : b ∈ tbs
        · obtain ⟨more, hm⟩ := grown b hb
          exact ⟨_, hm⟩
        · exact ⟨o, key b o hb e⟩
  cases hk : K.lookup a with
  | some o =>
    have e := KX a o hk
    rw [ha] at e
    cases e
    refine main (fun b => if b ∈ tbs then some (.tbl #[]) else none) (.inr ⟨vs, hk, hz, rv⟩) (fun b hb => if_pos hb) (fun b u z => ?_) fun b u z => ?_
    · by_cases hb : b ∈ tbs
      · have z2 := (if_pos hb).symm.trans z
        cases z2
        exact atT b hb
      · have z2 := (if_neg hb).symm.trans z
        cases z2
    · by_cases hb : b ∈ tbs
      · have z2 := (if_pos hb).symm.trans z
        cases z2
        exact .inr ⟨hb, rfl⟩
      · have z2 := (if_neg hb).symm.trans z
        cases z2
  | none =>
    refine main (fun b => if b = a then some (.frz obj (.lst (ns.map V.int))) else if b ∈ tbs then some (.tbl #[]) else none) (.inl (.inr ⟨obj, if_pos rfl⟩)) (fun b hb => (if_neg fun z => aT (by rw [← z]; exact hb)).trans (if_pos hb)) (fun b u z => ?_) fun b u z => ?_
    · by_cases hb : b = a
      · have z2 := (if_pos hb).symm.trans z
        cases z2
        subst hb
        exact ⟨ha, hz, vs, _, rv, ha⟩
      · have z1 := (if_neg hb).symm.trans z
        by_cases hb2 : b ∈ tbs
        · have z2 := (if_pos hb2).symm.trans z1
          cases z2
          exact atT b hb2
        · have z2 := (if_neg hb2).symm.trans z1
          cases z2
    · by_cases hb : b = a
      · have z2 := (if_pos hb).symm.trans z
        cases z2
        exact .inl ⟨hb, rfl, hk⟩
      · have z1 := (if_neg hb).symm.trans z
        by_cases hb2 : b ∈ tbs
        · have z2 := (if_pos hb2).symm.trans z1
          cases z2
          exact .inr ⟨hb2, rfl⟩
        · have z2 := (if_neg hb2).symm.trans z1
          cases z2
end
/-- the table of the code object at c -/
def codeTab (K : PySem.W.Frag) (c : Addr) : Option Addr := match K.lookup c with
  | some ⟨_, _, .fields vs, _⟩ => (match (vs[11]? : Option Value) with
    | some (.ref P) => some P
    | _ => none)
  | _ => none
/-- what the top tells of a def that makes lambdas -/
structure TabK (K : PySem.W.Frag) (e : TN) : Prop where
  t : codeTab K e.2.1 = some e.2.2
  c : PySem.W.codeHdIn K e.2.1 e.2.2 = true
  n : K.lookup e.2.2 = none
theorem walk_ofT {l : PySem.W.OpenLaw} {k : Nat} {q : Program} {loose : List Str} {XP : (Str → Option Value) → Heap → Prop} {YP : World → Heap → Prop} {d : DefRec} {K : Params → PySem.W.Frag} {x : Str} {Tn : List TN}
    (hn : l.most = some 63) (hdf : d.params.defaults = []) (hr : Room k callerA)
    (hY : ∀ (w : World) (h : Heap), YP w h → (K w.params).In h) (hTn : ∀ (w : World), ∀ e ∈ Tn, TabK (K w.params) e) (hTab : ∀ (w : World) (h : Heap), YP w h → ∀ e ∈ Tn, h.get? e.2.2 = some (PySem.W.tabObj #[]))
    (F : ∀ (w : World) (mg : Str → Option Value) (fa : Addr) (h : Heap), (K w.params).In h → h.Ns mainGlobals mg → mg d.name = some (.ref fa) →
      ∃ fd : FuncData, (∀ (s : Shared) (u : Value), BindsTo s fd ⟨[u], []⟩ [(x, u)]) ∧
        ∀ base : Heap, (K w.params).In base → base.Ns mainGlobals mg → (∀ e ∈ Tn, TabB base mg e.2.1 e.2.2) → FnG l.prog w (K w.params) mg base k fa fd [x] (spD (theT (tsOf Tn)) (K w.params) FF_lawT))
    : PySem.W.WalkO q loose XP YP l.row.toRowW d [] (fun f vs => PySem.call f vs) := by
  refine Att.attach_call hn hdf fun w s₀ s₁ mg mb fa o pm cd doc a vs ns G Y ho hd hcd hmg hobj hints hlen hg => ?_
  have KX := hY w _ Y
  obtain ⟨fd, hb, hF⟩ := F w mg fa _ KX G.T.g hmg
  have h63 : 63 ≤ sizeLine := by rw [sizeLine_eq]; decide
  have hT : ∀ e ∈ Tn, PySem.W.CodeHd s₁.heap e.2.1 e.2.2 ∧ s₁.heap.get? e.2.2 = some (PySem.W.tabObj #[]) := fun e he => by
    exact ⟨PySem.W.codeHd_of_K KX (hTn w e he).c, hTab w _ Y e he⟩
  exact law_gT KX G.T.g G.T.b G.T.builtins G.T.nolimit hg hT (fun e he => (hTn w e he).n) G.T.bmain hobj hints (Nat.le_trans hlen h63) hr hF hb fun H hS h1 h2 h3 => law_startT hlen hS h1 h2 h3
end Z

namespace Z
open PySem PySem.Spec PyProof.Rows L2
/-! ### defs at the wider store -/
section
variable {P : Program} {w : World} {K : PySem.W.Frag} {mg : Str → Option Value} {base : Heap} {Ts : List (Addr × Str)}
/-- a def of the law (repr may be asked in it, lambdas made) -/
theorem okG {x qual : Str} {st : Stmt} {f : Addr} {fd : FuncData} {N ps : List Str} {k : Nat} {FF : FW T2} (F : Fun K x qual st f fd) (Sc : FnScope N ps (defScope st)) (len : ∀ rs τ Q, FF rs τ Q → rs.length = ps.length) (hl : ps.length ≤ N.length)
    (hbody : ∀ (cdv : Value) (A : Around) (outer : List Env) (s : Shared) (H : Hp) (E : XK) (G : Hp) (Fp : Addr → Prop), fd.code = cdv → RoomG k (A.deeper (PyProof.Rows.envOfC qual (defScope st) s.heap.objs.size f cdv)) →
      ∃ t : WS T2, PSs (cxOf CX0 P w K mg base N qual (defScope st) f cdv A outer s H E).nox (defBody st) (liftS ⟨theT Ts, K, G, Fp, H⟩ t) ∧ ∀ (rs : List SV) (τ : T2) (Qd : SV → T2 → Prop), FF rs τ Qd → t ⟨fun _ τ' => Qd (.d .none) τ', Qd, fun _ _ => False, fun _ _ => False⟩ (rs ++ List.replicate (N.length - rs.length) .no) τ) :
    FnG P w K mg base (k + 1) f fd ps (spD (theT Ts) K FF) := by
  refine fng_of F Sc (fun vs H Q E ⟨G, F, τ, rs, Qd, Ha, ok, r, dr, h, fin⟩ => by rw [← r.length]; exact len _ _ _ h) fun cdv A outer s H vs Q E hcd hr ⟨G, Fp, τ, rs, Qd, Ha, ok, r, dr, h, fin⟩ => ?_
  obtain ⟨t, d, sem⟩ := hbody cdv A outer s H E G Fp hcd hr
  have hle : rs.length ≤ N.length := by rw [len _ _ _ h]; exact hl
  exact ⟨_, d, G, Fp, _, τ, _, ⟨Step.refl _ _ _, ok, env_start (B := ⟨theT Ts, K, G, Fp, H⟩) r dr hle⟩, sem rs τ Qd h,
    ⟨fun G' F' σ' H' env' τ' _ st q => fin (.d .none) τ' G' F' H' .non st.s st.k Rp.non q, fun r τ' G' F' H' v f res q => fin r τ' G' F' H' v f.s f.k res q, fun _ _ _ _ _ _ _ _ q => q.elim, fun _ _ _ _ _ _ _ _ q => q.elim⟩⟩
/-- a def of the program that lets nothing out -/
theorem okP {x qual : Str} {st : Stmt} {f : Addr} {fd : FuncData} {N ps : List Str} {k : Nat} {FF : FW T2} (F : Fun K x qual st f fd) (Sc : FnScope N ps (defScope st)) (len : ∀ rs τ Q, FF rs τ Q → rs.length = ps.length) (hl : ps.length ≤ N.length)
    (hbody : ∀ (cdv : Value) (A : Around) (outer : List Env) (s : Shared) (H : Hp) (E : XK) (G : Hp) (Fp : Addr → Prop), Room k (A.deeper (PyProof.Rows.envOfC qual (defScope st) s.heap.objs.size f cdv)) →
      ∃ t : WS T2, PSs (cxOf CX0 P w K mg base N qual (defScope st) f cdv A outer s H E).nox (defBody st) (liftS ⟨theT Ts, K, G, Fp, H⟩ t) ∧ ∀ (rs : List SV) (τ : T2) (Qd : SV → T2 → Prop), FF rs τ Qd → t ⟨fun _ τ' => Qd (.d .none) τ', Qd, fun _ _ => False, fun _ _ => False⟩ (rs ++ List.replicate (N.length - rs.length) .no) τ) :
    FnOk P w K mg base CX0 (k + 1) f fd ps (spD (theT Ts) K FF) := okD (S := theT Ts) F Sc len hl hbody
/-- a def that may raise -/
theorem okX {x qual : Str} {st : Stmt} {f : Addr} {fd : FuncData} {N ps : List Str} {k : Nat} {FX : FWX T2} (F : Fun K x qual st f fd) (Sc : FnScope N ps (defScope st)) (len : ∀ rs τ Q Ed, FX rs τ Q Ed → rs.length = ps.length) (hl : ps.length ≤ N.length)
    (hbody : ∀ (cdv : Value) (A : Around) (outer : List Env) (s : Shared) (H : Hp) (E : XK) (G : Hp) (Fp : Addr → Prop) (Ed : Z.D → T2 → Prop), Room k (A.deeper (PyProof.Rows.envOfC qual (defScope st) s.heap.objs.size f cdv)) → EdR ⟨theT Ts, K, G, Fp, H⟩ Ed E →
      Takes (cxOf (L2.CX P w) P w K mg base N qual (defScope st) f cdv A outer s H E) (fun cls d _ H' => E cls d H') → Passes (L2.CX P w) (cxOf (L2.CX P w) P w K mg base N qual (defScope st) f cdv A outer s H E) E →
      PassesOwn (model P w) (A.deeper (PyProof.Rows.envOfC qual (defScope st) s.heap.objs.size f cdv)) (cxOf (L2.CX P w) P w K mg base N qual (defScope st) f cdv A outer s H E).env (cxOf (L2.CX P w) P w K mg base N qual (defScope st) f cdv A outer s H E).xe →
      ∃ t : WS T2, PSs (cxOf (L2.CX P w) P w K mg base N qual (defScope st) f cdv A outer s H E) (defBody st) (liftS ⟨theT Ts, K, G, Fp, H⟩ t) ∧ ∀ (rs : List SV) (τ : T2) (Qd : SV → T2 → Prop), FX rs τ Qd Ed → t ⟨fun _ τ' => Qd (.d .none) τ', Qd, fun _ _ => False, fun _ _ => False⟩ (rs ++ List.replicate (N.length - rs.length) .no) τ) :
    FnOk P w K mg base (L2.CX P w) (k + 1) f fd ps (spDX (theT Ts) K FX) := okDx (S := theT Ts) F Sc len hl hbody
/-! what is drawn by, at the wider store -/
def FF_begin : FW T2 := fun rs τ Q => ∃ (ns : List Int) (cs : List (Addr × Cel)), rs = [.d (.list (ns.map PyData.int))] ∧ ns.length ≤ 63 ∧ τ = ⟨.off, cs⟩ ∧ ∀ a, Q (.raw (.ref a)) ⟨.on a 1152921504606846976, cs⟩
def FF_next : FW T2 := fun rs τ Q => ∃ (a : Addr) (b : Nat) (n : Int) (cs : List (Addr × Cel)), rs = [.raw (.ref a), .d (.int n)] ∧ τ = ⟨.on a (b + 1), cs⟩ ∧ (0 < n ∧ n < 1073741824) ∧ ∀ r : Int, 0 ≤ r → r < n → Q (.d (.int r)) ⟨.on a b, cs⟩
theorem imp_fr {CX : CXT} {k : Nat} {f : Addr} {fd : FuncData} {ps : List Str} {FF : FW DrT} {FT : FW T2} (F : FnOk P w K mg base CX k f fd ps (spD (theS (Ts.map (·.1))) K FF)) (h : ∀ rs τ Q, FT rs τ Q → frm FF rs τ Q) : FnOk P w K mg base CX k f fd ps (spD (theT Ts) K FT) :=
  F.imp fun vs H Q E ⟨G, F, τ, rs, Qd, Ha, ok, r, dr, hf, fin⟩ => spD_fr ⟨G, F, τ, rs, Qd, Ha, ok, r, dr, h _ _ _ hf, fin⟩
theorem begin_fr (rs : List SV) (τ : T2) (Q : SV → T2 → Prop) : FF_begin rs τ Q → frm FF__law_begin rs τ Q := by
  rintro ⟨ns, cs, rfl, h, rfl, q⟩
  exact ⟨ns, rfl, h, rfl, fun a => ⟨rfl, q a⟩⟩
theorem next_fr (rs : List SV) (τ : T2) (Q : SV → T2 → Prop) : FF_next rs τ Q → frm FF__law_next rs τ Q := by
  rintro ⟨a, b, n, cs, rfl, rfl, h, q⟩
  exact ⟨a, b, n, rfl, rfl, h, fun r r0 r1 => ⟨rfl, q r r0 r1⟩⟩
end
theorem nextT {a : Addr} {b : Nat} {n : Int} {cs : List (Addr × Cel)} {Q : SV → T2 → Prop} (hb : 1 ≤ b) (h0 : 0 < n) (h1 : n < 1073741824) (h : ∀ r : Int, 0 ≤ r → r < n → Q (.d (.int r)) ⟨.on a (b - 1), cs⟩) : FF_next [.raw (.ref a), .d (.int n)] ⟨.on a b, cs⟩ Q :=
  ⟨a, b - 1, n, cs, rfl, by rw [Nat.sub_add_cancel hb], ⟨h0, h1⟩, h⟩
/-! ### how many there are of a tuple of ints, each once -/
def dis : List Int → List Int
  | [] => []
  | a :: r => if a ∈ r then dis r else a :: dis r
theorem dis_mem {x : Int} : ∀ l : List Int, x ∈ dis l ↔ x ∈ l
  | [] => Iff.rfl
  | a :: r => by
    unfold dis
    split
    · rename_i h
      rw [dis_mem r, List.mem_cons]
      exact ⟨.inr, fun z => z.elim (fun e => by rw [e]; exact h) id⟩
    · rw [List.mem_cons, List.mem_cons, dis_mem r]
theorem dis_nodup : ∀ l : List Int, (dis l).Nodup
  | [] => List.nodup_nil
  | a :: r => by
    unfold dis
    split
    · exact dis_nodup r
    · rename_i h
      rw [List.nodup_cons, dis_mem]
      exact ⟨h, dis_nodup r⟩
theorem nodup_le {α : Type} [DecidableEq α] : ∀ {a b : List α}, a.Nodup → (∀ x ∈ a, x ∈ b) → a.length ≤ b.length
  | [], _, _, _ => Nat.zero_le _
  | x :: r, b, h, s => by
    rw [List.nodup_cons] at h
    have hx : x ∈ b := s x List.mem_cons_self
    have ih := nodup_le (a := r) (b := b.erase x) h.2 fun y hy => (List.mem_erase_of_ne (fun e => by rw [e] at hy; exact h.1 hy)).mpr (s y (List.mem_cons_of_mem _ hy))
    rw [List.length_erase_of_mem hx] at ih
    have := List.length_pos_of_mem hx
    rw [List.length_cons]
    omega
theorem dis_len_le (l : List Int) : (dis l).length ≤ l.length := nodup_le (dis_nodup l) fun x h => (dis_mem l).mp h
theorem dis_nd (l : List Int) : decide ((dis l).length = l.length) = decide l.Nodup := by
  rw [decide_eq_decide]
  constructor
  · intro h
    induction l with
    | nil => exact List.nodup_nil
    | cons a r ih =>
      unfold dis at h
      split at h
      · have := dis_len_le r
        rw [List.length_cons] at h
        omega
      · rename_i ha
        rw [List.length_cons, List.length_cons] at h
        exact List.nodup_cons.mpr ⟨ha, ih (by omega)⟩
  · intro h
    exact Nat.le_antisymm (dis_len_le l) (nodup_le h fun x hx => (dis_mem l).mpr hx)
def tLenSetT (K : PySem.W.Frag) (te : TE) : TE := fun σ H Q => te σ H fun x H1 => ∃ (l : Addr) (ns : List Int), x = .ref l ∧ SqT K H1 l (ns.map V.int) ∧ ns.length ≤ 4000 ∧ Q (.int ((dis ns).length : Nat)) H1
theorem pe_lenSetT {X : Cx} {a : Expr} {te : TE} {p p2 q pos : Pos} (hg : Gl X "len") (hm : X.mg "len" = none) (hg2 : Gl X "set") (hm2 : X.mg "set" = none) (ha : PE X a te) (hc : X.calm = true := by rfl)
    (na : starEach [a] X.env = (false, eval a X.env) :: starEach [] X.env := by rfl) : PE X (.Call (.Name "len" p) [.Call (.Name "set" p2) [a] [] q] [] pos) (tLenSetT X.K te) := by
  constructor
  intro pins s σ H Q I h
  refine Call_ (ld_blt I hg hm PySem.boot_len (PyProof.Rows.callWith_builtin1 (PyProof.Rows.args_cons ?_ rfl) rfl rfl))
  refine Call_ (ld_blt I hg2 hm2 (u := .type "set") (by decide +kernel) (PyProof.Rows.callWith_type1 (PyProof.Rows.args_cons (thn (ha.run pins s σ H _ I h) fun v s1 ⟨x, H1, I1, r1, l, ns, ex, hT, hl, q1⟩ => PyProof.Rows.args_nil ?_) na) na rfl))
  subst ex
  cases r1
  obtain ⟨its, r, hI, hz⟩ := I1.tuple hT
  refine call_set_tupI ns (I1.ok.hd hc) (show s1.heap.IsTuple l its.toArray from hI) (ints_of_vals r) (by unfold scanBound; omega) fun h' tk c hS hcle hk => PyProof.Rows.args_nil ?_
  obtain ⟨o, es, ep, t, ho, hex, hd, _, hnd, hmem, _, hf, hn, _⟩ := hS
  have ek : (es.toList.map keyOf).length = (dis ns).length := Nat.le_antisymm (nodup_le hnd fun x hx => (dis_mem ns).mpr (of_decide_eq_true ((hmem x).mpr hx))) (nodup_le (dis_nodup ns) fun x hx => (hmem x).mp (decide_eq_true ((dis_mem ns).mp hx)))
  have en : es.size = (dis ns).length := by rw [← ek, List.length_map, Array.length_toList]
  have I2 : Inv X pins σ H1 { s1 with heap := h', toks := tk } := I1.kept hk
  have := dis_len_le ns
  exact call_len_set ho hex hd hf (by omega) ⟨.int ((dis ns).length : Nat), H1, I2.tok _, ⟨_, by rw [en]⟩, q1⟩
def tupI? : SV → Option (List Int)
  | .d (.tuple xs) => ints? xs
  | _ => none
def dLenSet {T : Type} (te : W T) : W T := fun env τ Q => te env τ fun r τ1 => ∃ ns, tupI? r = some ns ∧ ns.length ≤ 4000 ∧ Q (.d (.int ((dis ns).length : Nat))) τ1
section
variable {X : Cx} {B : Bk} {e : Expr} {te : W B.T}
theorem de_lenSet {p p2 q pos : Pos} (hK : X.K = B.K) (hg : Gl X "len") (hm : X.mg "len" = none) (hg2 : Gl X "set") (hm2 : X.mg "set" = none) (he : PE X e (lift B te)) (hc : X.calm = true := by rfl)
    (na : starEach [e] X.env = (false, eval e X.env) :: starEach [] X.env := by rfl) : PE X (.Call (.Name "len" p) [.Call (.Name "set" p2) [e] [] q] [] pos) (lift B (dLenSet te)) :=
  pe_imp (pe_lenSetT hg hm hg2 hm2 he hc na) fun σ H Q ⟨G, F, env, τ, Qd, s, t, fin⟩ => ⟨G, F, env, τ, _, s, t, fun r τ1 G1 F1 H1 v f1 r1 ⟨ns, en, hl, q⟩ => by
    cases r with
    | d x =>
      cases x with
      | tuple xs =>
        obtain ⟨l, vs, ev, hT, ra⟩ := rtup r1
        have e2 := ints_ok ra en
        subst e2
        rw [hK]
        exact ⟨l, ns, ev, same_seqT f1.k.same hT, hl, fin (.d (.int _)) τ1 G1 F1 H1 _ f1 (.int _) q⟩
      | _ => cases en
    | _ => cases en⟩
/-! ### xs[::-1] of a list -/
def dRev {T : Type} (te : W T) : W T := fun env τ Q => te env τ fun r τ1 => opt r.lst? fun xs => Q (.ol xs.reverse) τ1
theorem de_rev {k : Nat} {p1 p2 p3 pos : Pos} (hK : X.K = B.K) (he : PE X e (lift B te)) : PE X (.Subscript e (.Slice none none (some (.UnaryOp .USub (.Constant (.int 1) k p1) p2)) p3) pos) (lift B (dRev te)) :=
  pe_imp (pe_revL he) fun σ H Q ⟨G, F, env, τ, Qd, s, t, fin⟩ => ⟨G, F, env, τ, _, s, t, fun r τ1 G1 F1 H1 v f1 r1 q => by
    obtain ⟨xs, ex, q⟩ := opt_of q
    obtain ⟨p, vs, ev, hs, ra⟩ := r1.sql f1.k.same ex
    rw [hK]
    exact ⟨p, vs, ev, hs.sql, fun l hl => (FinT.trans fin f1).ol f1.k hl ra.reverse q⟩⟩
end
/-! ### repr, of {} too -/
def rReprE (K : PySem.W.Frag) : List V → Hp → VK → Prop := fun xs H Q => rRepr K xs H Q ∨ ∃ a, xs = [.ref a] ∧ H a = some (.dK []) ∧ Q (.str (PyData.dict []).shown) H
theorem cr_reprE {X : Cx} (hg : X.A.guards = some []) (hu : X.A.units + 64 + 1 < cLine) : CallR X (.builtin "repr") (rReprE X.K) := by
  intro pins s σ H xs us Q I r h
  rcases h with h | ⟨a, rfl, hd, q⟩
  · exact cr_repr hg hu pins s σ H xs us Q I r h
  · obtain ⟨u, rfl, ru⟩ := vals1 r
    cases (show u = Value.ref a from ru)
    obtain ⟨_, hsys, vs, kv, o, es, ep, ho, hex, hdt, _, hp, _⟩ := (show ObjOk X.prog X.w H s.heap a (.dK []) from I.hok a _ hd)
    cases kv
    have e0 : es.toList = [] := by
      cases hq : es.toList with
      | nil => rfl
      | cons x r => rw [hq] at hp; cases hp
    have rd : Reads s.heap (.ref a) (.dict []) [a] := by
      have := Reads.dict (h := s.heap) (kvs := []) (as := []) (bs := []) ho hex.1 hdt (by rw [e0]; exact .nil) (by rw [e0]; exact .nil)
      simpa using this
    have hdp : PyData.depth (.dict []) = 1 := by decide
    refine PySem.repr_of_reads' rd rfl (fun _ z => ?_) hg (by rw [hdp]; omega) (fun _ _ e => e) (fun h' t tk hk => ?_) (by decide)
    · rw [List.mem_singleton] at z
      rw [← z] at hsys
      simp at hsys
    · exact ⟨.str _, H, I.kept hk, ⟨t, rfl⟩, q⟩
def gReprE (rs : List SV) (Q : SV → Prop) : Prop := match rs with
  | [.d (.dict [])] => Q (.d (.str (PyData.dict []).shown))
  | rs => gRepr rs Q
theorem cd_reprE {X : Cx} {B : Bk} (hK : X.K = B.K) : CallD B (rReprE X.K) gReprE := fun rs vs Ha G F H τ Qv Q k r h fin => by
  unfold gReprE at h
  split at h
  · obtain ⟨v, rfl, rx⟩ := r.one
    cases (rx : Rp B.K G v (.dict [])) with
    | emp e => exact .inr ⟨_, rfl, k.same _ _ e, fin.d k (.str _) h⟩
  · exact .inl (cd_repr hK rs vs Ha G F H τ Qv Q k r h fin)
end Z

namespace Z
open PySem L2
/-! ### equations for the new readings -/
section
variable {T : Type}
def kCallX (FX : FWX T) (Ed : Z.D → T → Prop) (Q : SV → T → Prop) (rs : List SV) (τ : T) : Prop := rs.all SV.dr = true ∧ FX rs τ Q Ed
theorem dCallX_k (FX : FWX T) (Ed : Z.D → T → Prop) (ta : WA T) (env : List SV) (τ : T) (Q : SV → T → Prop) : dCallX FX Ed ta env τ Q = ta env τ (kCallX FX Ed Q) := rfl
def kIsX (K : PySem.W.Frag) (us : List Value) (Q : SV → T → Prop) (r : SV) (τ : T) : Prop := ∃ (x : Z.D) (C : Addr) (b : Bool), r = .d x ∧ exC? x = some (C : Nat) ∧ ExC K C ∧ PySem.W.kitAny K (.ref C) us = some b ∧ Q (.d (.bool b)) τ
theorem dIsX_k (K : PySem.W.Frag) (us : List Value) (te : W T) (env : List SV) (τ : T) (Q : SV → T → Prop) : dIsX K us te env τ Q = te env τ (kIsX K us Q) := rfl
theorem kIsX_of {K : PySem.W.Frag} {us : List Value} {Q : SV → T → Prop} {x : Z.D} {τ : T} {C : Addr} (b : Bool) (ex : exC? x = some (C : Nat)) (c : ExC K C) (k : PySem.W.kitAny K (.ref C) us = some b) (h : Q (.d (.bool b)) τ) : kIsX K us Q (.d x) τ := ⟨x, C, b, rfl, ex, c, k, h⟩
/-- a lambda, by data -/
def ldOf (tb : (Z.D → T → Prop) → W T) (env : List SV) : LD T := fun τ Q Ed => tb Ed env τ Q
theorem dLam_k (fc : FC T) (tb : (Z.D → T → Prop) → W T) (env : List SV) (τ : T) (Q : SV → T → Prop) : dLam fc tb env τ Q = fc (ldOf tb (env.map capS)) τ Q := rfl
theorem dRaise_k (x : Z.D) (Ed : Z.D → T → Prop) (D : DEnds T) (env : List SV) (τ : T) : dRaise x Ed D env τ = Ed x τ := rfl
def kLenSet (Q : SV → T → Prop) (r : SV) (τ : T) : Prop := ∃ ns, tupI? r = some ns ∧ ns.length ≤ 4000 ∧ Q (.d (.int ((dis ns).length : Nat))) τ
theorem dLenSet_k (te : W T) (env : List SV) (τ : T) (Q : SV → T → Prop) : dLenSet te env τ Q = te env τ (kLenSet Q) := rfl
def kRev (Q : SV → T → Prop) (r : SV) (τ : T) : Prop := opt r.lst? fun xs => Q (.ol xs.reverse) τ
theorem dRev_k (te : W T) (env : List SV) (τ : T) (Q : SV → T → Prop) : dRev te env τ Q = te env τ (kRev Q) := rfl
theorem kRev_1 (Q : SV → T → Prop) (xs : List Z.D) (τ : T) : kRev Q (.vw xs) τ = Q (.ol xs.reverse) τ := rfl
theorem kRev_2 (Q : SV → T → Prop) (xs : List Z.D) (τ : T) : kRev Q (.ol xs) τ = Q (.ol xs.reverse) τ := rfl
theorem kRev_3 (Q : SV → T → Prop) (xs : List Z.D) (τ : T) : kRev Q (.d (.list xs)) τ = Q (.ol xs.reverse) τ := rfl
end
theorem gReprE_e (Q : SV → Prop) : gReprE [.d (.dict [])] Q = Q (.d (.str (PyData.dict []).shown)) := rfl
/-- what can be told -/
def reprOk (d : Z.D) : Prop := d.canLay0 = true ∧ d.showable = true ∧ d.hasDict = false ∧ d.depth ≤ 64 ∧ d.shown.length ≤ sizeLine
theorem gReprE_n (Q : SV → Prop) : gReprE [.d .none] Q = (reprOk .none ∧ Q (.d (.str (PyData.none).shown))) := rfl
theorem gReprE_b (b : Bool) (Q : SV → Prop) : gReprE [.d (.bool b)] Q = (reprOk (.bool b) ∧ Q (.d (.str (PyData.bool b).shown))) := rfl
theorem gReprE_i (i : Int) (Q : SV → Prop) : gReprE [.d (.int i)] Q = (reprOk (.int i) ∧ Q (.d (.str (PyData.int i).shown))) := rfl
theorem gReprE_s (i : Str) (Q : SV → Prop) : gReprE [.d (.str i)] Q = (reprOk (.str i) ∧ Q (.d (.str (PyData.str i).shown))) := rfl
theorem gReprE_l (i : List Z.D) (Q : SV → Prop) : gReprE [.d (.list i)] Q = (reprOk (.list i) ∧ Q (.d (.str (PyData.list i).shown))) := rfl
theorem gReprE_t (i : List Z.D) (Q : SV → Prop) : gReprE [.d (.tuple i)] Q = (reprOk (.tuple i) ∧ Q (.d (.str (PyData.tuple i).shown))) := rfl
theorem gReprE_ol (i : List Z.D) (Q : SV → Prop) : gReprE [.ol i] Q = (reprOk (.list i) ∧ Q (.d (.str (PyData.list i).shown))) := rfl
theorem gReprE_vw (i : List Z.D) (Q : SV → Prop) : gReprE [.vw i] Q = (reprOk (.list i) ∧ Q (.d (.str (PyData.list i).shown))) := rfl
/-! ### a tuple of the module, of ints, truths and texts -/
inductive Scal : V → D → Value → Prop
  | int (i : Int) (t : Tok) : Scal (.int i) (.int i) (.int i t)
  | str (s : Str) (t : Tok) : Scal (.str s) (.str s) (.str s t)
  | bl (b : Bool) : Scal (.bl b) (.bool b) (.bool b)
inductive Scals : List V → List D → List Value → Prop
  | nil : Scals [] [] []
  | cons {v : V} {d : D} {u : Value} {vs : List V} {ds : List D} {us : List Value} : Scal v d u → Scals vs ds us → Scals (v :: vs) (d :: ds) (u :: us)
theorem Scal.rel {v : V} {d : D} {u : Value} : Scal v d u → RelV v u
  | .int i t => ⟨t, rfl⟩
  | .str s t => ⟨t, rfl⟩
  | .bl b => rfl
theorem Scal.rp {K : PySem.W.Frag} {G : Hp} {v : V} {d : D} {u : Value} : Scal v d u → Rp K G v d
  | .int i t => .int i
  | .str s t => .str s
  | .bl b => .bl b
theorem Scals.rel : ∀ {vs : List V} {ds : List D} {us : List Value}, Scals vs ds us → Vals vs us
  | _, _, _, .nil => .nil
  | _, _, _, .cons h t => .cons h.rel t.rel
theorem Scals.rp {K : PySem.W.Frag} {G : Hp} : ∀ {vs : List V} {ds : List D} {us : List Value}, Scals vs ds us → RpAll K G vs ds
  | _, _, _, .nil => .nil
  | _, _, _, .cons h t => .cons h.rp t.rp
theorem gdat_tup {K : PySem.W.Frag} {mg : Str → Option Value} {x : Str} {a : Addr} {dd : Option Addr} {n : Nat} {sl : Array (Option Value)} {vs : List V} {ds : List D} {us : List Value} (hm : mg x = some (.ref a)) (lk : K.lookup a = some ⟨.type "tuple", dd, .seq us.toArray n, sl⟩) (h : Scals vs ds us) (hl : vs.length ≤ sizeLine) : GData mg K x (.tuple ds) :=
  ⟨.ref a, .ref a, hm, rfl, fun G => .tup (.inr ⟨_, us.toArray, n, lk, rfl, rfl, by rw [List.size_toArray, ← h.rel.length]; exact hl, by simpa using h.rel⟩) h.rp⟩
end Z

namespace Z
open PySem L2
/-! ### what can be told by repr: data of a depth and a weight -/
structure Rb (m w : Nat) (d : D) : Prop where
  lay : d.canLay0 = true
  sh : d.showable = true
  dp : d.depth ≤ m
  st : PyData.intsShort 64 d = true
  wt : d.weight ≤ w
theorem Rb.le {m w m' w' : Nat} {d : D} (h : Rb m w d) (hm : m ≤ m') (hw : w ≤ w') : Rb m' w' d := ⟨h.lay, h.sh, Nat.le_trans h.dp hm, h.st, Nat.le_trans h.wt hw⟩
theorem Rb.rep {m w : Nat} {d : D} (h : Rb m w d) (hm : m ≤ 64) (hw : w ≤ 200000) : reprOk d := by
  refine ⟨h.lay, h.sh, PyData.hasDict_of_canLay d h.lay, Nat.le_trans h.dp hm, ?_⟩
  have := PyData.shown_le 64 (by decide) d (PyData.leavesShort_of_canLay0 64 d h.lay h.st)
  have := h.wt
  rw [sizeLine_eq]
  omega
theorem Rb.none : Rb 0 0 .none := ⟨by rfl, by rfl, by decide, by rfl, by decide⟩
theorem Rb.bool (b : Bool) : Rb 0 0 (.bool b) := ⟨by rfl, by rfl, by simp [PyData.depth], by rfl, by simp [PyData.weight]⟩
theorem Rb.str {s : Str} {n : Nat} (h : okN n s) : Rb 0 n (.str s) := by
  refine ⟨?_, by rfl, by simp [PyData.depth], by rfl, ?_⟩
  · show PyData.strOk s = true
    unfold PyData.strOk
    rw [Array.all_eq_true']
    intro c hc
    exact decide_eq_true (h.2 c (by simpa [cs] using hc))
  · show s.cps.size ≤ n
    have := h.1
    rw [str_len] at this
    simpa [cs] using this
theorem Rb.int {i : Int} (h : i.natAbs < 10 ^ 60) : Rb 0 200 (.int i) := by
  have hl : i.natAbs.log2 < 200 := by
    by_cases h0 : i.natAbs = 0
    · rw [h0]; decide
    · exact (Nat.log2_lt h0).mpr (Nat.lt_trans h (by decide))
  refine ⟨by rfl, ?_, by simp [PyData.depth], ?_, ?_⟩
  · show decide (i.natAbs.log2 < 1920) = true
    exact decide_eq_true (by omega)
  · show decide ((PyData.shown (.int i)).length ≤ 64) = true
    refine decide_eq_true ?_
    have := int_text_length_le10 (k := 60) (by decide) h
    show (Str.ofString (toString i)).length ≤ 64
    rw [ofString_length]
    omega
  · show (if i == 0 then 0 else i.natAbs.log2 + 1) ≤ 200
    split <;> omega
theorem Rb.all {m w : Nat} : ∀ {xs : List D}, (∀ x ∈ xs, Rb m w x) → PyData.canLayAll0 xs = true ∧ PyData.showableAll xs = true ∧ PyData.depthAll xs ≤ m ∧ PyData.intsShortAll 64 xs = true ∧ PyData.weightAll xs ≤ (w + 1) * xs.length
  | [], _ => ⟨rfl, rfl, Nat.zero_le _, rfl, Nat.zero_le _⟩
  | x :: r, h => by
    have hx := h x List.mem_cons_self
    obtain ⟨h1, h2, h3, h4, h5⟩ := Rb.all (xs := r) fun y hy => h y (List.mem_cons_of_mem _ hy)
    refine ⟨?_, ?_, ?_, ?_, ?_⟩
    · rw [PyData.canLayAll0, hx.lay, h1]; rfl
    · rw [PyData.showableAll, hx.sh, h2]; rfl
    · rw [PyData.depthAll]; exact Nat.max_le.mpr ⟨hx.dp, h3⟩
    · rw [PyData.intsShortAll, hx.st, h4]; rfl
    · rw [PyData.weightAll, List.length_cons, Nat.mul_add]
      have := hx.wt
      omega
theorem Rb.tup {m w n : Nat} {xs : List D} (h : ∀ x ∈ xs, Rb m w x) (hl : xs.length ≤ n) : Rb (m + 1) ((w + 1) * n) (.tuple xs) := by
  obtain ⟨h1, h2, h3, h4, h5⟩ := Rb.all h
  have := Nat.mul_le_mul_left (w + 1) hl
  exact ⟨by rw [PyData.canLay0]; exact h1, by rw [PyData.showable]; exact h2, by rw [PyData.depth]; omega, by rw [PyData.intsShort]; exact h4, by rw [PyData.weight]; omega⟩
theorem Rb.lst {m w n : Nat} {xs : List D} (h : ∀ x ∈ xs, Rb m w x) (hl : xs.length ≤ n) : Rb (m + 1) ((w + 1) * n) (.list xs) := by
  obtain ⟨h1, h2, h3, h4, h5⟩ := Rb.all h
  have := Nat.mul_le_mul_left (w + 1) hl
  exact ⟨by rw [PyData.canLay0]; exact h1, by rw [PyData.showable]; exact h2, by rw [PyData.depth]; omega, by rw [PyData.intsShort]; exact h4, by rw [PyData.weight]; omega⟩
end Z

namespace Z
open PySem L2
/-! ### plain lemmas: cuts, pairs, all -/
theorem cut_post {α : Type} (xs : List α) (k : Nat) : cutL xs (some (k : Int)) none = xs.drop k := by
  unfold cutL
  rw [HT.sIx_none, HT.sIx_nat]
  by_cases h : k ≤ xs.length
  · rw [Nat.min_eq_left h, List.take_of_length_le (by rw [List.length_drop]; exact Nat.le_refl _)]
  · rw [Nat.min_eq_right (by omega), List.drop_length, List.drop_eq_nil_of_le (by omega), List.take_nil]
theorem cut_pre {α : Type} (xs : List α) (k : Nat) : cutL xs none (some (k : Int)) = xs.take k := by
  unfold cutL
  rw [HT.sIx_none, HT.sIx_nat, List.drop_zero, Nat.sub_zero]
  by_cases h : k ≤ xs.length
  · rw [Nat.min_eq_left h]
  · rw [Nat.min_eq_right (by omega), List.take_length, List.take_of_length_le (by omega)]
theorem cut_mid {α : Type} (xs : List α) (i k : Nat) : cutL xs (some (i : Int)) (some (k : Int)) = (xs.take k).drop i := by
  unfold cutL
  rw [HT.sIx_nat, HT.sIx_nat, ← List.drop_take]
  have e1 : xs.take (min k xs.length) = xs.take k := by
    by_cases h : k ≤ xs.length
    · rw [Nat.min_eq_left h]
    · rw [Nat.min_eq_right (by omega), List.take_length, List.take_of_length_le (by omega)]
  rw [e1]
  by_cases h2 : i ≤ xs.length
  · rw [Nat.min_eq_left h2]
  · rw [Nat.min_eq_right (by omega), List.drop_eq_nil_of_le (by rw [List.length_take]; omega), List.drop_eq_nil_of_le (by rw [List.length_take]; omega)]
theorem cut_1 {α : Type} (xs : List α) : cutL xs (some 1) none = xs.drop 1 := cut_post xs 1
theorem all_id {α : Type} (f : α → Bool) (l : List α) : (l.map f).all id = l.all f := by
  induction l with
  | nil => rfl
  | cons a r ih => rw [List.map_cons, List.all_cons, List.all_cons, ih]; rfl
theorem any_id {α : Type} (f : α → Bool) (l : List α) : (l.map f).any id = l.any f := by
  induction l with
  | nil => rfl
  | cons a r ih => rw [List.map_cons, List.any_cons, List.any_cons, ih]; rfl
theorem bools_of {α : Type} (f : α → Bool) (l : List α) : bools? (l.map fun x => PyData.bool (f x)) = some (l.map f) := by
  have : (l.map fun x => PyData.bool (f x)) = (l.map f).map PyData.bool := by rw [List.map_map]; rfl
  rw [this, bools_map]
theorem ints_of {α : Type} (f : α → Int) (l : List α) : ints? (l.map fun x => PyData.int (f x)) = some (l.map f) := by
  induction l with
  | nil => rfl
  | cons a r ih => rw [List.map_cons, ints?, ih]; rfl
theorem ints_mapI (l : List Int) : ints? (l.map PyData.int) = some l := by
  have := ints_of (fun x => x) l
  simpa using this
theorem tupI_map (l : List Int) : tupI? (.d (.tuple (l.map PyData.int))) = some l := ints_mapI l
/-- each number of a row beside each one behind it -/
def pairsB (r : Int → Int → Bool) : List Int → Bool
  | [] => true
  | a :: l => l.all (r a) && pairsB r l
/-- each beside the next one -/
theorem pairs_adj {r : Int → Int → Bool} (tr : ∀ a b c, r a b = true → r b c = true → r a c = true) : ∀ l : List Int, ((l.zip (l.drop 1)).all fun p => r p.1 p.2) = pairsB r l
  | [] => rfl
  | [a] => rfl
  | a :: b :: l => by
    have ih := pairs_adj tr (b :: l)
    rw [List.drop_succ_cons, List.drop_zero] at ih ⊢
    rw [List.zip_cons_cons, List.all_cons, pairsB, ← ih, List.all_cons]
    show (r a b && ((b :: l).zip l).all fun p => r p.1 p.2) = _
    cases e : r a b with
    | false => rfl
    | true =>
      rw [Bool.true_and, Bool.true_and]
      cases z : (((b :: l).zip l).all fun p => r p.1 p.2) with
      | false => rw [Bool.and_false]
      | true =>
        rw [Bool.and_true]
        rw [z] at ih
        have h2 := ih.symm
        unfold pairsB at h2
        rw [Bool.and_eq_true, List.all_eq_true] at h2
        exact (List.all_eq_true.mpr fun c hc => tr a b c e (h2.1 c hc)).symm
theorem pairs_nodup : ∀ l : List Int, pairsB (fun a b => !decide (a = b)) l = decide l.Nodup
  | [] => by simp [pairsB]
  | a :: l => by
    rw [pairsB, pairs_nodup l]
    rw [Bool.eq_iff_iff, Bool.and_eq_true, List.all_eq_true, decide_eq_true_eq, decide_eq_true_eq, List.nodup_cons]
    constructor
    · rintro ⟨h1, h2⟩
      exact ⟨fun hm => by have := h1 a hm; simp at this, h2⟩
    · rintro ⟨h1, h2⟩
      exact ⟨fun x hx => by rw [Bool.not_eq_true', decide_eq_false_iff_not]; exact fun e => h1 (by rw [e]; exact hx), h2⟩
theorem zipD_ints (l : List Int) (k : Nat) : zipD (l.map PyData.int) ((l.map PyData.int).drop k) = (l.zip (l.drop k)).map fun p => PyData.tuple [.int p.1, .int p.2] := by
  unfold zipD
  rw [← List.map_drop, List.zip_map, List.map_map]
  rfl
end Z

namespace Z
open PySem PySem.Spec PyProof.Rows L2
/-! ### enumerate(tuple) -/
theorem meets_enumerate_new1 {v : Value} {o : Obj} {H : Heap → Prop} (B : Begins v o H) :
    Meets (Builtin.«enumerate.__new__» ⟨[.type "enumerate", v], []⟩) (fun _ R s => H s.heap ∧
      R (.ok (.ret (.ref (s.heap.push o).objs.size))) { s with heap := (s.heap.push o).push { cls := .type "enumerate", data := .fields #[.none, .bool false, .ref s.heap.objs.size, rawInt 0, .none, .none] } }) :=
  .of_wp fun prog w A R s h => by
    obtain ⟨hp, g, d, tk, os⟩ := s; obtain ⟨h1, h⟩ := h
    have hsub := sub_enumerate
    have q1 : ∀ {A' : Around} {E : Value → Shared → Prop} {Q : Value → Shared → Prop}, Q (.ref hp.objs.size) ⟨hp.push o, g, d, tk, os⟩ → wpAny (model prog w) A' (pyIter v) Q E ⟨hp, g, d, tk, os⟩ :=
      fun q => B.iter prog w _ _ ⟨hp, g, d, tk, os⟩ _ h1 q
    wp_walk using q1
    refine wpAny_stack_any fun st => wpAny_pure ?_
    split
    · rename_i c _ _ _ _ _
      cases (c == Value.type "enumerate")
      · wp_walk using q1
        exact ⟨_, rfl, h⟩
      · wp_walk using q1
        exact ⟨_, rfl, h⟩
    · wp_walk using q1
      exact ⟨_, rfl, h⟩
theorem call_enumerate_tuple {prog : Program} {w : World} {A : Around} {E : Value → Shared → Prop} {s : Shared} {t : Addr} {items : Array Value} {Q : Value → Shared → Prop} (hT : s.heap.IsTuple t items)
    (h : ∀ h', IsEnum h' (s.heap.objs.size + 1) s.heap.objs.size 0 .none → h'.IsTupleIter s.heap.objs.size t 0 → h'.objs.size = s.heap.objs.size + 2 →
      (∀ b o, s.heap.get? b = some o → h'.get? b = some o) → Q (.ref (s.heap.objs.size + 1)) { s with heap := h' }) :
    wpAny (model prog w) A (call (.type "enumerate") [.ref t]) Q E s := by
  refine callType_new F.called_enumerate (by decide) (F.typeCall_enumerate_1 _) (F.newCall_enumerate_1 _) (fun obj => F.args_object_init_2 obj _) F.entry_enumerate_new
    (meets_enumerate_new1 (begins_tuple t items)) ⟨hT, ?_⟩
  have hz : (s.heap.push { cls := .type "tuple_iterator", data := .fields #[.ref t, .int 0 0] }).objs.size = s.heap.objs.size + 1 := Heap.size_push ..
  show _ ∧ _
  rw [hz]
  have he : IsEnum ((s.heap.push { cls := .type "tuple_iterator", data := .fields #[.ref t, .int 0 0] }).push
      { cls := .type "enumerate", data := .fields #[.none, .bool false, .ref s.heap.objs.size, rawInt 0, .none, .none] }) (s.heap.objs.size + 1) s.heap.objs.size 0 .none := by
    have := Heap.get?_push_size (s.heap.push { cls := .type "tuple_iterator", data := .fields #[.ref t, .int 0 0] })
      (o := { cls := .type "enumerate", data := .fields #[.none, .bool false, .ref s.heap.objs.size, rawInt 0, .none, .none] }) rfl
    rw [hz] at this; exact this
  refine ⟨⟨_, he, rfl⟩, h _ he ⟨_, Heap.get?_push_of_some _ (Heap.get?_push_size _ rfl), rfl, rfl⟩ (by rw [Heap.size_push, hz]) fun b o x => Heap.get?_push_of_some _ (Heap.get?_push_of_some _ x)⟩
def IteT (K : PySem.W.Frag) (a : Addr) : It :=
  ⟨fun i H => ∃ (xs : List V) (x : V), SqT K H a xs ∧ xs[i]? = some x, fun i H v H' => ∃ T x, v = .ref T ∧ H T = none ∧ H' = upd H T (.tup [.int (i : Nat), x]) ∧ ∀ xs, SqT K H a xs → xs[i]? = some x, fun i H => ∃ xs : List V, SqT K H a xs ∧ xs.length ≤ i⟩
theorem turn_enumT {P : Program} {w : World} {K : PySem.W.Frag} {elts : List Expr} {kk : Nat} {tpos : Pos} (a e it : Addr) (hai : a ≠ it) (hae : a ≠ e) :
    Turn P w K (.Tuple elts kk tpos) (IteT K a) [e, it] e (fun i h => (∃ old, IsEnum h e it ((i : Nat) : Int) old) ∧ h.IsTupleIter it a i ∧ e ≠ it) where
  mem := by simp
  obj := fun i h st b hb => by
    obtain ⟨⟨old, he⟩, ⟨o, ho, hc, hd⟩, _⟩ := st
    have e' : b = e ∨ b = it := by simpa using hb
    rcases e' with z | z
    · rw [z]; exact ⟨_, he, fun v q => nomatch q⟩
    · rw [z]; exact ⟨o, ho, fun v q => by rw [hd] at q; cases q⟩
  keep := fun i h h' st k => let ⟨⟨old, he⟩, hi, hne⟩ := st; ⟨⟨old, k e (by simp) _ he⟩, hi.at fun o q => k it (by simp) o q, hne⟩
  item := by
    intro X hP hw hK hc i pins s σ H E I hf st hg
    subst hP hw hK
    obtain ⟨⟨old, he⟩, hit, hne⟩ := st
    obtain ⟨xs, x, hq, hx⟩ := hg
    obtain ⟨its, rv, p, hz⟩ := I.tuple hq
    obtain ⟨u, hu, ru⟩ := rv.get hx
    have hel : e < s.heap.objs.size := Heap.lt_size he
    have hil : it < s.heap.objs.size := by obtain ⟨_, q, _⟩ := hit; exact Heap.lt_size q
    have hsz : its.toArray.size = its.length := by simp
    have hlt : i < its.toArray.size := by rw [hsz]; exact (List.getElem?_eq_some_iff.mp hu).1
    refine wpAny_pyNext_enum_itemD (Draws.tuple (A := X.A.in1) (show X.A.in1.handled = none from I.ok.hd hc) it a hai its.toArray) he ⟨hit, p⟩ hlt hne (by simp [hne, Ne.symm hae]) fun y h' tk hy ho st' hT hsz hk => ?_
    have ey : y = u := by
      have hu' : its.toArray[i]? = some u := by simpa using hu
      rw [hu'] at hy
      exact (Option.some.inj hy).symm
    subst ey
    refine ⟨_, rfl, wpAny_letOwnedTupleGo_enum (s := { s with heap := h', toks := tk + 1 }) ho fun h'' he' sb => ?_⟩
    have hT2 : h''.get? s.heap.objs.size = some { cls := .type "tuple", data := .seq #[.int i tk, y] } := (sb.2 _ (Nat.ne_of_gt hel)).trans hT
    have new : ObjOk X.prog X.w (upd H s.heap.objs.size (.tup [.int (i : Nat), x])) h'' s.heap.objs.size (.tup [.int (i : Nat), x]) :=
      ⟨by show 2 ≤ sizeLine; decide, [.int i tk, y], .cons ⟨_, rfl⟩ (.cons ru .nil), ⟨_, hT2, rfl, _, rfl⟩⟩
    have I1 : Inv X pins σ (upd H s.heap.objs.size (.tup [.int (i : Nat), x])) { s with heap := h'', toks := tk + 1 } :=
      I.turnedNew (ch := [e, it]) (fun b ob hb q => (sb.2 b (fun z => hb (by simp [z]))).trans (hk b ob (fun z => hb (by simp [z])) (fun z => hb (by simp [z])) q)) hf (Nat.le_refl _) new
    refine ⟨.ref s.heap.objs.size, _, I1, rfl, ⟨_, x, rfl, I.hok.fresh (Nat.le_refl _), rfl, fun ys hy => by rw [I.tuple_inj hy hq]; exact hx⟩, ⟨⟨y, ?_⟩, st'.1.at fun o q => (sb.2 it (Ne.symm hne)).trans q, hne⟩, fun b hb => ?_⟩
    · have e1 : ((i + 1 : Nat) : Int) = (i : Int) + 1 := by omega
      rw [e1]; exact he'
    · have hb' : b < s.heap.objs.size := by
        have e' : b = e ∨ b = it := by simpa using hb
        rcases e' with z | z
        · rw [z]; exact hel
        · rw [z]; exact hil
      rw [upd_ne (Nat.ne_of_lt hb')]
      exact (hf b hb).1
  done := by
    intro X hP hw hK hc i pins s σ H E I hf st hg
    subst hP hw hK
    obtain ⟨⟨old, he⟩, hit, hne⟩ := st
    obtain ⟨xs, hq, hx⟩ := hg
    obtain ⟨its, rv, p, hz⟩ := I.tuple hq
    obtain ⟨f0, f1, f2, f3, f4, f5⟩ := hf it (by simp)
    have hl := rv.length
    have hT : s.TypeIs (.ref e) "enumerate" := ⟨_, he, rfl⟩
    refine wpAny_bind (wpAny_attempt (wpAny_callSpecial?_slot (name := Str.ofString "__next__") hT F.slot_enumerate_next
      (wpAny_call_entry F.slot_enumerate_next hT F.entry_enumerate_next ?_ (F.args_enumerate_next_1 _))))
    show wpAny _ _ (field (.ref e) 2 >>= _) _ _ _
    refine wpAny_bind (wpAny_field he rfl (x := .ref it) rfl ?_)
    refine wpAny_bind (wpAny_nextOf_tuple_end (show X.A.in1.handled = none from I.ok.hd hc) hit p (by simp; omega) fun h' x he' hx' => ?_)
    obtain ⟨o, ho, hc⟩ := hx'
    refine wpAny_bind (wpAny_isInstance (T := "StopIteration") (b := true) ⟨o, ho, hc⟩ isSubtype_stop ?_)
    exact wpAny_pure ⟨rfl, I.turned (t' := s.toks) (fun b o hb q => he' b o hb q) f0 f1 f3 f4 f5⟩
  self := fun A i s Q E st h => let ⟨⟨_, he⟩, _⟩ := st; wpAny_pyIter_enum he h
def iEnum2 (K : PySem.W.Frag) (ta : TA) : TI := fun σ H R => ta σ H fun vs H1 => ∃ a xs, vs = [.ref a] ∧ ((SqL K H1 a xs ∧ R (Ite K a) H1) ∨ (SqT K H1 a xs ∧ R (IteT K a) H1))
theorem pi_enum2 {X : Cx} {e : Expr} {ta : TA} {p pos tpos : Pos} {elts : List Expr} {kk : Nat} (hg : Gl X "enumerate") (hm : X.mg "enumerate" = none) (ha : PA X [e] ta) (hs : starEach [e] X.env = [(false, eval e X.env)] := by rfl) :
    PI X (.Tuple elts kk tpos) (.Call (.Name "enumerate" p) [e] [] pos) (iEnum2 X.K ta) := by
  refine ⟨fun pins s σ H R I h => ?_⟩
  refine Call_ (ld_blt I hg hm boot_enumerate (PyProof.Rows.callWith_type1 (thn (ha.run pos pins s σ H _ I h) fun us s1 ⟨vs, H1, I1, r1, q1⟩ => ?_) hs rfl))
  obtain ⟨a, xs, ex, q1⟩ := q1
  subst ex
  cases r1 with
  | cons r rr =>
    cases rr
    cases r
    have fp : ∀ b, b ∈ [s1.heap.objs.size + 1, s1.heap.objs.size] → FpOk X pins H1 b := fun b hb => by
      have e' : b = s1.heap.objs.size + 1 ∨ b = s1.heap.objs.size := by simpa using hb
      have hle : s1.heap.objs.size ≤ b := by
        rcases e' with z | z
        · rw [z]; exact Nat.le_add_right _ _
        · rw [z]; exact Nat.le_refl _
      exact I1.fpOk hle (I1.hok.fresh hle)
    rcases q1 with ⟨hq, q⟩ | ⟨hq, q⟩
    · obtain ⟨its, rv, p', hz⟩ := I1.list hq
      refine call_enumerate_list p'.isList fun h' he hit hsz hk => wpAny_pyIter_enum he ?_
      have I2 : Inv X pins σ H1 { s1 with heap := h' } := I1.kept (t' := s1.toks) hk
      exact ⟨s1.heap.objs.size + 1, [s1.heap.objs.size + 1, s1.heap.objs.size], _, _, H1, rfl, I2, turn_enum a (s1.heap.objs.size + 1) s1.heap.objs.size, ⟨⟨.none, he⟩, hit, Nat.succ_ne_self _⟩, fp, q⟩
    · obtain ⟨its, rv, p', hz⟩ := I1.tuple hq
      obtain ⟨o1, ho1, _⟩ := id p'
      have hal : a < s1.heap.objs.size := Heap.lt_size ho1
      refine call_enumerate_tuple (show s1.heap.IsTuple a its.toArray from p') fun h' he hit hsz hk => wpAny_pyIter_enum he ?_
      have I2 : Inv X pins σ H1 { s1 with heap := h' } := I1.kept (t' := s1.toks) hk
      exact ⟨s1.heap.objs.size + 1, [s1.heap.objs.size + 1, s1.heap.objs.size], _, _, H1, rfl, I2, turn_enumT a (s1.heap.objs.size + 1) s1.heap.objs.size (Nat.ne_of_lt hal) (Nat.ne_of_lt (Nat.lt_succ_of_lt hal)), ⟨⟨.none, he⟩, hit, Nat.succ_ne_self _⟩, fp, q⟩
section
variable {X : Cx} {B : Bk}
theorem itr_et {G : Hp} {a : Addr} {vs : List V} {xs : List D} (h : SqT B.K G a vs) (r : RpAll B.K G vs xs) : ItR B (IteT B.K a) G (enumD xs) where
  go := fun G1 H1 F1 τ1 sm k i x e => by
    obtain ⟨y, ey, ex⟩ := enum_get e
    subst ex
    obtain ⟨v, ev, rv⟩ := r.getD ey
    have hq := same_seqT (sm.trans k.same) h
    refine ⟨⟨vs, v, hq, ev⟩, fun w H2 ⟨T, x', e2, hT, e3, hx⟩ => ?_⟩
    have := hx vs hq
    rw [ev] at this
    cases this
    subst e2 e3
    exact new_pair k hT (.int _) (rv.mono sm)
  stop := fun G1 H1 F1 τ1 sm k i hi => ⟨vs, same_seqT (sm.trans k.same) h, by rw [r.length]; rw [enum_len] at hi; exact hi⟩
def dEnum2 {T : Type} (ta : WA T) : WI T := fun env τ Q => ta env τ fun rs τ1 => ∃ xs, (rs = [.d (.list xs)] ∨ rs = [.d (.tuple xs)]) ∧ Q (enumD xs) τ1
theorem di_enum2 (hK : X.K = B.K) {e : Expr} {ta : WA B.T} {p tpos : Pos} {elts : List Expr} {kk : Nat} (hg : Gl X "enumerate") (hm : X.mg "enumerate" = none) (ha : PA X [e] (liftA B ta)) (hs : starEach [e] X.env = [(false, eval e X.env)] := by rfl) :
    PI X (.Tuple elts kk tpos) (.Call (.Name "enumerate" p) [e] [] pos) (liftI B (dEnum2 ta)) :=
  pi_imp (pi_enum2 hg hm ha hs) fun σ H R ⟨G, F, env, τ, Qd, s, t, k⟩ => ⟨G, F, env, τ, _, s, t, fun rs τ1 G1 F1 H1 vs f1 r1 ⟨xs, e, q⟩ => by
    rw [hK]
    rcases e with e | e
    · subst e
      obtain ⟨v, e1, r⟩ := r1.one
      subst e1
      match r with
      | .lst h a => exact ⟨_, _, rfl, .inl ⟨(same_sqp f1.k.same h).sql, k _ _ _ _ _ _ f1 (itr_e h a) q⟩⟩
    · subst e
      obtain ⟨v, e1, r⟩ := r1.one
      subst e1
      obtain ⟨_, _, e2, h, a⟩ := rtup r
      subst e2
      exact ⟨_, _, rfl, .inr ⟨same_seqT f1.k.same h, k _ _ _ _ _ _ f1 (itr_et h a) q⟩⟩⟩
end
section
variable {T : Type}
def kEn2 (Q : List D → T → Prop) (rs : List SV) (τ : T) : Prop := ∃ xs, (rs = [.d (.list xs)] ∨ rs = [.d (.tuple xs)]) ∧ Q (enumD xs) τ
theorem kEn2_l {Q : List D → T → Prop} {xs : List D} {τ : T} : kEn2 Q [.d (.list xs)] τ = Q (enumD xs) τ := by simp [kEn2]
theorem kEn2_t {Q : List D → T → Prop} {xs : List D} {τ : T} : kEn2 Q [.d (.tuple xs)] τ = Q (enumD xs) τ := by simp [kEn2]
theorem dEnum2_k (ta : WA T) (env : List SV) (τ : T) (Q : List D → T → Prop) : dEnum2 ta env τ Q = ta env τ (kEn2 Q) := rfl
end
end Z

namespace Z
open PySem L2
/-! ### the catcher's first lines -/
theorem try_start {T : Type} {K : PySem.W.Frag} {c : Value} {f : Addr} {tlD : LD T} {n : Nat} {R : WS T} {D : DEnds T} {r : List SV} {τ : T}
    (h : tlD τ (fun x τ' => opt x.sto fun a => R D (.raw (.ref f) :: .d .none :: a :: r) τ') (fun x τ' => CatR K c x ∧ R D ((List.replicate n .no).set 1 (.d x)) τ')) :
    dSeq (dSet 1 (dC .none)) (dSeq (dSet 2 (dC .none)) (dSeq (dTry K c f tlD n 2 3 1) R)) D (.raw (.ref f) :: .no :: .no :: r) τ := ⟨rfl, h⟩
theorem bools3_eq (a b c : Bool) : eqOk (.list [.bool a, .bool b, .bool c]) (.list [.bool a, .bool b, .bool c]) = true ∧ PyData.eqv (.list [.bool a, .bool b, .bool c]) (.list [.bool a, .bool b, .bool c]) = true := by
  cases a <;> cases b <;> cases c <;> exact ⟨by decide, by decide⟩
end Z

namespace Z
open PySem L2
/-! ### tuple.index(text), abs -/
/-- x.m(y), x a thing that is told -/
def dM1t {T : Type} (g : SV → SV → (SV → Prop) → Prop) (to te : W T) : W T := fun env τ Q => to env τ fun x τ1 => (∃ xs, x = .d (.tuple xs)) ∧ te env τ1 fun y τ2 => g x y fun z => Q z τ2
def gTIndex (x y : SV) (Q : SV → Prop) : Prop := ∃ (xs : List D) (ys : List Str) (z : Str) (j : Nat), x = .d (.tuple xs) ∧ strs? xs = some ys ∧ y = .d (.str z) ∧ ys[j]? = some z ∧ (∀ m, m < j → ys[m]? ≠ some z) ∧ Q (.d (.int (j : Nat)))
section
variable {X : Cx} {B : Bk} {e : Expr}
theorem od_tindex (hK : X.K = B.K) : OpD B (fun x y H Q => ∃ p, ∃ ys : List Str, ∃ z j, x = .ref p ∧ [y] = [.str z] ∧ SqT X.K H p (ys.map V.str) ∧ ys[j]? = some z ∧ (∀ m, m < j → ys[m]? ≠ some z) ∧ Q (.int (j : Nat)) H) gTIndex :=
  fun x y vx vy Ha Hb G F H τ Qv Q k rx ry h fin => by
    obtain ⟨xs, ys, z, j, ex, es, ey, hj, hm, h⟩ := h
    subst ex ey
    obtain ⟨p, vs, e1, hs, a⟩ := rtup rx
    have e2 := strs_ok a es
    subst e2
    rw [hK]
    exact ⟨p, ys, z, j, e1, by rw [rstr ry], same_seqT k.same hs, hj, hm, fin.d k (.int _) h⟩
def gAbs (rs : List SV) (Q : SV → Prop) : Prop := match rs with
  | [.d (.int i)] => Q (.d (.int (if i < 0 then -i else i)))
  | _ => False
theorem cd_abs : CallD B (fun xs H Q => ∃ i, xs = [.int i] ∧ Q (.int (if i < 0 then -i else i)) H) gAbs := fun rs vs Ha G F H τ Qv Q k r h fin => by
  unfold gAbs at h
  split at h
  · obtain ⟨v, rfl, rx⟩ := r.one
    exact ⟨_, by rw [rint rx], fin.d k (.int _) h⟩
  · exact h.elim
end
/-- NAME.index(text), NAME a tuple of texts of the module -/
def dGIndex {T : Type} (ys : List Str) (te : W T) : W T := fun env τ Q => te env τ fun y τ1 => ∃ (z : Str) (j : Nat), y = .d (.str z) ∧ ys[j]? = some z ∧ (∀ m, m < j → ys[m]? ≠ some z) ∧ Q (.d (.int (j : Nat))) τ1
section
variable {X : Cx} {B : Bk} {e : Expr} {te : W B.T} {x : Str} {a : Addr} {o : Obj} {its : Array Value} {n : Nat} {ys : List Str} {p apos cpos : Pos}
theorem de_gindex (hK : X.K = B.K) (hg : Gl X x) (hm : X.mg x = some (.ref a)) (lk : X.K.lookup a = some o) (oc : o.cls = .type "tuple") (od : o.dict = none) (odt : o.data = .seq its n) (ol : its.size ≤ sizeLine) (hv : Vals (ys.map V.str) its.toList) (he : PE X e (lift B te)) (hd : (x == ("__debug__" : Str)) = false := by decide)
    (hbase : attributeBase (.Name x p) "index" X.env (eval (.Name x p) X.env) = eval (.Name x p) X.env := by rfl)
    (hfew : ((backTo cpos (starEach [e] X.env)).all (fun x => !x.1) && (backToKw cpos (keywordEach [] X.env)).all (fun x => x.1.isSome)
      && decide ([e].length + ([] : List Keyword).length + (if ([] : List Keyword).isEmpty then 0 else 1) < 30)) = true := by rfl)
    (hline : (apos.endLine == cpos.line) = true := by rfl) (hs : starEach [e] X.env = (false, eval e X.env) :: starEach [] X.env := by rfl) (hplain : (backTo cpos (starEach [] X.env)).any (·.1) = false := by rfl) :
    PE X (.Call (.Attribute (.Name x p) "index" apos) [e] [] cpos) (lift B (dGIndex ys te)) :=
  pe_imp (pe_bm PySem.F.plainAttrs_tuple PySem.F.slot_tuple_index PySem.F.type_tuple_index mt_tup_index (pe_glob hg hm (v := .ref a) rfl hd) (pa_cons he pa_nil hs) hbase hfew hline hs hplain) fun σ H Q ⟨G, F, env, τ, Qd, s, t, k⟩ =>
    ⟨.inr (.inl ⟨rfl, o, lk, oc, od⟩), G, F, env, τ, _, s, t, fun y τ1 G1 F1 H1 vy f1 r1 ⟨z, j, ey, hj, hmm, q⟩ => by
      subst ey
      obtain rfl := rstr r1
      exact ⟨a, ys, z, j, rfl, rfl, .inr ⟨o, its, n, lk, oc, odt, ol, hv⟩, hj, hmm, k (.d (.int (j : Nat))) τ1 G1 F1 H1 _ f1 (show Rp B.K G1 (.int (j : Nat)) (.int (j : Nat)) from .int _) q⟩⟩
end
/-- a tuple of texts of the module, that is asked for places -/
structure IdxT (K : PySem.W.Frag) (mg : Str → Option Value) (x : Str) (ys : List Str) : Prop where
  ex : ∃ a o its n, mg x = some (.ref a) ∧ K.lookup a = some o ∧ o.cls = .type "tuple" ∧ o.dict = none ∧ o.data = .seq its n ∧ its.size ≤ sizeLine ∧ Vals (ys.map V.str) its.toList
section
variable {X : Cx} {B : Bk} {e : Expr} {te : W B.T} {x : Str} {ys : List Str} {p apos cpos : Pos}
theorem de_gidx (hK : X.K = B.K) (hg : Gl X x) (T : IdxT X.K X.mg x ys) (he : PE X e (lift B te)) (hd : (x == ("__debug__" : Str)) = false := by decide)
    (hbase : attributeBase (.Name x p) "index" X.env (eval (.Name x p) X.env) = eval (.Name x p) X.env := by rfl)
    (hfew : ((backTo cpos (starEach [e] X.env)).all (fun x => !x.1) && (backToKw cpos (keywordEach [] X.env)).all (fun x => x.1.isSome)
      && decide ([e].length + ([] : List Keyword).length + (if ([] : List Keyword).isEmpty then 0 else 1) < 30)) = true := by rfl)
    (hline : (apos.endLine == cpos.line) = true := by rfl) (hs : starEach [e] X.env = (false, eval e X.env) :: starEach [] X.env := by rfl) (hplain : (backTo cpos (starEach [] X.env)).any (·.1) = false := by rfl) :
    PE X (.Call (.Attribute (.Name x p) "index" apos) [e] [] cpos) (lift B (dGIndex ys te)) := by
  obtain ⟨a, o, its, n, hm, lk, oc, od, odt, ol, hv⟩ := T.ex
  exact de_gindex hK hg hm lk oc od odt ol hv he hd hbase hfew hline hs hplain
end
section
variable {T : Type}
def kGIx (ys : List Str) (Q : SV → T → Prop) (y : SV) (τ : T) : Prop := ∃ (z : Str) (j : Nat), y = .d (.str z) ∧ ys[j]? = some z ∧ (∀ m, m < j → ys[m]? ≠ some z) ∧ Q (.d (.int (j : Nat))) τ
theorem dGIndex_k (ys : List Str) (te : W T) (env : List SV) (τ : T) (Q : SV → T → Prop) : dGIndex ys te env τ Q = te env τ (kGIx ys Q) := rfl
end
theorem gAbs_i (i : Int) (Q : SV → Prop) : gAbs [.d (.int i)] Q = Q (.d (.int (if i < 0 then -i else i))) := rfl
end Z

namespace Z
open PySem PySem.Spec PyProof.Rows L2 PySem.W
/-! ### min, max of a tuple of ints with default= -/
def minOr (d : Int) : List Int → Int
  | [] => d
  | n :: r => r.foldl min n
def maxOr (d : Int) : List Int → Int
  | [] => d
  | n :: r => r.foldl max n
theorem reads_ints {h : Heap} : ∀ {ns : List Int} {its : List Value}, Vals (ns.map V.int) its → ReadsAll h its (ns.map .int) []
  | [], _, .nil => .nil
  | n :: r, _, .cons e rs => by
    obtain ⟨t, rfl⟩ := e
    exact .cons (.int n t) (reads_ints rs)
theorem dep_ints : ∀ ns : List Int, PyData.depthAll (ns.map PyData.int) = 0
  | [] => rfl
  | n :: r => by rw [List.map_cons, PyData.depthAll, dep_ints r]; rfl
theorem alike_of_ints (ns : List Int) : AlikeAll (ns.map PyData.int) := by
  refine ⟨?_, ?_⟩
  · intro x hx y hy
    obtain ⟨n, _, rfl⟩ := List.mem_map.mp hx
    obtain ⟨m, _, rfl⟩ := List.mem_map.mp hy
    rfl
  · intro x hx
    obtain ⟨n, _, rfl⟩ := List.mem_map.mp hx
    exact fun z => by cases z
section
variable {X : Cx}
def rMinDef (K : PySem.W.Frag) : List V → List V → Hp → VK → Prop := fun vs zs H Q => ∃ (a : Addr) (ns : List Int) (d : Int), vs = [V.ref a] ∧ zs = [.int d] ∧ SqT K H a (ns.map V.int) ∧ Q (.int (minOr d ns)) H
theorem cr_minDef (hc : X.calm = true) (hu : X.A.units + 1 < cLine) : CallRK X (.builtin "min") [Str.ofString "default"] (rMinDef X.K) := by
  intro pins s σ H vs zs us ws Q I r rz h
  obtain ⟨a, ns, d, rfl, rfl, hs, q⟩ := h
  obtain rfl := Vals.ref1 r
  obtain ⟨w1, rfl, e1⟩ := L2.vals1 rz
  obtain ⟨t, rfl⟩ := e1
  obtain ⟨its, rv, hl, hz⟩ := I.tuple hs
  refine min_tuple_default (I.ok.hd hc) (show s.heap.IsTuple a its.toArray from hl) (xs := ns.map .int) (as := []) (by simpa using reads_ints rv) (alike_of_ints ns) (by rw [dep_ints]; exact hu) (fun e h' tk hk => ?_) fun y ys i v h' tk bs e hv rd hk => ?_
  · have e : ns = [] := List.map_eq_nil_iff.mp e
    subst e
    exact ⟨.int d, H, I.kept hk, ⟨_, rfl⟩, q⟩
  · cases ns with
    | nil => cases e
    | cons n r =>
      cases e
      rw [minD_ints] at rd
      cases rd
      exact ⟨.int _, H, I.kept hk, ⟨_, rfl⟩, q⟩
def rMaxDef (K : PySem.W.Frag) : List V → List V → Hp → VK → Prop := fun vs zs H Q => ∃ (a : Addr) (ns : List Int) (d : Int), vs = [V.ref a] ∧ zs = [.int d] ∧ SqT K H a (ns.map V.int) ∧ Q (.int (maxOr d ns)) H
theorem cr_maxDef (hc : X.calm = true) (hu : X.A.units + 1 < cLine) : CallRK X (.builtin "max") [Str.ofString "default"] (rMaxDef X.K) := by
  intro pins s σ H vs zs us ws Q I r rz h
  obtain ⟨a, ns, d, rfl, rfl, hs, q⟩ := h
  obtain rfl := Vals.ref1 r
  obtain ⟨w1, rfl, e1⟩ := L2.vals1 rz
  obtain ⟨t, rfl⟩ := e1
  obtain ⟨its, rv, hl, hz⟩ := I.tuple hs
  refine max_tuple_default (I.ok.hd hc) (show s.heap.IsTuple a its.toArray from hl) (xs := ns.map .int) (as := []) (by simpa using reads_ints rv) (alike_of_ints ns) (by rw [dep_ints]; exact hu) (fun e h' tk hk => ?_) fun y ys i v h' tk bs e hv rd hk => ?_
  · have e : ns = [] := List.map_eq_nil_iff.mp e
    subst e
    exact ⟨.int d, H, I.kept hk, ⟨_, rfl⟩, q⟩
  · cases ns with
    | nil => cases e
    | cons n r =>
      cases e
      rw [maxD_ints] at rd
      cases rd
      exact ⟨.int _, H, I.kept hk, ⟨_, rfl⟩, q⟩
end
/-- min(row, default=d) -/
def dMnD {T : Type} (f : Int → List Int → Int) (d : Int) (te : W T) : W T := fun env τ Q => te env τ fun r τ1 => ∃ ns, tupI? r = some ns ∧ Q (.d (.int (f d ns))) τ1
section
variable {X : Cx} {B : Bk} {e : Expr} {te : W B.T} {d : Int} {j : Nat} {p kp kpos pos : Pos}
theorem lift_mnD {f : Int → List Int → Int} (hK : X.K = B.K) : ∀ σ H Q, lift B (dMnD f d te) σ H Q →
    tCKw (fun vs zs H Q => ∃ (a : Addr) (ns : List Int) (d : Int), vs = [V.ref a] ∧ zs = [.int d] ∧ SqT X.K H a (ns.map V.int) ∧ Q (.int (f d ns)) H) (tCons (lift B te) tNil) (tCons (tC (.int d)) tNil) σ H Q := fun σ H Q ⟨G, F, env, τ, Qd, s, t, fin⟩ =>
  ⟨G, F, env, τ, _, s, t, fun r τ1 G1 F1 H1 v f1 r1 ⟨ns, en, q⟩ => by
    cases r with
    | d x =>
      cases x with
      | tuple xs =>
        obtain ⟨l, vs, ev, hT, ra⟩ := rtup r1
        have e2 := ints_ok ra en
        subst e2 ev
        rw [hK]
        exact ⟨l, ns, d, rfl, rfl, same_seqT f1.k.same hT, fin (.d (.int _)) τ1 G1 F1 H1 _ f1 (show Rp B.K G1 (.int _) (.int _) from .int _) q⟩
      | _ => cases en
    | _ => cases en⟩
theorem de_minD (hK : X.K = B.K) (hg : Gl X "min") (hm : X.mg "min" = none) (hu : X.A.units + 1 < cLine) (he : PE X e (lift B te)) (hc : X.calm = true := by rfl)
    (h1 : backTo pos (starEach [e] X.env) = (false, eval e X.env) :: backTo pos (starEach [] X.env) := by rfl) (h2 : (backTo pos (starEach [e] X.env)).any (·.1) = false := by rfl)
    (hs : starEach [e] X.env = (false, eval e X.env) :: starEach [] X.env := by rfl) :
    PE X (.Call (.Name "min" p) [e] [⟨some "default", .Constant (.int d) j kp, kpos⟩] pos) (lift B (dMnD minOr d te)) :=
  pe_imp (pe_callBK (cr_minDef hc hu) hg hm PyProof.Rows.boot_min (pa_cons he pa_nil hs) (pk_cons pe_int pk_nil) (he := h1) (hpl := h2)) (lift_mnD hK)
theorem de_maxD (hK : X.K = B.K) (hg : Gl X "max") (hm : X.mg "max" = none) (hu : X.A.units + 1 < cLine) (he : PE X e (lift B te)) (hc : X.calm = true := by rfl)
    (h1 : backTo pos (starEach [e] X.env) = (false, eval e X.env) :: backTo pos (starEach [] X.env) := by rfl) (h2 : (backTo pos (starEach [e] X.env)).any (·.1) = false := by rfl)
    (hs : starEach [e] X.env = (false, eval e X.env) :: starEach [] X.env := by rfl) :
    PE X (.Call (.Name "max" p) [e] [⟨some "default", .Constant (.int d) j kp, kpos⟩] pos) (lift B (dMnD maxOr d te)) :=
  pe_imp (pe_callBK (cr_maxDef hc hu) hg hm PyProof.Rows.boot_max (pa_cons he pa_nil hs) (pk_cons pe_int pk_nil) (he := h1) (hpl := h2)) (lift_mnD hK)
end
section
variable {T : Type}
def kMnD (f : Int → List Int → Int) (d : Int) (Q : SV → T → Prop) (r : SV) (τ : T) : Prop := ∃ ns, tupI? r = some ns ∧ Q (.d (.int (f d ns))) τ
theorem dMnD_k (f : Int → List Int → Int) (d : Int) (te : W T) (env : List SV) (τ : T) (Q : SV → T → Prop) : dMnD f d te env τ Q = te env τ (kMnD f d Q) := rfl
end
end Z

namespace Z
open PySem L2
/-! ### a def that calls itself: the bottom -/
theorem fng_no {P : Program} {w : World} {K : PySem.W.Frag} {mg : Str → Option Value} {base : Heap} {S : Sto} {k : Nat} {f : Addr} {fd : FuncData} {ps : List Str} : FnG P w K mg base k f fd ps (spD S K (fun _ _ _ => False)) := by
  have no : ∀ vs H Q E, spD S K (fun _ _ _ => False) vs H Q E → False := fun vs H Q E h => by
    obtain ⟨G, Fp, τ, rs, Qd, Ha, k, r, dr, hf, fin⟩ := h
    exact hf
  constructor
  · intro vs H Q E h
    exact (no _ _ _ _ h).elim
  · intros
    exfalso
    apply no
    assumption
end Z

namespace Z
open PySem L2
/-! ### tests put together, without cases -/
section
variable {T : Type}
theorem kChB_and {tc : W T} {env : List SV} {g' : SV → SV → (SV → Prop) → Prop} {y : SV} {Q : SV → T → Prop} {b c : Bool} {τ : T} (h : b = true → ∀ Q' : SV → T → Prop, Q' (.d (.bool c)) τ → tc env τ (kCh4 g' y Q')) (q : Q (.d (.bool (b && c))) τ) : kChB tc env g' y Q b τ := by
  cases b with
  | true => rw [kChB_t]; exact h rfl Q q
  | false => rw [kChB_f]; exact q
theorem kOrT_or {u : WT T} {env : List SV} {Q : Bool → T → Prop} {b c : Bool} {τ : T} (h : b = false → ∀ Q' : Bool → T → Prop, Q' c τ → u env τ Q') (q : Q (b || c) τ) : kOrT u env Q b τ := by
  cases b with
  | true => rw [kOrT_t]; exact q
  | false => rw [kOrT_f]; exact h rfl Q q
theorem kAndT_and {u : WT T} {env : List SV} {Q : Bool → T → Prop} {b c : Bool} {τ : T} (h : b = true → ∀ Q' : Bool → T → Prop, Q' c τ → u env τ Q') (q : Q (b && c) τ) : kAndT u env Q b τ := by
  cases b with
  | true => rw [kAndT_t]; exact h rfl Q q
  | false => rw [kAndT_f]; exact q
theorem kAndV {u : W T} {env : List SV} {Q : SV → T → Prop} {τ : T} {b c : Bool} (h : b = true → ∀ Q' : SV → T → Prop, Q' (.d (.bool c)) τ → u env τ Q') (q : Q (.d (.bool (b && c))) τ) : kAndB u env Q (.d (.bool b)) τ (some b) := by
  cases b with
  | true => exact h rfl Q q
  | false => exact q
theorem kOrV {u : W T} {env : List SV} {Q : SV → T → Prop} {τ : T} {b c : Bool} (h : b = false → ∀ Q' : SV → T → Prop, Q' (.d (.bool c)) τ → u env τ Q') (q : Q (.d (.bool (b || c))) τ) : kOrB u env Q (.d (.bool b)) τ (some b) := by
  cases b with
  | true => exact q
  | false => exact h rfl Q q
theorem kIfV {u v : W T} {env : List SV} {Q : SV → T → Prop} {τ : T} {b : Bool} {x y : D} (h1 : b = true → ∀ Q' : SV → T → Prop, Q' (.d x) τ → u env τ Q') (h2 : b = false → ∀ Q' : SV → T → Prop, Q' (.d y) τ → v env τ Q') (q : Q (.d (if b then x else y)) τ) : kIf u v env Q b τ := by
  cases b with
  | true => rw [kIf_t]; exact h1 rfl Q q
  | false => rw [kIf_f]; exact h2 rfl Q q
end
end Z

namespace Z
open PySem PySem.Spec PyProof.Rows L2
/-! ### sum, sorted of a list or a tuple of ints -/
section
variable {prog : Program} {w : World} {A : Around} {E : Value → Shared → Prop} {s : Shared} {l : Addr}
theorem sum_tupI {its : List Value} {ns : List Int} {Q : Value → Shared → Prop} (hd : A.handled = none) (ht : s.heap.IsTuple l its.toArray) (ia : IntsAre its ns)
    (fin : ∀ h2 k2 t2, (∀ b o, s.heap.get? b = some o → h2.get? b = some o) → Q (.int ns.sum t2) { s with heap := h2, toks := k2 }) : wpAny (model prog w) A (call (.builtin "sum") [.ref l]) Q E s := by
  obtain ⟨xs, ex⟩ := ia.allInts.items
  have en : numsOf (intItems xs).toList = ns := ex ▸ ia.numsOf
  rw [nums_intItems] at en
  rw [ex] at ht
  have lt : l < s.heap.objs.size := Heap.lt_size ht.choose_spec.1
  refine PySem.call_sum_walkG (wpAny_pyIter_tuple ht ⟨s.heap.objs.size, [s.heap.objs.size, l], [s.heap.objs.size], _, _, _, numAt xs, rfl, Walks.tuple (A := A.in1) hd _ l (Nat.ne_of_lt lt) (intItems xs), ⟨⟨_, Heap.get?_push_size _ rfl, rfl, rfl⟩, ht.push _⟩, fun b hb => ?_, (fun _ _ => intItems_at), fun h2 k2 t2 hk => ?_⟩)
  · show b < (s.heap.push _).objs.size
    rw [Heap.size_push]
    rcases List.mem_cons.mp hb with rfl | hb
    · exact Nat.lt_succ_self _
    · rw [List.mem_singleton.mp hb]
      exact Nat.lt_succ_of_lt lt
  · have z := fin h2 k2 t2 fun b o e => hk b o (fun hb => absurd (Heap.lt_size e) (by rw [List.mem_singleton.mp hb]; exact Nat.lt_irrefl _)) (Heap.get?_push_of_some _ e)
    have es : preSum (numAt xs) (intItems xs).size = ns.sum := by
      rw [preSum_eq, List.take_of_length_le (by simp [intItems]), en]
    rw [es]
    exact z
/-- what a tuple is gathered to -/
theorem gather_tup {its : List Value} {Q : List Value → Shared → Prop} (ht : s.heap.IsTuple l its.toArray) (hz : its.length ≤ sizeLine)
    (fin : Q its { s with heap := (s.heap.push (seqObj "list" #[] 0)).update s.heap.objs.size (Obj.mapSeq (· ++ its.toArray)) }) : wpAny (model prog w) A (collect (.ref l)) Q E s := by
  obtain ⟨o, at0, cl, n, dt⟩ := id ht
  unfold collect
  refine wpAny_bind (wpAny_runValue (codeAny_builtin entry_proto_collect' (wpAny_bind (wpAny_newList (wpAny_pure ⟨Code.quiet_builtin _ (by decide +kernel), codeAny_builtin entry_list_iadd' ?_⟩)))))
  show wpAny _ _ (Builtin.List.listExtendWith (.ref s.heap.objs.size) (.ref l) (.ref s.heap.objs.size)) _ _ { s with heap := s.heap.push (seqObj "list" #[] 0) }
  unfold Builtin.List.listExtendWith
  have at1 : (s.heap.push (seqObj "list" #[] 0)).get? l = some o := Heap.get?_push_of_some _ at0
  have me : (s.heap.push (seqObj "list" #[] 0)).get? s.heap.objs.size = some (seqObj "list" #[] 0) := Heap.get?_push_size _ rfl
  refine wpAny_bind (wpAny_typeOf (T := "tuple") ⟨o, at1, cl⟩ ?_)
  rw [if_pos (by rw [show (Value.type "tuple" == Value.type "tuple") = true from by rfl, Bool.or_true])]
  refine wpAny_bind (listItems_at at1 dt (wpAny_bind (listItems_at (xs := #[]) (n := 0) me rfl ?_)))
  rw [if_neg (by simp)]
  have sz : ((#[] : Array Value) ++ its.toArray).size ≤ sizeLine + 1 := by
    rw [Array.size_append, List.size_toArray]
    simp only [List.size_toArray, List.length_nil]
    omega
  refine wpAny_bind (listUpdate_at (xs := #[]) (n := 0) me rfl (wpAny_pure ?_) (Nat.zero_le _) sz)
  refine wpAny_bind (wpAny_load (get?_update_seq me _) (wpAny_pure ?_))
  rw [show ((#[] : Array Value) ++ its.toArray).toList = its by simp]
  exact fin
theorem sorted_tup {its : List Value} {ltv : Value → Value → Bool} {Q : Value → Shared → Prop} (O : SrtO.Swo ltv) (ht : s.heap.IsTuple l its.toArray) (hz : its.length ≤ sizeLine)
    (can : 2 ≤ its.length → ∀ (h₁ : Heap) (a : Addr), h₁.get? a = some (seqObj "list" its.toArray 0) → SrtO.SortableO prog w A.in1.in1 { s with heap := h₁ } a its ltv)
    (fin : ∀ out : List Value, SrtO.Srtd ltv out → SrtO.Stb ltv out its → Q (.ref (s.heap.objs.size + 1)) { s with heap := sortedAll s.heap its out.toArray }) :
    wpAny (model prog w) A (call (.builtin "sorted") [.ref l]) Q E s := by
  have es : ((s.heap.push (seqObj "list" #[] 0)).update s.heap.objs.size (Obj.mapSeq (· ++ its.toArray))).objs.size = s.heap.objs.size + 1 := (Heap.size_update ..).trans (size_push' ..)
  have own : (((s.heap.push (seqObj "list" #[] 0)).update s.heap.objs.size (Obj.mapSeq (· ++ its.toArray))).push (seqObj "list" its.toArray 0)).get? (s.heap.objs.size + 1) = some (seqObj "list" its.toArray 0) := es ▸ Heap.get?_push_size _ rfl
  refine Calls.call_function_entry kind_sorted plain_sorted entry_sorted (args_sorted1 _) ?_
  unfold Builtin.«sorted»
  refine wpAny_bind (m := checkCount "sorted" 1 1 _) (wpAny_pure (wpAny_bind (gather_tup ht hz (wpAny_bind (wpAny_newList ?_ hz)))))
  show wpAny _ _ _ _ _ { s with heap := ((s.heap.push (seqObj "list" #[] 0)).update s.heap.objs.size (Obj.mapSeq (· ++ its.toArray))).push (seqObj "list" its.toArray 0) }
  rw [es]
  refine wpAny_bind (wpAny_holding (wpAny_call_entry slot_list_sort ⟨_, own, rfl⟩ entry_list_sort (SrtO.list_sort_ord O own hz (fun h2 => can h2 _ _ own) fun out hs hb => ⟨_, rfl, ?_⟩) (args_list_sort _)))
  exact wpAny_pure ⟨_, rfl, fin out hs hb⟩
end
section
variable {X : Cx} {B : Bk}
def rSumA (K : PySem.W.Frag) : List V → Hp → VK → Prop := fun vs H Q => ∃ (a : Addr) (ns : List Int), vs = [V.ref a] ∧ (SqL K H a (ns.map V.int) ∨ SqT K H a (ns.map V.int)) ∧ Q (.int ns.sum) H
theorem cr_sumA (hc : X.calm = true) : CallR X (.builtin "sum") (rSumA X.K) := by
  rintro pins s σ H vs us Q I r ⟨a, ns, rfl, hs | hs, q⟩
  · exact cr_sum hc pins s σ H [V.ref a] us Q I r ⟨a, ns, rfl, hs, q⟩
  · obtain ⟨its, rv, hl, _⟩ := I.tuple hs
    rw [Vals.ref1 r]
    exact sum_tupI (I.ok.hd hc) hl rv.ints fun h2 k2 t2 hk => ⟨.int _, H, I.kept hk, ⟨_, rfl⟩, q⟩
def rSortA (K : PySem.W.Frag) : List V → Hp → VK → Prop := fun vs H Q => ∃ (a : Addr) (ns : List Int), vs = [V.ref a] ∧ (SqL K H a (ns.map V.int) ∨ SqT K H a (ns.map V.int)) ∧
  ∀ (ms : List Int) (p : Addr), ms.Perm ns → ms.Pairwise (· ≤ ·) → H p = none → Q (.ref p) (upd H p (.lst (ms.map V.int)))
theorem cr_sortA : CallR X (.builtin "sorted") (rSortA X.K) := by
  rintro pins s σ H vs us Q I r ⟨a, ns, rfl, hs | hs, q⟩
  · exact cr_sortedI pins s σ H [V.ref a] us Q I r ⟨a, ns, rfl, hs, q⟩
  · obtain ⟨its, rv, hl, hz⟩ := I.tuple hs
    rw [Vals.ref1 r]
    have ia := rv.ints
    refine sorted_tup SrtO.swo_int hl (by rw [← rv.length]; exact hz) (fun h2 h₁ a' _ => SrtO.ints_sortable ia h2) fun out g1 g2 => ?_
    obtain ⟨k1, k2, k3⟩ := SrtO.ints_out ia g1 g2
    obtain ⟨ep, he⟩ := PyProof.Rows.sortedAll_at s.heap its out.toArray
    have sz : ((out.map SrtO.iv).map V.int).length ≤ sizeLine := by
      rw [List.length_map, k2.length_eq, ← List.length_map (f := V.int)]
      exact hz
    exact ⟨.ref _, _, I.laid (t' := s.toks) (o := .lst ((out.map SrtO.iv).map V.int)) (fun _ _ => PyProof.Rows.sortedAll_old) (Nat.le_succ _) ⟨sz, out, ep, vals_of_ints k1, he⟩, rfl, q _ _ k2 k3 (I.hok.fresh (Nat.le_succ _))⟩
def gSumA (rs : List SV) (Q : SV → Prop) : Prop := match rs with
  | [x] => opt (x.seqd?.bind ints?) fun ns => Q (.d (.int ns.sum))
  | _ => False
theorem cd_sumA (hK : X.K = B.K) : CallD B (rSumA X.K) gSumA := fun rs vs Ha G F H τ Qv Q k r h fin => by
  unfold gSumA at h
  split at h
  · obtain ⟨ns, en, h⟩ := opt_of h
    obtain ⟨xs, ex, en⟩ := bind_of en
    obtain ⟨v, rfl, rx⟩ := r.one
    obtain ⟨p, ws, e1, hs, a⟩ := rx.seqd k.same ex
    have e2 := ints_ok a en
    subst e2
    rw [hK]
    exact ⟨p, ns, by rw [e1], hs, fin.d k (.int _) h⟩
  · exact h.elim
def gSortA (rs : List SV) (Q : SV → Prop) : Prop := match rs with
  | [x] => opt (x.seqd?.bind ints?) fun ns => ∀ ms : List Int, ms.Perm ns → ms.Pairwise (· ≤ ·) → Q (.ol (ms.map PyData.int))
  | _ => False
theorem cd_sortA (hK : X.K = B.K) : CallD B (rSortA X.K) gSortA := fun rs vs Ha G F H τ Qv Q k r h fin => by
  unfold gSortA at h
  split at h
  · obtain ⟨ns, en, h⟩ := opt_of h
    obtain ⟨xs, ex, en⟩ := bind_of en
    obtain ⟨v, rfl, rx⟩ := r.one
    obtain ⟨p, ws, e1, hs, a⟩ := rx.seqd k.same ex
    have e2 := ints_ok a en
    subst e2
    rw [hK]
    exact ⟨p, ns, by rw [e1], hs, fun ms l h1 h2 hl => fin.ol k hl (rp_ints ms) (h ms h1 h2)⟩
  · exact h.elim
end
theorem gSumA_t {ns : List Int} {Q : SV → Prop} : gSumA [.d (.tuple (ns.map .int))] Q = Q (.d (.int ns.sum)) := by
  unfold gSumA
  show opt (ints? (ns.map PyData.int)) _ = _
  rw [ints_mapI]
  rfl
theorem gSumA_ol {ns : List Int} {Q : SV → Prop} : gSumA [.ol (ns.map .int)] Q = Q (.d (.int ns.sum)) := by
  unfold gSumA
  show opt (ints? (ns.map PyData.int)) _ = _
  rw [ints_mapI]
  rfl
theorem gSumA_l {ns : List Int} {Q : SV → Prop} : gSumA [.d (.list (ns.map .int))] Q = Q (.d (.int ns.sum)) := gSumA_ol
theorem gSumA_vw {ns : List Int} {Q : SV → Prop} : gSumA [.vw (ns.map .int)] Q = Q (.d (.int ns.sum)) := gSumA_ol
/-- sorted(..) of numbers that are known as such -/
theorem gSortA_of {x : SV} {ns : List Int} {Q : SV → Prop} (e : x.seqd? = some (ns.map .int)) (h : ∀ ms : List Int, ms.Perm ns → ms.Pairwise (· ≤ ·) → Q (.ol (ms.map .int))) : gSortA [x] Q := by
  show opt (x.seqd?.bind ints?) _
  rw [e, Option.bind_some, ints_mapI]
  exact h
end Z

namespace Z
open PySem L2
/-! ### ways that come together again -/
section
variable {T : Type}
theorem kIf_join {u v : W T} {Q : SV → T → Prop} {env : List SV} {b : Bool} {τ : T} (P : SV → T → Prop)
    (h1 : b = true → ∀ Q' : SV → T → Prop, (∀ x τ', P x τ' → Q' x τ') → u env τ Q') (h2 : b = false → ∀ Q' : SV → T → Prop, (∀ x τ', P x τ' → Q' x τ') → v env τ Q')
    (q : ∀ x τ', P x τ' → Q x τ') : kIf u v env Q b τ := by
  cases b with
  | true => rw [kIf_t]; exact h1 rfl Q q
  | false => rw [kIf_f]; exact h2 rfl Q q
theorem kIfS_join {t u : WS T} {nx : List SV → T → Prop} {rt : SV → T → Prop} {bk ct : List SV → T → Prop} {env : List SV} {b : Bool} {τ : T} (P : List SV → T → Prop)
    (h1 : b = true → ∀ n2 : List SV → T → Prop, (∀ e τ', P e τ' → n2 e τ') → t ⟨n2, rt, bk, ct⟩ env τ) (h2 : b = false → ∀ n2 : List SV → T → Prop, (∀ e τ', P e τ' → n2 e τ') → u ⟨n2, rt, bk, ct⟩ env τ)
    (q : ∀ e τ', P e τ' → nx e τ') : kIfS t u ⟨nx, rt, bk, ct⟩ env b τ := by
  cases b with
  | true => rw [kIfS_t]; exact h1 rfl nx q
  | false => rw [kIfS_f]; exact h2 rfl nx q
/-- a statement that leaves something known -/
theorem st_join {t : WS T} {nx : List SV → T → Prop} {rt : SV → T → Prop} {bk ct : List SV → T → Prop} {env : List SV} {τ : T} (P : List SV → T → Prop)
    (h : ∀ n2 : List SV → T → Prop, (∀ e τ', P e τ' → n2 e τ') → t ⟨n2, rt, bk, ct⟩ env τ) (q : ∀ e τ', P e τ' → nx e τ') : t ⟨nx, rt, bk, ct⟩ env τ := h nx q
/-- an expression that tells something known -/
theorem ex_join {t : W T} {Q : SV → T → Prop} {env : List SV} {τ : T} (P : SV → T → Prop) (h : ∀ Q' : SV → T → Prop, (∀ x τ', P x τ' → Q' x τ') → t env τ Q') (q : ∀ x τ', P x τ' → Q x τ') : t env τ Q := h Q q
end
end Z

namespace Z
open PySem PySem.Spec PyProof.Rows L2
/-! ### list(range(a, b)), tuple(range(a, b)) -/
section
variable {T : Type}
def kRgB (f : List D → SV) (x : SV) (Q : SV → T → Prop) (y : SV) (τ : T) : Prop := ∃ i j : Int, x = .d (.int i) ∧ y = .d (.int j) ∧ RgOk i j ∧ Q (f (rgI i (j - i).toNat)) τ
def kRgA (f : List D → SV) (tb : W T) (env : List SV) (Q : SV → T → Prop) (x : SV) (τ : T) : Prop := tb env τ (kRgB f x Q)
def dRg (f : List D → SV) (ta tb : W T) : W T := fun env τ Q => ta env τ (kRgA f tb env Q)
theorem dRg_k (f : List D → SV) (ta tb : W T) (env : List SV) (τ : T) (Q : SV → T → Prop) : dRg f ta tb env τ Q = ta env τ (kRgA f tb env Q) := rfl
theorem kRgB_k {f : List D → SV} {i j : Int} {Q : SV → T → Prop} {τ : T} : kRgB f (.d (.int i)) Q (.d (.int j)) τ = (RgOk i j ∧ Q (f (rgI i (j - i).toNat)) τ) := by
  refine propext ⟨?_, fun h => ⟨i, j, rfl, rfl, h⟩⟩
  rintro ⟨i', j', e1, e2, h⟩
  cases e1
  cases e2
  exact h
end
theorem rp_rg {K : PySem.W.Frag} {G : Hp} (a b : Int) : RpAll K G (rgV a b) (rgI a (b - a).toNat) := by
  have := rp_ints (K := K) (G := G) ((List.range (b - a).toNat).map fun i => a + (i : Nat))
  rw [List.map_map, List.map_map] at this
  exact this
section
variable {X : Cx} {B : Bk} {a b : Expr} {p p2 pos pos2 : Pos} {ta tb : W B.T}
theorem de_lstRg (hg : Gl X "list") (hm : X.mg "list" = none) (hg2 : Gl X "range") (hm2 : X.mg "range" = none) (ha : PE X a (lift B ta)) (hb : PE X b (lift B tb)) (hc : X.calm = true := by rfl)
    (n1 : starEach [a, b] X.env = (false, eval a X.env) :: starEach [b] X.env := by rfl) (n2 : starEach [b] X.env = (false, eval b X.env) :: starEach [] X.env := by rfl) (n3 : (backTo pos2 (starEach [b] X.env)).any (·.1) = false := by rfl)
    (n4 : starEach [.Call (.Name "range" p2) [a, b] [] pos2] X.env = (false, eval (.Call (.Name "range" p2) [a, b] [] pos2) X.env) :: starEach [] X.env := by rfl) :
    PE X (.Call (.Name "list" p) [.Call (.Name "range" p2) [a, b] [] pos2] [] pos) (lift B (dRg (fun xs => .ol xs) ta tb)) :=
  pe_imp (pe_listRg hc hg hm (prg_2 hg2 hm2 ha hb n1 n2 n3) n4) fun σ H Q ⟨G, F, env, τ, Qd, s, t, k⟩ => ⟨G, F, env, τ, _, s, t, fun x τ1 G1 F1 H1 vx f1 r1 q1 => ⟨G1, F1, env, τ1, _, s.fin f1, q1, fun y τ2 G2 F2 H2 vy f2 r2 q2 => by
    obtain ⟨i, j, ex, ey, ok, q⟩ := q2
    subst ex ey
    exact ⟨i, j, rint r1, rint r2, ok, fun l hl => (FinT.trans k (f1.trans f2)).ol f2.k hl (rp_rg i j) q⟩⟩⟩
theorem de_tupRg (hg : Gl X "tuple") (hm : X.mg "tuple" = none) (hg2 : Gl X "range") (hm2 : X.mg "range" = none) (ha : PE X a (lift B ta)) (hb : PE X b (lift B tb)) (hc : X.calm = true := by rfl)
    (n1 : starEach [a, b] X.env = (false, eval a X.env) :: starEach [b] X.env := by rfl) (n2 : starEach [b] X.env = (false, eval b X.env) :: starEach [] X.env := by rfl) (n3 : (backTo pos2 (starEach [b] X.env)).any (·.1) = false := by rfl)
    (n4 : starEach [.Call (.Name "range" p2) [a, b] [] pos2] X.env = (false, eval (.Call (.Name "range" p2) [a, b] [] pos2) X.env) :: starEach [] X.env := by rfl) :
    PE X (.Call (.Name "tuple" p) [.Call (.Name "range" p2) [a, b] [] pos2] [] pos) (lift B (dRg (fun xs => .d (.tuple xs)) ta tb)) :=
  pe_imp (pe_tupRg hc hg hm (prg_2 hg2 hm2 ha hb n1 n2 n3) n4) fun σ H Q ⟨G, F, env, τ, Qd, s, t, k⟩ => ⟨G, F, env, τ, _, s, t, fun x τ1 G1 F1 H1 vx f1 r1 q1 => ⟨G1, F1, env, τ1, _, s.fin f1, q1, fun y τ2 G2 F2 H2 vy f2 r2 q2 => by
    obtain ⟨i, j, ex, ey, ok, q⟩ := q2
    subst ex ey
    exact ⟨i, j, rint r1, rint r2, ok, fun l hl => (FinT.trans k (f1.trans f2)).tup f2.k hl (rp_rg i j) q⟩⟩⟩
/-! ### x in a tuple of data -/
def rInT (K : PySem.W.Frag) : R2 := fun x y H Q => ∃ d ds, Dp K H x d ∧ Dp K H y (.tuple ds) ∧ SeqAt.shaped d = true ∧ SeqAt.shaped (.tuple ds) = true ∧ Q (.bl (ds.any fun z => PyData.eqv z d)) H
theorem op_inT (hu : X.A.units + 65 < cLine) : OpR X (compareOp .In) (rInT X.K) := by
  rintro pins s σ H x y v u Q I rx ry ⟨d, ds, hd, he, sd, se, q⟩
  obtain ⟨as, r1⟩ := Dp.reads I d x v hd rx
  obtain ⟨bs, r2⟩ := Dp.reads I (.tuple ds) y u he ry
  have h1 : d.depth ≤ 64 := by
    unfold SeqAt.shaped at sd
    rw [Bool.and_eq_true, decide_eq_true_eq] at sd
    exact sd.2
  refine SeqAt.in_tuple_reads r2 r1 (SeqAt.canLay_of_shaped se) (SeqAt.canLay_of_shaped sd) ?_ ⟨.bl _, H, I, rfl, q⟩
  have := Nat.min_le_right (PyData.depthAll ds) d.depth
  omega
def gInT (x y : SV) (Q : SV → Prop) : Prop := ∃ d ds, x.now? = some d ∧ y = .d (.tuple ds) ∧ SeqAt.shaped d = true ∧ SeqAt.shaped (.tuple ds) = true ∧ Q (.d (.bool (ds.any fun z => PyData.eqv z d)))
theorem od_inT (hK : X.K = B.K) : OpD B (rInT X.K) gInT := fun x y vx vy Ha Hb G F H τ Qv Q k rx ry h fin => by
  rw [hK]
  obtain ⟨d, ds, e1, e2, sd, se, h⟩ := h
  subst e2
  exact ⟨d, ds, rx.now k.same e1 (SeqAt.canLay_of_shaped sd), Res.now k.same ry rfl (SeqAt.canLay_of_shaped se), sd, se, fin.d k (.bl _) h⟩
/-! ### a, b, c = [], [], [] -/
def tPar3 (i j k : Nat) (ta : TA) : TS := fun D σ H => ta σ H fun vs H1 => ∃ u v w, vs = [u, v, w] ∧ D.nx (((σ.set i (some u)).set j (some v)).set k (some w)) H1
end
section
variable {X : Cx} {B : Bk} {a b c : Expr} {ta : TA} {i j k : Nat} {x y z : Str} {px py pz pt pt2 pos : Pos} {kt k2 : _}
theorem ps_par3 (hc : X.calm = true) (hN : X.N.Nodup) (hi : X.N[i]? = some x) (hj : X.N[j]? = some y) (hk : X.N[k]? = some z) (hij : i ≠ j) (hik : i ≠ k) (hjk : j ≠ k)
    (hx : X.env.scope.names.lookup x = some .local) (hy : X.env.scope.names.lookup y = some .local) (hz : X.env.scope.names.lookup z = some .local) (ha : PA X [a, b, c] ta)
    (hw : swappedStores [.Tuple [.Name x px, .Name y py, .Name z pz] kt pt] (.Tuple [a, b, c] k2 pt2) X.env = pure (some [x, y, z]))
    (hs : swapsWithSole [.Tuple [.Name x px, .Name y py, .Name z pz] kt pt] (.Tuple [a, b, c] k2 pt2) pos.line X.env = pure false := by rfl) :
    PS X (.Assign [.Tuple [.Name x px, .Name y py, .Name z pz] kt pt] (.Tuple [a, b, c] k2 pt2) pos) (tPar3 i j k ta) := by
  refine ⟨fun pins s σ H D I h => ?_⟩
  rw [exec_Assign_arm, hs]
  refine wpAny_bind (wpAny_standAt (wpAny_bind (wpAny_pure ?_)))
  rw [if_neg (by decide)]
  refine wpAny_bind (Tuple_ (thn (ha.run _ pins s σ H _ I h) fun us s1 ⟨vs, H1, I1, r1, u, v, w, e1, q1⟩ => ?_))
  subst e1
  obtain ⟨m1, m2, m3, rfl, ru, rv, rw'⟩ : ∃ m1 m2 m3, us = [m1, m2, m3] ∧ RelV u m1 ∧ RelV v m2 ∧ RelV w m3 := by
    cases r1 with
    | cons g1 t1 =>
      cases t1 with
      | cons g2 t2 =>
        cases t2 with
        | cons g3 t3 =>
          cases t3
          exact ⟨_, _, _, rfl, g1, g2, g3⟩
  refine wpAny_newObj_type ?_ (by show 3 ≤ sizeLine; decide)
  have I2 : Inv X pins σ H1 { s1 with heap := s1.heap.push { cls := .type "tuple", data := .seq [m1, m2, m3].toArray } } := I1.kept (t' := s1.toks) fun b o e => Heap.get?_push_of_some _ e
  rw [hw]
  refine wpAny_bind (wpAny_pure ?_)
  show wpAny (model X.prog X.w) X.A (do rule "assign.swapped-stores"; let its ← unpackItems (.ref s1.heap.objs.size) 3 none; assignInOrder [fun g => bindName X.env z g, fun g => bindName X.env y g, fun g => bindName X.env x g] its.reverse; pure Flow.next) _ _ _
  refine wpAny_bind (wpAny_rule (wpAny_bind (unpackItems_tuple (items := #[m1, m2, m3]) (I.ok.hd hc) (IsTup.new s1.heap _) fun h' keep => ?_)))
  have I3 := I2.kept (h' := h') (t' := s1.toks) fun b o e => keep b o (Nat.ne_of_lt (Heap.lt_size e)) e
  show wpAny _ _ (assignInOrder [fun g => bindName X.env z g, fun g => bindName X.env y g, fun g => bindName X.env x g] [m3, m2, m1] >>= fun _ => pure Flow.next) _ _ _
  refine wpAny_bind (assignInOrder_cons (wpAny_bindName (store_ok I3 hN hk (.inl hz) rw' (fun s4 I4 => assignInOrder_cons (wpAny_bindName (store_ok I4 hN hj (.inl hy) rv (fun s5 I5 =>
    assignInOrder_cons (wpAny_bindName (store_ok I5 hN hi (.inl hx) ru (fun s6 I6 => assignInOrder_nil (wpAny_pure ?_)) (.inr hx)))) (.inr hy)))) (.inr hz))))
  have es : ((σ.set k (some w)).set j (some v)).set i (some u) = ((σ.set i (some u)).set j (some v)).set k (some w) := by
    rw [List.set_comm _ _ (Ne.symm hij), List.set_comm _ _ (Ne.symm hik), List.set_comm (i := k) (j := j) _ _ (Ne.symm hjk)]
  rw [es] at I6
  exact ⟨_, H1, I6, q1⟩
def dNil3 {T : Type} (i j k : Nat) : WS T := fun D env τ => D.nx (((env.set i (.ol [])).set j (.ol [])).set k (.ol [])) τ
theorem ds_nil3 {q1 q2 q3 : Pos} (hc : X.calm = true) (hN : X.N.Nodup) (hi : X.N[i]? = some x) (hj : X.N[j]? = some y) (hk : X.N[k]? = some z) (hij : i ≠ j) (hik : i ≠ k) (hjk : j ≠ k)
    (hx : X.env.scope.names.lookup x = some .local) (hy : X.env.scope.names.lookup y = some .local) (hz : X.env.scope.names.lookup z = some .local)
    (hw : swappedStores [.Tuple [.Name x px, .Name y py, .Name z pz] kt pt] (.Tuple [.List [] q1, .List [] q2, .List [] q3] k2 pt2) X.env = pure (some [x, y, z]))
    (hs : swapsWithSole [.Tuple [.Name x px, .Name y py, .Name z pz] kt pt] (.Tuple [.List [] q1, .List [] q2, .List [] q3] k2 pt2) pos.line X.env = pure false := by rfl) :
    PS X (.Assign [.Tuple [.Name x px, .Name y py, .Name z pz] kt pt] (.Tuple [.List [] q1, .List [] q2, .List [] q3] k2 pt2) pos) (liftS B (dNil3 i j k)) :=
  ps_imp (ps_par3 hc hN hi hj hk hij hik hjk hx hy hz (pa_cons (pe_lst pa_nil) (pa_cons (pe_lst pa_nil) (pa_cons (pe_lst pa_nil) pa_nil))) hw hs) fun D σ H ⟨G, F, env, τ, Dd, s, d, E⟩ => by
    refine ⟨by decide, fun p1 h1 => ⟨by decide, fun p2 h2 => ⟨by decide, fun p3 h3 => ⟨_, _, _, rfl, ?_⟩⟩⟩⟩
    have n1 := new_lst (τ := τ) s.k h1 (.nil (K := B.K))
    have s1 := s.sto (i := i) n1.1 n1.2 rfl
    have n2 := new_lst (τ := τ) s1.k h2 (.nil (K := B.K))
    have s2 := s1.sto (i := j) n2.1 n2.2 rfl
    have n3 := new_lst (τ := τ) s2.k h3 (.nil (K := B.K))
    have s3 := s2.sto (i := k) n3.1 n3.2 rfl
    exact E.nx G F _ _ _ τ (Same.refl G) s3 d
end
theorem dNil3_k {T : Type} (i j k : Nat) (D : DEnds T) (env : List SV) (τ : T) : dNil3 i j k D env τ = D.nx (((env.set i (.ol [])).set j (.ol [])).set k (.ol [])) τ := rfl
end Z
namespace Z
open PySem PySem.Spec PyProof.Rows L2
/-! ### t[::-1] of a tuple -/
theorem adj_rev (n : Nat) : Builtin.Slice.sliceAdjust none none (-1) (n : Int) = ((n : Int) - 1, -1) := by
  unfold Builtin.Slice.sliceAdjust
  simp
theorem plc_rev (n : Nat) : Builtin.Slice.slicePlaces ((n : Int) - 1) (-1) (-1) = n := by
  unfold Builtin.Slice.slicePlaces
  rw [if_neg (by decide)]
  split
  · rw [show (-(-1 : Int)) = 1 from rfl, Int.ediv_one]
    omega
  · omega
theorem fm_congr {α β : Type} {f g : α → Option β} : ∀ {l : List α}, (∀ x ∈ l, f x = g x) → l.filterMap f = l.filterMap g
  | [], _ => rfl
  | a :: l, h => by
    rw [List.filterMap_cons, List.filterMap_cons, h a List.mem_cons_self, fm_congr fun x hx => h x (List.mem_cons_of_mem _ hx)]
theorem fm_get {α : Type} : ∀ l : List α, ((List.range l.length).filterMap fun m => l[m]?) = l
  | [] => rfl
  | a :: l => by
    rw [List.length_cons, List.range_succ_eq_map, List.filterMap_cons]
    show a :: _ = _
    rw [List.filterMap_map]
    exact congrArg _ (fm_get l)
theorem pick_rev (xs : Array Value) : ((List.range xs.size).filterMap fun (m : Nat) => xs[((xs.size : Int) - 1 + (m : Int) * (-1)).toNat]?).toArray = xs.toList.reverse.toArray := by
  congr 1
  have e := fm_get xs.toList.reverse
  rw [List.length_reverse, Array.length_toList] at e
  refine Eq.trans (fm_congr fun m hm => ?_) e
  rw [List.mem_range] at hm
  have hm' : m < xs.toList.length := by simpa using hm
  rw [show ((xs.size : Int) - 1 + (m : Int) * (-1)).toNat = xs.size - 1 - m by omega, List.getElem?_reverse hm', Array.length_toList, Array.getElem?_toList]
section
variable {prog : Program} {w : World} {A : Around} {E : Value → Shared → Prop} {s : Shared}
theorem turned_tup {t sl : Addr} {xs : Array Value} {vs : Value} {Q : Value → Shared → Prop} (ht : IsTup s.heap t xs) (hs : s.heap.IsSliceOf sl .none .none vs) (ps : IsPart vs (some (-1)))
    (fin : Q (.ref s.heap.objs.size) { s with heap := s.heap.push { cls := .type "tuple", data := .seq xs.toList.reverse.toArray } }) (hz : xs.size ≤ sizeLine) : wpAny (model prog w) A (getItem (.ref t) (.ref sl)) Q E s := by
  obtain ⟨os, hos, hcs, hds⟩ := id hs
  have isl : s.TypeIs (.ref sl) "slice" := ⟨os, hos, hcs⟩
  unfold getItem
  refine wpAny_holding (wpAny_bind (wpAny_sequenceKey ht.typeIs (by decide) ?_))
  refine wpAny_bind (wpAny_callSpecial?_slot (name := Str.ofString "__getitem__") ht.typeIs slot_tuple_getitem (wpAny_call_entry slot_tuple_getitem ht.typeIs entry_tuple_getitem ?_ (args_tuple_getitem _ _)))
  show wpAny _ _ (Builtin.Tuple.tupleItemsOf (.ref t) >>= _) _ _ s
  refine wpAny_bind (tupleItemsOf_ ht (wpAny_bind (wpAny_typeOf isl ?_)))
  rw [if_pos (by decide)]
  refine wpAny_bind ?_
  unfold Builtin.Slice.sliceApplied Builtin.Slice.sliceFields
  refine wpAny_bind (wpAny_bind (wpAny_field hos hds (x := .none) rfl (wpAny_bind (wpAny_field hos hds (x := .none) rfl (wpAny_bind (wpAny_field hos hds (x := vs) rfl (wpAny_pure ?_)))))))
  refine wpAny_bind (HT.slicePart_ ps ?_)
  show wpAny _ _ (if ((-1 : Int) == 0) = true then _ else _) _ _ s
  rw [if_neg (by decide)]
  refine wpAny_bind (slicePart_none (wpAny_bind (slicePart_none (wpAny_bind (wpAny_pure ?_)))))
  show wpAny _ _ (match Builtin.Slice.sliceAdjust none none (-1) (xs.size : Int) with | (lo, hi) => pure (lo, (-1 : Int), Builtin.Slice.slicePlaces lo hi (-1))) _ _ s
  rw [adj_rev]
  show wpAny _ _ (pure ((xs.size : Int) - 1, (-1 : Int), Builtin.Slice.slicePlaces ((xs.size : Int) - 1) (-1) (-1))) _ _ s
  rw [plc_rev]
  refine wpAny_pure ?_
  show wpAny _ _ (if (((xs.size : Int) - 1) == 0 && (-1 : Int) == 1 && xs.size == xs.size) = true then _ else _) _ _ s
  rw [if_neg (by rw [show ((-1 : Int) == 1) = false from rfl, Bool.and_false, Bool.false_and]; decide), pick_rev]
  have z : sizeOk (.seq xs.toList.reverse.toArray) := by
    show xs.toList.reverse.toArray.size ≤ sizeLine
    simpa using hz
  first
    | exact wpAny_bind (m := Builtin.Tuple.tupleExact _) (wpAny_newObj_type (wpAny_pure ⟨_, rfl, wpAny_pure fin⟩) z)
    | exact wpAny_bind (m := Builtin.Tuple.tupleExact _) (wpAny_newObj_type (wpAny_bind (wpAny_pure (wpAny_pure ⟨_, rfl, wpAny_pure fin⟩))) z)
    | exact wpAny_bind (wpAny_bind (m := Builtin.Tuple.tupleExact _) (wpAny_newObj_type (wpAny_pure (wpAny_pure ⟨_, rfl, wpAny_pure fin⟩)) z))
    | exact wpAny_bind (wpAny_bind (m := Builtin.Tuple.tupleExact _) (wpAny_newObj_type (wpAny_pure ⟨_, rfl, wpAny_pure fin⟩) z))
end
section
variable {X : Cx} {B : Bk} {e : Expr} {te : W B.T}
def tRevT (K : PySem.W.Frag) (te : TE) : TE := fun σ H Q => te σ H fun x H1 => ∃ a xs, x = .ref a ∧ SqT K H1 a xs ∧ ∀ p, H1 p = none → Q (.ref p) (upd H1 p (.tup xs.reverse))
theorem pe_revT {te : TE} {k : Nat} {p1 p2 p3 pos : Pos} (he : PE X e te) : PE X (.Subscript e (.Slice none none (some (.UnaryOp .USub (.Constant (.int 1) k p1) p2)) p3) pos) (tRevT X.K te) := by
  refine ⟨fun pins s σ H Q I h => Subscript_ (thn (he.run pins s σ H _ I h) fun v s1 ⟨x, H1, I1, r1, a, xs, ex, hx, q⟩ => ?_)⟩
  subst ex
  cases r1
  have m1 : PO X (some (.UnaryOp .USub (.Constant (.int 1) k p1) p2)) (tPart (tUn (rU fun i => .int (-i)) (tC (.int 1)))) := po_some (pe_un un_neg pe_int)
  refine wpAny_Slice (thn (po_none.run pins s1 σ H1 (fun o g => o = none ∧ g = H1) I1 ⟨rfl, rfl⟩) fun vl s2 ⟨l, H2, I2, pl, el, e2⟩ => ?_)
  subst el e2
  refine thn (po_none.run pins s2 σ H2 (fun o g => o = none ∧ g = H2) I2 ⟨rfl, rfl⟩) fun vu s3 ⟨u, H3, I3, pu, eu, e3⟩ => ?_
  subst eu e3
  refine thn (m1.run pins s3 σ H3 (fun o g => o = some (-1) ∧ g = H3) I3 ⟨1, rfl, -1, rfl, rfl, rfl⟩) fun vs s4 ⟨o, H4, I4, ps, eo, e4⟩ => ?_
  subst eo e4
  have I5 : Inv X pins σ H4 { s4 with heap := s4.heap.push { cls := .type "slice", data := .fields #[vl, vu, vs] } } := I4.kept (t' := s4.toks) fun b ob q => Heap.get?_push_of_some _ q
  obtain ⟨its, r, ht, hz⟩ := I5.tuple hx
  have hl := r.length
  have el : vl = .none := by cases pl; rfl
  have eu : vu = .none := by cases pu; rfl
  subst el eu
  show wpAny (model X.prog X.w) X.A (subscriptTail e (.Slice none none (some (.UnaryOp .USub (.Constant (.int 1) k p1) p2)) p3) (.ref a) (.ref s4.heap.objs.size)) (EP X pins σ Q) X.xe { s4 with heap := s4.heap.push { cls := .type "slice", data := .fields #[.none, .none, vs] } }
  have sz : its.toArray.size ≤ sizeLine := by
    rw [List.size_toArray]
    omega
  refine tail_any (ops := [.ref a, .ref s4.heap.objs.size]) ht.typeIs slot_tuple_getitem.lookup (turned_tup ht (Heap.IsSliceOf.new _ .none .none vs) ps ?_ sz) (by with_unfolding_all rfl)
  refine ⟨.ref _, _, I5.laid (t' := s4.toks) (o := .tup xs.reverse) (fun b ob q => Heap.get?_push_of_some _ q) (Nat.le_refl _) ?_, rfl, q _ (I5.hok.fresh (Nat.le_refl _))⟩
  exact ⟨by rw [List.length_reverse]; exact hz, _, r.reverse, IsTup.new _ _⟩
def kRevT {T : Type} (Q : SV → T → Prop) (r : SV) (τ : T) : Prop := ∃ xs, r = .d (.tuple xs) ∧ Q (.d (.tuple xs.reverse)) τ
def dRevT {T : Type} (te : W T) : W T := fun env τ Q => te env τ (kRevT Q)
theorem de_revT {k : Nat} {p1 p2 p3 pos : Pos} (hK : X.K = B.K) (he : PE X e (lift B te)) : PE X (.Subscript e (.Slice none none (some (.UnaryOp .USub (.Constant (.int 1) k p1) p2)) p3) pos) (lift B (dRevT te)) :=
  pe_imp (pe_revT he) fun σ H Q ⟨G, F, env, τ, Qd, s, t, fin⟩ => ⟨G, F, env, τ, _, s, t, fun r τ1 G1 F1 H1 v f1 r1 ⟨xs, ex, q⟩ => by
    subst ex
    obtain ⟨p, vs, ev, hs, ra⟩ := rtup r1
    rw [hK]
    exact ⟨p, vs, ev, same_seqT f1.k.same hs, fun l hl => (FinT.trans fin f1).tup f1.k hl ra.reverse q⟩⟩
theorem dRevT_k {T : Type} (te : W T) (env : List SV) (τ : T) (Q : SV → T → Prop) : dRevT te env τ Q = te env τ (kRevT Q) := rfl
theorem kRevT_k {T : Type} {Q : SV → T → Prop} {xs : List D} {τ : T} : kRevT Q (.d (.tuple xs)) τ = Q (.d (.tuple xs.reverse)) τ := by
  refine propext ⟨?_, fun h => ⟨xs, rfl, h⟩⟩
  rintro ⟨ys, e, h⟩
  cases e
  exact h
end
end Z

namespace Z
open PySem PySem.Spec PyProof.Rows L2
/-! ### d.update(e), both dicts with keys of the kind of texts and ints -/
def tDUpd (td te : TE) : TE := fun σ H Q => td σ H fun x H1 => ∃ a kvs0, x = .ref a ∧ H1 a = some (.dK kvs0) ∧ te σ H1 fun y H2 => ∃ b kvs more, y = .ref b ∧ a ≠ b ∧ H2 a = some (.dK kvs) ∧ H2 b = some (.dK more) ∧ kvs.length + more.length ≤ sizeLine ∧ Q .non (upd H2 a (.dK (mergeK kvs more)))
section
variable {X : Cx} {o e : Expr} {td te : TE} {apos cpos : Pos}
theorem pe_dupd (ho : PE X o td) (he : PE X e te) (m : M1 X o "update" apos e cpos) : PE X (.Call (.Attribute o "update" apos) [e] [] cpos) (tDUpd td te) := by
  refine ⟨fun pins s σ H Q I h => ?_⟩
  refine wpAny_Call_method m.base m.few m.line PySem.F.plainAttrs_dict PySem.F.slot_dict_update PySem.F.type_dict_update (thn (ho.run pins s σ H _ I h) fun u s1 ⟨x, H1, I1, rx, a, kvs0, ex, d, q1⟩ => ?_)
  subst ex
  obtain rfl : u = Value.ref a := rx
  obtain ⟨t1, t2, _⟩ := isD_at I1 (.inl ⟨kvs0, .inl d⟩)
  refine ⟨t1, t2, ?_⟩
  rw [m.trees]
  refine Calls.callWith_builtin rfl (Calls.evalArgs_plain (Calls.spliced_cons (thn (he.run pins s1 σ H1 _ I1 q1) fun iv s2 ⟨y, H2, I2, ry, b, kvs, more, ey, hab, da, db, hl, q2⟩ => Calls.spliced_nil ?_)))
  subst ey
  obtain rfl : iv = Value.ref b := ry
  obtain ⟨za, hda, va, rela, dda⟩ := dk_of I2.hok da
  obtain ⟨zb, hdb, vb, relb, ddb⟩ := dk_of I2.hok db
  refine call_meetsIn PySem.F.slot_dict_update dda.typeIs PySem.F.entry_dict_update (PySem.F.args_dict_update_2 _ _) (meets_dict_update (mixKind X.prog X.w) a b hab hdb) ⟨va, vb, dda, ddb, by rw [← rela.length, ← relb.length]; exact hl, fun h' hd' he' hs' => ?_⟩
  have hlen : (mergeK kvs more).length ≤ sizeLine := Nat.le_trans (length_mergeK _ _) hl
  have he0 : ∃ q, h'.get? a = some q := let ⟨q, _, _, hq, _⟩ := hd'; ⟨q, hq⟩
  exact ⟨.non, _, d_write (t' := s2.toks) (ob := .dK (mergeK kvs more)) I2 (by rw [da]; exact True.intro) hs' he0 (dk_new hlen hda (KV.merge relb rela) hd'), rfl, q2⟩
end
/-! ### d != {} -/
def rNeEmp : R2 := fun x y H Q => ∃ a b ks, x = .ref a ∧ y = .ref b ∧ H a = some (.dK ks) ∧ H b = some (.dK []) ∧ Q (.bl (!ks.isEmpty)) H
theorem op_neEmp {X : Cx} (hu : X.A.units < cLine) : OpR X (compareOp .NotEq) rNeEmp := by
  intro pins s σ H x y v u Q I rx ry h
  obtain ⟨a, b, ks, rfl, rfl, ea, eb, q⟩ := h
  obtain rfl : v = Value.ref a := rx
  obtain rfl : u = Value.ref b := ry
  obtain ⟨_, ya, va, ra, da⟩ := (show ObjOk X.prog X.w H s.heap a (.dK ks) from I.hok a _ ea)
  obtain ⟨_, yb, vb, rb, db⟩ := (show ObjOk X.prog X.w H s.heap b (.dK []) from I.hok b _ eb)
  have e0 : vb = [] := by
    have := rb.length
    exact List.length_eq_zero_iff.mp (by rw [← this]; rfl)
  subst e0
  refine PySem.W.keq_ne (knd := mixKind X.prog X.w) (r := true) ya yb da db hu (fun e => ?_) (fin_bl I q ?_)
  · have : va = [] := List.length_eq_zero_iff.mp e
    subst this
    exact .nil
  · have := ra.length
    cases ks with
    | nil => 
      have : va = [] := List.length_eq_zero_iff.mp (by rw [← this]; rfl)
      subst this
      rfl
    | cons k ks =>
      cases va with
      | nil => simp at this
      | cons a b => rfl
/-! ### tables as data -/
def putD (m : List (Key × D)) (k : Key) (v : D) : List (Key × D) := if (m.any fun kv => decide (kv.1 = k)) = true then m.map (fun kv => if kv.1 = k then (kv.1, v) else kv) else m ++ [(k, v)]
def mergeD (m more : List (Key × D)) : List (Key × D) := more.foldl (fun acc kv => putD acc kv.1 kv.2) m
abbrev PrK (K : PySem.W.Frag) (G : Hp) : List (Key × V) → List (Key × D) → Prop := Paired fun (x : Key × V) (y : Key × D) => x.1 = y.1 ∧ Rp K G x.2 y.2
section
variable {K : PySem.W.Frag} {G G' : Hp}
theorem PrK.any : ∀ {kvs : List (Key × V)} {m : List (Key × D)} (k : Key), PrK K G kvs m → (kvs.any fun kv => decide (kv.1 = k)) = m.any fun kv => decide (kv.1 = k)
  | _, _, _, .nil => rfl
  | _, _, k, .cons h t => by rw [List.any_cons, List.any_cons, h.1, PrK.any k t]
theorem PrK.repl {v : V} {d : D} (r : Rp K G v d) (k : Key) : ∀ {kvs : List (Key × V)} {m : List (Key × D)}, PrK K G kvs m → PrK K G (kvs.map fun kv => if kv.1 = k then (kv.1, v) else kv) (m.map fun kv => if kv.1 = k then (kv.1, d) else kv)
  | _, _, .nil => .nil
  | _, _, .cons (a := a) (b := b) h t => by
    rw [List.map_cons, List.map_cons]
    refine .cons ?_ (PrK.repl r k t)
    by_cases e : a.1 = k
    · rw [if_pos e, if_pos (by rw [← h.1]; exact e)]
      exact ⟨h.1, r⟩
    · rw [if_neg e, if_neg (by rw [← h.1]; exact e)]
      exact h
theorem PrK.app : ∀ {a b : List (Key × V)} {m n : List (Key × D)}, PrK K G a m → PrK K G b n → PrK K G (a ++ b) (m ++ n)
  | _, _, _, _, .nil, s => s
  | _, _, _, _, .cons h t, s => .cons h (PrK.app t s)
theorem PrK.put {kvs : List (Key × V)} {m : List (Key × D)} {v : V} {d : D} (h : PrK K G kvs m) (r : Rp K G v d) (k : Key) : PrK K G (putK kvs k v) (putD m k d) := by
  unfold putK putD
  rw [h.any k]
  split
  · exact h.repl r k
  · exact h.app (.cons ⟨rfl, r⟩ .nil)
theorem PrK.merge : ∀ {more : List (Key × V)} {more' : List (Key × D)} {kvs : List (Key × V)} {m : List (Key × D)}, PrK K G kvs m → PrK K G more more' → PrK K G (mergeK kvs more) (mergeD m more')
  | _, _, _, _, h, .nil => h
  | _, _, kvs, m, h, .cons (a := a) (b := b) (l₁ := l1) (l₂ := l2) r t => by
    have e := h.put r.2 a.1
    have : PrK K G (putK kvs a.1 a.2) (putD m b.1 b.2) := by rw [← r.1]; exact e
    exact PrK.merge (more := l1) (more' := l2) (kvs := putK kvs a.1 a.2) (m := putD m b.1 b.2) this t
theorem PrK.mono (e : Same G G') {kvs : List (Key × V)} {m : List (Key × D)} (h : PrK K G kvs m) : PrK K G' kvs m := Paired.mapP h fun _ _ z => ⟨z.1, z.2.mono e⟩
theorem PrK.length : ∀ {kvs : List (Key × V)} {m : List (Key × D)}, PrK K G kvs m → kvs.length = m.length
  | _, _, .nil => rfl
  | _, _, .cons _ t => congrArg Nat.succ (PrK.length t)
theorem PrK.keys : ∀ {kvs : List (Key × V)} {m : List (Key × D)}, PrK K G kvs m → kvs.map (·.1) = m.map (·.1)
  | _, _, .nil => rfl
  | _, _, .cons h t => by rw [List.map_cons, List.map_cons, h.1, PrK.keys t]
end
def dKey : D → Option Key
  | .int i => some (.inl i)
  | .str x => some (.inr x)
  | _ => none
def pairD : D → Option (Key × D)
  | .tuple [a, b] => (dKey a).map fun k => (k, b)
  | _ => none
def pairsD : List D → Option (List (Key × D))
  | [] => some []
  | x :: r => (pairD x).bind fun p => (pairsD r).map fun ps => p :: ps
section
variable {K : PySem.W.Frag} {G : Hp}
theorem key_rel {v : V} {d : D} {k : Key} (r : Rp K G v d) (e : dKey d = some k) : v = L2.kV k := by
  cases d with
  | int i => cases e; cases r; rfl
  | str x => cases e; cases r; rfl
  | _ => cases e
theorem pairs_rel : ∀ {vs : List V} {xs : List D} {ps : List (Key × D)}, RpAll K G vs xs → pairsD xs = some ps → ∃ (as : List Addr) (kvs : List (Key × V)), vs = as.map V.ref ∧ Paired (fun p kv => SqT K G p [L2.kV kv.1, kv.2]) as kvs ∧ PrK K G kvs ps
  | _, _, _, .nil, e => by cases e; exact ⟨[], [], rfl, .nil, .nil⟩
  | _, _, _, .cons (v := v) (d := d) (ds := ds) h t, e => by
    unfold pairsD at e
    cases q : pairD d with
    | none => rw [q] at e; cases e
    | some p =>
      rw [q, Option.bind_some] at e
      cases q2 : pairsD ds with
      | none => rw [q2] at e; cases e
      | some ps =>
        rw [q2] at e
        cases e
        obtain ⟨as, kvs, rfl, h1, h2⟩ := pairs_rel t q2
        unfold pairD at q
        split at q
        · rename_i a b
          cases q3 : dKey a with
          | none => rw [q3] at q; cases q
          | some k =>
            rw [q3] at q
            cases q
            obtain ⟨l, ws, rfl, hT, ra⟩ : ∃ l ws, v = V.ref l ∧ SqT K G l ws ∧ RpAll K G ws [a, b] := by
              cases h with
              | tup hT ra => exact ⟨_, _, rfl, hT, ra⟩
            cases ra with
            | cons ha ra =>
              cases ra with
              | cons hb ra =>
                cases ra
                cases key_rel ha q3
                exact ⟨l :: as, (k, _) :: kvs, rfl, .cons hT h1, .cons ⟨rfl, hb⟩ h2⟩
        · cases q
end
/-! ### dicts of one's own, in the store -/
theorem celF_dk {p : Addr} {cs : List (Addr × Cel)} {m m' : List (Key × D)} {a : Addr} (h : celF ((p, .dk m) :: cs) a) : celF ((p, .dk m') :: cs) a := by
  obtain ⟨e, he, q⟩ := h
  rcases List.mem_cons.mp he with rfl | he
  · exact ⟨_, List.mem_cons_self, q.imp id id⟩
  · exact ⟨e, List.mem_cons_of_mem _ he, q⟩
section
variable {Ts : List (Addr × Str)} {K : PySem.W.Frag} {τ τ' : T2} {G H G' H' : Hp} {F F' : Addr → Prop} {p : Addr}
theorem Ok.dnew (k : Ok (theT Ts) K τ G F H) (n : H p = none) : p ∉ τ.cs.map (·.1) ∧
    Step G F H G (tF Ts ⟨τ.dr, (p, .dk []) :: τ.cs⟩) (upd H p (.dK [])) ∧ Ok (theT Ts) K ⟨τ.dr, (p, .dk []) :: τ.cs⟩ G (tF Ts ⟨τ.dr, (p, .dk []) :: τ.cs⟩) (upd H p (.dK [])) := by
  have r : TR Ts K τ G F H := k.r
  have nF : ¬ F p := fun z => k.fh p z n
  have nc : p ∉ τ.cs.map (·.1) := fun z => by
    obtain ⟨e, he, q⟩ := List.mem_map.mp z
    exact nF ((r.f p).mpr (.inr (.inl ⟨e, he, .inl q⟩)))
  have ne : ∀ a, F a → a ≠ p := fun a h z => by subst z; exact nF h
  have up : ∀ a, F a → (upd H p (.dK [])) a = H a := fun a h => upd_ne (ne a h)
  have gp : G p = none := by
    cases q : G p with
    | none => rfl
    | some o => rw [k.same p o q] at n; cases n
  have inF : ∀ a, tF Ts τ a → F a := fun a => (r.f a).mpr
  have spl : ∀ a, tF Ts ⟨τ.dr, (p, .dk []) :: τ.cs⟩ a → F a ∨ a = p := fun a h => by
    rcases h with h | ⟨e, he, q⟩ | h
    · exact .inl (inF a (.inl h))
    · rcases List.mem_cons.mp he with rfl | he
      · rcases q with q | q
        · exact .inr q.symm
        · exact q.elim
      · exact .inl (inF a (.inr (.inl ⟨e, he, q⟩)))
    · exact .inl (inF a (.inr (.inr h)))
  have wid : ∀ a, F a → tF Ts ⟨τ.dr, (p, .dk []) :: τ.cs⟩ a := fun a h => by
    rcases (r.f a).mp h with h | ⟨e, he, q⟩ | h
    · exact .inl h
    · exact .inr (.inl ⟨e, List.mem_cons_of_mem _ he, q⟩)
    · exact .inr (.inr h)
  refine ⟨nc, ⟨Same.refl G, fun a o _ e => by rw [upd_ne (ne_of_none e n)]; exact e, fun a o e => .inl e, fun a h => ?_, wid, fun a h => ?_⟩, ⟨fun a o e => ?_, fun a h => ?_, fun a h => ?_, ⟨fun a => Iff.rfl, ?_, fun e he => ?_, ?_, fun q hq => ?_⟩, k.nt' (by intro _ z; cases z), k.nx' (by intro _ z; cases z)⟩⟩
  · rcases spl a h with h | h
    · exact .inl h
    · exact .inr (by rw [h]; exact n)
  · by_cases q : a = p
    · subst q; exact absurd n h
    · rw [upd_ne q]; exact h
  · rw [upd_ne (ne_of_none (k.same a o e) n)]; exact k.same a o e
  · rcases spl a h with h | h
    · exact k.gf a h
    · rw [h]; exact gp
  · rcases spl a h with h | h
    · rw [up a h]; exact k.fh a h
    · rw [h, upd_same]; exact fun z => by cases z
  · have hd := r.dr
    show drP K ((p, .dk []) :: τ.cs) G _ τ.dr
    cases q : τ.dr with
    | off => trivial
    | on a b =>
      rw [q] at hd
      have fa : F a := inF a (.inl (by rw [q]; rfl))
      refine ⟨hd.1.mono (Same.refl G) (up a fa), fun e he => ?_⟩
      rcases List.mem_cons.mp he with rfl | he
      · exact (ne a fa).symm
      · exact hd.2 e he
  · rcases List.mem_cons.mp he with rfl | he
    · exact ⟨[], upd_same, .nil⟩
    · exact (r.cs e he).mono (Same.refl G) (up _ (inF _ (.inr (.inl ⟨e, he, .inl rfl⟩)))) fun q hq => up _ (inF _ (.inr (.inl ⟨e, he, .inr hq⟩)))
  · rw [List.map_cons]; exact List.nodup_cons.mpr ⟨nc, r.nd⟩
  · exact (r.tb q hq).mono (Same.refl G) (up _ (inF _ (.inr (.inr (List.mem_map.mpr ⟨q, hq, rfl⟩)))))
theorem Ok.dcell {cs : List (Addr × Cel)} {m : List (Key × D)} {d : DrT} (k : Ok (theT Ts) K ⟨d, (p, .dk m) :: cs⟩ G F H) : ∃ kvs, H p = some (.dK kvs) ∧ PrK K G kvs m := by
  have r : TR Ts K ⟨d, (p, .dk m) :: cs⟩ G F H := k.r
  exact r.cs _ List.mem_cons_self
theorem Ok.dput {cs : List (Addr × Cel)} {m m' : List (Key × D)} {kvs : List (Key × V)} {d : DrT} (k : Ok (theT Ts) K ⟨d, (p, .dk m) :: cs⟩ G F H) (h : PrK K G kvs m') :
    Step G F H G F (upd H p (.dK kvs)) ∧ Ok (theT Ts) K ⟨d, (p, .dk m') :: cs⟩ G F (upd H p (.dK kvs)) := by
  have r : TR Ts K ⟨d, (p, .dk m) :: cs⟩ G F H := k.r
  obtain ⟨kv0, hp, _⟩ := k.dcell
  have fp : F p := (r.f p).mpr (.inr (.inl ⟨_, List.mem_cons_self, .inl rfl⟩))
  have eF : ∀ a, F a ↔ tF Ts ⟨d, (p, .dk m') :: cs⟩ a := fun a => (r.f a).trans (or_congr Iff.rfl (or_congr ⟨celF_dk, celF_dk⟩ Iff.rfl))
  have nd := r.nd
  rw [List.map_cons, List.nodup_cons] at nd
  have gp : G p = none := k.gf p fp
  have nec : ∀ e ∈ cs, e.1 ≠ p := fun e he z => nd.1 (List.mem_map.mpr ⟨e, he, z⟩)
  refine ⟨⟨Same.refl G, fun a o nf e => by rw [upd_ne (fun z => nf (by rw [z]; exact fp))]; exact e, fun a o e => .inl e, fun a h => .inl h, fun a h => h, fun a h => ?_⟩, ⟨fun a o e => ?_, k.gf, fun a h => ?_, ⟨eF, ?_, fun e he => ?_, r.nd, fun q hq => ?_⟩, k.nt' (by intro _ z; cases z), k.nx' (by intro _ z; cases z)⟩⟩
  · by_cases q : a = p
    · subst q; rw [upd_same]; exact fun z => by cases z
    · rw [upd_ne q]; exact h
  · rw [upd_ne (ne_of_none e gp)]; exact k.same a o e
  · by_cases q : a = p
    · subst q; rw [upd_same]; exact fun z => by cases z
    · rw [upd_ne q]; exact k.fh a h
  · have hd := r.dr
    show drP K ((p, .dk m') :: cs) G _ d
    cases d with
    | off => trivial
    | on a b =>
      have na : a ≠ p := fun z => hd.2 _ List.mem_cons_self z.symm
      refine ⟨hd.1.mono (Same.refl G) (upd_ne na), fun e he => ?_⟩
      rcases List.mem_cons.mp he with rfl | he
      · exact Ne.symm na
      · exact hd.2 e (List.mem_cons_of_mem _ he)
  · rcases List.mem_cons.mp he with rfl | he
    · exact ⟨kvs, upd_same, h⟩
    · have z := r.cs e (List.mem_cons_of_mem _ he)
      refine z.mono (Same.refl G) (upd_ne (nec e he)) fun q hq => upd_ne fun y => ?_
      have := z.own hq
      rw [y, hp] at this
      cases this
  · have z := r.tb q hq
    refine z.mono (Same.refl G) (upd_ne fun y => ?_)
    obtain ⟨ps, h1, _⟩ := z
    rw [y, hp] at h1
    cases h1
/-! what was made within a def is forgotten at its end -/
theorem Step.less (s : Step G F H G' F' H') : Step G F H G' F H' := ⟨s.g, s.h, s.gn, fun a h => .inl h, fun a h => h, s.dom⟩
theorem Res.less {Ha : Hp} {F2 : Addr → Prop} (h : ∀ a, F2 a → F a) : ∀ {r : SV} {v : V}, Res K Ha G F H r v → Res K Ha G F2 H r v
  | .no, _, z => z.elim
  | .d _, _, z => z
  | .ol _, _, ⟨p, e, w⟩ => ⟨p, e, w.at', w.g, fun z => w.f (h p z), w.new⟩
  | .vw _, _, ⟨p, vs, e, e2, a, nf⟩ => ⟨p, vs, e, e2, a, fun z => nf (h p z)⟩
  | .raw _, _, z => z
theorem Ok.fewer (k : Ok (theT Ts) K τ G F H) (s : Step G F H G' F' H') (k' : Ok (theT Ts) K τ' G' F' H') (hd : τ'.dr = τ.dr) (hc : ∃ new, τ'.cs = new ++ τ.cs) : Ok (theT Ts) K τ G' F H' := by
  have r : TR Ts K τ G F H := k.r
  have r' : TR Ts K τ' G' F' H' := k'.r
  obtain ⟨new, hc⟩ := hc
  have mem : ∀ e ∈ τ.cs, e ∈ τ'.cs := fun e he => by rw [hc]; exact List.mem_append_right _ he
  refine ⟨k'.same, fun a h => k'.gf a (s.ff a h), fun a h => k'.fh a (s.ff a h), ⟨r.f, ?_, fun e he => r'.cs e (mem e he), r.nd, r'.tb⟩, k'.nt, k'.nx⟩
  have h := r'.dr
  rw [hd] at h
  cases q : τ.dr with
  | off => trivial
  | on a b =>
    rw [q] at h
    exact ⟨h.1, fun e he => h.2 e (mem e he)⟩
def dropF (FF : FW T2) : FW T2 := fun rs τ Q2 => ∃ Q, FF rs τ Q ∧ Q2 = fun r τ' => τ'.dr = τ.dr ∧ (∃ new, τ'.cs = new ++ τ.cs) ∧ Q r τ
theorem spD_drop {FF : FW T2} {vs : List V} {Q : VK} {E : XK} (h : spD (theT Ts) K FF vs H Q E) : spD (theT Ts) K (dropF FF) vs H Q E := by
  obtain ⟨G, F, τ, rs, Qd, Ha, ok, r, dr, hf, fin⟩ := h
  exact ⟨G, F, τ, rs, _, Ha, ok, r, dr, ⟨Qd, hf, rfl⟩, fun r τ' G' F' H' v st ok' res ⟨e1, e2, q⟩ => fin r τ G' F H' v st.less (ok.fewer st ok' e1 e2) (res.less st.ff) q⟩
end
theorem FnG.drop {P : Program} {w : World} {K : PySem.W.Frag} {mg : Str → Option Value} {base : Heap} {Ts : List (Addr × Str)} {k : Nat} {f : Addr} {fd : FuncData} {ps : List Str} {FF : FW T2} (F : FnG P w K mg base k f fd ps (spD (theT Ts) K (dropF FF))) : FnG P w K mg base k f fd ps (spD (theT Ts) K FF) :=
  ⟨fun vs H Q E h => F.len vs H Q E (spD_drop h), fun A st s H as us vs Q E rg z b v h => F.run A st s H as us vs Q E rg z b v (spD_drop h)⟩
/-! ### readings -/
def kNewD (Q : SV → T2 → Prop) (τ : T2) : Prop := ∀ p, p ∉ τ.cs.map (·.1) → Q (.raw (.ref p)) ⟨τ.dr, (p, .dk []) :: τ.cs⟩
def dNewD : W T2 := fun env τ Q => kNewD Q τ
theorem dNewD_k (env : List SV) (τ : T2) (Q : SV → T2 → Prop) : dNewD env τ Q = kNewD Q τ := rfl
/-- d.update(dict(e)) -/
def kUpdD (p : Addr) (m : List (Key × D)) (cs : List (Addr × Cel)) (Q : SV → T2 → Prop) (rs : List SV) (τ1 : T2) : Prop :=
  ∃ xs ps, rs = [.d (.list xs)] ∧ pairsD xs = some ps ∧ τ1.cs = (p, .dk m) :: cs ∧ m.length + ps.length ≤ sizeLine ∧ Q (.d .none) ⟨τ1.dr, (p, .dk (mergeD m (mergeD [] ps))) :: cs⟩
def kUpd0 (ta : WA T2) (env : List SV) (Q : SV → T2 → Prop) (τ : T2) : Option SV → Prop
  | some (.raw (.ref p)) => match τ.cs with
    | (q, .dk m) :: cs => q = p ∧ ta env τ (kUpdD p m cs Q)
    | _ => False
  | _ => False
def dUpdD (i : Nat) (ta : WA T2) : W T2 := fun env τ Q => kUpd0 ta env Q τ env[i]?
theorem dUpdD_k (i : Nat) (ta : WA T2) (env : List SV) (τ : T2) (Q : SV → T2 → Prop) : dUpdD i ta env τ Q = kUpd0 ta env Q τ env[i]? := rfl
theorem kUpd0_1 {ta : WA T2} {env : List SV} {Q : SV → T2 → Prop} {d : DrT} {p : Addr} {m : List (Key × D)} {cs : List (Addr × Cel)} : kUpd0 ta env Q ⟨d, (p, .dk m) :: cs⟩ (some (.raw (.ref p))) = ta env ⟨d, (p, .dk m) :: cs⟩ (kUpdD p m cs Q) := by
  show (p = p ∧ _) = _
  simp
/-- sorted(d) -/
def kSrtD (Q : SV → T2 → Prop) (τ : T2) (m : List (Key × D)) : Prop := ∃ ks : List Int, m.map (·.1) = ks.map Sum.inl ∧ ks.length < 64 ∧ ∀ ys : List Int, ys.Perm ks → ys.Pairwise (· ≤ ·) → Q (.ol (ys.map .int)) τ
def kSrt0 (Q : SV → T2 → Prop) (τ : T2) : Option SV → Prop
  | some (.raw (.ref p)) => match τ.cs with
    | (q, .dk m) :: cs => q = p ∧ kSrtD Q τ m
    | _ => False
  | _ => False
def dSrtD (i : Nat) : W T2 := fun env τ Q => kSrt0 Q τ env[i]?
theorem dSrtD_k (i : Nat) (env : List SV) (τ : T2) (Q : SV → T2 → Prop) : dSrtD i env τ Q = kSrt0 Q τ env[i]? := rfl
theorem kSrt0_1 {Q : SV → T2 → Prop} {d : DrT} {p : Addr} {m : List (Key × D)} {cs : List (Addr × Cel)} : kSrt0 Q ⟨d, (p, .dk m) :: cs⟩ (some (.raw (.ref p))) = kSrtD Q ⟨d, (p, .dk m) :: cs⟩ m := by
  show (p = p ∧ _) = _
  simp
/-- d != {} -/
def kNe0 (Q : Bool → T2 → Prop) (τ : T2) : Option SV → Prop
  | some (.raw (.ref p)) => match τ.cs with
    | (q, .dk m) :: cs => q = p ∧ Q (!m.isEmpty) τ
    | _ => False
  | _ => False
def dNe0 (i : Nat) : WT T2 := fun env τ Q => kNe0 Q τ env[i]?
theorem dNe0_k (i : Nat) (env : List SV) (τ : T2) (Q : Bool → T2 → Prop) : dNe0 i env τ Q = kNe0 Q τ env[i]? := rfl
theorem kNe0_1 {Q : Bool → T2 → Prop} {d : DrT} {p : Addr} {m : List (Key × D)} {cs : List (Addr × Cel)} : kNe0 Q ⟨d, (p, .dk m) :: cs⟩ (some (.raw (.ref p))) = Q (!m.isEmpty) ⟨d, (p, .dk m) :: cs⟩ := by
  show (p = p ∧ _) = _
  simp
section
variable {X : Cx} {Ts : List (Addr × Str)} {K : PySem.W.Frag} {G0 : Hp} {F0 : Addr → Prop} {H0 : Hp} {i : Nat} {pos p p2 pos2 apos : Pos} {x e : Expr}
theorem raw_slot {B : Bk} {G H : Hp} {F : Addr → Prop} {σ : L2.St} {env : List SV} {τ : B.T} {v : V} (s : StR B G F σ H env τ) (e : env[i]? = some (.raw v)) : σ[i]? = some (some v) := by
  have e1 : σ[i]?.join = some v := s.e.at' i _ e
  cases z : σ[i]? with
  | none => rw [z] at e1; cases e1
  | some o => rw [z] at e1; exact congrArg some e1
theorem de_newD : PE X (.Dict [] [] pos) (lift ⟨theT Ts, K, G0, F0, H0⟩ dNewD) :=
  pe_imp pe_dnewK fun σ H Q ⟨G, F, env, τ, Qd, s, t, fin⟩ => fun p hp => by
    obtain ⟨nc, st, ok⟩ := Ok.dnew s.k hp
    exact fin (.raw (.ref p)) _ G _ _ (.ref p) ⟨st, ok⟩ rfl (t p nc)
theorem de_updD {ta : WA T2} (ho : PE X x (tVar i)) (hg : Gl X "dict") (hm : X.mg "dict" = none) (hK : X.K = K) (ha : PA X [e] (liftA ⟨theT Ts, K, G0, F0, H0⟩ ta)) (m : M1 X x "update" apos (.Call (.Name "dict" p2) [e] [] pos2) pos) (hc : X.calm = true := by rfl)
    (h1 : starEach [e] X.env = (false, eval e X.env) :: starEach [] X.env := by rfl) (h2 : (backTo pos2 (starEach [] X.env)).any (·.1) = false := by rfl) :
    PE X (.Call (.Attribute x "update" apos) [.Call (.Name "dict" p2) [e] [] pos2] [] pos) (lift ⟨theT Ts, K, G0, F0, H0⟩ (dUpdD i ta)) :=
  pe_imp (pe_dupd ho (pe_callTy (call_dictP hc) hg hm (by decide +kernel) ha (by decide) (by decide) h1 h2) m) fun σ H Q ⟨G, F, env, τ, Qd, s, t, fin⟩ => by
    unfold dUpdD at t
    cases ei : env[i]? with
    | none => rw [ei] at t; exact t.elim
    | some sv =>
      rw [ei] at t
      unfold kUpd0 at t
      split at t
      · rename_i z pa ez
        cases ez
        obtain ⟨dr, cs0⟩ := τ
        split at t
        · rename_i q m cs ecs
          obtain ⟨rfl, t⟩ := t
          cases ecs
          obtain ⟨kv0, hp0, _⟩ := Ok.dcell s.k
          refine ⟨_, raw_slot s ei, q, kv0, rfl, hp0, G, F, env, _, _, s, t, fun rs τ1 G1 F1 H1 vs f1 r1 hq => ?_⟩
          obtain ⟨xs, ps, rfl, hps, hcs, hl, hq⟩ := hq
          obtain ⟨v, rfl, rv⟩ := r1.one
          have rv : Rp K G1 v (.list xs) := rv
          cases rv with
          | @lst a ws _ hS ra =>
            obtain ⟨as, kvs, rfl, hT, pk⟩ := pairs_rel ra hps
            rw [hK]
            refine ⟨a, as, kvs, rfl, (same_sqp f1.k.same hS).sql, Paired.mapP hT fun _ _ z => same_seqT f1.k.same z, fun b hb => ?_⟩
            obtain ⟨dr1, cs1⟩ := τ1
            cases hcs
            have k1 := f1.k
            obtain ⟨kv1, hp1, pk1⟩ := Ok.dcell k1
            have nqb : q ≠ b := fun z => by subst z; rw [hb] at hp1; cases hp1
            have pkb : PrK K G1 (mergeK [] kvs) (mergeD [] ps) := PrK.merge .nil pk
            have lb : (mergeK [] kvs).length ≤ kvs.length := by
              have := length_mergeK kvs []
              simpa using this
            refine ⟨b, kv1, mergeK [] kvs, rfl, nqb, by rw [upd_ne nqb]; exact hp1, upd_same, ?_, ?_⟩
            · rw [pk1.length]
              have := pk.length
              omega
            · have f2 : Fin ⟨theT Ts, K, G0, F0, H0⟩ G1 F1 H1 ⟨dr1, (q, .dk m) :: cs⟩ G1 F1 (upd H1 b (.dK (mergeK [] kvs))) := ⟨Step.alloc hb, Ok.alloc k1 hb⟩
              obtain ⟨st3, ok3⟩ := Ok.dput f2.k (pk1.merge pkb)
              exact fin (.d .none) _ G1 F1 _ .non ((f1.trans f2).trans ⟨st3, ok3⟩) Rp.non hq
        · exact t.elim
      · exact t.elim
theorem de_srtD (ho : PE X x (tVar i)) (hg : Gl X "sorted") (hm : X.mg "sorted" = none) (hc : X.calm = true := by rfl)
    (h1 : starEach [x] X.env = (false, eval x X.env) :: starEach [] X.env := by rfl) (h2 : (backTo pos (starEach [] X.env)).any (·.1) = false := by rfl) :
    PE X (.Call (.Name "sorted" p) [x] [] pos) (lift ⟨theT Ts, K, G0, F0, H0⟩ (dSrtD i)) :=
  pe_imp (pe_callB (call_sortedDI hc) hg hm (by decide +kernel) (pa_cons ho pa_nil h1) (by decide) (by decide) h1 h2) fun σ H Q ⟨G, F, env, τ, Qd, s, t, fin⟩ => by
    unfold dSrtD at t
    cases ei : env[i]? with
    | none => rw [ei] at t; exact t.elim
    | some sv =>
      rw [ei] at t
      unfold kSrt0 at t
      split at t
      · rename_i z pa ez
        cases ez
        obtain ⟨dr, cs0⟩ := τ
        split at t
        · rename_i q m cs ecs
          obtain ⟨rfl, ks, h1, h2, t⟩ := t
          cases ecs
          obtain ⟨kvs, hp, pk⟩ := Ok.dcell s.k
          refine ⟨_, raw_slot s ei, q, kvs, ks, rfl, .inl hp, by rw [pk.keys]; exact h1, h2, fun ys a hperm hs hn => ?_⟩
          exact FinT.ol (B := ⟨theT Ts, K, G0, F0, H0⟩) (G := G) (F := F) (τ := ⟨dr, (q, .dk m) :: cs⟩) (Qv := fun r => Qd r ⟨dr, (q, .dk m) :: cs⟩) (fun r G' F' H' v f res q => fin r _ G' F' H' v f res q) s.k hn (rp_ints ys) (t ys hperm hs)
        · exact t.elim
      · exact t.elim
theorem dt_ne0 (hu : X.A.units < cLine) (ho : PE X x (tVar i)) : PT X (.Compare x [.NotEq] [.Dict [] [] pos2] pos) (liftT ⟨theT Ts, K, G0, F0, H0⟩ (dNe0 i)) :=
  pt_imp (pt_cmpR (op_neEmp hu) ho pe_dnewK (nomark _)) fun σ H Q ⟨G, F, env, τ, Qd, s, t, fin⟩ => by
    unfold dNe0 at t
    cases ei : env[i]? with
    | none => rw [ei] at t; exact t.elim
    | some sv =>
      rw [ei] at t
      unfold kNe0 at t
      split at t
      · rename_i z pa ez
        cases ez
        obtain ⟨dr, cs0⟩ := τ
        split at t
        · rename_i q m cs ecs
          obtain ⟨rfl, t⟩ := t
          cases ecs
          obtain ⟨kvs, hp, pk⟩ := Ok.dcell s.k
          refine ⟨_, raw_slot s ei, fun b hb => ?_⟩
          have nqb : q ≠ b := fun z => by subst z; rw [hb] at hp; cases hp
          refine ⟨q, b, kvs, rfl, rfl, by rw [upd_ne nqb]; exact hp, upd_same, _, rfl, ?_⟩
          have e : kvs.isEmpty = m.isEmpty := by
            have := pk.length
            cases kvs <;> cases m <;> simp at this ⊢
          rw [e]
          exact fin _ _ G F _ ⟨Step.alloc hb, Ok.alloc s.k hb⟩ t
        · exact t.elim
      · exact t.elim
end
end Z

namespace Z
open PySem PySem.Spec PyProof.Rows L2
/-! ### defs as values -/
def fnD (a : Addr) : D := .dict [(.bool true, .int (a : Nat))]
/-- what is known of a def that stands at f -/
structure FunV (P : Program) (w : World) (K : PySem.W.Frag) (mg : Str → Option Value) (base : Heap) (S : Sto) (k : Nat) (f : Addr) (FF : FW S.T) : Prop where
  ex : ∃ j fd ps, j ≤ k ∧ FnOk P w K mg base CX0 j f fd ps (spD S K FF) ∧ PySem.W.keepIn K (.ref f) = true ∧ Binds K fd ps []
structure FunX (P : Program) (w : World) (K : PySem.W.Frag) (mg : Str → Option Value) (base : Heap) (S : Sto) (k : Nat) (f : Addr) (FX : FWX S.T) : Prop where
  ex : ∃ j fd ps, j ≤ k ∧ FnOk P w K mg base (L2.CX P w) j f fd ps (spDX S K FX) ∧ PySem.W.keepIn K (.ref f) = true ∧ Binds K fd ps []
theorem FunV.of {P : Program} {w : World} {K : PySem.W.Frag} {mg : Str → Option Value} {base : Heap} {S : Sto} {x : Str} {ps : List Str} {j k : Nat} {f : Addr} {FF : FW S.T} (h : Known P w K mg base S x ps j FF) (e : mg x = some (.ref f)) (l : j ≤ k) : FunV P w K mg base S k f FF := by
  obtain ⟨f', fd, F, hm, hk, hb⟩ := h.ex
  rw [e] at hm
  cases hm
  exact ⟨j, fd, ps, l, F, hk, hb⟩
theorem FunX.of {P : Program} {w : World} {K : PySem.W.Frag} {mg : Str → Option Value} {base : Heap} {S : Sto} {x : Str} {ps : List Str} {j k : Nat} {f : Addr} {FX : FWX S.T} (h : KnownX P w K mg base S x ps j FX) (e : mg x = some (.ref f)) (l : j ≤ k) : FunX P w K mg base S k f FX := by
  obtain ⟨f', fd, F, hm, hk, hb⟩ := h.ex
  rw [e] at hm
  cases hm
  exact ⟨j, fd, ps, l, F, hk, hb⟩
section
variable {P : Program} {w : World} {K : PySem.W.Frag} {mg : Str → Option Value} {base : Heap} {S : Sto} {k : Nat} {f : Addr}
theorem fv_nil : ∀ q ∈ ([] : List (Addr × FW S.T)), FunV P w K mg base S k q.1 q.2 := fun q hq => nomatch hq
theorem fv_cons {FF : FW S.T} {fs : List (Addr × FW S.T)} (h : FunV P w K mg base S k f FF) (t : ∀ q ∈ fs, FunV P w K mg base S k q.1 q.2) : ∀ q ∈ (f, FF) :: fs, FunV P w K mg base S k q.1 q.2 := fun q hq => by
  rcases List.mem_cons.mp hq with rfl | hq
  · exact h
  · exact t q hq
theorem fx_nil : ∀ q ∈ ([] : List (Addr × FWX S.T)), FunX P w K mg base S k q.1 q.2 := fun q hq => nomatch hq
theorem fx_cons {FX : FWX S.T} {fs : List (Addr × FWX S.T)} (h : FunX P w K mg base S k f FX) (t : ∀ q ∈ fs, FunX P w K mg base S k q.1 q.2) : ∀ q ∈ (f, FX) :: fs, FunX P w K mg base S k q.1 q.2 := fun q hq => by
  rcases List.mem_cons.mp hq with rfl | hq
  · exact h
  · exact t q hq
end
def kCallV {T : Type} (fs : List (Addr × FW T)) (ta : WA T) (env : List SV) (Q : SV → T → Prop) (τ : T) (sv : Option SV) : Prop := ∃ f FF, sv = some (.d (fnD f)) ∧ (f, FF) ∈ fs ∧ dCall FF ta env τ Q
def dCallV {T : Type} (i : Nat) (fs : List (Addr × FW T)) (ta : WA T) : W T := fun env τ Q => kCallV fs ta env Q τ env[i]?
theorem dCallV_k {T : Type} (i : Nat) (fs : List (Addr × FW T)) (ta : WA T) (env : List SV) (τ : T) (Q : SV → T → Prop) : dCallV i fs ta env τ Q = kCallV fs ta env Q τ env[i]? := rfl
def kCallVX {T : Type} (fs : List (Addr × FWX T)) (Ed : D → T → Prop) (ta : WA T) (env : List SV) (Q : SV → T → Prop) (τ : T) (sv : Option SV) : Prop := ∃ f FF, sv = some (.d (fnD f)) ∧ (f, FF) ∈ fs ∧ dCallX FF Ed ta env τ Q
def dCallVX {T : Type} (i : Nat) (fs : List (Addr × FWX T)) (Ed : D → T → Prop) (ta : WA T) : W T := fun env τ Q => kCallVX fs Ed ta env Q τ env[i]?
theorem dCallVX_k {T : Type} (i : Nat) (fs : List (Addr × FWX T)) (Ed : D → T → Prop) (ta : WA T) (env : List SV) (τ : T) (Q : SV → T → Prop) : dCallVX i fs Ed ta env τ Q = kCallVX fs Ed ta env Q τ env[i]? := rfl
theorem fn_inv {K : PySem.W.Frag} {G : Hp} {v : V} {f : Addr} (h : Rp K G v (fnD f)) : v = .ref f := by
  unfold fnD at h
  generalize e : (PyData.dict [(.bool true, .int (f : Nat))]) = d at h
  cases h with
  | @fn a =>
    simp only [PyData.dict.injEq, List.cons.injEq, Prod.mk.injEq, PyData.int.injEq, true_and, and_true] at e
    have e := Int.ofNat.inj e
    rw [e]
  | _ => simp at e
section
variable {X : Cx} {e : Expr} {es : List Expr} {pos p : Pos} {k i : Nat} {x : Str} {Ts : List (Addr × Str)} {K : PySem.W.Frag} {G0 : Hp} {F0 : Addr → Prop} {H0 : Hp}
theorem de_gfn {B : Bk} {f : Addr} (hg : Gl X x) (hm : X.mg x = some (.ref f)) (hd : (x == ("__debug__" : Str)) = false := by decide) : PE X (.Name x pos) (lift B (dC (fnD f))) :=
  de_c (v := .ref f) (pe_glob hg hm rfl hd) fun G => .fn
theorem de_callV {ta : WA T2} {fs : List (Addr × FW T2)} (hK : X.K = K) (h : ∀ q ∈ fs, FunV X.prog X.w X.K X.mg X.base (theT Ts) k q.1 q.2) (hr : Room k X.A) (ha : PA X (e :: es) (liftA ⟨theT Ts, K, G0, F0, H0⟩ ta))
    (hN : X.N[i]? = some x := by rfl) (hv : Vis X.env.scope x := by first | exact Or.inl rfl | exact Or.inr (Or.inl rfl) | exact Or.inr (Or.inr rfl)) (hd : (x == ("__debug__" : Str)) = false := by decide) (hcd : (x == ("__classdict__" : Str)) = false := by decide)
    (he : starEach (e :: es) X.env = (false, eval e X.env) :: starEach es X.env := by rfl) (hpl : (backTo pos (starEach es X.env)).any (·.1) = false := by rfl) :
    PE X (.Call (.Name x p) (e :: es) [] pos) (lift ⟨theT Ts, K, G0, F0, H0⟩ (dCallV i fs ta)) := by
  refine ⟨fun pins s σ H Q I ⟨G, F, env, τ, Qd, st, t, fin⟩ => ?_⟩
  obtain ⟨f, FF, ev, hm, t⟩ := t
  obtain ⟨j, fd, ps, hj, FO, hk, hb⟩ := (h _ hm).ex
  obtain ⟨v, e1, rv⟩ := st.e.at' i _ ev
  cases fn_inv rv
  have hs : σ[i]? = some (some (.ref f)) := by
    cases z : σ[i]? with
    | none => rw [z] at e1; cases e1
    | some o => rw [z] at e1; exact congrArg some e1
  rw [hK] at FO
  have ht : tCall (spD (theT Ts) K FF) [] E0 (liftA ⟨theT Ts, K, G0, F0, H0⟩ ta) σ H Q := lift_call (E := E0) hK σ H Q ⟨G, F, env, τ, Qd, st, t, fin⟩
  refine wpAny_Call_Name_kw (thn ((pe_var (pos := p) hN hv hd hcd).run pins s σ H (fun v H1 => v = .ref f ∧ H1 = H) I ⟨.ref f, hs, rfl, rfl⟩) fun u s1 ⟨v, H1, I1, r1, q1⟩ => ?_)
  obtain ⟨rfl, rfl⟩ := q1
  cases r1
  refine PySem.W.callWith_K (h₀ := X.base) I.ok.mod.kin hk (thn (ha.run pos pins s1 σ _ _ I1 ht) fun us s2 ⟨vs, H2, I2, r, q⟩ => ⟨I2.kIn, ?_⟩) he hpl
  exact run_fn (by rw [hK]; exact FO) (hr.mono hj) hb .nil (pass0 (X := X)) I2 r q
theorem de_callVX {ta : WA T2} {fs : List (Addr × FWX T2)} {Ed : Z.D → T2 → Prop} {E : XK} (hK : X.K = K) (hE : EdR ⟨theT Ts, K, G0, F0, H0⟩ Ed E) (hx : Passes (L2.CX X.prog X.w) X E) (h : ∀ q ∈ fs, FunX X.prog X.w X.K X.mg X.base (theT Ts) k q.1 q.2) (hr : Room k X.A) (ha : PA X (e :: es) (liftA ⟨theT Ts, K, G0, F0, H0⟩ ta))
    (hN : X.N[i]? = some x := by rfl) (hv : Vis X.env.scope x := by first | exact Or.inl rfl | exact Or.inr (Or.inl rfl) | exact Or.inr (Or.inr rfl)) (hd : (x == ("__debug__" : Str)) = false := by decide) (hcd : (x == ("__classdict__" : Str)) = false := by decide)
    (he : starEach (e :: es) X.env = (false, eval e X.env) :: starEach es X.env := by rfl) (hpl : (backTo pos (starEach es X.env)).any (·.1) = false := by rfl) :
    PE X (.Call (.Name x p) (e :: es) [] pos) (lift ⟨theT Ts, K, G0, F0, H0⟩ (dCallVX i fs Ed ta)) := by
  refine ⟨fun pins s σ H Q I ⟨G, F, env, τ, Qd, st, t, fin⟩ => ?_⟩
  obtain ⟨f, FF, ev, hm, t⟩ := t
  obtain ⟨j, fd, ps, hj, FO, hk, hb⟩ := (h _ hm).ex
  obtain ⟨v, e1, rv⟩ := st.e.at' i _ ev
  cases fn_inv rv
  have hs : σ[i]? = some (some (.ref f)) := by
    cases z : σ[i]? with
    | none => rw [z] at e1; cases e1
    | some o => rw [z] at e1; exact congrArg some e1
  rw [hK] at FO
  have ht : tCall (spDX (theT Ts) K FF) [] E (liftA ⟨theT Ts, K, G0, F0, H0⟩ ta) σ H Q := lift_callX hE σ H Q ⟨G, F, env, τ, Qd, st, t, fin⟩
  refine wpAny_Call_Name_kw (thn ((pe_var (pos := p) hN hv hd hcd).run pins s σ H (fun v H1 => v = .ref f ∧ H1 = H) I ⟨.ref f, hs, rfl, rfl⟩) fun u s1 ⟨v, H1, I1, r1, q1⟩ => ?_)
  obtain ⟨rfl, rfl⟩ := q1
  cases r1
  refine PySem.W.callWith_K (h₀ := X.base) I.ok.mod.kin hk (thn (ha.run pos pins s1 σ _ _ I1 ht) fun us s2 ⟨vs, H2, I2, r, q⟩ => ⟨I2.kIn, ?_⟩) he hpl
  exact run_fn (by rw [hK]; exact FO) (hr.mono hj) hb .nil hx I2 r q
end
theorem RoomG.u0 {k : Nat} {A : Around} (h : RoomG k A) : A.units < cLine := by
  have := h.un
  omega
/-! ### walks over what α's tell -/
section
variable {T : Type} {α : Type} {t : Tg} {tt : WT T} {te : W T} {τ : T}
theorem lc_filt' {Q : List D → T → Prop} {env : List SV} (g f : α → D) (p : α → Bool) : ∀ (l : List α) (acc : List D),
    (∀ x ∈ l, ∀ (kc : D → T → Prop) (k0 : T → Prop), (p x = true → kc (f x) τ) → (p x = false → k0 τ) → kTgB tt te kc k0 τ (tgE t (g x) env)) →
    acc.length + l.length ≤ sizeLine → Q (acc ++ (l.filter p).map f) τ → lcW t tt te Q (l.map g) acc env τ
  | [], acc, _, _, q => by
    rw [List.filter_nil, List.map_nil, List.append_nil] at q
    exact q
  | c :: l, acc, h, hl, q => by
    rw [List.length_cons] at hl
    refine turn_k (h c (by simp) _ _ (fun e => ?_) fun e => ?_)
    · rw [List.filter_cons, if_pos e] at q
      refine ⟨by omega, lc_filt' g f p l _ (fun y hy => h y (by simp [hy])) (by rw [List.length_append, List.length_singleton]; omega) ?_⟩
      rw [List.append_assoc]
      exact q
    · rw [List.filter_cons, if_neg (by rw [e]; decide)] at q
      exact lc_filt' g f p l acc (fun y hy => h y (by simp [hy])) (by omega) q
/-- [f(x) for x in l if p(x)] -/
theorem lc_filt {Q : List D → T → Prop} {env : List SV} (g f : α → D) (p : α → Bool) (l : List α)
    (h : ∀ x ∈ l, ∀ (kc : D → T → Prop) (k0 : T → Prop), (p x = true → kc (f x) τ) → (p x = false → k0 τ) → kTgB tt te kc k0 τ (tgE t (g x) env))
    (hl : l.length ≤ sizeLine) (q : Q ((l.filter p).map f) τ) : lcW t tt te Q (l.map g) [] env τ :=
  lc_filt' g f p l [] h (by simpa using hl) q
/-- [f(x) for x in l] -/
theorem lc_mapA {Q : List D → T → Prop} {env : List SV} (g f : α → D) (l : List α)
    (h : ∀ x ∈ l, ∀ (kc : D → T → Prop) (k0 : T → Prop), kc (f x) τ → kTgB tt te kc k0 τ (tgE t (g x) env))
    (hl : l.length ≤ sizeLine) (q : Q (l.map f) τ) : lcW t tt te Q (l.map g) [] env τ :=
  lc_filt g f (fun _ => true) l (fun x hx kc k0 h1 _ => h x hx kc k0 (h1 rfl)) hl (by rw [List.filter_eq_self.mpr fun _ _ => rfl]; exact q)
/-- for x in l -/
theorem for_mapA {tb : WS T} {D : DEnds T} (g : α → Z.D) (P : Nat → List SV → T → Prop) (l : List α) (env : List SV) (τ : T) (h0 : P 0 env τ)
    (h : ∀ j x env τ, l[j]? = some x → P j env τ → ∀ kn : List SV → T → Prop, (∀ env' τ', P (j + 1) env' τ' → kn env' τ') → kFtB tb ⟨kn, D.rt, D.nx, kn⟩ τ (tgE t (g x) env))
    (q : ∀ env τ, P l.length env τ → D.nx env τ) : forW t tb D (l.map g) env τ :=
  for_inv P (l.map g) env τ h0 (fun j x env τ e p kn h1 => by
    rw [List.getElem?_map] at e
    cases z : l[j]? with
    | none => rw [z] at e; cases e
    | some y =>
      rw [z] at e
      cases e
      exact h j y env τ z p kn h1) (by rw [List.length_map]; exact q)
/-- the same, where each turn adds or not, told by what was there -/
theorem lc_invA {Q : List D → T → Prop} {env : List SV} (g : α → D) (P : Nat → List D → T → Prop) (l : List α) (τ : T) (h0 : P 0 [] τ)
    (h : ∀ j x acc τ, l[j]? = some x → P j acc τ → acc.length ≤ j → ∀ (kc : D → T → Prop) (k0 : T → Prop), (∀ y τ', P (j + 1) (acc ++ [y]) τ' → kc y τ') → (∀ τ', P (j + 1) acc τ' → k0 τ') → kTgB tt te kc k0 τ (tgE t (g x) env))
    (hl : l.length ≤ sizeLine) (q : ∀ acc τ, P l.length acc τ → Q acc τ) : lcW t tt te Q (l.map g) [] env τ :=
  lc_inv P (l.map g) τ h0 (fun j x acc τ e p ha kc k0 h1 h2 => by
    rw [List.getElem?_map] at e
    cases z : l[j]? with
    | none => rw [z] at e; cases e
    | some y =>
      rw [z] at e
      cases e
      exact h j y acc τ z p ha kc k0 h1 h2) (by rw [List.length_map]; exact hl) (by rw [List.length_map]; exact q)
end
end Z

namespace Z
open PySem PySem.Spec PyProof.Rows L2
/-! ### xs.count(d) of a list -/
def rCntD (K : PySem.W.Frag) : V → List V → Hp → VK → Prop := fun x xs H Q => ∃ (p : Addr) (vs : List V) (ds : List D) (v : V) (d : D), x = .ref p ∧ xs = [v] ∧ SqL K H p vs ∧ DpAll K H vs ds ∧ Dp K H v d ∧ PyData.canLayAll0 ds = true ∧ d.canLay0 = true ∧ d.depth ≤ 8 ∧ Q (.int (ds.countP fun y => PyData.eqv y d : Nat)) H
theorem mt_cntD {X : Cx} (hu : X.A.units + 64 + 1 < cLine) : MtR X "list.count" (rCntD X.K) := by
  intro pins s σ H x xs v us Q I rx rxs h
  obtain ⟨p, vs, ds, w', d, rfl, rfl, hs, ha, hd, h1, h2, h3, q⟩ := h
  cases rx
  obtain ⟨u, rfl, ru⟩ := rxs.one
  obtain ⟨its, rv, hI, hlen⟩ := I.list hs
  obtain ⟨as, ras⟩ := Dp.readsAll I ds vs its ha rv
  obtain ⟨bs, rd⟩ := Dp.reads I d w' u hd ru
  refine PySem.SeqAt.count_list_data (vs := its.toArray) hI.isList ras rd (PyData.plainAll_of_canLay0 ds h1) (PyData.plain_of_canLay0 d h2) ?_ ⟨.int _, H, I.tok _, ⟨_, rfl⟩, q⟩
  have := Nat.min_le_right (PyData.depthAll ds) d.depth
  omega
def dCnt {T : Type} (te : W T) (ta : WA T) : W T := fun env τ Q => te env τ fun r τ1 => ∃ xs, r.lst? = some xs ∧ ta env τ1 fun rs τ2 => ∃ d, rs = [.d d] ∧ PyData.canLayAll0 xs = true ∧ d.canLay0 = true ∧ d.depth ≤ 8 ∧ Q (.d (.int (xs.countP fun y => PyData.eqv y d : Nat))) τ2
def kCnt2 {T : Type} (xs : List D) (Q : SV → T → Prop) (rs : List SV) (τ2 : T) : Prop := ∃ d, rs = [.d d] ∧ PyData.canLayAll0 xs = true ∧ d.canLay0 = true ∧ d.depth ≤ 8 ∧ Q (.d (.int (xs.countP fun y => PyData.eqv y d : Nat))) τ2
def kCntB {T : Type} (ta : WA T) (env : List SV) (Q : SV → T → Prop) (τ1 : T) : Option (List D) → Prop
  | some xs => ta env τ1 (kCnt2 xs Q)
  | none => False
def kCnt1 {T : Type} (ta : WA T) (env : List SV) (Q : SV → T → Prop) (r : SV) (τ1 : T) : Prop := kCntB ta env Q τ1 r.lst?
theorem dCnt_k {T : Type} (te : W T) (ta : WA T) (env : List SV) (τ : T) (Q : SV → T → Prop) : dCnt te ta env τ Q = te env τ (kCnt1 ta env Q) := by
  unfold dCnt
  congr 1
  funext r τ1
  unfold kCnt1 kCntB
  cases r.lst? with
  | none => simp
  | some xs =>
    simp only [Option.some.injEq, exists_eq_left']
    rfl
theorem kCnt1_1 {T : Type} {ta : WA T} {env : List SV} {Q : SV → T → Prop} {xs : List D} {τ : T} : kCnt1 ta env Q (.ol xs) τ = ta env τ (kCnt2 xs Q) := rfl
theorem kCnt1_2 {T : Type} {ta : WA T} {env : List SV} {Q : SV → T → Prop} {xs : List D} {τ : T} : kCnt1 ta env Q (.vw xs) τ = ta env τ (kCnt2 xs Q) := rfl
theorem kCnt1_3 {T : Type} {ta : WA T} {env : List SV} {Q : SV → T → Prop} {xs : List D} {τ : T} : kCnt1 ta env Q (.d (.list xs)) τ = ta env τ (kCnt2 xs Q) := rfl
section
variable {X : Cx} {B : Bk} {o e : Expr} {te : W B.T} {ta : WA B.T} {apos cpos : Pos}
theorem de_cnt (hK : X.K = B.K) (hu : X.A.units + 64 + 1 < cLine) (ho : PE X o (lift B te)) (ha : PA X [e] (liftA B ta))
    (hbase : attributeBase o "count" X.env (eval o X.env) = eval o X.env := by rfl)
    (hfew : ((backTo cpos (starEach [e] X.env)).all (fun x => !x.1) && (backToKw cpos (keywordEach [] X.env)).all (fun x => x.1.isSome)
      && decide (([e] : List Expr).length + ([] : List Keyword).length + (if ([] : List Keyword).isEmpty then 0 else 1) < 30)) = true := by rfl)
    (hline : (apos.endLine == cpos.line) = true := by rfl) (hs : starEach [e] X.env = (false, eval e X.env) :: starEach [] X.env := by rfl) (hplain : (backTo cpos (starEach [] X.env)).any (·.1) = false := by rfl) :
    PE X (.Call (.Attribute o "count" apos) [e] [] cpos) (lift B (dCnt te ta)) :=
  pe_imp (pe_bm PySem.F.plainAttrs_list PySem.F.slot_list_count PySem.F.type_list_count (mt_cntD hu) ho ha hbase hfew hline hs hplain) fun σ H Q ⟨G, F, env, τ, Qd, s, t, fin⟩ => ⟨G, F, env, τ, _, s, t, fun r τ1 G1 F1 H1 v f1 r1 ⟨xs, ex, q⟩ => by
    obtain ⟨p, vs, rfl, hS, ra⟩ := r1.sql f1.k.same ex
    refine ⟨.inl ⟨rfl, vs, by rw [hK]; exact hS.sql⟩, G1, F1, env, τ1, _, s.fin f1, q, fun rs τ2 G2 F2 H2 ws f2 r2 hq => ?_⟩
    obtain ⟨d, rfl, h1, h2, h3, hq⟩ := hq
    obtain ⟨w', rfl, rw'⟩ := r2.one
    have rw' : Rp B.K G2 w' d := rw'
    obtain ⟨p', vs', e', hS', ra'⟩ := (r1.step f2.s).sql f2.k.same ex
    cases e'
    rw [hK]
    refine ⟨p, vs', xs, w', d, rfl, rfl, hS'.sql, ?_, ?_, h1, h2, h3, fin (.d (.int _)) τ2 G2 F2 H2 _ (f1.trans f2) (.int _) hq⟩
    · exact RpAll.dp (RpAll.mono f2.k.same ra') h1
    · exact Rp.dp (Rp.mono f2.k.same rw') h2⟩
end
theorem lay_bools : ∀ bs : List Bool, PyData.canLayAll0 (bs.map .bool) = true
  | [] => rfl
  | b :: bs => by rw [List.map_cons, PyData.canLayAll0, lay_bools bs]; rfl
theorem count_bools (b : Bool) (bs : List Bool) : (bs.map PyData.bool).countP (fun y => PyData.eqv y (.bool b)) = bs.count b := by
  rw [List.countP_map, List.count]
  congr 1
/-! ### walks over what stands there, turn by turn -/
section
variable {T : Type} {t : Tg} {tt : WT T} {te : W T} {Q : List D → T → Prop} {x y : Z.D} {xs acc : List Z.D} {env : List SV} {τ : T} {tb : WS T} {D : DEnds T}
def kLcY (t : Tg) (tt : WT T) (te : W T) (Q : List Z.D → T → Prop) (xs acc : List Z.D) (env : List SV) : Z.D → T → Prop := fun y τ => acc.length < sizeLine ∧ lcW t tt te Q xs (acc ++ [y]) env τ
def kLcN (t : Tg) (tt : WT T) (te : W T) (Q : List Z.D → T → Prop) (xs acc : List Z.D) (env : List SV) : T → Prop := fun τ => lcW t tt te Q xs acc env τ
theorem lcW_c : lcW t tt te Q (x :: xs) acc env τ = kTgB tt te (kLcY t tt te Q xs acc env) (kLcN t tt te Q xs acc env) τ (tgE t x env) := by
  show opt (tgE t x env) _ = _
  cases e : tgE t x env with
  | none => rfl
  | some a =>
    show tt a τ _ = tt a τ _
    congr 1
    funext b τ1
    unfold kTurn
    congr 1
    congr 1
    funext r τ2
    exact opt_e (fun _ => rfl) rfl
theorem lcW_n : lcW t tt te Q [] acc env τ = Q acc τ := rfl
theorem kLcY_e : kLcY t tt te Q xs acc env y τ = (acc.length < sizeLine ∧ lcW t tt te Q xs (acc ++ [y]) env τ) := rfl
theorem kLcN_e : kLcN t tt te Q xs acc env τ = lcW t tt te Q xs acc env τ := rfl
def kForN (t : Tg) (tb : WS T) (D : DEnds T) (xs : List Z.D) : List SV → T → Prop := fun env τ => forW t tb D xs env τ
theorem forW_c : forW t tb D (x :: xs) env τ = kFtB tb ⟨kForN t tb D xs, D.rt, D.nx, kForN t tb D xs⟩ τ (tgE t x env) := by
  show opt (tgE t x env) _ = _
  cases e : tgE t x env with
  | none => rfl
  | some a => rfl
theorem forW_n : forW t tb D [] env τ = D.nx env τ := rfl
theorem kForN_e : kForN t tb D xs env τ = forW t tb D xs env τ := rfl
theorem szl : 0 < sizeLine ∧ 1 < sizeLine ∧ 2 < sizeLine ∧ 3 < sizeLine ∧ 4 < sizeLine ∧ 5 < sizeLine ∧ 6 < sizeLine ∧ 7 < sizeLine ∧ 8 < sizeLine ∧ 9 < sizeLine := by
  rw [sizeLine_eq]
  decide
end
theorem u65 {k : Nat} {A : Around} (h : Room k A) : A.units + 64 + 1 < cLine := by
  have := h.un
  omega
/-! ### a, b, .. = a list -/
def kUnl2 {T : Type} (D : DEnds T) (τ : T) : Option (List SV) → Prop
  | some env => D.nx env τ
  | none => False
def kUnl1 {T : Type} (ts : List Tg) (D : DEnds T) (env : List SV) (τ : T) : Option (List Z.D) → Prop
  | some xs => kUnl2 D τ (tgEs ts xs env)
  | none => False
def kUnl {T : Type} (ts : List Tg) (D : DEnds T) (env : List SV) (r : SV) (τ : T) : Prop := kUnl1 ts D env τ r.lst?
def dAsgL {T : Type} (ts : List Tg) (te : W T) : WS T := fun D env τ => te env τ (kUnl ts D env)
theorem dAsgL_k {T : Type} (ts : List Tg) (te : W T) (D : DEnds T) (env : List SV) (τ : T) : dAsgL ts te D env τ = te env τ (kUnl ts D env) := rfl
theorem kUnl_1 {T : Type} {ts : List Tg} {D : DEnds T} {env : List SV} {xs : List Z.D} {τ : T} : kUnl ts D env (.ol xs) τ = kUnl2 D τ (tgEs ts xs env) := rfl
theorem kUnl_2 {T : Type} {ts : List Tg} {D : DEnds T} {env : List SV} {xs : List Z.D} {τ : T} : kUnl ts D env (.d (.list xs)) τ = kUnl2 D τ (tgEs ts xs env) := rfl
theorem kUnl2_1 {T : Type} {D : DEnds T} {env : List SV} {τ : T} : kUnl2 D τ (some env) = D.nx env τ := rfl
section
variable {X : Cx} {B : Bk} {e tg : Expr} {es : List Expr} {k n : Nat} {pos : Pos} {te : W B.T} {ts : List Tg}
theorem dg_lp (hc : X.calm = true) (hK : X.K = B.K) (h : PGs X es (tgHs B.K ts)) (hn : (assignEach es X.env).length = ts.length := by rfl) (hst : (assignEach es X.env).findIdx? (·.1) = none := by rfl) : PG X (.Tuple es k pos) (gLst B.K ts.length (tgHs B.K ts)) := by
  rw [← hK] at h ⊢
  exact pg_lst hc h hn hst
theorem ds_asgL (he : PE X e (lift B te)) (hg : PG X tg (gLst B.K ts.length (tgHs B.K ts))) (hs : swapsWithSole [tg] e pos.line X.env = pure false := by rfl) (hw : swappedStores [tg] e X.env = pure none := by rfl)
    (h1 : (assignEach [tg] X.env).map (·.2) = [assign tg X.env] := by rfl) : PS X (.Assign [tg] e pos) (liftS B (dAsgL ts te)) :=
  ps_imp (ps_asg he hg hs hw h1) fun D σ H ⟨G, F, env, τ, Dd, s, z, E⟩ => ⟨G, F, env, τ, _, s, z, fun r τ1 G1 F1 H1 v f1 r1 q => by
    unfold kUnl at q
    cases ex : r.lst? with
    | none => rw [ex] at q; exact q.elim
    | some xs =>
      rw [ex] at q
      have q : kUnl2 Dd τ1 (tgEs ts xs env) := q
      cases e2 : tgEs ts xs env with
      | none => rw [e2] at q; exact q.elim
      | some env' =>
        rw [e2] at q
        obtain ⟨p, vs, rfl, hS, ra⟩ := r1.sql f1.k.same ex
        exact ⟨p, vs, rfl, hS.sql, by rw [ra.length]; exact tgEs_len ts xs env env' e2, tgs_ok [] ts (s.fin f1) ra e2 fun σ' s' _ => E.nx G1 F1 σ' H1 env' τ1 f1.s.g s' q⟩⟩
end
end Z

namespace Z
open PySem PySem.Spec PyProof.Rows L2
/-! ### list(range(n)), tuple(range(n)) -/
def kRg1B {T : Type} (f : List D → SV) (Q : SV → T → Prop) (x : SV) (τ : T) : Prop := ∃ j : Int, x = .d (.int j) ∧ RgOk 0 j ∧ Q (f (rgI 0 (j - 0).toNat)) τ
def dRg1 {T : Type} (f : List D → SV) (ta : W T) : W T := fun env τ Q => ta env τ (kRg1B f Q)
theorem dRg1_k {T : Type} (f : List D → SV) (ta : W T) (env : List SV) (τ : T) (Q : SV → T → Prop) : dRg1 f ta env τ Q = ta env τ (kRg1B f Q) := rfl
theorem kRg1B_k {T : Type} {f : List D → SV} {j : Int} {Q : SV → T → Prop} {τ : T} : kRg1B f Q (.d (.int j)) τ = (RgOk 0 j ∧ Q (f (rgI 0 (j - 0).toNat)) τ) := by
  refine propext ⟨?_, fun h => ⟨j, rfl, h⟩⟩
  rintro ⟨j', e1, h⟩
  cases e1
  exact h
section
variable {X : Cx} {B : Bk} {a : Expr} {p p2 pos pos2 : Pos} {ta : W B.T}
theorem de_lstRg1 (hg : Gl X "list") (hm : X.mg "list" = none) (hg2 : Gl X "range") (hm2 : X.mg "range" = none) (ha : PE X a (lift B ta)) (hc : X.calm = true := by rfl)
    (n1 : starEach [a] X.env = (false, eval a X.env) :: starEach [] X.env := by rfl)
    (n4 : starEach [.Call (.Name "range" p2) [a] [] pos2] X.env = (false, eval (.Call (.Name "range" p2) [a] [] pos2) X.env) :: starEach [] X.env := by rfl) :
    PE X (.Call (.Name "list" p) [.Call (.Name "range" p2) [a] [] pos2] [] pos) (lift B (dRg1 (fun xs => .ol xs) ta)) :=
  pe_imp (pe_listRg hc hg hm (prg_1 hg2 hm2 ha n1) n4) fun σ H Q ⟨G, F, env, τ, Qd, s, t, k⟩ => ⟨G, F, env, τ, _, s, t, fun x τ1 G1 F1 H1 vx f1 r1 q1 => by
    obtain ⟨j, ex, ok, q⟩ := q1
    subst ex
    exact ⟨j, rint r1, ok, fun l hl => (FinT.trans k f1).ol f1.k hl (rp_rg 0 j) q⟩⟩
theorem de_tupRg1 (hg : Gl X "tuple") (hm : X.mg "tuple" = none) (hg2 : Gl X "range") (hm2 : X.mg "range" = none) (ha : PE X a (lift B ta)) (hc : X.calm = true := by rfl)
    (n1 : starEach [a] X.env = (false, eval a X.env) :: starEach [] X.env := by rfl)
    (n4 : starEach [.Call (.Name "range" p2) [a] [] pos2] X.env = (false, eval (.Call (.Name "range" p2) [a] [] pos2) X.env) :: starEach [] X.env := by rfl) :
    PE X (.Call (.Name "tuple" p) [.Call (.Name "range" p2) [a] [] pos2] [] pos) (lift B (dRg1 (fun xs => .d (.tuple xs)) ta)) :=
  pe_imp (pe_tupRg hc hg hm (prg_1 hg2 hm2 ha n1) n4) fun σ H Q ⟨G, F, env, τ, Qd, s, t, k⟩ => ⟨G, F, env, τ, _, s, t, fun x τ1 G1 F1 H1 vx f1 r1 q1 => by
    obtain ⟨j, ex, ok, q⟩ := q1
    subst ex
    exact ⟨j, rint r1, ok, fun l hl => (FinT.trans k f1).tup f1.k hl (rp_rg 0 j) q⟩⟩
end
/-! ### (x,) * n, n 0 and 1 too -/
theorem tuple_mul_one (l : Addr) (items : Array Value) (n : Nat) (dd : Option Addr) (sl : Array (Option Value)) (u : Tok) :
    Meets (Builtin.«tuple.__mul__» ⟨[.ref l, .int 1 u], []⟩) (fun _ R s => s.heap.get? l = some { cls := .type "tuple", dict := dd, data := .seq items n, slots := sl } ∧ R (.ok (.ret (Value.ref l))) s) :=
  .of_wp fun prog w A R s h => by
    obtain ⟨hp, g, d, tk, os⟩ := s
    obtain ⟨hl, h⟩ := h
    have f1 := AutoSeq1.idx_int
    wp_walk using wpAny_loadPart' hl
    exact ⟨_, rfl, h⟩
theorem tuple_mul_zero (l : Addr) (items : Array Value) (n : Nat) (dd : Option Addr) (sl : Array (Option Value)) (u : Tok) (hne : items.isEmpty = false) :
    Meets (Builtin.«tuple.__mul__» ⟨[.ref l, .int 0 u], []⟩) (fun _ R s => s.heap.get? l = some { cls := .type "tuple", dict := dd, data := .seq items n, slots := sl } ∧
      R (.ok (.ret (Value.ref s.heap.objs.size))) { s with heap := s.heap.push { cls := Value.type "tuple", data := Data.seq #[] }, toks := s.toks }) :=
  .of_wp fun prog w A R s h => by
    obtain ⟨hp, g, d, tk, os⟩ := s
    obtain ⟨hl, h⟩ := h
    have f1 := AutoSeq1.idx_int
    wp_walk using wpAny_loadPart' hl
    exact ⟨_, rfl, h⟩
def rRepT2 (K : PySem.W.Frag) : R2 := fun x y H Q => ∃ l xs, x = .ref l ∧ SqT K H l xs ∧ xs ≠ [] ∧ ((y = .int 1 ∧ Q (.ref l) H) ∨ (y = .int 0 ∧ ∀ p, H p = none → Q (.ref p) (upd H p (.tup []))))
theorem op_repT2 {X : Cx} : OpR X (binaryOp .Mult) (rRepT2 X.K) := by
  intro pins s σ H x y v u Q I rx ry h
  obtain ⟨l, xs, rfl, hT, hne, h⟩ := h
  cases rx
  obtain ⟨its, r, ⟨⟨cls, dd, data, sl⟩, ho, hc, n, hd⟩, hs⟩ := I.tuple hT
  simp only at hc hd
  subst hc hd
  have hn : its ≠ [] := fun e => hne (by
    have := r.length
    rw [e] at this
    exact List.eq_nil_of_length_eq_zero this)
  have hi : its.toArray.isEmpty = false := by
    cases its with
    | nil => exact absurd rfl hn
    | cons a b => rfl
  rcases h with ⟨rfl, q⟩ | ⟨rfl, q⟩
  · obtain ⟨t, rfl⟩ := ry
    exact wpAny_binaryOp_repeat_ref (T := "tuple") (U := "int") (by decide) ⟨_, ho, rfl⟩ (fun s' => typeIs_int s' 1 t) noFill_tuple_mul F.fills_int_mul F.slot_int_rmul repeat_tuple F.slot_int_index.lookup
      (call_meets F.slot_int_rmul (typeIs_int s 1 t) F.entry_int_rmul (F.args_int_rmul_2 _ _) (int_rmul_tuple 1 t l its.toArray n dd sl)
        ⟨ho, rfl, ⟨_, ho, rfl⟩, call_meets F.slot_tuple_mul ⟨_, ho, rfl⟩ F.entry_tuple_mul (F.args_tuple_mul_2 _ _) (tuple_mul_one l its.toArray n dd sl t) ⟨ho, ⟨.ref l, H, I, rfl, q⟩⟩⟩)
  · obtain ⟨t, rfl⟩ := ry
    refine wpAny_binaryOp_repeat_ref (T := "tuple") (U := "int") (by decide) ⟨_, ho, rfl⟩ (fun s' => typeIs_int s' 0 t) noFill_tuple_mul F.fills_int_mul F.slot_int_rmul repeat_tuple F.slot_int_index.lookup
      (call_meets F.slot_int_rmul (typeIs_int s 0 t) F.entry_int_rmul (F.args_int_rmul_2 _ _) (int_rmul_tuple 0 t l its.toArray n dd sl)
        ⟨ho, rfl, ⟨_, ho, rfl⟩, call_meets F.slot_tuple_mul ⟨_, ho, rfl⟩ F.entry_tuple_mul (F.args_tuple_mul_2 _ _) (tuple_mul_zero l its.toArray n dd sl t hi) ⟨ho, ?_⟩⟩)
    refine ⟨.ref s.heap.objs.size, _, I.laid (t' := s.toks) (o := .tup []) (fun b ob q => Heap.get?_push_of_some _ q) (Nat.le_refl _) ?_, rfl, q _ (I.hok.fresh (Nat.le_refl _))⟩
    exact ⟨by rw [sizeLine_eq]; decide, [], .nil, IsTup.new _ _⟩
def gTM (x y : SV) (Q : SV → Prop) : Prop := ∃ xs k, x = .d (.tuple xs) ∧ y = .d (.int k) ∧ xs ≠ [] ∧ (0 ≤ k ∧ k ≤ 1000) ∧ xs.length ≤ 1000 ∧ Q (.d (.tuple (List.replicate k.toNat xs).flatten))
theorem op_mulT {X : Cx} : OpR X (binaryOp .Mult) (fun x y H Q => rRepT X.K x y H Q ∨ rRepT2 X.K x y H Q) := op_repT.or op_repT2
theorem od_mulTM {X : Cx} {B : Bk} (hK : X.K = B.K) : OpD B (fun x y H Q => rRepT X.K x y H Q ∨ rRepT2 X.K x y H Q) gTM := fun x y vx vy Ha Hb G F H τ Qv Q k rx ry h fin => by
  obtain ⟨xs, n, ex, ey, hne, hn, hz, h⟩ := h
  by_cases h2 : 2 ≤ n
  · exact .inl (od_mulT hK x y vx vy Ha Hb G F H τ Qv Q k rx ry ⟨xs, n, ex, ey, hne, ⟨h2, hn.2⟩, hz, h⟩ fin)
  · right
    subst ex ey
    rw [hK]
    obtain ⟨p, vs, e1, hs, a⟩ := rtup rx
    have hl := a.length
    refine ⟨p, vs, e1, same_seqT k.same hs, fun z => hne ?_, ?_⟩
    · subst z
      exact List.length_eq_zero_iff.mp hl.symm
    · by_cases h1 : n = 1
      · subst h1
        refine .inl ⟨rint ry, ?_⟩
        rw [← e1]
        refine fin.d k rx ?_
        have e : (List.replicate (1 : Int).toNat xs).flatten = xs := by simp
        rw [e] at h
        exact h
      · have h0 : n = 0 := by omega
        subst h0
        exact .inr ⟨rint ry, fun p' hp => fin.tup k hp .nil h⟩
theorem gTM_1 {x : Int} {k : Nat} {Q : SV → Prop} (hk : k ≤ 1000) (q : Q (.d (.tuple ((List.replicate k x).map .int)))) : gTM (.d (.tuple [.int x])) (.d (.int (k : Int))) Q := by
  have e : ∀ k : Nat, (List.replicate k [PyData.int x]).flatten = (List.replicate k x).map .int := fun k => by
    induction k with
    | zero => rfl
    | succ k ih => rw [List.replicate_succ, List.flatten_cons, ih, List.replicate_succ]; rfl
  refine ⟨_, _, rfl, rfl, by simp, ⟨by omega, by omega⟩, by simp, ?_⟩
  rw [Int.toNat_natCast, e]
  exact q
end Z

namespace Z
open PySem PySem.Spec PyProof.Rows L2
/-! ### isinstance(x, (A, B)) -/
def kTy2 {T : Type} (a b : String) (Q : SV → T → Prop) (τ : T) : Option String → Prop
  | some n => Q (.d (.bool (isT n a || isT n b))) τ
  | none => False
theorem kTy2_s {T : Type} {a b : String} {Q : SV → T → Prop} {τ : T} {n : String} : kTy2 a b Q τ (some n) = Q (.d (.bool (isT n a || isT n b))) τ := rfl
def kIsi2B {T : Type} (a b : String) (Q : SV → T → Prop) (x : SV) (τ : T) : Prop := kTy2 a b Q τ x.tyN
def dIsi2 {T : Type} (a b : String) (t : W T) : W T := fun env τ Q => t env τ (kIsi2B a b Q)
theorem dIsi2_k {T : Type} (a b : String) (t : W T) (env : List SV) (τ : T) (Q : SV → T → Prop) : dIsi2 a b t env τ Q = t env τ (kIsi2B a b Q) := rfl
theorem kIsi2B_k {T : Type} {a b : String} {Q : SV → T → Prop} {x : SV} {τ : T} : kIsi2B a b Q x τ = kTy2 a b Q τ x.tyN := rfl
section
variable {X : Cx} {B : Bk} {e : Expr} {pos p p1 p2 : Pos} {x1 x2 : Str} {t : W B.T} {k : Nat} {tpos : Pos} {a b : String}
theorem kit_two {K : PySem.W.Frag} {n : String} (hn : n ∈ tyNames) (ha : tyNames.contains a = true) (hb : tyNames.contains b = true) : PySem.W.kitAny K (.type n) [.type a, .type b] = some (isT n a || isT n b) := by
  have z1 := of_decide_eq_true (List.all_eq_true.mp (List.all_eq_true.mp kit_all n hn) _ (List.contains_iff_mem.mp ha))
  have z2 := of_decide_eq_true (List.all_eq_true.mp (List.all_eq_true.mp kit_all n hn) _ (List.contains_iff_mem.mp hb))
  refine kitAny_cons (kit_ty z1) (fun h1 => ?_) (fun h1 => by rw [h1]; rfl)
  rw [h1]
  refine kitAny_cons (kit_ty z2) (fun h2 => ?_) (fun h2 => by rw [h2]; rfl)
  rw [h2]
  rfl
theorem de_isi2 (hK : X.K = B.K) (hg : Gl X "isinstance") (hm : X.mg "isinstance" = none) (he : PE X e (lift B t)) (g1 : Gl X x1) (hm1 : X.mg x1 = none) (hv1 : bootBuiltins x1 = some (.type a)) (g2 : Gl X x2) (hm2 : X.mg x2 = none) (hv2 : bootBuiltins x2 = some (.type b)) (ha : tyNames.contains a = true) (hb : tyNames.contains b = true)
    (hn1 : x1 ≠ "__name__" := by decide) (hd1 : (x1 == ("__debug__" : Str)) = false := by decide) (hn2 : x2 ≠ "__name__" := by decide) (hd2 : (x2 == ("__debug__" : Str)) = false := by decide)
    (n1 : starEach [e, .Tuple [.Name x1 p1, .Name x2 p2] k tpos] X.env = (false, eval e X.env) :: starEach [.Tuple [.Name x1 p1, .Name x2 p2] k tpos] X.env := by rfl) (n2 : starEach [.Tuple [.Name x1 p1, .Name x2 p2] k tpos] X.env = (false, eval (.Tuple [.Name x1 p1, .Name x2 p2] k tpos) X.env) :: starEach [] X.env := by rfl)
    (n3 : (backTo pos (starEach [.Tuple [.Name x1 p1, .Name x2 p2] k tpos] X.env)).any (·.1) = false := by rfl) (m1 : starEach [.Name x1 p1, .Name x2 p2] X.env = (false, eval (.Name x1 p1) X.env) :: starEach [.Name x2 p2] X.env := by rfl) (m2 : starEach [.Name x2 p2] X.env = (false, eval (.Name x2 p2) X.env) :: starEach [] X.env := by rfl) :
    PE X (.Call (.Name "isinstance" p) [e, .Tuple [.Name x1 p1, .Name x2 p2] k tpos] [] pos) (lift B (dIsi2 a b t)) :=
  pe_imp (pe_callB call_isiT hg hm (by decide +kernel) (pa_cons he (pa_cons (pe_tup (pa_cons (pe_bltn (v := .ty a) g1 hm1 hv1 rfl hn1 hd1) (pa_cons (pe_bltn (v := .ty b) g2 hm2 hv2 rfl hn2 hd2) pa_nil m2) m1)) pa_nil n2) n1) (by decide) (by decide) n1 n3) fun σ H Q ⟨G, F, env, τ, Qd, s, t, fin⟩ =>
    ⟨G, F, env, τ, _, s, t, fun r τ1 G1 F1 H1 v f1 r1 q1 => by
      refine ⟨by show 2 ≤ sizeLine; rw [sizeLine_eq]; omega, fun p hp => ?_⟩
      unfold kIsi2B at q1
      cases en : r.tyN with
      | none => rw [en] at q1; exact q1.elim
      | some n =>
        rw [en] at q1
        have st := Step.alloc (G := G1) (F := F1) (o := HO.tup [.ty a, .ty b]) hp
        have k2 := f1.k.alloc (o := HO.tup [.ty a, .ty b]) hp
        obtain ⟨hn, ty⟩ := tyX_ok k2.same (r1.step st) en
        refine ⟨v, p, _, _, [.type a, .type b], _, rfl, upd_same, .cons (.ty a) (.cons (.ty b) .nil), hK ▸ ty, kit_two hn ha hb, ?_⟩
        exact fin (.d (.bool _)) τ1 G1 F1 _ (.bl _) (f1.trans ⟨st, k2⟩) (.bl _) q1⟩
end
/-! ### xs.extend(a tuple) -/
theorem ext_tup (l : Addr) (items : Array Value) (n : Nat) (b : Addr) (items2 : Array Value) (n2 : Nat) (dd : Option Addr) (sl : Array (Option Value)) (hs0 : ¬(!items.isEmpty && Builtin.List.listTooLong (items.size + items2.size)) = true) (hs1 : items.size ≤ sizeLine) (hs2 : items.size + items2.size ≤ sizeLine + 1) :
    Meets (Builtin.«list.extend» ⟨[.ref l, .ref b], []⟩) (fun _ R s => s.heap.get? l = some { cls := .type "list", dict := none, data := .seq items n, slots := #[] } ∧ s.heap.get? b = some { cls := .type "tuple", dict := dd, data := .seq items2 n2, slots := sl } ∧ R (.ok (.ret Value.none)) { s with heap := s.heap.update l (Obj.mapSeq fun x => x ++ items2), toks := s.toks }) :=
  .of_wp fun prog w A R s h => by
    obtain ⟨hp, g, d, tk, os⟩ := s
    obtain ⟨hl, hb, h⟩ := h
    have f1 := PySem.AutoSeq1.idx_int
    have f2 := PySem.AutoSeq1.sub_tuple_tuple
    have f3 := PySem.AutoSeq1.sub_list_list
    have f4 := PySem.AutoSeq1.sub_tuple_list
    have f5 := PySem.AutoSeq1.sub_list_tuple
    have hz' : (items ++ items2).size ≤ sizeLine + 1 := by rw [Array.size_append]; exact hs2
    wp_walk using (wpAny_updateSeq hl rfl (hz := hs1) (_hz' := hz')), PySem.AutoSeq1.wpAny_loadPart' hl, PySem.AutoSeq1.wpAny_loadPart' hb
    exact ⟨_, rfl, h⟩
def rExtT (K : PySem.W.Frag) : V → List V → Hp → VK → Prop := fun x vs H Q => ∃ l b xs zs, x = .ref l ∧ vs = [.ref b] ∧ H l = some (.lst xs) ∧ SqT K H b zs ∧ xs.length + zs.length ≤ sizeLine ∧ Q .non (upd H l (.lst (xs ++ zs)))
theorem mt_extT {X : Cx} : MtM X "list.extend" (rExtT X.K) := by
  intro pins s σ H x vs v us Q I rx rv h
  obtain ⟨l, b, xs, zs, rfl, rfl, hH, hB, hz, q⟩ := h
  cases rx
  obtain ⟨u, rfl, ru⟩ := rv.one
  cases ru
  obtain ⟨z, its, n, r, hl, e⟩ := I.lstM hH
  obtain ⟨its2, r2, ⟨o, ho, hc, n2, hd⟩, z2⟩ := I.tuple hB
  obtain ⟨oc, od, dt, sl⟩ := o
  simp only at hc hd
  subst hc hd
  have hl2 := r2.length
  have hsz : its.toArray.size + its2.toArray.size ≤ sizeLine := by rw [List.size_toArray, List.size_toArray]; omega
  have hlong : ¬ (!its.toArray.isEmpty && Builtin.List.listTooLong (its.toArray.size + its2.toArray.size)) = true := by
    rw [notLongL hsz, Bool.and_false]
    exact Bool.false_ne_true
  refine call_meets F.slot_list_extend ⟨_, e, rfl⟩ F.entry_list_extend (F.args_list_extend_2 _ _)
    (ext_tup l its.toArray n b its2.toArray n2 od sl hlong (by rw [List.size_toArray]; omega) (by omega)) ⟨e, ho, ?_⟩
  refine ⟨.non, _, I.lset (its' := its ++ its2) hH e (by simp) (r.append r2) ?_, rfl, q⟩
  rw [List.length_append]
  omega
def kExT {T : Type} (i : Nat) (D : DEnds T) (env : List SV) (xs : List Z.D) (r : SV) (τ : T) : Prop := match r with
  | .d (.tuple zs) => xs.length + zs.length ≤ sizeLine ∧ D.nx (env.set i (.ol (xs ++ zs))) τ
  | _ => False
theorem kExT_1 {T : Type} {i : Nat} {D : DEnds T} {env : List SV} {xs zs : List Z.D} {τ : T} : kExT i D env xs (.d (.tuple zs)) τ = (xs.length + zs.length ≤ sizeLine ∧ D.nx (env.set i (.ol (xs ++ zs))) τ) := rfl
def kExtT {T : Type} (i : Nat) (te : W T) (D : DEnds T) (env : List SV) (τ : T) : Option SV → Prop
  | some (.ol xs) => te env τ (kExT i D env xs)
  | _ => False
theorem kExtT_1 {T : Type} {i : Nat} {te : W T} {D : DEnds T} {env : List SV} {τ : T} {xs : List Z.D} : kExtT i te D env τ (some (.ol xs)) = te env τ (kExT i D env xs) := rfl
def dExtT {T : Type} (i : Nat) (te : W T) : WS T := fun D env τ => kExtT i te D env τ env[i]?
theorem dExtT_k {T : Type} (i : Nat) (te : W T) (D : DEnds T) (env : List SV) (τ : T) : dExtT i te D env τ = kExtT i te D env τ env[i]? := rfl
theorem ds_extT {X : Cx} {B : Bk} {te : W B.T} {i : Nat} {st : Stmt} (hK : X.K = B.K) (h : PS X st (tDrop (tBM X.K "list" (rExtT X.K) (tVar i) (tCons (lift B te) tNil)))) : PS X st (liftS B (dExtT i te)) :=
  ps_imp h fun D σ H ⟨G, F, env, τ, Dd, s, z, E⟩ => by
    unfold dExtT at z
    cases ee : env[i]? with
    | none => rw [ee] at z; exact z.elim
    | some sv =>
      rw [ee] at z
      cases sv with
      | ol xs =>
        obtain ⟨p, e1, w⟩ := at_slot s ee
        obtain ⟨vs, e2, a2⟩ := w.at'
        refine ⟨_, e1, .inl ⟨rfl, _, .of e2⟩, G, F, env, τ, _, s, z, fun r τ1 G1 F1 H1 v f1 r1 q1 => ?_⟩
        unfold kExT at q1
        split at q1
        · obtain ⟨hz, q⟩ := q1
          obtain ⟨b, ws, ev, hs, ab⟩ := rtup r1
          subst ev
          have s2 := s.fin f1
          obtain ⟨vs2, e3, a3⟩ := (w.step f1.s).at'
          have s3 := s2.mut ee (by rw [e1]; rfl) (a3.app ab)
          exact ⟨p, b, vs2, ws, rfl, rfl, e3, hK ▸ same_seqT f1.k.same hs, by rw [a3.length, ab.length]; exact hz, E.nx G1 F1 σ _ _ τ1 f1.s.g s3 q⟩
        · exact q1.elim
      | no => exact z.elim
      | d _ => exact z.elim
      | vw _ => exact z.elim
      | raw _ => exact z.elim
end Z

namespace Z
open PySem L2
/-! the simplest steps of a reading -/
local macro_rules | `(tactic| walk_at "z") => `(tactic| (simp only [dSeq, dNext, dSet, dRet, dRetN, dIfS, dDrop, dVar, dC, dRaw, dOp, dCB, dCall, dNil, dCons, dTup, dLst, dT, dTru, dAndT, dOrT, dNotT, dAnd, dOr, dNot, dIf, dChain, dAsg, dPar, dApp, dFrz, dSl, dPart, dNoPart, dUn, dEmp, dM1, dFor, dSeqI, dRng1, dRng2, dLc, dYes, dNever, dWhile,
  gAdd, gI, noC, gEq, gNe, gCmp, gIsN, gNotN, gIx, gSl, gLen, gIsi, gAll, gAny, gInt, gII, gNeg, gJoin, gSIndex, opt_some, SV.arg, SV.dat?, SV.sto, SV.out, SV.dr, SV.truth, SV.lst?, SV.seqd?, SV.now?, SV.seq?, SV.isN, SV.size?, SV.tyN, Z.tyN, allD,
  tgE, tgEs, wipeE, List.map_cons, List.map_nil, List.getElem?_cons_zero, List.getElem?_cons_succ, List.set_cons_zero, List.set_cons_succ, List.all_cons, List.all_nil, Bool.and_true, Bool.and_self, Option.map_some, Option.bind_some, List.cons_append, List.nil_append, List.length_cons, List.length_nil, List.replicate, Nat.reduceAdd, Nat.reduceSub,
  Option.some.injEq, SV.d.injEq, PyData.bool.injEq, PyData.int.injEq, PyData.str.injEq, PyData.tuple.injEq, exists_eq_left', exists_eq_left, true_and, and_true, if_true, if_false, Bool.true_eq_false, Bool.false_eq_true, reduceIte, gMul, gMulS, gIn, reduceCtorEq, false_and, and_false, exists_false, exists_const, or_false, false_or, decide_eq_true_eq, exists_and_left, exists_and_right, exists_eq, exists_eq_right, exists_eq_right', SV.raw.injEq, ne_eq, not_false_eq_true, implies_true, forall_const]))
/-! the simplest steps of a reading -/
local macro_rules | `(tactic| walk_at "y") => `(tactic| (simp only [dAsgL_k, kUnl_1, kUnl_2, kUnl2_1, dCnt_k, kCnt1_1, kCnt1_2, kCnt1_3, dNewD_k, dUpdD_k, kUpd0_1, dSrtD_k, kSrt0_1, dNe0_k, kNe0_1, dCallV_k, dCallVX_k, dRg_k, kRgA, kRgB_k, dNil3_k, dRevT_k, kRevT_k, gSumA_t, gSumA_l, gSumA_ol, gSumA_vw, dGIndex_k, gAbs_i, dMnD_k, dCallX_k, kCallX, dIsX_k, dLam_k, dRaise_k, dLenSet_k, kLenSet, dRev_k, kRev_1, kRev_2, kRev_3, gReprE_e, gReprE_s, gReprE_i, gReprE_b, gReprE_n, gReprE_l, gReprE_t, gReprE_ol, gReprE_vw, gBits_k, dRng3_k, kAu_i, kAug_1, gTupC_k, gLstC_k, kSe_1, gIn_sf, gIn_st, gIn_tf, gIn_tt, flatD_none, flatD_int, flatD_str, flatD_bool, List.any_cons, List.any_nil, Bool.or_false, dOwn_k, kOw_1, kOw_2, kOw_3, kEx_1, kExt_1, dExt_k, kSI4_1, kSI3_1, kSI2_1, kSI1, kSetI_1, dSetI_k, kEn_k, dEnum_k, kEn2_l, kEn2_t, dEnum2_k, kZp_l, kZp_u, dZip_k, gMulA_i, gMulA_s, dVar_k, dC_k, dRaw_k, dOp_k, dT_k, kChB_t, kChB_f, dChain_k, dTru_k, kAndT_t, kAndT_f, kOrT_t, kOrT_f, dAndT_k, dOrT_k, dNotT_k, dAnd_k, dOr_k, dNot_k, kIf_t, kIf_f, dIf_k, dNil_k, dCons_k, dTup_k, dLst_k, dCB_k, dCall_k, dNext_k, dSeq_k, dBreak_k, dCont_k, dNever_k, dDrop_k, dRet_k, dRetN_k, kIfS_t, kIfS_f, dIfS_k, dSet_k, dAsg_k, dPar_k, kPar_k, dApp_k, dFrz_k, dSeqI_k, dRng1_k, dRng2_k, kR1_k, kR2_k, dFor_k, dLc_k, dYes_k, kTurn_t, kTurn_f, dSl_k, dNoPart_k, dPart_k, dUn_k, dEmp_k, dM1_k, kM1_k, gI_k, gAdd_i, gAdd_s, gAdd_t, gAdd_ll, gAdd_lo, gAdd_ol, gAdd_oo, gAdd_vo, gAdd_ov, gAdd_vv, gEq_k, gNe_k, gCmp_i, gCmp_s, gIsN_d, gNotN_d, gIsN_ol, gNotN_ol, gIsN_vw, gNotN_vw, gIx_s, gIx_t, gIx_l, gIx_ol, gIx_vw, gSl_s, gSl_t, gSl_l, gSl_ol, gSl_vw, gLen_s, gLen_t, gLen_l, gLen_ol, gLen_vw, gIsi_k, gAll_d, gAll_ol, gAny_d, gAny_ol, gInt_i, gInt_b, gInt_s, gII_k, gNeg_k, gJoin_ol, gJoin_l, gJoin_t, gJoin_vw, gMul_i, gMul_s, kG, kV_1, kV_2, kV_3, kOp2, kOp1, kTb_1, kTb_2, kT, kCh3, kCh4, kCh2, kCh1, kTru, kNotT, kAndB_1, kAndB_2, kAndB_3, kOrB_1, kOrB_2, kOrB_3, kAnd, kOr, kNotB_1, kNotB_2, kNot, kCo2, kCoB_1, kCoB_2, kCo, kTupB_1, kTupB_2, kTup, kLstB_1, kLstB_2, kLst, kCB, kCall, kNx, kDrop, kRet, kStB_1, kStB_2, kSet, kEnv_1, kEnv_2, kAsB_1, kAsB_2, kAsg, kApD_1, kApD_2, kAp, kApp_1, kFrz_1, kFrz_2, kSqB_1, kSqB_2, kSq, kFor, kOl, kLc, kDt_1, kDt_2, kDat, kTgB_1, kTgB_2, kFtB_1, kFtB_2, kSl3, kSl2, kSl1, kPtB_1, kPtB_2, kPt, kUn, kM2, kEq2_1, kEq2_2, kEq1_1, kEq1_2, kIsB_1, kIsB_2, kAtS_1, kAtS_2, kAt_1, kAt_2, kTy_1, kTy_2, kBls_1, kBls_2, kJn_1, kJn_2,
  SV.arg, SV.dat?, SV.sto, SV.out, SV.dr, SV.truth, SV.lst?, SV.seqd?, SV.now?, SV.seq?, SV.isN, SV.size?, SV.tyN, SV.bl?, SV.int?, tyNs_none, tyNs_bool, tyNs_int, tyNs_str, tyNs_list, tyNs_tuple, tyNs_dict, tyCs, isTs, szs, noC_t, eqOks_none_none, eqOks_none_int, eqOks_int_none, eqOks_none_bool, eqOks_bool_none, eqOks_none_str, eqOks_str_none, eqOks_int_int, eqOks_bool_bool, eqOks_str_str, eqOks_int_str, eqOks_str_int, eqOks_bool_str, eqOks_str_bool, eqv_int, eqv_bool, eqv_none_none, eqv_none_bool, eqv_none_int, eqv_none_str, eqv_none_list, eqv_none_tuple, eqv_bool_none, eqv_bool_str, eqv_bool_list, eqv_bool_tuple, eqv_int_none, eqv_int_str, eqv_int_list, eqv_int_tuple, eqv_str_none, eqv_str_bool, eqv_str_int, eqv_str_list, eqv_str_tuple, eqv_list_none, eqv_list_bool, eqv_list_int, eqv_list_str, eqv_list_tuple, eqv_tuple_none, eqv_tuple_bool, eqv_tuple_int, eqv_tuple_str, eqv_tuple_list, allD,
  tgE, tgEs, wipeE, List.map_cons, List.map_nil, List.getElem?_cons_zero, List.getElem?_cons_succ, List.set_cons_zero, List.set_cons_succ, List.all_cons, List.all_nil, Bool.and_true, Bool.and_self, Option.map_some, Option.bind_some, List.cons_append, List.nil_append, List.length_cons, List.length_nil, List.replicate, Nat.reduceAdd, Nat.reduceSub, Nat.reduceLeDiff, Nat.reduceMul,
  Bool.not_true, Bool.not_false, Bool.false_xor, Bool.true_xor, true_and, and_true, beq_self_eq_true, eq_self, decide_true, Bool.true_and, Bool.false_and, Nat.zero_le, List.isEmpty_cons, List.isEmpty_nil]))
/-! the simplest steps of a reading -/
local macro_rules | `(tactic| walk_at "x") => `(tactic| (try simp only [dAsgL_k, kUnl_1, kUnl_2, kUnl2_1, dCnt_k, kCnt1_1, kCnt1_2, kCnt1_3, dNewD_k, dUpdD_k, kUpd0_1, dSrtD_k, kSrt0_1, dNe0_k, kNe0_1, dCallV_k, dCallVX_k, dRg_k, kRgA, kRgB_k, dNil3_k, dRevT_k, kRevT_k, gSumA_t, gSumA_l, gSumA_ol, gSumA_vw, dGIndex_k, gAbs_i, dMnD_k, dCallX_k, kCallX, dIsX_k, dLam_k, dRaise_k, dLenSet_k, kLenSet, dRev_k, kRev_1, kRev_2, kRev_3, gReprE_e, gReprE_s, gReprE_i, gReprE_b, gReprE_n, gReprE_l, gReprE_t, gReprE_ol, gReprE_vw, gBits_k, dRng3_k, kAu_i, kAug_1, gTupC_k, gLstC_k, kSe_1, gIn_sf, gIn_st, gIn_tf, gIn_tt, flatD_none, flatD_int, flatD_str, flatD_bool, List.any_cons, List.any_nil, Bool.or_false, dOwn_k, kOw_1, kOw_2, kOw_3, kEx_1, kExt_1, dExt_k, kSI4_1, kSI3_1, kSI2_1, kSI1, kSetI_1, dSetI_k, kEn_k, dEnum_k, kEn2_l, kEn2_t, dEnum2_k, kZp_l, kZp_u, dZip_k, gMulA_i, gMulA_s, dVar_k, dC_k, dRaw_k, dOp_k, dT_k, kChB_t, kChB_f, dChain_k, dTru_k, kAndT_t, kAndT_f, kOrT_t, kOrT_f, dAndT_k, dOrT_k, dNotT_k, dAnd_k, dOr_k, dNot_k, kIf_t, kIf_f, dIf_k, dNil_k, dCons_k, dTup_k, dLst_k, dCB_k, dCall_k, dNext_k, dSeq_k, dBreak_k, dCont_k, dNever_k, dDrop_k, dRet_k, dRetN_k, kIfS_t, kIfS_f, dIfS_k, dSet_k, dAsg_k, dPar_k, kPar_k, dApp_k, dFrz_k, dSeqI_k, dRng1_k, dRng2_k, kR1_k, kR2_k, dFor_k, dLc_k, dYes_k, kTurn_t, kTurn_f, dSl_k, dNoPart_k, dPart_k, dUn_k, dEmp_k, dM1_k, kM1_k, gI_k, gAdd_i, gAdd_s, gAdd_t, gAdd_ll, gAdd_lo, gAdd_ol, gAdd_oo, gAdd_vo, gAdd_ov, gAdd_vv, gEq_k, gNe_k, gCmp_i, gCmp_s, gIsN_d, gNotN_d, gIsN_ol, gNotN_ol, gIsN_vw, gNotN_vw, gIx_s, gIx_t, gIx_l, gIx_ol, gIx_vw, gSl_s, gSl_t, gSl_l, gSl_ol, gSl_vw, gLen_s, gLen_t, gLen_l, gLen_ol, gLen_vw, gIsi_k, gAll_d, gAll_ol, gAny_d, gAny_ol, gInt_i, gInt_b, gInt_s, gII_k, gNeg_k, gJoin_ol, gJoin_l, gJoin_t, gJoin_vw, gMul_i, gMul_s, kG, kV_1, kV_2, kV_3, kOp2, kOp1, kTb_1, kTb_2, kT, kCh3, kCh4, kCh2, kCh1, kTru, kNotT, kAndB_1, kAndB_2, kAndB_3, kOrB_1, kOrB_2, kOrB_3, kAnd, kOr, kNotB_1, kNotB_2, kNot, kCo2, kCoB_1, kCoB_2, kCo, kTupB_1, kTupB_2, kTup, kLstB_1, kLstB_2, kLst, kCB, kCall, kNx, kDrop, kRet, kStB_1, kStB_2, kSet, kEnv_1, kEnv_2, kAsB_1, kAsB_2, kAsg, kApD_1, kApD_2, kAp, kApp_1, kFrz_1, kFrz_2, kSqB_1, kSqB_2, kSq, kFor, kOl, kLc, kDt_1, kDt_2, kDat, kTgB_1, kTgB_2, kFtB_1, kFtB_2, kSl3, kSl2, kSl1, kPtB_1, kPtB_2, kPt, kUn, kM2, kEq2_1, kEq2_2, kEq1_1, kEq1_2, kIsB_1, kIsB_2, kAtS_1, kAtS_2, kAt_1, kAt_2, kTy_1, kTy_2, kBls_1, kBls_2, kJn_1, kJn_2,
  SV.arg, SV.dat?, SV.sto, SV.out, SV.dr, SV.truth, SV.lst?, SV.seqd?, SV.now?, SV.seq?, SV.isN, SV.size?, SV.tyN, SV.bl?, SV.int?, tyNs_none, tyNs_bool, tyNs_int, tyNs_str, tyNs_list, tyNs_tuple, tyNs_dict, tyCs, isTs, szs, noC_t, eqOks_none_none, eqOks_none_int, eqOks_int_none, eqOks_none_bool, eqOks_bool_none, eqOks_none_str, eqOks_str_none, eqOks_int_int, eqOks_bool_bool, eqOks_str_str, eqOks_int_str, eqOks_str_int, eqOks_bool_str, eqOks_str_bool, eqv_int, eqv_bool, eqv_none_none, eqv_none_bool, eqv_none_int, eqv_none_str, eqv_none_list, eqv_none_tuple, eqv_bool_none, eqv_bool_str, eqv_bool_list, eqv_bool_tuple, eqv_int_none, eqv_int_str, eqv_int_list, eqv_int_tuple, eqv_str_none, eqv_str_bool, eqv_str_int, eqv_str_list, eqv_str_tuple, eqv_list_none, eqv_list_bool, eqv_list_int, eqv_list_str, eqv_list_tuple, eqv_tuple_none, eqv_tuple_bool, eqv_tuple_int, eqv_tuple_str, eqv_tuple_list, allD,
  tgE, tgEs, wipeE, List.map_cons, List.map_nil, List.getElem?_cons_zero, List.getElem?_cons_succ, List.set_cons_zero, List.set_cons_succ, List.all_cons, List.all_nil, Bool.and_true, Bool.and_self, Option.map_some, Option.bind_some, List.cons_append, List.nil_append, List.length_cons, List.length_nil, List.replicate, Nat.reduceAdd, Nat.reduceSub, Nat.reduceLeDiff, Nat.reduceMul,
  Bool.not_true, Bool.not_false, Bool.false_xor, Bool.true_xor, true_and, and_true, beq_self_eq_true, eq_self, decide_true, Bool.true_and, Bool.false_and, Nat.zero_le, List.isEmpty_cons, List.isEmpty_nil]))
local macro_rules | `(tactic| walk_at "i") => `(tactic| (refine kAt_of (by decide) (by simp only [List.length_cons, List.length_nil]; decide) (fun z ez _ => ?_); cases ez; walk_at "x"))
local macro_rules | `(tactic| walk_at "v") => `(tactic| (intro rs τ Q h; first | (obtain ⟨e, _⟩ := h; rw [e]; rfl) | (obtain ⟨_, e, _⟩ := h; rw [e]; rfl) | (obtain ⟨_, _, e, _⟩ := h; rw [e]; rfl) | (obtain ⟨_, _, _, e, _⟩ := h; rw [e]; rfl) | (obtain ⟨_, _, _, _, e, _⟩ := h; rw [e]; rfl) | (obtain ⟨_, _, _, _, _, e, _⟩ := h; rw [e]; rfl) | (obtain ⟨_, _, _, _, _, _, e, _⟩ := h; rw [e]; rfl) | (obtain ⟨_, _, _, _, _, _, _, e, _⟩ := h; rw [e]; rfl) | (obtain ⟨_, _, _, _, _, _, _, _, e, _⟩ := h; rw [e]; rfl) | (obtain ⟨_, _, _, _, _, _, _, _, _, e, _⟩ := h; rw [e]; rfl) | (obtain ⟨_, _, _, _, _, _, _, _, _, _, e, _⟩ := h; rw [e]; rfl) | (obtain ⟨_, _, _, _, _, _, _, _, _, _, _, e, _⟩ := h; rw [e]; rfl) | (obtain ⟨_, _, _, _, _, _, _, _, _, _, _, _, e, _⟩ := h; rw [e]; rfl) | (obtain ⟨_, _, _, _, _, _, _, _, _, _, _, _, _, e, _⟩ := h; rw [e]; rfl) | (obtain ⟨_, _, _, _, _, _, _, _, _, _, _, _, _, _, e, _⟩ := h; rw [e]; rfl)))
local macro_rules | `(tactic| walk_at "u") => `(tactic| (intro rs τ Q Ed h; first | (obtain ⟨e, _⟩ := h; rw [e]; rfl) | (obtain ⟨_, e, _⟩ := h; rw [e]; rfl) | (obtain ⟨_, _, e, _⟩ := h; rw [e]; rfl) | (obtain ⟨_, _, _, e, _⟩ := h; rw [e]; rfl) | (obtain ⟨_, _, _, _, e, _⟩ := h; rw [e]; rfl) | (obtain ⟨_, _, _, _, _, e, _⟩ := h; rw [e]; rfl) | (obtain ⟨_, _, _, _, _, _, e, _⟩ := h; rw [e]; rfl) | (obtain ⟨_, _, _, _, _, _, _, e, _⟩ := h; rw [e]; rfl) | (obtain ⟨_, _, _, _, _, _, _, _, e, _⟩ := h; rw [e]; rfl) | (obtain ⟨_, _, _, _, _, _, _, _, _, e, _⟩ := h; rw [e]; rfl) | (obtain ⟨_, _, _, _, _, _, _, _, _, _, e, _⟩ := h; rw [e]; rfl) | (obtain ⟨_, _, _, _, _, _, _, _, _, _, _, e, _⟩ := h; rw [e]; rfl) | (obtain ⟨_, _, _, _, _, _, _, _, _, _, _, _, e, _⟩ := h; rw [e]; rfl) | (obtain ⟨_, _, _, _, _, _, _, _, _, _, _, _, _, e, _⟩ := h; rw [e]; rfl) | (obtain ⟨_, _, _, _, _, _, _, _, _, _, _, _, _, _, e, _⟩ := h; rw [e]; rfl)))
local macro_rules | `(tactic| walk_at "w") => `(tactic| (rintro rs τ Q ⟨_, h, _⟩; first | (obtain ⟨e, _⟩ := h; rw [e]; rfl) | (obtain ⟨_, e, _⟩ := h; rw [e]; rfl) | (obtain ⟨_, _, e, _⟩ := h; rw [e]; rfl) | (obtain ⟨_, _, _, e, _⟩ := h; rw [e]; rfl) | (obtain ⟨_, _, _, _, e, _⟩ := h; rw [e]; rfl) | (obtain ⟨_, _, _, _, _, e, _⟩ := h; rw [e]; rfl) | (obtain ⟨_, _, _, _, _, _, e, _⟩ := h; rw [e]; rfl) | (obtain ⟨_, _, _, _, _, _, _, e, _⟩ := h; rw [e]; rfl) | (obtain ⟨_, _, _, _, _, _, _, _, e, _⟩ := h; rw [e]; rfl) | (obtain ⟨_, _, _, _, _, _, _, _, _, e, _⟩ := h; rw [e]; rfl) | (obtain ⟨_, _, _, _, _, _, _, _, _, _, e, _⟩ := h; rw [e]; rfl) | (obtain ⟨_, _, _, _, _, _, _, _, _, _, _, e, _⟩ := h; rw [e]; rfl) | (obtain ⟨_, _, _, _, _, _, _, _, _, _, _, _, e, _⟩ := h; rw [e]; rfl) | (obtain ⟨_, _, _, _, _, _, _, _, _, _, _, _, _, e, _⟩ := h; rw [e]; rfl) | (obtain ⟨_, _, _, _, _, _, _, _, _, _, _, _, _, _, e, _⟩ := h; rw [e]; rfl)))


def plainD : D → Prop
  | .dict (_ :: _) => False
  | _ => True
/-- plain, and if a tuple, of plain things -/
def pl (x : D) : Prop := plainD x ∧ ∀ xs, x = .tuple xs → ∀ y ∈ xs, plainD y
def isWholeD (x : D) (a b : Int) : Bool := match x with
  | .int i => decide (a ≤ i) && decide (i ≤ b)
  | _ => false
theorem nat_le8 (n : Nat) : decide (n ≤ 8) = decide ((n : Int) ≤ 8) := by rw [decide_eq_decide]; omega
def isNumD (x : D) : Bool := isWholeD x (-20) 20
def isRowD (x : D) : Bool := match x with
  | .tuple xs => decide (xs.length ≤ 8) && xs.all isNumD
  | _ => false
def isBoolD (x : D) : Bool := match x with
  | .bool _ => true
  | _ => false
def isPartD (i : Nat) (x : D) : Bool := if i < 2 then isNumD x else if i < 4 then isWholeD x 0 8 else if i < 7 then isBoolD x else isWholeD x (-160) 160
def partsFrom (i : Nat) : List D → Bool
  | [] => true
  | x :: r => isPartD i x && partsFrom (i + 1) r
theorem parts_zip (xs : List D) : ∀ i, ((xs.zipIdx i).all fun p => isPartD p.2 p.1) = partsFrom i xs := by
  induction xs with
  | nil => exact fun i => rfl
  | cons x r ih => exact fun i => by rw [List.zipIdx_cons, List.all_cons, ih]; rfl
theorem fm_nil (f : D → Bool) (xs : List D) : (PyData.list (xs.filterMap fun y => if f y = true then none else some y)).eqv (.list []) = xs.all f := by
  induction xs with
  | nil => rfl
  | cons x r ih =>
    rw [List.all_cons]
    cases e : f x with
    | true => rw [List.filterMap_cons_none (by simp [e]), ih]; rfl
    | false => rw [List.filterMap_cons_some (b := x) (by simp [e])]; rfl
def shD (y : D) : Prop := y.canLay0 = true ∧ y.depth ≤ 60
theorem canAll_mem : ∀ {xs : List D}, PyData.canLayAll0 xs = true → ∀ y ∈ xs, y.canLay0 = true
  | x :: r, h, y, hy => by
    rw [PyData.canLayAll0, Bool.and_eq_true] at h
    rcases List.mem_cons.mp hy with rfl | hy
    · exact h.1
    · exact canAll_mem h.2 y hy
theorem depAll_mem : ∀ {xs : List D}, ∀ y ∈ xs, y.depth ≤ PyData.depthAll xs
  | x :: r, y, hy => by
    rw [PyData.depthAll]
    rcases List.mem_cons.mp hy with rfl | hy
    · exact Nat.le_max_left _ _
    · exact Nat.le_trans (depAll_mem y hy) (Nat.le_max_right _ _)
theorem canAll_of : ∀ {xs : List D}, (∀ y ∈ xs, shD y) → PyData.canLayAll0 xs = true ∧ PyData.depthAll xs ≤ 60
  | [], _ => ⟨rfl, Nat.zero_le _⟩
  | x :: r, h => by
    obtain ⟨h1, h2⟩ := canAll_of (xs := r) fun y hy => h y (List.mem_cons_of_mem _ hy)
    have hx := h x List.mem_cons_self
    exact ⟨by rw [PyData.canLayAll0, hx.1, h1]; rfl, by rw [PyData.depthAll]; exact Nat.max_le.mpr ⟨hx.2, h2⟩⟩
theorem eqOk_nil (xs : List D) (h : ∀ y ∈ xs, shD y) : eqOk (.list xs) (.list []) = true := by
  obtain ⟨h1, h2⟩ := canAll_of h
  unfold eqOk
  rw [shaped_of (x := .list xs) (by rw [PyData.canLay0]; exact h1) (by rw [PyData.depth]; omega), shaped_of (x := .list []) (by rfl) (by decide)]
  simp
theorem whole_int {y : D} {a b : Int} (h : isWholeD y a b = true) : ∃ n, y = .int n ∧ a ≤ n ∧ n ≤ b := by
  cases y with
  | int n =>
    simp only [isWholeD, Bool.and_eq_true, decide_eq_true_eq] at h
    exact ⟨n, rfl, h⟩
  | _ => simp [isWholeD] at h
theorem whole_nn {n : Int} (h : -8 ≤ n ∧ n ≤ 8) : isWholeD (.int n) 0 8 = decide (0 ≤ n) := by
  simp only [isWholeD, h.2, decide_true, Bool.and_true]
theorem whole_no {y : D} (h : isWholeD y (-8) 8 = false) : isWholeD y 0 8 = false := by
  cases y with
  | int n =>
    simp only [isWholeD, Bool.and_eq_false_iff, decide_eq_false_iff_not] at h ⊢
    omega
  | _ => rfl
theorem kAndB_and {T : Type} {u : W T} {env : List SV} {Q : SV → T → Prop} {τ : T} {b c : Bool} (h : b = true → ∀ Q' : SV → T → Prop, Q' (.d (.bool c)) τ → u env τ Q') (q : Q (.d (.bool (b && c))) τ) : kAndB u env Q (.d (.bool b)) τ (some b) := by
  cases b with
  | true => exact h rfl Q q
  | false => exact q
theorem mem2 {x a b : D} (h : x ∈ [a, b]) : x = a ∨ x = b := by simpa using h
theorem mem3 {x a b c : D} (h : x ∈ [a, b, c]) : x = a ∨ x = b ∨ x = c := by simpa using h
theorem nine {xs : List D} (h : xs.length = 9) : ∃ x0 x1 x2 x3 x4 x5 x6 x7 x8, xs = [x0, x1, x2, x3, x4, x5, x6, x7, x8] := by
  match xs, h with
  | [x0, x1, x2, x3, x4, x5, x6, x7, x8], _ => exact ⟨x0, x1, x2, x3, x4, x5, x6, x7, x8, rfl⟩
def isKindD (x : D) : Bool := match x with
  | .tuple xs => decide (xs.length = 9) && partsFrom 0 xs
  | _ => false
def FF_is_whole : FW T2 := fun rs τ Q => ∃ x a b, rs = [.d x, .d (.int a), .d (.int b)] ∧ plainD x ∧ Q (.d (.bool (isWholeD x a b))) τ
def FF_is_number : FW T2 := fun rs τ Q => ∃ x, rs = [.d x] ∧ plainD x ∧ Q (.d (.bool (isNumD x))) τ
def FF_is_row : FW T2 := fun rs τ Q => ∃ x, rs = [.d x] ∧ pl x ∧ Q (.d (.bool (isRowD x))) τ
def FF_is_part : FW T2 := fun rs τ Q => ∃ (i : Nat) (x : D), rs = [.d (.int i), .d x] ∧ i < 9 ∧ plainD x ∧ Q (.d (.bool (isPartD i x))) τ
def FF_is_kind : FW T2 := fun rs τ Q => ∃ x, rs = [.d x] ∧ pl x ∧ Q (.d (.bool (isKindD x))) τ
def tI (ns : List Int) : D := .tuple (ns.map .int)
def lookB (r : Int → Int → Bool) (ns : List Int) (j : Nat) : Bool := (ns.zipIdx.take j).all fun p => (ns.drop (p.2 + 1)).all (r p.1)
theorem look_go (r : Int → Int → Bool) (ns : List Int) : ∀ (suf pre : List Int), ns = pre ++ suf → ((suf.zipIdx pre.length).all fun p => (ns.drop (p.2 + 1)).all (r p.1)) = pairsB r suf
  | [], pre, _ => rfl
  | a :: l, pre, e => by
    have ih := look_go r ns l (pre ++ [a]) (by rw [e]; simp)
    rw [List.length_append, List.length_singleton] at ih
    rw [List.zipIdx_cons, List.all_cons, ih, pairsB]
    show ((ns.drop (pre.length + 1)).all (r a) && _) = _
    rw [e, show pre ++ a :: l = (pre ++ [a]) ++ l by simp, show pre.length + 1 = (pre ++ [a]).length by simp, List.drop_left]
theorem look_all (r : Int → Int → Bool) (ns : List Int) : lookB r ns ns.length = pairsB r ns := by
  unfold lookB
  rw [List.take_of_length_le (by rw [List.length_zipIdx]; exact Nat.le_refl _)]
  exact look_go r ns ns [] rfl
theorem look_succ (r : Int → Int → Bool) {ns : List Int} {j : Nat} {n : Int} (h : ns[j]? = some n) : lookB r ns (j + 1) = (lookB r ns j && (ns.drop (j + 1)).all (r n)) := by
  unfold lookB
  have : ns.zipIdx[j]? = some (n, j) := by rw [List.getElem?_zipIdx, h]; simp
  rw [List.take_add_one, this, List.all_append]
  simp
theorem all_snoc (f : Int → Bool) {ms : List Int} {k : Nat} {m : Int} (h : ms[k]? = some m) : (ms.take (k + 1)).all f = ((ms.take k).all f && f m) := by
  rw [List.take_add_one, h, List.all_append]
  simp
def FF_rises : FW T2 := fun rs τ Q => ∃ ns, rs = [.d (tI ns)] ∧ ns.length ≤ 1000 ∧ Q (.d (.bool (pairsB (fun a b => decide (a ≤ b)) ns))) τ
def FF_falls : FW T2 := fun rs τ Q => ∃ ns, rs = [.d (tI ns)] ∧ ns.length ≤ 1000 ∧ Q (.d (.bool (pairsB (fun a b => decide (b ≤ a)) ns))) τ
def FF_are_unlike : FW T2 := fun rs τ Q => ∃ ns, rs = [.d (tI ns)] ∧ ns.length ≤ 1000 ∧ Q (.d (.bool (pairsB (fun a b => !decide (a = b)) ns))) τ
def FF__law_row : FW T2 := fun rs τ Q => ∃ (a : Addr) (b : Nat) (cs : List (Addr × Cel)) (lo hi most : Int), rs = [.raw (.ref a), .d (.int lo), .d (.int hi), .d (.int most)] ∧ τ = ⟨.on a b, cs⟩ ∧ lo ≤ hi ∧ -1000 ≤ lo ∧ hi ≤ 1000 ∧ 0 ≤ most ∧ most ≤ 8 ∧ 20 ≤ b ∧
  ∀ (ns : List Int) (b' : Nat), (ns.length : Int) ≤ most → (∀ n ∈ ns, lo ≤ n ∧ n ≤ hi) → b ≤ b' + 20 → Q (.d (tI ns)) ⟨.on a b', cs⟩
def kD (lo hi fe ma : Int) (u d n : Bool) (fr to : Int) : D := .tuple [.int lo, .int hi, .int fe, .int ma, .bool u, .bool d, .bool n, .int fr, .int to]
def FF__law_kind : FW T2 := fun rs τ Q => ∃ (a : Addr) (b : Nat) (cs : List (Addr × Cel)), rs = [.raw (.ref a)] ∧ τ = ⟨.on a b, cs⟩ ∧ 40 ≤ b ∧
  ∀ (lo hi fe ma : Int) (u d n : Bool) (fr to : Int) (b' : Nat), (-20 ≤ lo ∧ lo ≤ 20) → (-20 ≤ hi ∧ hi ≤ 20) → (0 ≤ fe ∧ fe ≤ 8) → (0 ≤ ma ∧ ma ≤ 8) → (-160 ≤ fr ∧ fr ≤ 160) → (-160 ≤ to ∧ to ≤ 160) → b ≤ b' + 40 → Q (.d (kD lo hi fe ma u d n fr to)) ⟨.on a b', cs⟩
/-- what may be looked at, and told -/
def fineD (x : D) : Prop := pl x ∧ (x = .dict [] ∨ Rb 10 100000 x)
theorem fineD.sh {x : D} (h : fineD x) : ∀ xs, x = .tuple xs → ∀ y ∈ xs, shD y := by
  rintro xs rfl y hy
  rcases h.2 with h | h
  · cases h
  · have h1 := h.lay
    have h2 := h.dp
    rw [PyData.canLay0] at h1
    rw [PyData.depth] at h2
    exact ⟨canAll_mem h1 y hy, by have := depAll_mem y hy; omega⟩
theorem gRepr_fine {x : D} {Q : SV → Prop} (h : fineD x) (q : Q (.d (.str x.shown))) : gReprE [.d x] Q := by
  rcases h.2 with rfl | hr
  · exact q
  have hr := hr.rep (by decide) (by decide)
  cases x with
  | dict m =>
    cases m with
    | nil => exact q
    | cons p r => exact h.1.1.elim
  | none => rw [gReprE_n]; exact ⟨hr, q⟩
  | bool b => rw [gReprE_b]; exact ⟨hr, q⟩
  | int b => rw [gReprE_i]; exact ⟨hr, q⟩
  | str b => rw [gReprE_s]; exact ⟨hr, q⟩
  | list b => rw [gReprE_l]; exact ⟨hr, q⟩
  | tuple b => rw [gReprE_t]; exact ⟨hr, q⟩
theorem all_mem (f : D → Bool) {l : List D} (h : l.all f = true) {x : D} (hx : x ∈ l) : f x = true := List.all_eq_true.mp h x hx
def rbB (m w : Nat) (d : D) : Bool := d.canLay0 && d.showable && decide (d.depth ≤ m) && PyData.intsShort 64 d && decide (d.weight ≤ w)
theorem Rb.dec {m w : Nat} {d : D} (h : rbB m w d = true) : Rb m w d := by
  unfold rbB at h
  rw [Bool.and_eq_true, Bool.and_eq_true, Bool.and_eq_true, Bool.and_eq_true, decide_eq_true_eq, decide_eq_true_eq] at h
  exact ⟨h.1.1.1.1, h.1.1.1.2, h.1.1.2, h.1.2, h.2⟩
def plainB : D → Bool
  | .dict (_ :: _) => false
  | _ => true
theorem plain_of {x : D} (h : plainB x = true) : plainD x := by
  cases x with
  | dict m =>
    cases m with
    | nil => trivial
    | cons p r => cases h
  | _ => trivial
def fineB (x : D) : Bool := plainB x && (match x with | .tuple xs => xs.all plainB | _ => true) && ((match x with | .dict [] => true | _ => false) || rbB 10 100000 x)
theorem fine_of {x : D} (h : fineB x = true) : fineD x := by
  unfold fineB at h
  rw [Bool.and_eq_true, Bool.and_eq_true, Bool.or_eq_true] at h
  obtain ⟨⟨h1, h2⟩, h3⟩ := h
  refine ⟨⟨plain_of h1, ?_⟩, ?_⟩
  · rintro xs rfl y hy
    exact plain_of (List.all_eq_true.mp h2 y hy)
  · rcases h3 with h3 | h3
    · left
      cases x with
      | dict m =>
        cases m with
        | nil => rfl
        | cons p r => cases h3
      | _ => cases h3
    · exact .inr (.dec h3)
theorem tup_fine {ys : List D} (h : ∀ y ∈ ys, plainD y ∧ Rb 1 300 y) (hl : ys.length ≤ 12) : fineD (.tuple ys) :=
  ⟨⟨trivial, fun xs e y hy => by cases e; exact (h y hy).1⟩, .inr ((Rb.tup (fun y hy => (h y hy).2) hl).le (by decide) (by decide))⟩
theorem lst_fine {ys : List D} (h : ∀ y ∈ ys, plainD y ∧ Rb 1 300 y) (hl : ys.length ≤ 12) : fineD (.list ys) :=
  ⟨⟨trivial, fun xs e => by cases e⟩, .inr ((Rb.lst (fun y hy => (h y hy).2) hl).le (by decide) (by decide))⟩
def FF__law_odd : FW T2 := fun rs τ Q => ∃ (a : Addr) (b : Nat) (cs : List (Addr × Cel)), rs = [.raw (.ref a)] ∧ τ = ⟨.on a b, cs⟩ ∧ 1 ≤ b ∧ ∀ x b', fineD x → b ≤ b' + 1 → Q (.d x) ⟨.on a b', cs⟩
/-- a scalar -/
def scD (x : D) : Prop := plainD x ∧ Rb 0 200 x
theorem sc_int {i : Int} (h : -1000 ≤ i ∧ i ≤ 1000) : scD (.int i) := ⟨trivial, .int (by omega)⟩
theorem sc_bool (b : Bool) : scD (.bool b) := ⟨trivial, (Rb.bool b).le (Nat.le_refl _) (by decide)⟩
theorem scD.to {x : D} (h : scD x) : plainD x ∧ Rb 1 300 x := ⟨h.1, h.2.le (by decide) (by decide)⟩
theorem sc_tI {ns : List Int} (h : ∀ n ∈ ns, -20 ≤ n ∧ n ≤ 20) : ∀ x ∈ ns.map PyData.int, scD x := fun x hx => by
  obtain ⟨n, hn, rfl⟩ := List.mem_map.mp hx
  have := h n hn
  exact sc_int (by omega)
theorem fine_tI {ns : List Int} (hl : (ns.length : Int) ≤ 8) (h : ∀ n ∈ ns, -20 ≤ n ∧ n ≤ 20) : fineD (tI ns) := tup_fine (fun y hy => (sc_tI h y hy).to) (by rw [List.length_map]; omega)
theorem row_tI {ns : List Int} (hl : (ns.length : Int) ≤ 8) (h : ∀ n ∈ ns, -20 ≤ n ∧ n ≤ 20) : isRowD (tI ns) = true := by
  unfold tI isRowD
  simp only [List.length_map, Bool.and_eq_true, decide_eq_true_eq, List.all_eq_true, List.mem_map]
  refine ⟨by omega, ?_⟩
  rintro x ⟨n, hn, rfl⟩
  have := h n hn
  simp only [isNumD, isWholeD, Bool.and_eq_true, decide_eq_true_eq]
  exact this
section
variable {lo hi fe ma : Int} {u d n : Bool} {fr to : Int} (k1 : -20 ≤ lo ∧ lo ≤ 20) (k2 : -20 ≤ hi ∧ hi ≤ 20) (k3 : 0 ≤ fe ∧ fe ≤ 8) (k4 : 0 ≤ ma ∧ ma ≤ 8) (k5 : -160 ≤ fr ∧ fr ≤ 160) (k6 : -160 ≤ to ∧ to ≤ 160)
include k1 k2 k3 k4 k5 k6
theorem sc_kD : ∀ x ∈ [PyData.int lo, .int hi, .int fe, .int ma, .bool u, .bool d, .bool n, .int fr, .int to], scD x := by
  intro x hx
  simp only [List.mem_cons, List.not_mem_nil, or_false] at hx
  rcases hx with rfl | rfl | rfl | rfl | rfl | rfl | rfl | rfl | rfl
  · exact sc_int (by omega)
  · exact sc_int (by omega)
  · exact sc_int (by omega)
  · exact sc_int (by omega)
  · exact sc_bool _
  · exact sc_bool _
  · exact sc_bool _
  · exact sc_int (by omega)
  · exact sc_int (by omega)
theorem fine_kD : fineD (kD lo hi fe ma u d n fr to) := tup_fine (fun y hy => (sc_kD k1 k2 k3 k4 k5 k6 y hy).to) (by simp)
theorem kind_kD : isKindD (kD lo hi fe ma u d n fr to) = true := by
  simp only [kD, isKindD, partsFrom, isPartD, isNumD, isWholeD, isBoolD, List.length_cons, List.length_nil, Nat.zero_add, Nat.reduceAdd, Nat.reduceLT, if_true, if_false, decide_true, Bool.true_and, Bool.and_true, Bool.and_eq_true, decide_eq_true_eq]
  exact ⟨k1, k2, k3, k4, k5, k6⟩
end
theorem rep_map (m : Nat) (l : List Int) : (List.replicate m (l.map PyData.int)).flatten = (List.replicate m l).flatten.map .int := by
  induction m with
  | zero => rfl
  | succ m ih => rw [List.replicate_succ, List.flatten_cons, ih, List.replicate_succ, List.flatten_cons, List.map_append]
theorem rep_len (m : Nat) (l : List Int) : (List.replicate m l).flatten.length = m * l.length := by
  induction m with
  | zero => simp
  | succ m ih => rw [List.replicate_succ, List.flatten_cons, List.length_append, ih, Nat.succ_mul]; omega

theorem gSort_vw {l : List Int} {Q : SV → Prop} (h : ∀ l2 : List Int, l2.Perm l → Q (.ol (l2.map .int))) : gSortA [.vw (l.map .int)] Q := gSortA_of rfl fun l2 hp _ => h l2 hp
def FF__law_bent : FW T2 := fun rs τ Q => ∃ (a : Addr) (b : Nat) (cs : List (Addr × Cel)) (xs : List D), rs = [.raw (.ref a), .d (.tuple xs)] ∧ τ = ⟨.on a b, cs⟩ ∧ xs.length ≤ 10 ∧ (∀ x ∈ xs, scD x) ∧ 3 ≤ b ∧ ∀ x b', fineD x → b ≤ b' + 3 → Q (.d x) ⟨.on a b', cs⟩
def FF__law_whole : FW T2 := fun rs τ Q => ∃ x a, rs = [.d x, .d (.int a)] ∧ plainD x ∧ Q (.d (.bool (isWholeD x (-a) a))) τ
def FF__law_is_row : FW T2 := fun rs τ Q => ∃ x, rs = [.d x] ∧ pl x ∧ (∀ xs, x = .tuple xs → ∀ y ∈ xs, shD y) ∧ Q (.d (.bool (isRowD x))) τ
def FF__law_is_kind : FW T2 := FF_is_kind
def FF__law_looked : FW T2 := fun rs τ Q => ∃ ns : List Int, rs = [.d (tI ns)] ∧ ns.length ≤ 1000 ∧ Q (.ol [.bool (pairsB (fun a b => decide (a ≤ b)) ns), .bool (pairsB (fun a b => decide (b ≤ a)) ns), .bool (pairsB (fun a b => !decide (a = b)) ns)]) τ
def FF__law_right0 : FW T2 := fun rs τ Q => ∃ x, rs = [.d x] ∧ fineD x ∧ Q (.d (.bool true)) τ

def geB (a b : Int) : Bool := decide (b ≤ a)
def leB (a b : Int) : Bool := decide (a ≤ b)
def neB (a b : Int) : Bool := !decide (a = b)
def hasB (lo hi fe ma : Int) (u d n : Bool) (fr to : Int) (ns : List Int) : Bool :=
  ((decide (fe ≤ (ns.length : Int)) && decide ((ns.length : Int) ≤ ma)) && (decide (fr ≤ ns.sum) && decide (ns.sum ≤ to))) && (ns.all fun x => decide (lo ≤ x) && decide (x ≤ hi)) && ((!n || pairsB neB ns) && ((pairsB leB ns || !u) && (pairsB geB ns || !d)))
def intOf : D → Int
  | .int i => i
  | _ => 0
def hasD (k r : D) : Bool := match k, r with
  | .tuple [.int lo, .int hi, .int fe, .int ma, .bool u, .bool d, .bool n, .int fr, .int to], .tuple xs => hasB lo hi fe ma u d n fr to (xs.map intOf)
  | _, _ => false
theorem map_intOf (ns : List Int) : (ns.map PyData.int).map intOf = ns := by
  rw [List.map_map]
  exact List.map_id ns
theorem hasD_k (lo hi fe ma : Int) (u d n : Bool) (fr to : Int) (ns : List Int) : hasD (kD lo hi fe ma u d n fr to) (tI ns) = hasB lo hi fe ma u d n fr to ns := by
  unfold hasD kD tI
  simp only
  rw [map_intOf]
theorem row_inv {x : D} (h : isRowD x = true) : ∃ ns : List Int, x = tI ns ∧ ns.length ≤ 8 ∧ ∀ n ∈ ns, -20 ≤ n ∧ n ≤ 20 := by
  cases x with
  | tuple xs =>
    simp only [isRowD, Bool.and_eq_true, decide_eq_true_eq, List.all_eq_true] at h
    refine ⟨xs.map intOf, ?_, by rw [List.length_map]; exact h.1, ?_⟩
    · unfold tI
      rw [List.map_map]
      congr 1
      refine (List.map_id xs).symm.trans (List.map_congr_left fun y hy => ?_)
      obtain ⟨n, rfl, _⟩ := whole_int (h.2 y hy)
      rfl
    · intro n hn
      obtain ⟨y, hy, rfl⟩ := List.mem_map.mp hn
      obtain ⟨n, rfl, h1, h2⟩ := whole_int (h.2 y hy)
      exact ⟨h1, h2⟩
  | _ => cases h
theorem boolD_inv {x : D} (h : isBoolD x = true) : ∃ b, x = .bool b := by
  cases x with
  | bool b => exact ⟨b, rfl⟩
  | _ => cases h
theorem kind_inv {x : D} (h : isKindD x = true) : ∃ (lo hi fe ma : Int) (u d n : Bool) (fr to : Int), x = kD lo hi fe ma u d n fr to ∧ (-20 ≤ lo ∧ lo ≤ 20) ∧ (-20 ≤ hi ∧ hi ≤ 20) ∧ (0 ≤ fe ∧ fe ≤ 8) ∧ (0 ≤ ma ∧ ma ≤ 8) ∧ (-160 ≤ fr ∧ fr ≤ 160) ∧ (-160 ≤ to ∧ to ≤ 160) := by
  cases x with
  | tuple xs =>
    simp only [isKindD, Bool.and_eq_true, decide_eq_true_eq] at h
    obtain ⟨x0, x1, x2, x3, x4, x5, x6, x7, x8, rfl⟩ := nine h.1
    have h := h.2
    simp only [partsFrom, isPartD, isNumD, Nat.zero_add, Nat.reduceAdd, Nat.reduceLT, if_true, if_false, Bool.and_true, Bool.and_eq_true] at h
    obtain ⟨h0, h1, h2, h3, h4, h5, h6, h7, h8⟩ := h
    obtain ⟨lo, rfl, b0⟩ := whole_int h0
    obtain ⟨hi, rfl, b1⟩ := whole_int h1
    obtain ⟨fe, rfl, b2⟩ := whole_int h2
    obtain ⟨ma, rfl, b3⟩ := whole_int h3
    obtain ⟨u, rfl⟩ := boolD_inv h4
    obtain ⟨d, rfl⟩ := boolD_inv h5
    obtain ⟨n, rfl⟩ := boolD_inv h6
    obtain ⟨fr, rfl, b7⟩ := whole_int h7
    obtain ⟨to, rfl, b8⟩ := whole_int h8
    exact ⟨lo, hi, fe, ma, u, d, n, fr, to, rfl, b0, b1, b2, b3, b7, b8⟩
  | _ => cases h
def partsS : List Str := ["low", "high", "few", "many", "up", "down", "unlike", "from", "to"]
def partIx : D → Option Nat
  | .str s => partsS.idxOf? s
  | _ => none
def partAt (x : D) (i : Nat) : D := match x with
  | .tuple xs => xs.getD i .none
  | _ => .none
def withD (x : D) (i : Nat) (t : D) : D := match x with
  | .tuple xs => .tuple (xs.take i ++ [t] ++ xs.drop (i + 1))
  | _ => .none
theorem partIx_some {p : D} {i : Nat} (h : partIx p = some i) : ∃ s, p = .str s ∧ partsS[i]? = some s ∧ (∀ m, m < i → partsS[m]? ≠ some s) ∧ i < 9 := by
  cases p with
  | str s =>
    have h : partsS.findIdx? (fun x => x == s) = some i := h
    obtain ⟨hi, h1, h2⟩ := List.findIdx?_eq_some_iff_getElem.mp h
    refine ⟨s, rfl, ?_, ?_, hi⟩
    · rw [List.getElem?_eq_getElem hi, eq_of_beq h1]
    · intro m hm e
      have hm' : m < partsS.length := by omega
      rw [List.getElem?_eq_getElem hm'] at e
      have := h2 m hm
      rw [Option.some.inj e] at this
      simp at this
  | _ => cases h
theorem any_idx (s : Str) (l : List Str) : ((l.map PyData.str).any fun y => PyData.eqv y (.str s)) = (l.idxOf? s).isSome := by
  rw [List.idxOf?, List.findIdx?_isSome, List.any_map]
  congr 1
theorem parts_any (s : Str) : (PyData.eqv (.str "low") (.str s) || (PyData.eqv (.str "high") (.str s) || (PyData.eqv (.str "few") (.str s) || (PyData.eqv (.str "many") (.str s) || (PyData.eqv (.str "up") (.str s) || (PyData.eqv (.str "down") (.str s) || (PyData.eqv (.str "unlike") (.str s) || (PyData.eqv (.str "from") (.str s) || PyData.eqv (.str "to") (.str s))))))))) = (partIx (.str s)).isSome := by
  have := any_idx s partsS
  simp only [partsS, List.map_cons, List.map_nil, List.any_cons, List.any_nil, Bool.or_false] at this
  exact this
/-- two numbers, one behind the other, are let by the words -/
def kpB (u d n : Bool) (a b : Int) : Bool := !((u && decide (b < a)) || ((d && decide (a < b)) || (n && decide (a = b))))
theorem kp_pairs (u d n : Bool) (l : List Int) : pairsB (kpB u d n) l = ((!n || pairsB neB l) && ((pairsB leB l || !u) && (pairsB geB l || !d))) := by
  induction l with
  | nil => cases u <;> cases d <;> cases n <;> rfl
  | cons a l ih =>
    have e : l.all (kpB u d n a) = ((!n || l.all (neB a)) && ((l.all (leB a) || !u) && (l.all (geB a) || !d))) := by
      clear ih
      induction l with
      | nil => cases u <;> cases d <;> cases n <;> rfl
      | cons b l ih2 =>
        rw [List.all_cons, List.all_cons, List.all_cons, List.all_cons, ih2]
        have e1 : leB a b = !decide (b < a) := by
          unfold leB
          rw [← decide_not, decide_eq_decide]
          omega
        have e2 : geB a b = !decide (a < b) := by
          unfold geB
          rw [← decide_not, decide_eq_decide]
          omega
        rw [e1, e2]
        unfold kpB neB
        generalize decide (b < a) = x
        generalize decide (a < b) = y
        generalize decide (a = b) = z
        generalize l.all (fun b => !decide (a = b)) = p1
        generalize l.all (leB a) = p2
        generalize l.all (geB a) = p3
        cases u <;> cases d <;> cases n <;> cases x <;> cases y <;> cases z <;> cases p1 <;> cases p2 <;> cases p3 <;> rfl
    rw [pairsB, pairsB, pairsB, pairsB, ih, e]
    generalize pairsB neB l = p1
    generalize pairsB leB l = p2
    generalize pairsB geB l = p3
    generalize l.all (neB a) = q1
    generalize l.all (leB a) = q2
    generalize l.all (geB a) = q3
    cases u <;> cases d <;> cases n <;> cases p1 <;> cases p2 <;> cases p3 <;> cases q1 <;> cases q2 <;> cases q3 <;> rfl
theorem il_can : ∀ ns : List Int, PyData.canLayAll0 (ns.map PyData.int) = true ∧ PyData.depthAll (ns.map PyData.int) = 0
  | [] => ⟨rfl, rfl⟩
  | n :: r => by
    obtain ⟨h1, h2⟩ := il_can r
    exact ⟨by rw [List.map_cons, PyData.canLayAll0, h1]; rfl, by rw [List.map_cons, PyData.depthAll, h2]; rfl⟩
theorem eqOk_il (a b : List Int) : eqOk (.list (a.map .int)) (.list (b.map .int)) = true := by
  unfold eqOk
  rw [shaped_of (x := .list (a.map .int)) (by rw [PyData.canLay0]; exact (il_can a).1) (by rw [PyData.depth, (il_can a).2]; decide), shaped_of (x := .list (b.map .int)) (by rw [PyData.canLay0]; exact (il_can b).1) (by rw [PyData.depth, (il_can b).2]; decide)]
  simp
theorem fold_min : ∀ (r : List Int) (n : Int), r.foldl min n ∈ n :: r
  | [], n => by simp
  | a :: r, n => by
    rw [List.foldl_cons]
    rcases List.mem_cons.mp (fold_min r (min n a)) with h | h
    · rw [h]
      rcases Int.le_total n a with e | e
      · rw [Int.min_eq_left e]; simp
      · rw [Int.min_eq_right e]; simp
    · exact List.mem_cons_of_mem _ (List.mem_cons_of_mem _ h)
theorem fold_max : ∀ (r : List Int) (n : Int), r.foldl max n ∈ n :: r
  | [], n => by simp
  | a :: r, n => by
    rw [List.foldl_cons]
    rcases List.mem_cons.mp (fold_max r (max n a)) with h | h
    · rw [h]
      rcases Int.le_total n a with e | e
      · rw [Int.max_eq_right e]; simp
      · rw [Int.max_eq_left e]; simp
    · exact List.mem_cons_of_mem _ (List.mem_cons_of_mem _ h)
theorem minOr_b {ns : List Int} (h : ∀ n ∈ ns, -20 ≤ n ∧ n ≤ 20) : -20 ≤ minOr 0 ns ∧ minOr 0 ns ≤ 20 := by
  cases ns with
  | nil => exact ⟨by decide, by decide⟩
  | cons n r => exact h _ (fold_min r n)
theorem maxOr_b {ns : List Int} (h : ∀ n ∈ ns, -20 ≤ n ∧ n ≤ 20) : -20 ≤ maxOr 0 ns ∧ maxOr 0 ns ≤ 20 := by
  cases ns with
  | nil => exact ⟨by decide, by decide⟩
  | cons n r => exact h _ (fold_max r n)
theorem sum_b {ns : List Int} (h : ∀ n ∈ ns, -20 ≤ n ∧ n ≤ 20) : -(20 * (ns.length : Int)) ≤ ns.sum ∧ ns.sum ≤ 20 * (ns.length : Int) := by
  induction ns with
  | nil => simp
  | cons a l ih =>
    have h1 := ih fun x hx => h x (List.mem_cons_of_mem _ hx)
    have h2 := h a List.mem_cons_self
    simp only [List.length_cons, List.sum_cons]
    omega
theorem mem4 {x a b c d : D} (h : x ∈ [a, b, c, d]) : x = a ∨ x = b ∨ x = c ∨ x = d := by simpa using h
def negD : D → Bool
  | .int i => decide (i < 0)
  | _ => false
def mostI (j : Nat) : Int := [20, 20, 8, 8, 0, 0, 0, 160, 160].getD j 0
def gd (j : Nat) (z : D) : Bool := if (decide (4 ≤ (j : Int)) && decide ((j : Int) ≤ 6)) = true then isBoolD z else isWholeD z (0 - mostI j) (mostI j)
theorem part_good (j : Nat) (hj : j < 9) (z : D) : isPartD j z = (gd j z && !((decide ((2 : Int) = j) || decide ((3 : Int) = j)) && negD z)) := by
  have : j = 0 ∨ j = 1 ∨ j = 2 ∨ j = 3 ∨ j = 4 ∨ j = 5 ∨ j = 6 ∨ j = 7 ∨ j = 8 := by omega
  rcases this with rfl | rfl | rfl | rfl | rfl | rfl | rfl | rfl | rfl
  all_goals (cases z <;> simp [isPartD, gd, isNumD, isWholeD, isBoolD, negD, mostI])
  all_goals (rw [Bool.eq_iff_iff]; simp; omega)
theorem kTy_bool {z : D} {Q : SV → Prop} (h : plainD z) (q : Q (.d (.bool (isBoolD z)))) : kTy "bool" Q (SV.tyN (.d z)) := by
  cases z with
  | dict m =>
    cases m with
    | nil => exact q
    | cons p r => exact h.elim
  | _ => exact q
theorem words_get {j : Nat} {v : D} (h : (partsS.map PyData.str)[j]? = some v) : partIx v = some j ∧ plainD v ∧ j < 9 := by
  have hj : j < 9 := by
    obtain ⟨h1, _⟩ := List.getElem?_eq_some_iff.mp h
    exact h1
  have : j = 0 ∨ j = 1 ∨ j = 2 ∨ j = 3 ∨ j = 4 ∨ j = 5 ∨ j = 6 ∨ j = 7 ∨ j = 8 := by omega
  rcases this with rfl | rfl | rfl | rfl | rfl | rfl | rfl | rfl | rfl
  all_goals (cases h; exact ⟨by decide +kernel, trivial, hj⟩)
theorem most_get {j : Nat} {x : D} (h : [PyData.int 20, .int 20, .int 8, .int 8, .int 0, .int 0, .int 0, .int 160, .int 160][j]? = some x) : x = .int (mostI j) := by
  have hj : j < 9 := by
    obtain ⟨h1, _⟩ := List.getElem?_eq_some_iff.mp h
    exact h1
  have : j = 0 ∨ j = 1 ∨ j = 2 ∨ j = 3 ∨ j = 4 ∨ j = 5 ∨ j = 6 ∨ j = 7 ∨ j = 8 := by omega
  rcases this with rfl | rfl | rfl | rfl | rfl | rfl | rfl | rfl | rfl
  all_goals (cases h; rfl)
def thB (z : D) : Bool := plainB z && rbB 1 300 z
theorem th_of {z : D} (h : thB z = true) : plainD z ∧ Rb 1 300 z := by
  unfold thB at h
  rw [Bool.and_eq_true] at h
  exact ⟨plain_of h.1, .dec h.2⟩
theorem rb_one {t : D} (h : Rb 2 5000 t) : reprOk (.list [t]) := ((Rb.lst (n := 1) (fun x hx => by rw [List.mem_singleton.mp hx]; exact h) (by simp)).le (m' := 3) (w' := 5001) (by decide) (by decide)).rep (by decide) (by decide)
theorem rb_with {xs : List D} {i : Nat} {t : D} (h : ∀ x ∈ xs, scD x) (ht : Rb 1 300 t) (hl : xs.length ≤ 9) : Rb 2 5000 (.tuple (xs.take i ++ [t] ++ xs.drop (i + 1))) := by
  refine (Rb.tup (m := 1) (w := 300) (n := 11) (fun x hx => ?_) ?_).le (by decide) (by decide)
  · rcases List.mem_append.mp hx with hx | hx
    · rcases List.mem_append.mp hx with hx | hx
      · exact (h x (List.mem_of_mem_take hx)).to.2
      · rw [List.mem_singleton.mp hx]; exact ht
    · exact (h x (List.mem_of_mem_drop hx)).to.2
  · rw [List.length_append, List.length_append, List.length_take, List.length_drop, List.length_singleton]
    omega
theorem parts_set : ∀ (xs : List D) (i0 i : Nat) (t : D), i < xs.length → partsFrom i0 xs = true → isPartD (i0 + i) t = true → partsFrom i0 (xs.take i ++ [t] ++ xs.drop (i + 1)) = true
  | x :: r, i0, 0, t, _, h, ht => by
    rw [partsFrom, Bool.and_eq_true] at h
    show (isPartD i0 t && partsFrom (i0 + 1) r) = true
    rw [h.2, show isPartD i0 t = true from ht]
    rfl
  | x :: r, i0, i + 1, t, hi, h, ht => by
    rw [partsFrom, Bool.and_eq_true] at h
    have ih := parts_set r (i0 + 1) i t (by simpa using hi) h.2 (by rw [show i0 + 1 + i = i0 + (i + 1) by omega]; exact ht)
    show (isPartD i0 x && partsFrom (i0 + 1) (r.take i ++ [t] ++ r.drop (i + 1))) = true
    rw [h.1, ih]
    rfl
  | [], _, _, _, hi, _, _ => by simp at hi
theorem kind_set {x t : D} {i : Nat} (h : isKindD x = true) (ht : isPartD i t = true) (hi : i < 9) : isKindD (withD x i t) = true := by
  cases x with
  | tuple xs =>
    simp only [isKindD, Bool.and_eq_true, decide_eq_true_eq] at h
    simp only [withD, isKindD, Bool.and_eq_true, decide_eq_true_eq]
    refine ⟨?_, parts_set xs 0 i t (by omega) h.2 (by rw [Nat.zero_add]; exact ht)⟩
    rw [List.length_append, List.length_append, List.length_take, List.length_drop, List.length_singleton]
    omega
  | _ => cases h
theorem fine_kind {k : D} (h : isKindD k = true) : fineD k := by
  obtain ⟨lo, hi, fe, ma, u, d, n, fr, to, rfl, k1, k2, k3, k4, k5, k6⟩ := kind_inv h
  exact fine_kD k1 k2 k3 k4 k5 k6
theorem fine_row {r : D} (h : isRowD r = true) : fineD r := by
  obtain ⟨ns, rfl, hl, hn⟩ := row_inv h
  exact fine_tI (by omega) hn
theorem rb_kind {k : D} (h : isKindD k = true) : Rb 2 4000 k := by
  obtain ⟨lo, hi, fe, ma, u, d, n, fr, to, rfl, k1, k2, k3, k4, k5, k6⟩ := kind_inv h
  exact (Rb.tup (m := 1) (w := 300) (n := 9) (fun x hx => (sc_kD k1 k2 k3 k4 k5 k6 x hx).to.2) (by simp)).le (by decide) (by decide)
theorem rb_row {r : D} (h : isRowD r = true) : Rb 2 4000 r := by
  obtain ⟨ns, rfl, hl, hn⟩ := row_inv h
  exact (Rb.tup (m := 1) (w := 300) (n := 9) (fun x hx => (sc_tI hn x hx).to.2) (by rw [List.length_map]; omega)).le (by decide) (by decide)
theorem has_all {ns : List Int} (hl : ns.length ≤ 8) (hn : ∀ n ∈ ns, -20 ≤ n ∧ n ≤ 20) : hasD (kD (-20) 20 0 8 false false false (-160) 160) (tI ns) = true := by
  rw [hasD_k]
  have := sum_b hn
  unfold hasB
  simp only [Bool.and_eq_true, decide_eq_true_eq, List.all_eq_true, Bool.or_eq_true, Bool.not_false, Bool.true_or, or_true, and_true]
  exact ⟨⟨⟨by omega, by omega⟩, by omega, by omega⟩, fun x hx => hn x hx⟩
theorem has_none {ns : List Int} : hasD (kD 20 (-20) 8 0 true true true 160 (-160)) (tI ns) = false := by
  rw [hasD_k]
  unfold hasB
  by_cases h : (8 : Int) ≤ ns.length
  · rw [show decide ((ns.length : Int) ≤ 0) = false from decide_eq_false (by omega)]
    simp
  · rw [show decide ((8 : Int) ≤ (ns.length : Int)) = false from decide_eq_false h]
    simp
def FF_has : FW T2 := fun rs τ Q => ∃ (lo hi fe ma : Int) (u d n : Bool) (fr to : Int) (ns : List Int), rs = [.d (kD lo hi fe ma u d n fr to), .d (tI ns)] ∧ ns.length ≤ 1000 ∧ Q (.d (.bool (hasB lo hi fe ma u d n fr to ns))) τ
def FF__law_has : FW T2 := FF_has
def FF__law_own : FW T2 := fun rs τ Q => ∃ ns, rs = [.d (tI ns)] ∧ ns.length ≤ 8 ∧ (∀ n ∈ ns, -20 ≤ n ∧ n ≤ 20) ∧
  ∀ (lo hi : Int) (u d n : Bool) (fr : Int), (-20 ≤ lo ∧ lo ≤ 20) → (-20 ≤ hi ∧ hi ≤ 20) → (-160 ≤ fr ∧ fr ≤ 160) → Q (.d (kD lo hi ns.length ns.length u d n fr fr)) τ
def twS : D → D
  | .bool b => .int (if b then 1 else 0)
  | .int i => if 0 ≤ i ∧ i ≤ 1 then .bool (decide (i = 1)) else .int i
  | x => x
def notTup : D → Prop
  | .tuple _ => False
  | .dict _ => False
  | _ => True
def FF__law_twin_0 : FW T2 := fun _ _ _ => False
def FF__law_twin_1 : FW T2 := fun rs τ Q => ∃ x, rs = [.d x] ∧ notTup x ∧ Q (.d (twS x)) τ
def FF__law_twin : FW T2 := fun rs τ Q => ∃ xs : List D, rs = [.d (.tuple xs)] ∧ (∀ x ∈ xs, notTup x) ∧ xs.length ≤ 1000 ∧ Q (.d (.tuple (xs.map twS))) τ
def FF__law_twin_2 : FW T2 := FF__law_twin
def FF__law_parts_right : FW T2 := fun rs τ Q => ∃ (a : Addr) (b : Nat) (cs : List (Addr × Cel)) (k : D), rs = [.raw (.ref a), .d k] ∧ τ = ⟨.on a b, cs⟩ ∧ isKindD k = true ∧ 20 ≤ b ∧ ∀ b', b ≤ b' + 20 → Q (.d (.bool true)) ⟨.on a b', cs⟩
def FF__law_refused_right : FW T2 := fun rs τ Q => ∃ (a : Addr) (b : Nat) (cs : List (Addr × Cel)) (r k : D), rs = [.raw (.ref a), .d r, .d k] ∧ τ = ⟨.on a b, cs⟩ ∧ isRowD r = true ∧ isKindD k = true ∧ 2 ≤ b ∧ ∀ b', b ≤ b' + 2 → Q (.d (.bool true)) ⟨.on a b', cs⟩
def FF__law_truths_right : FW T2 := fun rs τ Q => rs = [] ∧ Q (.d (.bool true)) τ
theorem kind_get {k : D} (h : isKindD k = true) {j : Nat} (hj : j < 9) : ∃ xs y, k = .tuple xs ∧ xs.length = 9 ∧ xs[j]? = some y ∧ ((4 ≤ j ∧ j ≤ 6 ∧ ∃ b, y = .bool b) ∨ (¬ (4 ≤ j ∧ j ≤ 6) ∧ ∃ i : Int, y = .int i ∧ -160 ≤ i ∧ i ≤ 160)) := by
  obtain ⟨lo, hi, fe, ma, u, d, n, fr, to, rfl, k1, k2, k3, k4, k5, k6⟩ := kind_inv h
  have : j = 0 ∨ j = 1 ∨ j = 2 ∨ j = 3 ∨ j = 4 ∨ j = 5 ∨ j = 6 ∨ j = 7 ∨ j = 8 := by omega
  rcases this with rfl | rfl | rfl | rfl | rfl | rfl | rfl | rfl | rfl
  · exact ⟨_, _, rfl, rfl, rfl, .inr ⟨by omega, _, rfl, by omega, by omega⟩⟩
  · exact ⟨_, _, rfl, rfl, rfl, .inr ⟨by omega, _, rfl, by omega, by omega⟩⟩
  · exact ⟨_, _, rfl, rfl, rfl, .inr ⟨by omega, _, rfl, by omega, by omega⟩⟩
  · exact ⟨_, _, rfl, rfl, rfl, .inr ⟨by omega, _, rfl, by omega, by omega⟩⟩
  · exact ⟨_, _, rfl, rfl, rfl, .inl ⟨by omega, by omega, _, rfl⟩⟩
  · exact ⟨_, _, rfl, rfl, rfl, .inl ⟨by omega, by omega, _, rfl⟩⟩
  · exact ⟨_, _, rfl, rfl, rfl, .inl ⟨by omega, by omega, _, rfl⟩⟩
  · exact ⟨_, _, rfl, rfl, rfl, .inr ⟨by omega, _, rfl, by omega, by omega⟩⟩
  · exact ⟨_, _, rfl, rfl, rfl, .inr ⟨by omega, _, rfl, by omega, by omega⟩⟩
def nearOk (j : Nat) : D → Bool
  | .int i => decide ((if i < 0 then -i else i) ≤ mostI j) && (!(decide ((2 : Int) = j) || decide ((3 : Int) = j)) || decide (0 ≤ i))
  | _ => false
theorem near_part {j : Nat} (hj : j < 9) {y : D} (hy : (4 ≤ j ∧ j ≤ 6 ∧ ∃ b, y = .bool b) ∨ (¬ (4 ≤ j ∧ j ≤ 6) ∧ ∃ i : Int, y = .int i ∧ -200 ≤ i ∧ i ≤ 200)) (h : ((decide (4 ≤ (j : Int)) && decide ((j : Int) ≤ 6)) || nearOk j y) = true) : isPartD j y = true := by
  rw [part_good j hj]
  rcases hy with ⟨h1, h2, b, rfl⟩ | ⟨h1, i, rfl, _⟩
  · unfold gd
    rw [if_pos (by rw [Bool.and_eq_true, decide_eq_true_eq, decide_eq_true_eq]; omega)]
    simp [isBoolD, negD]
  · rw [show (decide (4 ≤ (j : Int)) && decide ((j : Int) ≤ 6)) = false by rw [Bool.and_eq_false_iff, decide_eq_false_iff_not, decide_eq_false_iff_not]; omega, Bool.false_or] at h
    unfold gd
    rw [if_neg (by rw [Bool.and_eq_true, decide_eq_true_eq, decide_eq_true_eq]; omega)]
    simp only [nearOk, isWholeD, negD, Bool.and_eq_true, decide_eq_true_eq, Bool.or_eq_true, Bool.not_eq_true', Bool.or_eq_false_iff, Bool.and_eq_false_iff, decide_eq_false_iff_not] at h ⊢
    obtain ⟨g1, g2⟩ := h
    refine ⟨by split at g1 <;> omega, ?_⟩
    omega
theorem twin_bad {k : D} (h : isKindD k = true) : ∃ xs, k = .tuple xs ∧ (∀ x ∈ xs, notTup x) ∧ xs.length ≤ 1000 ∧ pl (.tuple (xs.map twS)) ∧ isKindD (.tuple (xs.map twS)) = false := by
  obtain ⟨lo, hi, fe, ma, u, d, n, fr, to, rfl, k1, k2, k3, k4, k5, k6⟩ := kind_inv h
  refine ⟨_, rfl, ?_, by simp, ⟨trivial, ?_⟩, ?_⟩
  · intro x hx
    simp only [List.mem_cons, List.not_mem_nil, or_false] at hx
    rcases hx with rfl | rfl | rfl | rfl | rfl | rfl | rfl | rfl | rfl <;> trivial
  · intro xs e y hy
    cases e
    obtain ⟨x, hx, rfl⟩ := List.mem_map.mp hy
    simp only [List.mem_cons, List.not_mem_nil, or_false] at hx
    rcases hx with rfl | rfl | rfl | rfl | rfl | rfl | rfl | rfl | rfl
    all_goals (unfold twS; dsimp only; first | trivial | (split <;> trivial))
  · simp only [List.map_cons, List.map_nil, isKindD, partsFrom, isPartD, isBoolD, twS, Nat.zero_add, Nat.reduceAdd, Nat.reduceLT, if_true, if_false, Bool.false_and, Bool.and_false]
/-! ### lots of sums as bits: bit s + 160 of a number stands for the sum s -/
/-- the number b holds the sum s -/
def hasS (b : Int) (s : Int) : Prop := 0 ≤ b ∧ 0 ≤ s + 160 ∧ b.toNat.testBit (s + 160).toNat = true
theorem or_has {a b : Int} (ha : 0 ≤ a) (hb : 0 ≤ b) (s : Int) : hasS (Builtin.bitOr a b) s ↔ hasS a s ∨ hasS b s := by
  rw [L2.bitOr_nn ha hb]
  unfold hasS
  rw [Int.toNat_natCast, Nat.testBit_or, Bool.or_eq_true]
  constructor
  · rintro ⟨_, h1, h2 | h2⟩
    · exact .inl ⟨ha, h1, h2⟩
    · exact .inr ⟨hb, h1, h2⟩
  · rintro (⟨_, h1, h2⟩ | ⟨_, h1, h2⟩)
    · exact ⟨by omega, h1, .inl h2⟩
    · exact ⟨by omega, h1, .inr h2⟩
/-- the same number holds the same sums -/
theorem has_ext {a b : Int} (ha : 0 ≤ a) (hb : 0 ≤ b) (h : ∀ s : Int, hasS a s ↔ hasS b s) : a = b := by
  have e : a.toNat = b.toNat := by
    apply Nat.eq_of_testBit_eq
    intro i
    have := h ((i : Int) - 160)
    unfold hasS at this
    rw [show ((i : Int) - 160 + 160).toNat = i by omega] at this
    rw [Bool.eq_iff_iff]
    exact ⟨fun z => (this.mp ⟨ha, by omega, z⟩).2.2, fun z => (this.mpr ⟨hb, by omega, z⟩).2.2⟩
  omega
theorem shl_has {b : Int} (hb : 0 ≤ b) {n : Nat} (s : Int) : hasS (b * 2 ^ n) s ↔ 0 ≤ s + 160 ∧ (n : Int) ≤ s + 160 ∧ hasS b (s - n) := by
  have e : (b * 2 ^ n).toNat = b.toNat * 2 ^ n := by
    obtain ⟨m, rfl⟩ := Int.eq_ofNat_of_zero_le hb
    have : ((m : Int) * 2 ^ n) = ((m * 2 ^ n : Nat) : Int) := by simp
    rw [this, Int.toNat_natCast, Int.toNat_natCast]
  have h0 : 0 ≤ b * 2 ^ n := Int.mul_nonneg hb (Int.le_of_lt (Int.pow_pos (by decide)))
  unfold hasS
  rw [e, Nat.testBit_mul_two_pow, Bool.and_eq_true, decide_eq_true_eq]
  constructor
  · rintro ⟨_, h1, h2, h3⟩
    refine ⟨h1, by omega, hb, by omega, ?_⟩
    rw [show (s - n + 160).toNat = (s + 160).toNat - n by omega]
    exact h3
  · rintro ⟨h1, h2, _, _, h3⟩
    refine ⟨h0, h1, by omega, ?_⟩
    rw [show (s - n + 160).toNat = (s + 160).toNat - n by omega] at h3
    exact h3
theorem shr_has {b : Int} (hb : 0 ≤ b) {n : Nat} (s : Int) : hasS (b / 2 ^ n) s ↔ 0 ≤ s + 160 ∧ hasS b (s + n) := by
  have e : (b / 2 ^ n).toNat = b.toNat / 2 ^ n := by
    obtain ⟨m, rfl⟩ := Int.eq_ofNat_of_zero_le hb
    have : ((m : Int) / 2 ^ n) = ((m / 2 ^ n : Nat) : Int) := by simp
    rw [this, Int.toNat_natCast, Int.toNat_natCast]
  have h0 : 0 ≤ b / 2 ^ n := Int.ediv_nonneg hb (Int.le_of_lt (Int.pow_pos (by decide)))
  unfold hasS
  rw [e, Nat.testBit_div_two_pow]
  constructor
  · rintro ⟨_, h1, h3⟩
    refine ⟨h1, hb, by omega, ?_⟩
    rw [show (s + n + 160).toNat = n + (s + 160).toNat by omega]
    rw [Nat.add_comm]
    exact h3
  · rintro ⟨h1, _, _, h3⟩
    refine ⟨h0, h1, ?_⟩
    rw [show (s + n + 160).toNat = n + (s + 160).toNat by omega] at h3
    rw [Nat.add_comm] at h3
    exact h3
/-- a run of ones -/
theorem ones_has {a n : Nat} (s : Int) : hasS (2 ^ (a + n) - 2 ^ a) s ↔ 0 ≤ s + 160 ∧ (a : Int) ≤ s + 160 ∧ s + 160 < (a : Int) + n := by
  have e : ((2 : Int) ^ (a + n) - 2 ^ a) = ((2 ^ n - 1 : Nat) : Int) * 2 ^ a := by
    have h1 : 1 ≤ 2 ^ n := Nat.one_le_two_pow
    rw [Int.pow_add, Int.ofNat_sub h1, Int.sub_mul]
    simp [Int.mul_comm]
  rw [e, shl_has (Int.natCast_nonneg _)]
  unfold hasS
  rw [Int.toNat_natCast, Nat.testBit_two_pow_sub_one, decide_eq_true_eq]
  constructor
  · rintro ⟨h1, h2, _, h4, h5⟩
    exact ⟨h1, h2, by omega⟩
  · rintro ⟨h1, h2, h3⟩
    exact ⟨h1, h2, Int.natCast_nonneg _, by omega, by omega⟩

/-! ### lots of numbers, plain -/
/-- l is a lot of the numbers ns: all alike where lvl, no two alike where unl -/
def IsLot (ns : List Int) (lvl unl : Bool) (l : List Int) : Prop := (∀ x ∈ l, x ∈ ns) ∧ (unl = true → l.Nodup) ∧ (lvl = true → ∀ x ∈ l, ∀ y ∈ l, x = y)
def Lot (ns : List Int) (lvl unl : Bool) (m : Nat) (s : Int) : Prop := ∃ l : List Int, IsLot ns lvl unl l ∧ l.length = m ∧ l.sum = s
theorem IsLot.nil {ns : List Int} {lvl unl : Bool} : IsLot ns lvl unl [] := ⟨by simp, by simp, by simp⟩
theorem lot_zero {ns : List Int} {lvl unl : Bool} {s : Int} : Lot ns lvl unl 0 s ↔ s = 0 := by
  constructor
  · rintro ⟨l, h, h1, h2⟩
    rw [List.length_eq_zero_iff] at h1
    subst h1
    simpa using h2.symm
  · rintro rfl
    exact ⟨[], .nil, rfl, rfl⟩
theorem lot_rep {ns : List Int} {m : Nat} {s : Int} : Lot ns false false (m + 1) s ↔ ∃ x ∈ ns, Lot ns false false m (s - x) := by
  constructor
  · rintro ⟨l, ⟨h, _, _⟩, h1, h2⟩
    cases l with
    | nil => simp at h1
    | cons x l =>
      simp only [List.length_cons, List.sum_cons] at h1 h2
      exact ⟨x, h x List.mem_cons_self, l, ⟨fun y hy => h y (List.mem_cons_of_mem _ hy), by simp, by simp⟩, by omega, by omega⟩
  · rintro ⟨x, hx, l, ⟨h, _, _⟩, h1, h2⟩
    refine ⟨x :: l, ⟨?_, by simp, by simp⟩, by simp [h1], by simp only [List.sum_cons]; omega⟩
    intro y hy
    rcases List.mem_cons.mp hy with rfl | hy
    · exact hx
    · exact h y hy
theorem sum_erase {x : Int} : ∀ {l : List Int}, x ∈ l → (l.erase x).sum = l.sum - x
  | a :: l, h => by
    by_cases e : a = x
    · subst e
      rw [List.erase_cons_head, List.sum_cons]
      omega
    · rw [List.erase_cons_tail (by simpa using e), List.sum_cons, List.sum_cons]
      have : x ∈ l := by
        rcases List.mem_cons.mp h with h | h
        · exact absurd h.symm e
        · exact h
      rw [sum_erase this]
      omega
theorem sum_perm {l k : List Int} (h : l.Perm k) : l.sum = k.sum := by
  induction h with
  | nil => rfl
  | cons x _ ih => rw [List.sum_cons, List.sum_cons, ih]
  | swap x y l => simp only [List.sum_cons]; omega
  | trans _ _ a b => rw [a, b]
theorem lot_unl {ns : List Int} {x : Int} (hx : x ∉ ns) {m : Nat} {s : Int} : Lot (ns ++ [x]) false true (m + 1) s ↔ Lot ns false true (m + 1) s ∨ Lot ns false true m (s - x) := by
  constructor
  · rintro ⟨l, ⟨h, hn, _⟩, h1, h2⟩
    by_cases hxl : x ∈ l
    · right
      refine ⟨l.erase x, ⟨fun y hy => ?_, fun _ => (hn rfl).erase x, by simp⟩, by rw [List.length_erase_of_mem hxl]; omega, by rw [sum_erase hxl, h2]⟩
      have hy' := (List.Nodup.mem_erase_iff (hn rfl)).mp hy
      rcases List.mem_append.mp (h y hy'.2) with h' | h'
      · exact h'
      · exact absurd (List.mem_singleton.mp h') hy'.1
    · left
      refine ⟨l, ⟨fun y hy => ?_, hn, by simp⟩, h1, h2⟩
      rcases List.mem_append.mp (h y hy) with h' | h'
      · exact h'
      · rw [List.mem_singleton.mp h'] at hy
        exact absurd hy hxl
  · rintro (⟨l, ⟨h, hn, _⟩, h1, h2⟩ | ⟨l, ⟨h, hn, _⟩, h1, h2⟩)
    · exact ⟨l, ⟨fun y hy => List.mem_append_left _ (h y hy), hn, by simp⟩, h1, h2⟩
    · refine ⟨x :: l, ⟨fun y hy => ?_, fun _ => List.nodup_cons.mpr ⟨fun z => hx (h x z), hn rfl⟩, by simp⟩, by simp [h1], by simp only [List.sum_cons]; omega⟩
      rcases List.mem_cons.mp hy with rfl | hy
      · simp
      · exact List.mem_append_left _ (h y hy)
theorem all_same : ∀ {l : List Int} {x : Int}, (∀ y ∈ l, y = x) → l = List.replicate l.length x
  | [], _, _ => rfl
  | a :: l, x, h => by
    rw [List.length_cons, List.replicate_succ, ← all_same fun y hy => h y (List.mem_cons_of_mem _ hy), h a List.mem_cons_self]
theorem sum_rep (m : Nat) (x : Int) : (List.replicate m x).sum = m * x := by
  induction m with
  | zero => simp
  | succ m ih => rw [List.replicate_succ, List.sum_cons, ih, Int.natCast_succ, Int.add_mul]; omega
theorem lot_lvl {ns : List Int} {unl : Bool} {m : Nat} {s : Int} : Lot ns true unl (m + 1) s ↔ ∃ x ∈ ns, (m = 0 ∨ unl = false) ∧ s = ((m : Int) + 1) * x := by
  constructor
  · rintro ⟨l, ⟨h, hn, he⟩, h1, h2⟩
    cases l with
    | nil => simp at h1
    | cons x l =>
      have e : l = List.replicate l.length x := all_same fun y hy => he rfl y (List.mem_cons_of_mem _ hy) x List.mem_cons_self
      have hl : l.length = m := by simpa using h1
      rw [hl] at e
      refine ⟨x, h x List.mem_cons_self, ?_, ?_⟩
      · cases unl with
        | false => exact .inr rfl
        | true =>
          left
          have := (List.nodup_cons.mp (hn rfl)).1
          cases m with
          | zero => rfl
          | succ m => rw [e, List.replicate_succ] at this; simp at this
      · rw [← h2, List.sum_cons, e, sum_rep, Int.add_mul]
        omega
  · rintro ⟨x, hx, hm, rfl⟩
    refine ⟨List.replicate (m + 1) x, ⟨fun y hy => by rw [List.eq_of_mem_replicate hy]; exact hx, fun hu => ?_, fun _ y hy z hz => by rw [List.eq_of_mem_replicate hy, List.eq_of_mem_replicate hz]⟩, by simp, by rw [sum_rep]; simp⟩
    rcases hm with rfl | hm
    · simp
    · rw [hu] at hm; cases hm
theorem sum_bound {l : List Int} (h : ∀ x ∈ l, -20 ≤ x ∧ x ≤ 20) : -(20 * (l.length : Int)) ≤ l.sum ∧ l.sum ≤ 20 * (l.length : Int) := by
  induction l with
  | nil => simp
  | cons a l ih =>
    have h1 := ih fun x hx => h x (List.mem_cons_of_mem _ hx)
    have h2 := h a List.mem_cons_self
    simp only [List.length_cons, List.sum_cons]
    omega
theorem lot_bound {ns : List Int} {lvl unl : Bool} {m : Nat} {s : Int} (hn : ∀ x ∈ ns, -20 ≤ x ∧ x ≤ 20) (h : Lot ns lvl unl m s) : -(20 * (m : Int)) ≤ s ∧ s ≤ 20 * m := by
  obtain ⟨l, ⟨h1, _, _⟩, rfl, rfl⟩ := h
  exact sum_bound fun x hx => hn x (h1 x hx)
/-- a lot in which x stands -/
theorem lot_with {ns : List Int} {x : Int} {unl : Bool} {m : Nat} {s : Int} (hx : x ∈ ns) :
    (∃ l, IsLot ns false unl l ∧ l.length = m + 1 ∧ l.sum = s ∧ x ∈ l) ↔ Lot (if unl = true then ns.filter (fun y => !decide (y = x)) else ns) false unl m (s - x) := by
  constructor
  · rintro ⟨l, ⟨h, hn, _⟩, h1, h2, h3⟩
    refine ⟨l.erase x, ⟨fun y hy => ?_, fun hu => (hn hu).erase x, by simp⟩, by rw [List.length_erase_of_mem h3]; omega, by rw [sum_erase h3, h2]⟩
    cases unl with
    | false => rw [if_neg (by decide)]; exact h y (List.mem_of_mem_erase hy)
    | true =>
      have hy' := (List.Nodup.mem_erase_iff (hn rfl)).mp hy
      rw [if_pos rfl, List.mem_filter]
      exact ⟨h y hy'.2, by simpa using hy'.1⟩
  · rintro ⟨l, ⟨h, hn, _⟩, h1, h2⟩
    refine ⟨x :: l, ⟨fun y hy => ?_, fun hu => ?_, by simp⟩, by simp [h1], by simp only [List.sum_cons]; omega, List.mem_cons_self⟩
    · rcases List.mem_cons.mp hy with rfl | hy
      · exact hx
      · have := h y hy
        cases unl with
        | false => rw [if_neg (by decide)] at this; exact this
        | true => rw [if_pos rfl, List.mem_filter] at this; exact this.1
    · subst hu
      rw [if_pos rfl] at h
      refine List.nodup_cons.mpr ⟨fun z => ?_, hn rfl⟩
      have := h x z
      rw [List.mem_filter] at this
      simp at this
/-- a lot in which two stand, any -/
theorem lot_two {ns : List Int} {x y : Int} {m : Nat} {s : Int} (hx : x ∈ ns) (hy : y ∈ ns) :
    (∃ l, IsLot ns false false (x :: y :: l) ∧ l.length = m ∧ x + (y + l.sum) = s) ↔ Lot ns false false m (s - (x + y)) := by
  constructor
  · rintro ⟨l, ⟨h, _, _⟩, h1, h2⟩
    exact ⟨l, ⟨fun z hz => h z (by simp [hz]), by simp, by simp⟩, h1, by omega⟩
  · rintro ⟨l, ⟨h, _, _⟩, h1, h2⟩
    refine ⟨l, ⟨fun z hz => ?_, by simp, by simp⟩, h1, by omega⟩
    rcases List.mem_cons.mp hz with rfl | hz
    · exact hx
    rcases List.mem_cons.mp hz with rfl | hz
    · exact hy
    · exact h z hz

/-! ### rows of a kind and lots; the least kind of some rows -/
theorem pairs_pw {r : Int → Int → Bool} : ∀ {l : List Int}, pairsB r l = true ↔ l.Pairwise fun a b => r a b = true
  | [] => by simp [pairsB]
  | a :: l => by
    rw [pairsB, Bool.and_eq_true, pairs_pw, List.pairwise_cons, List.all_eq_true]
theorem pairs_ne {l : List Int} : pairsB neB l = true ↔ l.Nodup := by
  rw [pairs_pw]
  unfold neB List.Nodup
  simp
def span (lo hi : Int) : List Int := (List.range (hi + 1 - lo).toNat).map fun (i : Nat) => lo + (i : Int)
theorem mem_span {lo hi x : Int} : x ∈ span lo hi ↔ lo ≤ x ∧ x ≤ hi := by
  unfold span
  rw [List.mem_map]
  constructor
  · rintro ⟨i, hi, rfl⟩
    rw [List.mem_range] at hi
    omega
  · rintro ⟨h1, h2⟩
    exact ⟨(x - lo).toNat, by rw [List.mem_range]; omega, by omega⟩
theorem map_inj_nd {f : Nat → Int} (hf : ∀ a b, f a = f b → a = b) : ∀ {l : List Nat}, l.Nodup → (l.map f).Nodup
  | [], _ => List.nodup_nil
  | a :: l, h => by
    rw [List.nodup_cons] at h
    rw [List.map_cons, List.nodup_cons]
    refine ⟨fun z => ?_, map_inj_nd hf h.2⟩
    obtain ⟨b, hb, e⟩ := List.mem_map.mp z
    rw [← hf _ _ e] at h
    exact h.1 hb
theorem span_nd (lo hi : Int) : (span lo hi).Nodup := map_inj_nd (fun a b h => by omega) List.nodup_range
/-- the rows of a kind -/
def RowOf (lo hi fe ma : Int) (u d n : Bool) (fr to : Int) (r : List Int) : Prop :=
  (fe ≤ (r.length : Int) ∧ (r.length : Int) ≤ ma) ∧ (fr ≤ r.sum ∧ r.sum ≤ to) ∧ (∀ x ∈ r, lo ≤ x ∧ x ≤ hi) ∧ (n = true → r.Nodup) ∧ (u = true → pairsB leB r = true) ∧ (d = true → pairsB geB r = true)
theorem rowOf_has {lo hi fe ma : Int} {u d n : Bool} {fr to : Int} {r : List Int} : hasB lo hi fe ma u d n fr to r = true ↔ RowOf lo hi fe ma u d n fr to r := by
  unfold hasB RowOf
  simp only [Bool.and_eq_true, decide_eq_true_eq, List.all_eq_true, Bool.or_eq_true, Bool.not_eq_true']
  rw [pairs_ne]
  have e : ∀ (b : Bool) (p : Prop), (p ∨ b = false) ↔ (b = true → p) := by
    intro b p
    cases b <;> simp
  have e2 : ∀ (b : Bool) (p : Prop), (b = false ∨ p) ↔ (b = true → p) := by
    intro b p
    cases b <;> simp
  rw [e, e, e2]
  constructor
  · rintro ⟨⟨⟨h1, h2⟩, h3⟩, h4, h5, h6⟩
    exact ⟨h1, h2, h3, h4, h5, h6⟩
  · rintro ⟨h1, h2, h3, h4, h5, h6⟩
    exact ⟨⟨⟨h1, h2⟩, h3⟩, h4, h5, h6⟩
theorem leB_same {l : List Int} (h : ∀ x ∈ l, ∀ y ∈ l, x = y) : pairsB leB l = true := pairs_pw.mpr (List.pairwise_of_forall_mem_list fun x hx y hy => by unfold leB; rw [h x hx y hy]; simp)
theorem geB_same {l : List Int} (h : ∀ x ∈ l, ∀ y ∈ l, x = y) : pairsB geB l = true := pairs_pw.mpr (List.pairwise_of_forall_mem_list fun x hx y hy => by unfold geB; rw [h x hx y hy]; simp)
theorem same_of {l : List Int} (h1 : pairsB leB l = true) (h2 : pairsB geB l = true) : ∀ x ∈ l, ∀ y ∈ l, x = y := by
  rw [pairs_pw] at h1 h2
  have h3 : l.Pairwise fun a b => a = b := (h1.and h2).imp fun {a b} z => by
    have a1 := of_decide_eq_true z.1
    have a2 := of_decide_eq_true z.2
    omega
  intro x hx y hy
  induction l with
  | nil => cases hx
  | cons a l ih =>
    rw [List.pairwise_cons] at h3
    rw [List.pairwise_cons] at h1 h2
    rcases List.mem_cons.mp hx with e1 | e1 <;> rcases List.mem_cons.mp hy with e2 | e2
    · rw [e1, e2]
    · rw [e1]; exact h3.1 y e2
    · rw [e2]; exact (h3.1 x e1).symm
    · exact ih h1.2 h2.2 h3.2 e1 e2
/-- the rising and the falling row of a lot -/
def up (l : List Int) : List Int := l.mergeSort leB
theorem up_perm (l : List Int) : (up l).Perm l := List.mergeSort_perm l leB
theorem up_le (l : List Int) : pairsB leB (up l) = true := by
  rw [pairs_pw]
  refine List.pairwise_mergeSort (le := leB) (fun a b c h1 h2 => ?_) (fun a b => ?_) l
  · have h1 := of_decide_eq_true h1
    have h2 := of_decide_eq_true h2
    exact decide_eq_true (by omega)
  · unfold leB
    simp only [Bool.or_eq_true, decide_eq_true_eq]
    omega
theorem dn_ge (l : List Int) : pairsB geB (up l).reverse = true := by
  rw [pairs_pw, List.pairwise_reverse]
  exact (pairs_pw.mp (up_le l)).imp fun {a b} z => by
    unfold geB leB at *
    exact z
theorem dn_perm (l : List Int) : ((up l).reverse).Perm l := (List.reverse_perm _).trans (up_perm l)
section
variable {lo hi fe ma : Int} {u d n : Bool} {fr to : Int}
theorem RowOf.lot {r : List Int} (h : RowOf lo hi fe ma u d n fr to r) : IsLot (span lo hi) (u && d) n r := by
  obtain ⟨h1, h2, h3, h4, h5, h6⟩ := h
  refine ⟨fun x hx => mem_span.mpr (h3 x hx), h4, fun e => ?_⟩
  rw [Bool.and_eq_true] at e
  exact same_of (h5 e.1) (h6 e.2)
/-- any order of a lot that the words let -/
theorem rowOf_perm {l r : List Int} (hl : IsLot (span lo hi) (u && d) n l) (hp : r.Perm l) (h1 : fe ≤ (l.length : Int) ∧ (l.length : Int) ≤ ma) (h2 : fr ≤ l.sum ∧ l.sum ≤ to)
    (hu : u = true → d = false → pairsB leB r = true) (hd : d = true → u = false → pairsB geB r = true) : RowOf lo hi fe ma u d n fr to r := by
  have hs : (u && d) = true → ∀ x ∈ r, ∀ y ∈ r, x = y := fun e x hx y hy => hl.2.2 e x (hp.mem_iff.mp hx) y (hp.mem_iff.mp hy)
  refine ⟨by rw [hp.length_eq]; exact h1, by rw [sum_perm hp]; exact h2, fun x hx => mem_span.mp (hl.1 x (hp.mem_iff.mp hx)), fun hn => hp.nodup_iff.mpr (hl.2.1 hn), fun e => ?_, fun e => ?_⟩
  · cases ed : d with
    | true => exact leB_same (hs (by rw [e, ed]; rfl))
    | false => exact hu e ed
  · cases eu : u with
    | true => exact geB_same (hs (by rw [e, eu]; rfl))
    | false => exact hd e eu
/-- a lot laid in a row -/
theorem lay {l : List Int} (hl : IsLot (span lo hi) (u && d) n l) (h1 : fe ≤ (l.length : Int) ∧ (l.length : Int) ≤ ma) (h2 : fr ≤ l.sum ∧ l.sum ≤ to) : ∃ r, r.Perm l ∧ RowOf lo hi fe ma u d n fr to r := by
  cases hu : u with
  | true =>
    refine ⟨up l, up_perm l, ?_⟩
    rw [← hu]
    exact rowOf_perm hl (up_perm l) h1 h2 (fun _ _ => up_le l) (fun _ e => by rw [hu] at e; cases e)
  | false =>
    refine ⟨(up l).reverse, dn_perm l, ?_⟩
    rw [← hu]
    exact rowOf_perm hl (dn_perm l) h1 h2 (fun e => by rw [hu] at e; cases e) (fun _ _ => dn_ge l)
/-- so many numbers, such a sum, and what an order doesn't change -/
theorem row_lot {P : List Int → Prop} (hP : ∀ l k : List Int, l.Perm k → P l → P k) {m : Nat} {s : Int} :
    (∃ r, RowOf lo hi fe ma u d n fr to r ∧ r.length = m ∧ r.sum = s ∧ P r) ↔ (fe ≤ (m : Int) ∧ (m : Int) ≤ ma) ∧ (fr ≤ s ∧ s ≤ to) ∧ ∃ l, IsLot (span lo hi) (u && d) n l ∧ l.length = m ∧ l.sum = s ∧ P l := by
  constructor
  · rintro ⟨r, h, rfl, rfl, hp⟩
    exact ⟨h.1, h.2.1, r, h.lot, rfl, rfl, hp⟩
  · rintro ⟨h1, h2, l, hl, rfl, rfl, hp⟩
    obtain ⟨r, hr, h⟩ := lay hl h1 h2
    exact ⟨r, h, hr.length_eq, sum_perm hr, hP _ _ hr.symm hp⟩
theorem row_cnt {m : Nat} {s : Int} : (∃ r, RowOf lo hi fe ma u d n fr to r ∧ r.length = m ∧ r.sum = s) ↔ (fe ≤ (m : Int) ∧ (m : Int) ≤ ma) ∧ (fr ≤ s ∧ s ≤ to) ∧ Lot (span lo hi) (u && d) n m s := by
  have := row_lot (P := fun _ => True) (fun _ _ _ h => h) (lo := lo) (hi := hi) (fe := fe) (ma := ma) (u := u) (d := d) (n := n) (fr := fr) (to := to) (m := m) (s := s)
  simp only [and_true] at this
  exact this
end
/-- two numbers, alike or unlike -/
def Two (alike : Bool) (r : List Int) : Prop := if alike = true then ¬ r.Nodup else ∃ x ∈ r, ∃ y ∈ r, x ≠ y
theorem two_perm (a : Bool) : ∀ l k : List Int, l.Perm k → Two a l → Two a k := by
  intro l k hp h
  unfold Two at *
  cases a with
  | true =>
    rw [if_pos rfl] at *
    rwa [← hp.nodup_iff]
  | false =>
    rw [if_neg (by decide)] at *
    obtain ⟨x, hx, y, hy, e⟩ := h
    exact ⟨x, hp.mem_iff.mp hx, y, hp.mem_iff.mp hy, e⟩
/-! the least kind -/
structure IsLeast (R : List Int → Prop) (lo hi fe ma : Int) (u d n : Bool) (fr to : Int) : Prop where
  lo : ((∀ r, R r → r = []) ∧ lo = 0) ∨ (∃ r, R r ∧ lo ∈ r) ∧ ∀ r, R r → ∀ x ∈ r, lo ≤ x
  hi : ((∀ r, R r → r = []) ∧ hi = 0) ∨ (∃ r, R r ∧ hi ∈ r) ∧ ∀ r, R r → ∀ x ∈ r, x ≤ hi
  fe : (∃ r, R r ∧ (r.length : Int) = fe) ∧ ∀ r, R r → fe ≤ (r.length : Int)
  ma : (∃ r, R r ∧ (r.length : Int) = ma) ∧ ∀ r, R r → (r.length : Int) ≤ ma
  u : u = true ↔ ∀ r, R r → pairsB leB r = true
  d : d = true ↔ ∀ r, R r → pairsB geB r = true
  n : n = true ↔ ∀ r, R r → r.Nodup
  fr : (∃ r, R r ∧ r.sum = fr) ∧ ∀ r, R r → fr ≤ r.sum
  to : (∃ r, R r ∧ r.sum = to) ∧ ∀ r, R r → r.sum ≤ to
def nothingD : D := kD 20 (-20) 8 0 true true true 160 (-160)
def LeastD (R : List Int → Prop) (k : D) : Prop := ((∀ r, ¬ R r) ∧ k = nothingD) ∨ ∃ lo hi fe ma u d n fr to, IsLeast R lo hi fe ma u d n fr to ∧ k = kD lo hi fe ma u d n fr to
theorem end_eq {R : List Int → Prop} {f : Int → Int → Prop} (hf : ∀ a b, f a b → f b a → a = b) {a b : Int}
    (ha : ((∀ r, R r → r = []) ∧ a = 0) ∨ (∃ r, R r ∧ a ∈ r) ∧ ∀ r, R r → ∀ x ∈ r, f a x) (hb : ((∀ r, R r → r = []) ∧ b = 0) ∨ (∃ r, R r ∧ b ∈ r) ∧ ∀ r, R r → ∀ x ∈ r, f b x) : a = b := by
  have no : ∀ {c : Int}, (∀ r, R r → r = []) → (∃ r, R r ∧ c ∈ r) → False := fun h ⟨r, h1, h2⟩ => by
    rw [h r h1] at h2
    cases h2
  rcases ha with ⟨h1, rfl⟩ | ⟨⟨r, h1, h2⟩, h3⟩ <;> rcases hb with ⟨g1, rfl⟩ | ⟨⟨q, g1, g2⟩, g3⟩
  · rfl
  · exact (no h1 ⟨q, g1, g2⟩).elim
  · exact (no g1 ⟨r, h1, h2⟩).elim
  · exact hf _ _ (h3 q g1 _ g2) (g3 r h1 _ h2)
theorem LeastD.eq {R : List Int → Prop} {k k' : D} (h : LeastD R k) (h' : LeastD R k') : k = k' := by
  rcases h with ⟨h1, rfl⟩ | ⟨lo, hi, fe, ma, u, d, n, fr, to, h, rfl⟩ <;> rcases h' with ⟨g1, rfl⟩ | ⟨lo', hi', fe', ma', u', d', n', fr', to', g, rfl⟩
  · rfl
  · obtain ⟨r, hr, _⟩ := g.fe.1
    exact (h1 r hr).elim
  · obtain ⟨r, hr, _⟩ := h.fe.1
    exact (g1 r hr).elim
  · have le : ∀ a b : Int, a ≤ b → b ≤ a → a = b := fun a b h1 h2 => by omega
    have e1 := end_eq (f := fun a b => a ≤ b) le h.lo g.lo
    have e2 := end_eq (f := fun a b => b ≤ a) (fun a b h1 h2 => by omega) h.hi g.hi
    have be : ∀ {P : Prop} {a b : Bool}, (a = true ↔ P) → (b = true ↔ P) → a = b := fun h1 h2 => Bool.eq_iff_iff.mpr (h1.trans h2.symm)
    have e3 := be h.u g.u
    have e4 := be h.d g.d
    have e5 := be h.n g.n
    have e6 : fe = fe' := by
      obtain ⟨⟨r, h1, rfl⟩, h2⟩ := h.fe
      obtain ⟨⟨q, g1, rfl⟩, g2⟩ := g.fe
      have := h2 q g1
      have := g2 r h1
      omega
    have e7 : ma = ma' := by
      obtain ⟨⟨r, h1, rfl⟩, h2⟩ := h.ma
      obtain ⟨⟨q, g1, rfl⟩, g2⟩ := g.ma
      have := h2 q g1
      have := g2 r h1
      omega
    have e8 : fr = fr' := by
      obtain ⟨⟨r, h1, rfl⟩, h2⟩ := h.fr
      obtain ⟨⟨q, g1, rfl⟩, g2⟩ := g.fr
      have := h2 q g1
      have := g2 r h1
      omega
    have e9 : to = to' := by
      obtain ⟨⟨r, h1, rfl⟩, h2⟩ := h.to
      obtain ⟨⟨q, g1, rfl⟩, g2⟩ := g.to
      have := h2 q g1
      have := g2 r h1
      omega
    subst e1 e2 e3 e4 e5 e6 e7 e8 e9
    rfl
theorem LeastD.congr {R R' : List Int → Prop} (e : ∀ r, R r ↔ R' r) {k : D} (h : LeastD R k) : LeastD R' k := by
  have : R = R' := funext fun r => propext (e r)
  rw [← this]
  exact h

/-! ### the narrow form -/
theorem nodup_two : ∀ {l : List Int}, ¬ l.Nodup → ∃ x l', l.Perm (x :: x :: l')
  | [], h => (h List.nodup_nil).elim
  | a :: l, h => by
    by_cases ha : a ∈ l
    · exact ⟨a, l.erase a, .cons a (List.perm_cons_erase ha)⟩
    · have : ¬ l.Nodup := fun z => h (List.nodup_cons.mpr ⟨ha, z⟩)
      obtain ⟨x, l', hp⟩ := nodup_two this
      exact ⟨x, a :: l', ((hp.cons a).trans (.swap x a _)).trans ((List.Perm.swap x a l').cons x)⟩
theorem unlike_two {l : List Int} {x y : Int} (hx : x ∈ l) (hy : y ∈ l) (e : x ≠ y) : ∃ l', l.Perm (x :: y :: l') := by
  have h1 := List.perm_cons_erase hx
  have h2 : y ∈ l.erase x := (List.mem_erase_of_ne (Ne.symm e)).mpr hy
  exact ⟨(l.erase x).erase y, h1.trans ((List.perm_cons_erase h2).cons x)⟩
section
variable {lo hi fe ma : Int} {u d n : Bool} {fr to : Int}

theorem up_part {pF : Bool} (hp : pF = true ↔ ∃ r, (RowOf lo hi fe ma u d n fr to) r ∧ Two false r) : (u || !pF) = true ↔ ∀ r, (RowOf lo hi fe ma u d n fr to) r → pairsB leB r = true := by
  rw [Bool.or_eq_true, Bool.not_eq_true']
  constructor
  · rintro (h | h) r hr
    · exact hr.2.2.2.2.1 h
    · refine leB_same fun x hx y hy => Classical.byContradiction fun e => ?_
      rw [hp.mpr ⟨r, hr, by unfold Two; rw [if_neg (by decide)]; exact ⟨x, hx, y, hy, e⟩⟩] at h
      cases h
  · intro h
    cases hu : u with
    | true => exact .inl rfl
    | false =>
      right
      cases hF : pF with
      | false => rfl
      | true =>
        exfalso
        obtain ⟨r, hr, ht⟩ := hp.mp hF
        unfold Two at ht
        rw [if_neg (by decide)] at ht
        obtain ⟨x, hx, y, hy, e⟩ := ht
        have h2 := rowOf_perm hr.lot (dn_perm r) hr.1 hr.2.1 (fun z => by rw [hu] at z; cases z) (fun _ _ => dn_ge r)
        exact e (same_of (h _ h2) (dn_ge r) x ((dn_perm r).mem_iff.mpr hx) y ((dn_perm r).mem_iff.mpr hy))
theorem dn_part {pF : Bool} (hp : pF = true ↔ ∃ r, (RowOf lo hi fe ma u d n fr to) r ∧ Two false r) : (d || !pF) = true ↔ ∀ r, (RowOf lo hi fe ma u d n fr to) r → pairsB geB r = true := by
  rw [Bool.or_eq_true, Bool.not_eq_true']
  constructor
  · rintro (h | h) r hr
    · exact hr.2.2.2.2.2 h
    · refine geB_same fun x hx y hy => Classical.byContradiction fun e => ?_
      rw [hp.mpr ⟨r, hr, by unfold Two; rw [if_neg (by decide)]; exact ⟨x, hx, y, hy, e⟩⟩] at h
      cases h
  · intro h
    cases hd : d with
    | true => exact .inl rfl
    | false =>
      right
      cases hF : pF with
      | false => rfl
      | true =>
        exfalso
        obtain ⟨r, hr, ht⟩ := hp.mp hF
        unfold Two at ht
        rw [if_neg (by decide)] at ht
        obtain ⟨x, hx, y, hy, e⟩ := ht
        have h2 := rowOf_perm hr.lot (up_perm r) hr.1 hr.2.1 (fun _ _ => up_le r) (fun z => by rw [hd] at z; cases z)
        exact e (same_of (up_le r) (h _ h2) x ((up_perm r).mem_iff.mpr hx) y ((up_perm r).mem_iff.mpr hy))
theorem un_part {pT : Bool} (hp : pT = true ↔ ∃ r, (RowOf lo hi fe ma u d n fr to) r ∧ Two true r) : (n || !pT) = true ↔ ∀ r, (RowOf lo hi fe ma u d n fr to) r → r.Nodup := by
  rw [Bool.or_eq_true, Bool.not_eq_true']
  constructor
  · rintro (h | h) r hr
    · exact hr.2.2.2.1 h
    · refine Classical.byContradiction fun e => ?_
      rw [hp.mpr ⟨r, hr, by unfold Two; rw [if_pos rfl]; exact e⟩] at h
      cases h
  · intro h
    right
    cases hT : pT with
    | false => rfl
    | true =>
      exfalso
      obtain ⟨r, hr, ht⟩ := hp.mp hT
      unfold Two at ht
      rw [if_pos rfl] at ht
      exact ht (h r hr)
/-- what a pair is looked for by: the words and the greatest count -/
theorem pair_words {a : Bool} {m : Int} (hw : (u && d || n) = true) (h1 : ∃ r, (RowOf lo hi fe ma u d n fr to) r ∧ (r.length : Int) = m) (h2 : ∀ r, (RowOf lo hi fe ma u d n fr to) r → (r.length : Int) ≤ m) :
    ((a != n) && ((u && d) == a) && decide (1 < m)) = true ↔ ∃ r, (RowOf lo hi fe ma u d n fr to) r ∧ Two a r := by
  have two : ∀ r : List Int, 1 < (r.length : Int) → ∃ x y l, r = x :: y :: l := fun r h => by
    match r, h with
    | x :: y :: l, _ => exact ⟨x, y, l, rfl⟩
    | [x], h => simp at h
    | [], h => simp at h
  constructor
  · intro h
    rw [Bool.and_eq_true, Bool.and_eq_true, decide_eq_true_eq] at h
    obtain ⟨⟨e1, e2⟩, e3⟩ := h
    obtain ⟨r, hr, rfl⟩ := h1
    refine ⟨r, hr, ?_⟩
    obtain ⟨x, y, l, rfl⟩ := two r e3
    unfold Two
    cases a with
    | true =>
      rw [if_pos rfl]
      intro z
      have ha := hr.lot.2.2 (eq_of_beq e2) x (by simp) y (by simp)
      subst ha
      simp at z
    | false =>
      rw [if_neg (by decide)]
      cases hn : n with
      | false => rw [hn] at e1; cases e1
      | true =>
        have := hr.2.2.2.1 hn
        rw [List.nodup_cons] at this
        exact ⟨x, by simp, y, by simp, fun e => this.1 (by rw [e]; simp)⟩
  · rintro ⟨r, hr, ht⟩
    have hm := h2 r hr
    have h3 : 1 < m := by
      match r, hr, ht, hm with
      | [], _, ht, _ =>
        unfold Two at ht
        cases a with
        | true => rw [if_pos rfl] at ht; exact (ht List.nodup_nil).elim
        | false => rw [if_neg (by decide)] at ht; obtain ⟨x, hx, _⟩ := ht; cases hx
      | [x], _, ht, _ =>
        unfold Two at ht
        cases a with
        | true => rw [if_pos rfl] at ht; exact (ht (by simp)).elim
        | false =>
          rw [if_neg (by decide)] at ht
          obtain ⟨y, hy, z, hz, e⟩ := ht
          rw [List.mem_singleton] at hy hz
          exact (e (hy.trans hz.symm)).elim
      | x :: y :: l, _, _, hm =>
        simp only [List.length_cons] at hm
        omega
    rw [Bool.and_eq_true, Bool.and_eq_true, decide_eq_true_eq]
    refine ⟨?_, h3⟩
    unfold Two at ht
    cases a with
    | true =>
      rw [if_pos rfl] at ht
      have hn : n = false := by
        cases hn : n with
        | false => rfl
        | true => exact (ht (hr.2.2.2.1 hn)).elim
      rw [hn, Bool.or_false] at hw
      rw [hn, hw]
      exact ⟨rfl, rfl⟩
    | false =>
      rw [if_neg (by decide)] at ht
      have hd : (u && d) = false := by
        cases hd : (u && d) with
        | false => rfl
        | true =>
          obtain ⟨y, hy, z, hz, e⟩ := ht
          exact (e (hr.lot.2.2 hd y hy z hz)).elim
      rw [hd, Bool.false_or] at hw
      rw [hd, hw]
      exact ⟨rfl, rfl⟩
/-- .. else by two numbers and the rest -/
theorem pair_rest {a : Bool} (hw : (u && d || n) = false) :
    (∃ r, (RowOf lo hi fe ma u d n fr to) r ∧ Two a r) ↔ ∃ x y : Int, x ∈ span lo hi ∧ y ∈ span lo hi ∧ (if a = true then x = y else x < y) ∧ ∃ (m : Nat) (s : Int), (fe ≤ (m : Int) + 2 ∧ (m : Int) + 2 ≤ ma) ∧ (fr ≤ s ∧ s ≤ to) ∧ Lot (span lo hi) false false m (s - (x + y)) := by
  rw [Bool.or_eq_false_iff] at hw
  constructor
  · rintro ⟨r, hr, ht⟩
    obtain ⟨x, y, l, hp, hxy⟩ : ∃ x y l, r.Perm (x :: y :: l) ∧ (if a = true then x = y else x < y) := by
      unfold Two at ht
      cases a with
      | true =>
        rw [if_pos rfl] at ht
        obtain ⟨x, l, hp⟩ := nodup_two ht
        exact ⟨x, x, l, hp, by simp⟩
      | false =>
        rw [if_neg (by decide)] at ht
        obtain ⟨x, hx, y, hy, e⟩ := ht
        by_cases hl : x < y
        · obtain ⟨l, hp⟩ := unlike_two hx hy e
          exact ⟨x, y, l, hp, by simp [hl]⟩
        · obtain ⟨l, hp⟩ := unlike_two hy hx (Ne.symm e)
          exact ⟨y, x, l, hp, by simp; omega⟩
    have hx := hr.lot.1 x (hp.mem_iff.mpr (by simp))
    have hy := hr.lot.1 y (hp.mem_iff.mpr (by simp))
    have hl : r.length = l.length + 2 := by rw [hp.length_eq]; rfl
    refine ⟨x, y, hx, hy, hxy, l.length, r.sum, by have := hr.1; omega, hr.2.1, (lot_two hx hy).mp ⟨l, ⟨fun z hz => hr.lot.1 z (hp.mem_iff.mpr hz), by simp, by simp⟩, rfl, by rw [sum_perm hp]; rfl⟩⟩
  · rintro ⟨x, y, hx, hy, hxy, m, s, hm, hs, hl⟩
    obtain ⟨l, h, h1, h2⟩ := (lot_two hx hy).mpr hl
    have hl : IsLot (span lo hi) (u && d) n (x :: y :: l) := by rw [hw.1, hw.2]; exact h
    obtain ⟨r, hp, hr⟩ := lay (fe := fe) (ma := ma) (fr := fr) (to := to) hl (by simp only [List.length_cons]; omega) (by simp only [List.sum_cons]; omega)
    refine ⟨r, hr, two_perm a _ _ hp.symm ?_⟩
    unfold Two
    cases a with
    | true =>
      rw [if_pos rfl] at hxy
      subst hxy
      rw [if_pos rfl]
      intro z
      simp at z
    | false =>
      rw [if_neg (by decide)] at hxy
      rw [if_neg (by decide)]
      exact ⟨x, by simp, y, by simp, by omega⟩
/-- a number stands in some row -/
theorem stand_lot {x : Int} {m : Nat} {s : Int} : (∃ r, (RowOf lo hi fe ma u d n fr to) r ∧ r.length = m ∧ r.sum = s ∧ x ∈ r) ↔ (fe ≤ (m : Int) ∧ (m : Int) ≤ ma) ∧ (fr ≤ s ∧ s ≤ to) ∧ ∃ l, IsLot (span lo hi) (u && d) n l ∧ l.length = m ∧ l.sum = s ∧ x ∈ l :=
  row_lot (P := fun l => x ∈ l) fun l k hp h => hp.mem_iff.mp h
theorem stand_lvl {x : Int} {m : Nat} {s : Int} {n : Bool} (hx : x ∈ span lo hi) : (∃ l, IsLot (span lo hi) true n l ∧ l.length = m + 1 ∧ l.sum = s ∧ x ∈ l) ↔ Lot [x] true n (m + 1) s := by
  constructor
  · rintro ⟨l, ⟨h, hn, he⟩, h1, h2, h3⟩
    exact ⟨l, ⟨fun y hy => List.mem_singleton.mpr (he rfl y hy x h3), hn, he⟩, h1, h2⟩
  · rintro ⟨l, ⟨h, hn, he⟩, h1, h2⟩
    have h' : ∀ y ∈ l, y = x := fun y hy => List.mem_singleton.mp (h y hy)
    refine ⟨l, ⟨fun y hy => by rw [h' y hy]; exact hx, hn, he⟩, h1, h2, ?_⟩
    cases l with
    | nil => simp at h1
    | cons a l => rw [h' a List.mem_cons_self]; exact List.mem_cons_self
/-- the narrow form from its parts -/
theorem least_parts {lo' hi' fe' ma' fr' to' : Int} {pF pT : Bool} (hpF : pF = true ↔ ∃ r, (RowOf lo hi fe ma u d n fr to) r ∧ Two false r) (hpT : pT = true ↔ ∃ r, (RowOf lo hi fe ma u d n fr to) r ∧ Two true r)
    (h1 : ((∀ r, (RowOf lo hi fe ma u d n fr to) r → r = []) ∧ lo' = 0) ∨ (∃ r, (RowOf lo hi fe ma u d n fr to) r ∧ lo' ∈ r) ∧ ∀ r, (RowOf lo hi fe ma u d n fr to) r → ∀ x ∈ r, lo' ≤ x) (h2 : ((∀ r, (RowOf lo hi fe ma u d n fr to) r → r = []) ∧ hi' = 0) ∨ (∃ r, (RowOf lo hi fe ma u d n fr to) r ∧ hi' ∈ r) ∧ ∀ r, (RowOf lo hi fe ma u d n fr to) r → ∀ x ∈ r, x ≤ hi')
    (h3 : (∃ r, (RowOf lo hi fe ma u d n fr to) r ∧ (r.length : Int) = fe') ∧ ∀ r, (RowOf lo hi fe ma u d n fr to) r → fe' ≤ (r.length : Int)) (h4 : (∃ r, (RowOf lo hi fe ma u d n fr to) r ∧ (r.length : Int) = ma') ∧ ∀ r, (RowOf lo hi fe ma u d n fr to) r → (r.length : Int) ≤ ma')
    (h5 : (∃ r, (RowOf lo hi fe ma u d n fr to) r ∧ r.sum = fr') ∧ ∀ r, (RowOf lo hi fe ma u d n fr to) r → fr' ≤ r.sum) (h6 : (∃ r, (RowOf lo hi fe ma u d n fr to) r ∧ r.sum = to') ∧ ∀ r, (RowOf lo hi fe ma u d n fr to) r → r.sum ≤ to') :
    LeastD (RowOf lo hi fe ma u d n fr to) (kD lo' hi' fe' ma' (u || !pF) (d || !pF) (n || !pT) fr' to') :=
  .inr ⟨_, _, _, _, _, _, _, _, _, ⟨h1, h2, h3, h4, up_part hpF, dn_part hpF, un_part hpT, h5, h6⟩, rfl⟩
end

/-! ### the least and the greatest sum that bits tell; what two have in common -/
theorem low_bit : ∀ (n b : Nat), b ≤ n → 0 < b → ∃ k, b.testBit k = true ∧ (∀ i, b.testBit i = true → k ≤ i) ∧ (b &&& (b - 1)) + 2 ^ k = b
  | 0, b, h1, h2 => by omega
  | n + 1, b, h1, h2 => by
    rcases Nat.mod_two_eq_zero_or_one b with e | e
    · obtain ⟨k, g1, g2, g3⟩ := low_bit n (b / 2) (by omega) (by omega)
      refine ⟨k + 1, by rw [Nat.testBit_succ]; exact g1, fun i hi => ?_, ?_⟩
      · cases i with
        | zero => rw [Nat.testBit_zero, e] at hi; simp at hi
        | succ i => rw [Nat.testBit_succ] at hi; exact Nat.succ_le_succ (g2 i hi)
      · have eb : b = 2 * (b / 2) := by omega
        have ec : b &&& (b - 1) = 2 * (b / 2 &&& (b / 2 - 1)) := by
          apply Nat.eq_of_testBit_eq
          intro i
          rw [Nat.testBit_and]
          cases i with
          | zero =>
            rw [Nat.testBit_zero, Nat.testBit_zero, Nat.testBit_zero, e]
            simp
          | succ i =>
            rw [Nat.testBit_succ, Nat.testBit_succ, Nat.testBit_succ, ← Nat.testBit_and, show (b - 1) / 2 = b / 2 - 1 by omega, Nat.mul_div_cancel_left _ (by decide : 0 < 2)]
        rw [ec, Nat.pow_succ]
        omega
    · refine ⟨0, by rw [Nat.testBit_zero, e]; rfl, fun i _ => Nat.zero_le i, ?_⟩
      have ec : b &&& (b - 1) = b - 1 := by
        apply Nat.eq_of_testBit_eq
        intro i
        rw [Nat.testBit_and]
        cases i with
        | zero =>
          rw [Nat.testBit_zero, Nat.testBit_zero, show (b - 1) % 2 = 0 by omega]
          simp
        | succ i =>
          rw [Nat.testBit_succ, Nat.testBit_succ, show (b - 1) / 2 = b / 2 by omega, Bool.and_self]
      rw [ec]
      show b - 1 + 1 = b
      omega
theorem bits_pow (k : Nat) : Builtin.Int.intBits (2 ^ k : Nat) = k + 1 := by
  unfold Builtin.Int.intBits
  have h : 0 < 2 ^ k := Nat.two_pow_pos k
  rw [if_neg (fun e => by have := eq_of_beq e; omega), Int.natAbs_natCast, Nat.log2_two_pow]
theorem least_has {b : Int} (hb : 0 < b) : ∃ s : Int, hasS b s ∧ (∀ t, hasS b t → s ≤ t) ∧ (Builtin.Int.intBits (Builtin.bitAnd b (0 - b)) : Int) - 1 - 160 = s := by
  obtain ⟨k, g1, g2, g3⟩ := low_bit b.toNat b.toNat (Nat.le_refl _) (by omega)
  have e : Builtin.bitAnd b (0 - b) = (2 ^ k : Nat) := by
    unfold Builtin.bitAnd
    rw [decide_eq_true (by omega), decide_eq_false (show ¬ 0 ≤ 0 - b by omega)]
    unfold Builtin.bitNot
    simp only
    rw [show (-(0 - b) - 1).toNat = b.toNat - 1 by omega]
    omega
  refine ⟨(k : Int) - 160, ⟨by omega, by omega, ?_⟩, fun t ht => ?_, ?_⟩
  · rw [show ((k : Int) - 160 + 160).toNat = k by omega]
    exact g1
  · have := g2 _ ht.2.2
    have := ht.2.1
    omega
  · rw [e, bits_pow]
    omega
theorem greatest_has {b : Int} (hb : 0 < b) : ∃ s : Int, hasS b s ∧ (∀ t, hasS b t → t ≤ s) ∧ (Builtin.Int.intBits b : Int) - 1 - 160 = s := by
  have hb' : b.toNat ≠ 0 := by omega
  have e : Builtin.Int.intBits b = b.toNat.log2 + 1 := by
    unfold Builtin.Int.intBits
    rw [if_neg (by simp; omega), show b.natAbs = b.toNat by omega]
  refine ⟨(b.toNat.log2 : Int) - 160, ⟨by omega, by omega, ?_⟩, fun t ht => ?_, by rw [e]; omega⟩
  · rw [show ((b.toNat.log2 : Int) - 160 + 160).toNat = b.toNat.log2 by omega]
    exact Nat.testBit_log2 hb'
  · have h1 := ht.2.2
    have h2 := ht.2.1
    have h3 := Nat.ge_two_pow_of_testBit h1
    have h4 : (t + 160).toNat ≤ b.toNat.log2 := (Nat.le_log2 hb').mpr h3
    omega
theorem and_nn {a b : Int} (ha : 0 ≤ a) (hb : 0 ≤ b) : Builtin.bitAnd a b = ((a.toNat &&& b.toNat : Nat) : Int) := by
  unfold Builtin.bitAnd
  rw [decide_eq_true ha, decide_eq_true hb]
theorem and_has {a b : Int} (ha : 0 ≤ a) (hb : 0 ≤ b) (s : Int) : hasS (Builtin.bitAnd a b) s ↔ hasS a s ∧ hasS b s := by
  rw [and_nn ha hb]
  unfold hasS
  rw [Int.toNat_natCast, Nat.testBit_and, Bool.and_eq_true]
  constructor
  · rintro ⟨_, h1, h2, h3⟩
    exact ⟨⟨ha, h1, h2⟩, hb, h1, h3⟩
  · rintro ⟨⟨_, h1, h2⟩, _, _, h3⟩
    exact ⟨by omega, h1, h2, h3⟩
theorem has_some {b : Int} (hb : 0 ≤ b) : b ≠ 0 ↔ ∃ s, hasS b s := by
  constructor
  · intro h
    obtain ⟨s, h1, _⟩ := greatest_has (b := b) (by omega)
    exact ⟨s, h1⟩
  · rintro ⟨s, _, _, h⟩ e
    rw [e] at h
    simp at h
theorem has_lt {b : Int} {n : Nat} (hb : 0 ≤ b) (h : ∀ s, hasS b s → s + 160 < n) : b < 2 ^ n := by
  by_cases e : b = 0
  · rw [e]
    exact Int.pow_pos (by decide)
  · obtain ⟨s, h1, h2, h3⟩ := greatest_has (b := b) (by omega)
    have h4 := h s h1
    have hb' : b.toNat ≠ 0 := by omega
    have h5 : b.toNat.log2 < n := by
      unfold Builtin.Int.intBits at h3
      rw [if_neg (by simp; omega), show b.natAbs = b.toNat by omega] at h3
      omega
    have h6 := (Nat.log2_lt hb').mp h5
    have : ((b.toNat : Nat) : Int) < ((2 ^ n : Nat) : Int) := Int.ofNat_lt.mpr h6
    rw [Int.toNat_of_nonneg hb] at this
    simpa using this

/-! ### sums of lots of numbers side by side -/
def spanN (lo : Int) (n : Nat) : List Int := (List.range n).map fun (i : Nat) => lo + (i : Int)
theorem span_N (lo hi : Int) : span lo hi = spanN lo (hi + 1 - lo).toNat := rfl
theorem mem_spanN {lo x : Int} {n : Nat} : x ∈ spanN lo n ↔ lo ≤ x ∧ x < lo + n := by
  unfold spanN
  rw [List.mem_map]
  constructor
  · rintro ⟨i, hi, rfl⟩
    rw [List.mem_range] at hi
    omega
  · rintro ⟨h1, h2⟩
    exact ⟨(x - lo).toNat, by rw [List.mem_range]; omega, by omega⟩
theorem spanN_succ (lo : Int) (n : Nat) : spanN lo (n + 1) = spanN lo n ++ [lo + n] := by
  unfold spanN
  rw [List.range_succ, List.map_append]
  rfl
def gapN : Nat → Nat
  | 0 => 0
  | m + 1 => gapN m + m
theorem two_gap : ∀ m : Nat, 2 * gapN m + m = m * m
  | 0 => rfl
  | m + 1 => by
    have := two_gap m
    have e : (m + 1) * (m + 1) = m * m + m + (m + 1) := by rw [Nat.add_mul, Nat.mul_add, Nat.one_mul, Nat.mul_one]
    rw [gapN, e]
    omega
theorem gap_int (m : Nat) : (m : Int) * ((m : Int) - 1) / 2 = (gapN m : Int) := by
  have h := two_gap m
  have e : (m : Int) * ((m : Int) - 1) = 2 * (gapN m : Int) := by
    rw [Int.mul_sub, Int.mul_one]
    have : ((m * m : Nat) : Int) = (m : Int) * m := by simp
    omega
  rw [e, Int.mul_ediv_cancel_left _ (by decide)]
theorem unl_span (lo : Int) : ∀ (n m : Nat) (s : Int), Lot (spanN lo n) false true m s ↔ m ≤ n ∧ (m : Int) * lo + gapN m ≤ s ∧ s ≤ (m : Int) * (lo + n - 1) - gapN m
  | 0, m, s => by
    cases m with
    | zero =>
      rw [lot_zero]
      simp [gapN]
      omega
    | succ m =>
      constructor
      · rintro ⟨l, ⟨h, _, _⟩, h1, h2⟩
        cases l with
        | nil => simp at h1
        | cons a l => have := h a List.mem_cons_self; simp [spanN] at this
      · rintro ⟨h, _⟩
        omega
  | n + 1, 0, s => by
    rw [lot_zero]
    simp [gapN]
    omega
  | n + 1, m + 1, s => by
    have hx : lo + (n : Int) ∉ spanN lo n := fun h => by have := mem_spanN.mp h; omega
    rw [spanN_succ, lot_unl hx, unl_span lo n (m + 1) s, unl_span lo n m (s - (lo + n))]
    have hg := two_gap m
    have e1 : ((m + 1 : Nat) : Int) * lo = (m : Int) * lo + lo := by rw [Int.natCast_succ, Int.add_mul, Int.one_mul]
    have e2 : ((m : Int)) * (lo + n - 1) = (m : Int) * lo + (m : Int) * n - m := by rw [Int.mul_sub, Int.mul_add, Int.mul_one]
    have e3 : ((m + 1 : Nat) : Int) * (lo + n - 1) = (m : Int) * lo + (m : Int) * n - m + (lo + n - 1) := by rw [Int.natCast_succ, Int.add_mul, Int.one_mul, e2]
    have e4 : ((m + 1 : Nat) : Int) * (lo + (n + 1 : Nat) - 1) = (m : Int) * lo + (m : Int) * n + (lo + n) := by
      rw [Int.natCast_succ, Int.natCast_succ, show lo + ((n : Int) + 1) - 1 = lo + n by omega, Int.add_mul, Int.one_mul, Int.mul_add]
    rw [e1, e2, e3, e4, gapN]
    have hN : m + 1 ≤ n → m * m + m ≤ m * n := fun h => by
      have := Nat.mul_le_mul_left m h
      rw [Nat.mul_add, Nat.mul_one] at this
      exact this
    have c1 : ((m * n : Nat) : Int) = (m : Int) * n := by simp
    generalize (m : Int) * lo = P at *
    generalize hNN : m * n = N at *
    rw [← c1]
    generalize hMM : m * m = M at *
    clear e1 e2 e3 e4 hx c1
    constructor
    · rintro (⟨h1, h2, h3⟩ | ⟨h1, h2, h3⟩)
      · have := hN h1
        omega
      · omega
    · rintro ⟨h1, h2, h3⟩
      by_cases h4 : P + gapN m + lo + n ≤ s
      · right
        omega
      · left
        have h5 : m + 1 ≤ n := by omega
        have := hN h5
        omega
theorem rep_span {lo hi : Int} (h : lo ≤ hi) : ∀ (m : Nat) (s : Int), Lot (span lo hi) false false m s ↔ (m : Int) * lo ≤ s ∧ s ≤ (m : Int) * hi
  | 0, s => by
    rw [lot_zero]
    simp
    omega
  | m + 1, s => by
    rw [lot_rep]
    have e1 : ((m + 1 : Nat) : Int) * lo = (m : Int) * lo + lo := by rw [Int.natCast_succ, Int.add_mul, Int.one_mul]
    have e2 : ((m + 1 : Nat) : Int) * hi = (m : Int) * hi + hi := by rw [Int.natCast_succ, Int.add_mul, Int.one_mul]
    rw [e1, e2]
    constructor
    · rintro ⟨x, hx, hl⟩
      rw [mem_span] at hx
      rw [rep_span h m] at hl
      omega
    · rintro ⟨h1, h2⟩
      by_cases h3 : s - lo ≤ (m : Int) * hi
      · refine ⟨lo, mem_span.mpr ⟨Int.le_refl _, h⟩, (rep_span h m _).mpr ⟨by omega, h3⟩⟩
      · have h4 : (m : Int) * lo ≤ (m : Int) * hi := Int.mul_le_mul_of_nonneg_left h (Int.natCast_nonneg _)
        refine ⟨s - (m : Int) * hi, mem_span.mpr ⟨by omega, by omega⟩, (rep_span h m _).mpr ⟨by omega, by omega⟩⟩
theorem sum_filter (p : Int → Bool) : ∀ l : List Int, l.sum = (l.filter p).sum + (l.filter fun x => !p x).sum ∧ l.length = (l.filter p).length + (l.filter fun x => !p x).length
  | [] => ⟨rfl, rfl⟩
  | a :: l => by
    obtain ⟨h1, h2⟩ := sum_filter p l
    cases hp : p a with
    | true =>
      rw [List.filter_cons_of_pos hp, List.filter_cons_of_neg (by simp [hp]), List.sum_cons, List.sum_cons, List.length_cons, List.length_cons]
      omega
    | false =>
      rw [List.filter_cons_of_neg (by simp [hp]), List.filter_cons_of_pos (by simp [hp]), List.sum_cons, List.sum_cons, List.length_cons, List.length_cons]
      omega
/-- unlike lots in which x stands: lots below x and lots above it -/
theorem unl_with {lo hi x : Int} (hx : lo ≤ x ∧ x ≤ hi) {m : Nat} {s : Int} :
    (∃ l, IsLot (span lo hi) false true l ∧ l.length = m + 1 ∧ l.sum = s ∧ x ∈ l) ↔ ∃ (b : Nat) (s1 s2 : Int), b ≤ m ∧ Lot (spanN lo (x - lo).toNat) false true b s1 ∧ Lot (spanN (x + 1) (hi - x).toNat) false true (m - b) s2 ∧ s = s1 + x + s2 := by
  rw [lot_with (mem_span.mpr hx), if_pos rfl]
  constructor
  · rintro ⟨l, ⟨h, hn, _⟩, h1, h2⟩
    obtain ⟨g1, g2⟩ := sum_filter (fun y => decide (y < x)) l
    have hm : ∀ y ∈ l, (lo ≤ y ∧ y ≤ hi) ∧ y ≠ x := fun y hy => by
      have := h y hy
      rw [List.mem_filter, mem_span] at this
      exact ⟨this.1, by simpa using this.2⟩
    refine ⟨(l.filter fun y => decide (y < x)).length, _, _, by omega, ⟨_, ⟨fun y hy => ?_, fun _ => (hn rfl).filter _, by simp⟩, rfl, rfl⟩, ⟨l.filter fun y => !decide (y < x), ⟨fun y hy => ?_, fun _ => (hn rfl).filter _, by simp⟩, by omega, rfl⟩, by omega⟩
    · rw [List.mem_filter] at hy
      have := hm y hy.1
      have h3 := of_decide_eq_true hy.2
      exact mem_spanN.mpr (by omega)
    · rw [List.mem_filter] at hy
      have := hm y hy.1
      have h3 : ¬ y < x := by simpa using hy.2
      exact mem_spanN.mpr (by omega)
  · rintro ⟨b, s1, s2, hb, ⟨l1, ⟨a1, a2, _⟩, a3, a4⟩, ⟨l2, ⟨b1, b2, _⟩, b3, b4⟩, rfl⟩
    refine ⟨l1 ++ l2, ⟨fun y hy => ?_, fun _ => List.nodup_append.mpr ⟨a2 rfl, b2 rfl, fun y hy z hz e => ?_⟩, by simp⟩, by rw [List.length_append]; omega, by rw [List.sum_append]; omega⟩
    · rw [List.mem_filter, mem_span]
      rcases List.mem_append.mp hy with hy | hy
      · have := mem_spanN.mp (a1 y hy)
        exact ⟨by omega, by simp; omega⟩
      · have := mem_spanN.mp (b1 y hy)
        exact ⟨by omega, by simp; omega⟩
    · have h1 := mem_spanN.mp (a1 y hy)
      have h2 := mem_spanN.mp (b1 z hz)
      omega
/-- two in a lot, and the rest -/
theorem two_lot {ns : List Int} {a : Bool} {m : Nat} {s : Int} : (∃ l, IsLot ns false false l ∧ l.length = m ∧ l.sum = s ∧ Two a l) ↔
    2 ≤ m ∧ ∃ x y, x ∈ ns ∧ y ∈ ns ∧ (if a = true then x = y else x < y) ∧ Lot ns false false (m - 2) (s - (x + y)) := by
  constructor
  · rintro ⟨r, hr, rfl, rfl, ht⟩
    obtain ⟨x, y, l, hp, hxy⟩ : ∃ x y l, r.Perm (x :: y :: l) ∧ (if a = true then x = y else x < y) := by
      unfold Two at ht
      cases a with
      | true =>
        rw [if_pos rfl] at ht
        obtain ⟨x, l, hp⟩ := nodup_two ht
        exact ⟨x, x, l, hp, by simp⟩
      | false =>
        rw [if_neg (by decide)] at ht
        obtain ⟨x, hx, y, hy, e⟩ := ht
        by_cases hl : x < y
        · obtain ⟨l, hp⟩ := unlike_two hx hy e
          exact ⟨x, y, l, hp, by simp [hl]⟩
        · obtain ⟨l, hp⟩ := unlike_two hy hx (Ne.symm e)
          exact ⟨y, x, l, hp, by simp; omega⟩
    have hx := hr.1 x (hp.mem_iff.mpr (by simp))
    have hy := hr.1 y (hp.mem_iff.mpr (by simp))
    have hl : r.length = l.length + 2 := by rw [hp.length_eq]; rfl
    refine ⟨by omega, x, y, hx, hy, hxy, ?_⟩
    rw [show r.length - 2 = l.length by omega]
    exact (lot_two hx hy).mp ⟨l, ⟨fun z hz => hr.1 z (hp.mem_iff.mpr hz), by simp, by simp⟩, rfl, by rw [sum_perm hp]; rfl⟩
  · rintro ⟨hm, x, y, hx, hy, hxy, hl⟩
    obtain ⟨l, h, h1, h2⟩ := (lot_two hx hy).mpr hl
    refine ⟨x :: y :: l, h, by simp only [List.length_cons]; omega, by simp only [List.sum_cons]; omega, ?_⟩
    unfold Two
    cases a with
    | true =>
      rw [if_pos rfl] at hxy
      subst hxy
      rw [if_pos rfl]
      intro z
      simp at z
    | false =>
      rw [if_neg (by decide)] at hxy
      rw [if_neg (by decide)]
      exact ⟨x, by simp, y, by simp, by omega⟩
theorem two_unlike {lo hi : Int} (h : lo ≤ hi) {k : Nat} {s : Int} : (∃ l, IsLot (span lo hi) false false l ∧ l.length = k + 2 ∧ l.sum = s ∧ Two false l) ↔ ((k + 2 : Nat) : Int) * lo + 1 ≤ s ∧ s ≤ ((k + 2 : Nat) : Int) * hi - 1 := by
  rw [two_lot]
  have e1 : ((k + 2 : Nat) : Int) * lo = (k : Int) * lo + 2 * lo := by rw [Int.natCast_add, Int.add_mul]; rfl
  have e2 : ((k + 2 : Nat) : Int) * hi = (k : Int) * hi + 2 * hi := by rw [Int.natCast_add, Int.add_mul]; rfl
  have h4 : (k : Int) * lo ≤ (k : Int) * hi := Int.mul_le_mul_of_nonneg_left h (Int.natCast_nonneg _)
  rw [e1, e2]
  constructor
  · rintro ⟨_, x, y, hx, hy, hxy, hl⟩
    rw [if_neg (by decide)] at hxy
    rw [mem_span] at hx hy
    rw [show k + 2 - 2 = k by omega, rep_span h] at hl
    omega
  · rintro ⟨h1, h2⟩
    obtain ⟨t, t1, t2, t3, t4⟩ : ∃ t, 2 * lo + 1 ≤ t ∧ t ≤ 2 * hi - 1 ∧ (k : Int) * lo ≤ s - t ∧ s - t ≤ (k : Int) * hi := by
      by_cases h3 : s - (k : Int) * hi ≤ 2 * lo + 1
      · by_cases h5 : lo = hi
        · subst h5; omega
        · exact ⟨2 * lo + 1, by omega, by omega, by omega, by omega⟩
      · exact ⟨s - (k : Int) * hi, by omega, by omega, by omega, by omega⟩
    refine ⟨by omega, ?_⟩
    by_cases h3 : t - hi ≤ lo
    · refine ⟨lo, t - lo, mem_span.mpr ⟨by omega, by omega⟩, mem_span.mpr ⟨by omega, by omega⟩, by rw [if_neg (by decide)]; omega, ?_⟩
      rw [show k + 2 - 2 = k by omega, rep_span h]
      omega
    · refine ⟨t - hi, hi, mem_span.mpr ⟨by omega, by omega⟩, mem_span.mpr ⟨by omega, by omega⟩, by rw [if_neg (by decide)]; omega, ?_⟩
      rw [show k + 2 - 2 = k by omega, rep_span h]
      omega
theorem two_alike2 {lo hi : Int} (h : lo ≤ hi) {s : Int} : (∃ l, IsLot (span lo hi) false false l ∧ l.length = 2 ∧ l.sum = s ∧ Two true l) ↔ ∃ x, lo ≤ x ∧ x ≤ hi ∧ s = 2 * x := by
  rw [two_lot]
  constructor
  · rintro ⟨_, x, y, hx, hy, hxy, hl⟩
    rw [if_pos rfl] at hxy
    subst hxy
    rw [mem_span] at hx
    rw [show 2 - 2 = 0 from rfl, lot_zero] at hl
    exact ⟨x, by omega, by omega, by omega⟩
  · rintro ⟨x, h1, h2, rfl⟩
    exact ⟨Nat.le_refl _, x, x, mem_span.mpr ⟨h1, h2⟩, mem_span.mpr ⟨h1, h2⟩, by rw [if_pos rfl], by rw [show 2 - 2 = 0 from rfl, lot_zero]; omega⟩
theorem two_alike {lo hi : Int} (h : lo ≤ hi) {k : Nat} {s : Int} : (∃ l, IsLot (span lo hi) false false l ∧ l.length = k + 3 ∧ l.sum = s ∧ Two true l) ↔ ((k + 3 : Nat) : Int) * lo ≤ s ∧ s ≤ ((k + 3 : Nat) : Int) * hi := by
  rw [two_lot]
  have e1 : ((k + 3 : Nat) : Int) * lo = (k + 1 : Nat) * lo + 2 * lo := by rw [show k + 3 = (k + 1) + 2 from rfl, Int.natCast_add, Int.add_mul]; rfl
  have e2 : ((k + 3 : Nat) : Int) * hi = (k + 1 : Nat) * hi + 2 * hi := by rw [show k + 3 = (k + 1) + 2 from rfl, Int.natCast_add, Int.add_mul]; rfl
  have h4 : ((k + 1 : Nat) : Int) * lo ≤ (k + 1 : Nat) * hi := Int.mul_le_mul_of_nonneg_left h (Int.natCast_nonneg _)
  have h5 : lo < hi → ((k + 1 : Nat) : Int) * lo < (k + 1 : Nat) * hi := fun h => Int.mul_lt_mul_of_pos_left h (by omega)
  rw [e1, e2]
  constructor
  · rintro ⟨_, x, y, hx, hy, hxy, hl⟩
    rw [if_pos rfl] at hxy
    subst hxy
    rw [mem_span] at hx
    rw [show k + 3 - 2 = k + 1 by omega, rep_span h] at hl
    omega
  · rintro ⟨h1, h2⟩
    obtain ⟨x, t1, t2, t3, t4⟩ : ∃ x, lo ≤ x ∧ x ≤ hi ∧ ((k + 1 : Nat) : Int) * lo ≤ s - 2 * x ∧ s - 2 * x ≤ (k + 1 : Nat) * hi := by
      by_cases h3 : s - (k + 1 : Nat) * hi ≤ 2 * lo
      · exact ⟨lo, by omega, by omega, by omega, by omega⟩
      · have h6 : lo < hi := by
          by_cases h7 : lo < hi
          · exact h7
          · have : lo = hi := by omega
            subst this
            omega
        have := h5 h6
        exact ⟨(s - (k + 1 : Nat) * hi + 1) / 2, by omega, by omega, by omega, by omega⟩
    refine ⟨by omega, x, x, mem_span.mpr ⟨t1, t2⟩, mem_span.mpr ⟨t1, t2⟩, by rw [if_pos rfl], ?_⟩
    rw [show k + 3 - 2 = k + 1 by omega, rep_span h]
    omega

/-! ### texts of kinds: unlike kinds have unlike texts -/
def codes (s : Str) : List Nat := s.cps.toList
theorem codes_app (a b : Str) : codes (a ++ b) = codes a ++ codes b := by
  show (a.cps ++ b.cps).toList = _
  rw [Array.toList_append]
  rfl
theorem codes_inj {a b : Str} (h : codes a = codes b) : a = b := by
  cases a
  cases b
  congr 1
  exact Array.toList_inj.mp h
theorem cut_comma : ∀ {l k m q : List Nat}, 44 ∉ l → 44 ∉ k → l ++ 44 :: m = k ++ 44 :: q → l = k ∧ m = q
  | [], [], m, q, _, _, h => ⟨rfl, by simpa using h⟩
  | [], b :: k, m, q, _, hk, h => by
    simp only [List.nil_append, List.cons_append, List.cons.injEq] at h
    exact (hk (by rw [← h.1]; exact List.mem_cons_self)).elim
  | a :: l, [], m, q, hl, _, h => by
    simp only [List.nil_append, List.cons_append, List.cons.injEq] at h
    exact (hl (by rw [h.1]; exact List.mem_cons_self)).elim
  | a :: l, b :: k, m, q, hl, hk, h => by
    simp only [List.cons_append, List.cons.injEq] at h
    obtain ⟨h1, h2⟩ := cut_comma (fun z => hl (List.mem_cons_of_mem _ z)) (fun z => hk (List.mem_cons_of_mem _ z)) h.2
    exact ⟨by rw [h.1, h1], h2⟩
theorem codes_comma : codes ", " = [44, 32] := by decide +kernel
theorem join_inj : ∀ {ts us : List Str}, ts.length = us.length → (∀ t ∈ ts, 44 ∉ codes t) → (∀ t ∈ us, 44 ∉ codes t) → codes (Str.join ", " ts) = codes (Str.join ", " us) → ts = us
  | [], [], _, _, _, _ => rfl
  | [a], [b], _, _, _, h => by rw [codes_inj (a := a) (b := b) h]
  | a :: a2 :: ts, b :: b2 :: us, hl, h1, h2, h => by
    have e1 : codes (Str.join ", " (a :: a2 :: ts)) = codes a ++ 44 :: (32 :: codes (Str.join ", " (a2 :: ts))) := by
      show codes (a ++ ", " ++ Str.join ", " (a2 :: ts)) = _
      rw [codes_app, codes_app, codes_comma]
      simp
    have e2 : codes (Str.join ", " (b :: b2 :: us)) = codes b ++ 44 :: (32 :: codes (Str.join ", " (b2 :: us))) := by
      show codes (b ++ ", " ++ Str.join ", " (b2 :: us)) = _
      rw [codes_app, codes_app, codes_comma]
      simp
    rw [e1, e2] at h
    obtain ⟨h3, h4⟩ := cut_comma (h1 a List.mem_cons_self) (h2 b List.mem_cons_self) h
    have h5 := join_inj (by simpa using hl) (fun t ht => h1 t (List.mem_cons_of_mem _ ht)) (fun t ht => h2 t (List.mem_cons_of_mem _ ht)) (List.cons.inj h4).2
    rw [codes_inj h3, h5]
def digits (l : List Nat) : Nat := l.foldl (fun a c => a * 10 + (c - 48)) 0
def numOf : List Nat → Int
  | 45 :: l => -(digits l : Int)
  | l => digits l
theorem int_text : ∀ k : Nat, k < 321 → numOf (codes (PyData.int ((k : Int) - 160)).shown) = (k : Int) - 160 ∧ 44 ∉ codes (PyData.int ((k : Int) - 160)).shown := by decide +kernel
theorem int_txt {i : Int} (h : -160 ≤ i ∧ i ≤ 160) : numOf (codes (PyData.int i).shown) = i ∧ 44 ∉ codes (PyData.int i).shown := by
  have := int_text (i + 160).toNat (by omega)
  rw [show (((i + 160).toNat : Nat) : Int) - 160 = i by omega] at this
  exact this
theorem bool_txt (b : Bool) : 44 ∉ codes (PyData.bool b).shown := by cases b <;> decide +kernel
theorem bool_inj {a b : Bool} (h : (PyData.bool a).shown = (PyData.bool b).shown) : a = b := by
  revert h
  cases a <;> cases b <;> decide +kernel
theorem int_inj {a b : Int} (ha : -160 ≤ a ∧ a ≤ 160) (hb : -160 ≤ b ∧ b ≤ 160) (h : (PyData.int a).shown = (PyData.int b).shown) : a = b := by
  rw [← (int_txt ha).1, ← (int_txt hb).1, h]
theorem sh_all : ∀ xs : List PyData, PyData.shownAll xs = xs.map PyData.shown
  | [] => by simp [PyData.shownAll]
  | x :: xs => by rw [PyData.shownAll, sh_all xs]; rfl
theorem tup_inj {xs ys : List PyData} (hl : xs.length = ys.length) (h2 : 2 ≤ xs.length) (hx : ∀ x ∈ xs, 44 ∉ codes x.shown) (hy : ∀ x ∈ ys, 44 ∉ codes x.shown) (h : (PyData.tuple xs).shown = (PyData.tuple ys).shown) : xs.map PyData.shown = ys.map PyData.shown := by
  simp only [PyData.shown, sh_all] at h
  have h := congrArg codes h
  unfold tupleText at h
  have c1 : ((xs.map PyData.shown).length == 1) = false := by rw [List.length_map]; exact beq_false_of_ne (by omega)
  have c2 : ((ys.map PyData.shown).length == 1) = false := by rw [List.length_map]; exact beq_false_of_ne (by omega)
  rw [c1, c2] at h
  simp only [codes_app] at h
  have h := List.append_cancel_right h
  have h := List.append_cancel_left h
  refine join_inj (by rw [List.length_map, List.length_map, hl]) (fun t ht => ?_) (fun t ht => ?_) h
  · obtain ⟨x, hx', rfl⟩ := List.mem_map.mp ht
    exact hx x hx'
  · obtain ⟨x, hx', rfl⟩ := List.mem_map.mp ht
    exact hy x hx'


/-- the number f holds just the sums that P lets -/
def BitsOf (f : Int) (P : Int → Prop) : Prop := 0 ≤ f ∧ ∀ s, hasS f s ↔ P s
theorem BitsOf.eq {f g : Int} {P : Int → Prop} (h : BitsOf f P) (h' : BitsOf g P) : f = g := has_ext h.1 h'.1 fun s => (h.2 s).trans (h'.2 s).symm
theorem bits_le {f : Int} (h0 : 0 ≤ f) {b : Int} (h : ∀ s, hasS f s → s ≤ b) (hb : 0 ≤ b) : (Builtin.Int.intBits f : Int) ≤ b + 161 := by
  by_cases e : f = 0
  · subst e
    show ((0 : Nat) : Int) ≤ _
    omega
  · obtain ⟨s, h1, h2, h3⟩ := greatest_has (b := f) (by omega)
    have := h s h1
    omega
def inR (ns : List Int) : Prop := ∀ x ∈ ns, -20 ≤ x ∧ x ≤ 20
def FF_window : FW T2 := fun rs τ Q => ∃ a b : Int, rs = [.d (.int a), .d (.int b)] ∧ ∀ f, BitsOf f (fun s => (-160 ≤ s ∧ s ≤ 160) ∧ a ≤ s ∧ s ≤ b) → Q (.d (.int f)) τ
def FF_moved : FW T2 := fun rs τ Q => ∃ b n : Int, rs = [.d (.int b), .d (.int n)] ∧ 0 ≤ b ∧ (∀ s, hasS b s → s ≤ 1000) ∧ (-1000 ≤ n ∧ n ≤ 1000) ∧ ∀ f, BitsOf f (fun s => -160 ≤ s ∧ hasS b (s - n)) → Q (.d (.int f)) τ
def SumsOk (ns : List Int) (lvl unl : Bool) (fs : List Int) : Prop := ∀ (m : Nat) (f : Int), fs[m]? = some f → BitsOf f (Lot ns lvl unl m)
def FF_level_sums : FW T2 := fun rs τ Q => ∃ (ns : List Int) (m : Nat) (unl : Bool), rs = [.d (tI ns), .d (.int m), .d (.bool unl)] ∧ inR ns ∧ ns.length ≤ 100 ∧ m ≤ 8 ∧ ∀ fs : List Int, fs.length = m + 1 → SumsOk ns true unl fs → Q (.ol (fs.map .int)) τ
def FF_all_sums : FW T2 := fun rs τ Q => ∃ (ns : List Int) (m : Nat) (lvl unl : Bool), rs = [.d (tI ns), .d (.int m), .d (.bool lvl), .d (.bool unl)] ∧ inR ns ∧ ns.Nodup ∧ ns.length ≤ 100 ∧ m ≤ 8 ∧ ∀ fs : List Int, fs.length = m + 1 → SumsOk ns lvl unl fs → Q (.ol (fs.map .int)) τ
def FF_sums_of : FW T2 := fun rs τ Q => ∃ (ns : List Int) (m : Nat) (lvl unl : Bool), rs = [.d (tI ns), .d (.int m), .d (.bool lvl), .d (.bool unl)] ∧ inR ns ∧ ns.Nodup ∧ ns.length ≤ 100 ∧ m ≤ 8 ∧ ∀ f, BitsOf f (Lot ns lvl unl m) → Q (.d (.int f)) τ
def outOf (ns : List Int) (x : Int) (unl : Bool) : List Int := if unl = true then ns.filter (fun y => !decide (y = x)) else ns
def FF_without : FW T2 := fun rs τ Q => ∃ (ns : List Int) (x : Int) (unl : Bool), rs = [.d (tI ns), .d (.int x), .d (.bool unl)] ∧ ns.length ≤ 100 ∧ Q (.d (tI (outOf ns x unl))) τ
def FF_may_stand : FW T2 := fun rs τ Q => ∃ (ns : List Int) (x : Int) (m : Nat) (lvl unl : Bool) (bits : Int), rs = [.d (tI ns), .d (.int x), .d (.int m), .d (.bool lvl), .d (.bool unl), .d (.int bits)] ∧ x ∈ ns ∧ inR ns ∧ ns.Nodup ∧ ns.length ≤ 100 ∧ m ≤ 8 ∧ 0 ≤ bits ∧
  ∀ b : Bool, (b = true ↔ ∃ s, hasS bits s ∧ ∃ l, IsLot ns lvl unl l ∧ l.length = m ∧ l.sum = s ∧ x ∈ l) → Q (.d (.bool b)) τ
def pD (ps : List (Int × Int)) : List D := ps.map fun p => .tuple [.int p.1, .int p.2]
def pairsU (ns : List Int) (j : Nat) : List (Int × Int) := (List.range j).flatMap fun i => match ns[i]? with
  | some n => (ns.drop (i + 1)).map fun y => (n, y)
  | none => []
def pairsL (ns : List Int) (a : Bool) : List (Int × Int) := if a = true then ns.map fun x => (x, x) else pairsU ns ns.length
def FF_pairs_by : FW T2 := fun rs τ Q => ∃ (ns : List Int) (a : Bool), rs = [.d (tI ns), .d (.bool a)] ∧ ns.Pairwise (· < ·) ∧ ns.length ≤ 100 ∧
  ∀ ps : List (Int × Int), ps = pairsL ns a → (∀ x y, (x, y) ∈ ps ↔ x ∈ ns ∧ y ∈ ns ∧ (if a = true then x = y else x < y)) → ps.length ≤ 10000 → Q (.ol (pD ps)) τ
def PairP (ns : List Int) (m : Nat) (bits : Int) (a : Bool) : Prop := ∃ s, hasS bits s ∧ 2 ≤ m ∧ ∃ x y, x ∈ ns ∧ y ∈ ns ∧ (if a = true then x = y else x < y) ∧ Lot ns false false (m - 2) (s - (x + y))
def PairAt (ns : List Int) (m : Nat) (bits : Int) (a : Bool) (x y : Int) : Prop := ∃ s, hasS bits s ∧ 2 ≤ m ∧ x ∈ ns ∧ y ∈ ns ∧ (if a = true then x = y else x < y) ∧ Lot ns false false (m - 2) (s - (x + y))
theorem PairAt.p {ns : List Int} {m : Nat} {bits : Int} {a : Bool} {x y : Int} (h : PairAt ns m bits a x y) : PairP ns m bits a := let ⟨s, h1, h2, h3⟩ := h; ⟨s, h1, h2, x, y, h3⟩
/-- this pair may stand in a lot -/
def PairOk (ns : List Int) (m : Nat) (P : Int → Prop) (p : Int × Int) : Prop := ∃ s, P s ∧ 2 ≤ m ∧ Lot ns false false (m - 2) (s - (p.1 + p.2))
/-- any statement as a truth -/
noncomputable def cdec (p : Prop) : Bool := @decide p (Classical.propDecidable p)
theorem cdec_iff {p : Prop} : cdec p = true ↔ p := @decide_eq_true_iff p (Classical.propDecidable p)
theorem cdec_t {p : Prop} (h : p) : cdec p = true := cdec_iff.mpr h
theorem cdec_f {p : Prop} (h : ¬ p) : cdec p = false := by
  cases e : cdec p with
  | false => rfl
  | true => exact (h (cdec_iff.mp e)).elim
noncomputable def pairF (ns : List Int) (m : Nat) (P : Int → Prop) (a : Bool) : Option (Int × Int) := (pairsL ns a).find? fun p => cdec (PairOk ns m P p)
def optP : Option (Int × Int) → D
  | none => .none
  | some p => .tuple [.int p.1, .int p.2]
theorem find_first {α : Type} {l : List α} {p : α → Bool} {j : Nat} {x : α} (h : l[j]? = some x) (hp : p x = true) (hn : ∀ y ∈ l.take j, p y = false) : l.find? p = some x := by
  obtain ⟨h1, h2⟩ := List.getElem?_eq_some_iff.mp h
  have e : l = l.take j ++ x :: l.drop (j + 1) := by rw [← h2, ← List.drop_eq_getElem_cons h1, List.take_append_drop]
  rw [e, List.find?_append, List.find?_eq_none.mpr (fun y hy => by rw [hn y hy]; decide), Option.none_or, List.find?_cons, hp]
def FF_pair_with : FW T2 := fun rs τ Q => ∃ (ns : List Int) (m : Nat) (bits : Int) (a : Bool), rs = [.d (tI ns), .d (.int m), .d (.int bits), .d (.bool a)] ∧ ns.Pairwise (· < ·) ∧ inR ns ∧ ns.length ≤ 100 ∧ m ≤ 8 ∧ 0 ≤ bits ∧
  ∀ o : Option (Int × Int), o = pairF ns m (hasS bits) a → ((o = none ∧ ¬ PairP ns m bits a) ∨ ∃ x y : Int, o = some (x, y) ∧ PairAt ns m bits a x y) → Q (.d (optP o)) τ
def FF_numbers_of : FW T2 := fun rs τ Q => ∃ (lo hi fe ma : Int) (u d n : Bool) (fr to : Int), rs = [.d (kD lo hi fe ma u d n fr to)] ∧ isKindD (kD lo hi fe ma u d n fr to) = true ∧ Q (.d (tI (span lo hi))) τ
def FF_is_level : FW T2 := fun rs τ Q => ∃ (lo hi fe ma : Int) (u d n : Bool) (fr to : Int), rs = [.d (kD lo hi fe ma u d n fr to)] ∧ Q (.d (.bool (u && d))) τ
def FF_least_sum : FW T2 := fun rs τ Q => ∃ b : Int, rs = [.d (.int b)] ∧ 0 < b ∧ ∀ s, hasS b s → (∀ t, hasS b t → s ≤ t) → Q (.d (.int s)) τ
def FF_greatest_sum : FW T2 := fun rs τ Q => ∃ b : Int, rs = [.d (.int b)] ∧ 0 < b ∧ ∀ s, hasS b s → (∀ t, hasS b t → t ≤ s) → Q (.d (.int s)) τ
/-- of how many numbers a kind has rows, with the sums -/
structure CntOk (lo hi fe ma : Int) (u d n : Bool) (fr to : Int) (cs : List (Nat × Int)) : Prop where
  ok : ∀ c ∈ cs, 0 < c.2 ∧ (fe ≤ (c.1 : Int) ∧ (c.1 : Int) ≤ ma) ∧ ∀ s, hasS c.2 s ↔ (fr ≤ s ∧ s ≤ to) ∧ Lot (span lo hi) (u && d) n c.1 s
  all : ∀ (m : Nat) (s : Int), fe ≤ (m : Int) → (m : Int) ≤ ma → fr ≤ s → s ≤ to → Lot (span lo hi) (u && d) n m s → ∃ b, (m, b) ∈ cs
  inc : cs.Pairwise (fun a b => a.1 < b.1)
def cD (cs : List (Nat × Int)) : List D := cs.map fun c => .tuple [.int (c.1 : Nat), .int c.2]
def FF_counts_of : FW T2 := fun rs τ Q => ∃ (lo hi fe ma : Int) (u d n : Bool) (fr to : Int), rs = [.d (kD lo hi fe ma u d n fr to)] ∧ isKindD (kD lo hi fe ma u d n fr to) = true ∧
  ∀ cs : List (Nat × Int), CntOk lo hi fe ma u d n fr to cs → cs.length ≤ 9 → Q (.ol (cD cs)) τ
def FF_stands : FW T2 := fun rs τ Q => ∃ (lo hi fe ma : Int) (u d n : Bool) (fr to : Int) (cs : List (Nat × Int)) (x : Int), rs = [.d (kD lo hi fe ma u d n fr to), .d (.list (cD cs)), .d (.int x)] ∧ isKindD (kD lo hi fe ma u d n fr to) = true ∧
  CntOk lo hi fe ma u d n fr to cs ∧ cs.length ≤ 9 ∧ x ∈ span lo hi ∧ ∀ b : Bool, (b = true ↔ ∃ r, RowOf lo hi fe ma u d n fr to r ∧ x ∈ r) → Q (.d (.bool b)) τ
def EndLo (R : List Int → Prop) (lo : Int) : Prop := ((∀ r, R r → r = []) ∧ lo = 0) ∨ (∃ r, R r ∧ lo ∈ r) ∧ ∀ r, R r → ∀ x ∈ r, lo ≤ x
def EndHi (R : List Int → Prop) (hi : Int) : Prop := ((∀ r, R r → r = []) ∧ hi = 0) ∨ (∃ r, R r ∧ hi ∈ r) ∧ ∀ r, R r → ∀ x ∈ r, x ≤ hi
def FF_ends_of : FW T2 := fun rs τ Q => ∃ (lo hi fe ma : Int) (u d n : Bool) (fr to : Int) (cs : List (Nat × Int)), rs = [.d (kD lo hi fe ma u d n fr to), .d (.list (cD cs))] ∧ isKindD (kD lo hi fe ma u d n fr to) = true ∧
  CntOk lo hi fe ma u d n fr to cs ∧ cs.length ≤ 9 ∧ ∀ l h : Int, EndLo (RowOf lo hi fe ma u d n fr to) l → EndHi (RowOf lo hi fe ma u d n fr to) h → Q (.d (.tuple [.int l, .int h])) τ
def FF_has_pair : FW T2 := fun rs τ Q => ∃ (lo hi fe ma : Int) (u d n : Bool) (fr to : Int) (cs : List (Nat × Int)) (a : Bool), rs = [.d (kD lo hi fe ma u d n fr to), .d (.list (cD cs)), .d (.bool a)] ∧ isKindD (kD lo hi fe ma u d n fr to) = true ∧
  CntOk lo hi fe ma u d n fr to cs ∧ cs.length ≤ 9 ∧ cs ≠ [] ∧ ∀ b : Bool, (b = true ↔ ∃ r, RowOf lo hi fe ma u d n fr to r ∧ Two a r) → Q (.d (.bool b)) τ
def FF_narrowed : FW T2 := fun rs τ Q => ∃ (lo hi fe ma : Int) (u d n : Bool) (fr to : Int), rs = [.d (kD lo hi fe ma u d n fr to)] ∧ isKindD (kD lo hi fe ma u d n fr to) = true ∧ ∀ k, LeastD (RowOf lo hi fe ma u d n fr to) k → isKindD k = true → Q (.d k) τ
theorem kind_rng {lo hi fe ma : Int} {u d n : Bool} {fr to : Int} (h : isKindD (kD lo hi fe ma u d n fr to) = true) : (-20 ≤ lo ∧ lo ≤ 20) ∧ (-20 ≤ hi ∧ hi ≤ 20) ∧ (0 ≤ fe ∧ fe ≤ 8) ∧ (0 ≤ ma ∧ ma ≤ 8) ∧ (-160 ≤ fr ∧ fr ≤ 160) ∧ (-160 ≤ to ∧ to ≤ 160) := by
  obtain ⟨lo', hi', fe', ma', u', d', n', fr', to', e, h⟩ := kind_inv h
  unfold kD at e
  simp only [PyData.tuple.injEq, List.cons.injEq, PyData.int.injEq, PyData.bool.injEq, and_true] at e
  obtain ⟨rfl, rfl, rfl, rfl, rfl, rfl, rfl, rfl, rfl⟩ := e
  exact h
theorem span_inR {lo hi : Int} (h1 : -20 ≤ lo) (h2 : hi ≤ 20) : inR (span lo hi) := fun x hx => by
  rw [mem_span] at hx
  omega
theorem span_len {lo hi : Int} : (span lo hi).length = (hi + 1 - lo).toNat := by
  unfold span
  rw [List.length_map, List.length_range]
theorem span_lt (lo hi : Int) : (span lo hi).Pairwise (· < ·) := by
  unfold span
  rw [List.pairwise_map]
  exact List.pairwise_lt_range.imp fun {a b} h => by omega
theorem rgI_span (lo hi : Int) : rgI lo (hi + 1 - lo).toNat = (span lo hi).map .int := by
  unfold rgI span
  rw [List.map_map]
  rfl
theorem ixN_at {n j : Nat} (hj : j < n) : ixN n (j : Int) = some j := by
  have h0 : (0 : Int) ≤ (j : Int) := Int.natCast_nonneg j
  have h1 : (j : Int) < (n : Int) := Int.ofNat_lt.mpr hj
  simp [ixN, h0, h1]
theorem and_some {f b : Int} {P : Int → Prop} (hf : BitsOf f P) (hb : 0 ≤ b) : ¬ Builtin.bitAnd f b = 0 ↔ ∃ s, hasS b s ∧ P s := by
  have h0 : 0 ≤ Builtin.bitAnd f b := by rw [and_nn hf.1 hb]; omega
  refine (has_some h0).trans ⟨fun h => ?_, fun h => ?_⟩
  · obtain ⟨s, hs⟩ := h
    rw [and_has hf.1 hb, hf.2] at hs
    exact ⟨s, hs.2, hs.1⟩
  · obtain ⟨s, h1, h2⟩ := h
    exact ⟨s, by rw [and_has hf.1 hb, hf.2]; exact ⟨h2, h1⟩⟩
theorem bitOr_nn0 {a b : Int} (ha : 0 ≤ a) (hb : 0 ≤ b) : 0 ≤ Builtin.bitOr a b := by
  rw [L2.bitOr_nn ha hb]
  omega
theorem zeros_map (m : Nat) : (List.replicate m [PyData.int 0]).flatten = (List.replicate m (0 : Int)).map .int := by
  induction m with
  | zero => rfl
  | succ m ih => rw [List.replicate_succ, List.flatten_cons, ih, List.replicate_succ]; rfl
theorem stand_gen {ns : List Int} {x : Int} {lvl unl : Bool} {m : Nat} {s : Int} (hx : x ∈ ns) (hu : lvl = false) : (∃ l, IsLot ns lvl unl l ∧ l.length = m + 1 ∧ l.sum = s ∧ x ∈ l) ↔ Lot (outOf ns x unl) false unl m (s - x) := by
  subst hu
  exact lot_with hx
theorem stand_gen1 {ns : List Int} {x : Int} {unl : Bool} {m : Nat} {s : Int} (hx : x ∈ ns) : (∃ l, IsLot ns true unl l ∧ l.length = m + 1 ∧ l.sum = s ∧ x ∈ l) ↔ Lot [x] true unl (m + 1) s := by
  constructor
  · rintro ⟨l, ⟨h, hn, he⟩, h1, h2, h3⟩
    exact ⟨l, ⟨fun y hy => List.mem_singleton.mpr (he rfl y hy x h3), hn, he⟩, h1, h2⟩
  · rintro ⟨l, ⟨h, hn, he⟩, h1, h2⟩
    have h' : ∀ y ∈ l, y = x := fun y hy => List.mem_singleton.mp (h y hy)
    refine ⟨l, ⟨fun y hy => by rw [h' y hy]; exact hx, hn, he⟩, h1, h2, ?_⟩
    cases l with
    | nil => simp at h1
    | cons a l => rw [h' a List.mem_cons_self]; exact List.mem_cons_self
theorem atI_hd {α : Type} (x : α) (t : List α) : atI (x :: t) 0 = some x := by
  have := ixN_at (n := (x :: t).length) (j := 0) (by simp)
  unfold atI
  rw [show ((0 : Nat) : Int) = 0 from rfl] at this
  rw [this]
  rfl
theorem atI_lst {α : Type} (xs : List α) (x : α) : atI (xs ++ [x]) (-1) = some x := by
  have e : ixN (xs ++ [x]).length (-1) = some xs.length := by
    unfold ixN
    rw [if_neg (by decide), if_pos (by rw [List.length_append, List.length_singleton]; omega), List.length_append, List.length_singleton]
    congr 1
    omega
  unfold atI
  rw [e]
  show (xs ++ [x])[xs.length]? = _
  rw [List.getElem?_append_right (Nat.le_refl _), Nat.sub_self]
  rfl
theorem snoc_of {α : Type} {l : List α} (h : l ≠ []) : ∃ i x, l = i ++ [x] := ⟨l.dropLast, l.getLast h, (List.dropLast_concat_getLast h).symm⟩
section
variable {lo hi fe ma : Int} {u d n : Bool} {fr to : Int} {cs : List (Nat × Int)}
theorem cs_row (hc : CntOk lo hi fe ma u d n fr to cs) {m : Nat} {s : Int} : (∃ c ∈ cs, c.1 = m ∧ hasS c.2 s) ↔ ∃ r, RowOf lo hi fe ma u d n fr to r ∧ r.length = m ∧ r.sum = s := by
  constructor
  · rintro ⟨c, h1, rfl, h2⟩
    obtain ⟨_, g1, g2⟩ := hc.ok c h1
    obtain ⟨g3, g4⟩ := (g2 s).mp h2
    exact row_cnt.mpr ⟨g1, g3, g4⟩
  · intro h
    obtain ⟨g1, g2, g3⟩ := row_cnt.mp h
    obtain ⟨b, hb⟩ := hc.all m s g1.1 g1.2 g2.1 g2.2 g3
    exact ⟨_, hb, rfl, ((hc.ok _ hb).2.2 s).mpr ⟨g2, g3⟩⟩
/-- each count has a row -/
theorem cs_some (hc : CntOk lo hi fe ma u d n fr to cs) {c : Nat × Int} (h : c ∈ cs) : ∃ r, RowOf lo hi fe ma u d n fr to r ∧ r.length = c.1 := by
  have h0 := (hc.ok c h).1
  obtain ⟨s, hs, _⟩ := greatest_has h0
  obtain ⟨r, h1, h2, _⟩ := (cs_row hc).mp ⟨c, h, rfl, hs⟩
  exact ⟨r, h1, h2⟩
theorem cs_at (hc : CntOk lo hi fe ma u d n fr to cs) {r : List Int} (h : RowOf lo hi fe ma u d n fr to r) : ∃ c ∈ cs, c.1 = r.length ∧ hasS c.2 r.sum := (cs_row hc).mpr ⟨r, h, rfl, rfl⟩
theorem cs_first {c : Nat × Int} {t : List (Nat × Int)} (hc : CntOk lo hi fe ma u d n fr to (c :: t)) : (∃ r, RowOf lo hi fe ma u d n fr to r ∧ (r.length : Int) = c.1) ∧ ∀ r, RowOf lo hi fe ma u d n fr to r → (c.1 : Int) ≤ (r.length : Int) := by
  refine ⟨?_, fun r hr => ?_⟩
  · obtain ⟨r, h1, h2⟩ := cs_some hc List.mem_cons_self
    exact ⟨r, h1, by rw [h2]⟩
  · obtain ⟨x, hx, h1, _⟩ := cs_at hc hr
    rw [← h1]
    rcases List.mem_cons.mp hx with rfl | hx
    · exact Int.le_refl _
    · have := (List.pairwise_cons.mp hc.inc).1 x hx
      omega
theorem cs_last {c : Nat × Int} {t : List (Nat × Int)} (hc : CntOk lo hi fe ma u d n fr to (t ++ [c])) : (∃ r, RowOf lo hi fe ma u d n fr to r ∧ (r.length : Int) = c.1) ∧ ∀ r, RowOf lo hi fe ma u d n fr to r → (r.length : Int) ≤ (c.1 : Int) := by
  refine ⟨?_, fun r hr => ?_⟩
  · obtain ⟨r, h1, h2⟩ := cs_some hc (List.mem_append_right _ List.mem_cons_self)
    exact ⟨r, h1, by rw [h2]⟩
  · obtain ⟨x, hx, h1, _⟩ := cs_at hc hr
    rw [← h1]
    rcases List.mem_append.mp hx with hx | hx
    · have := (List.pairwise_append.mp hc.inc).2.2 x hx c List.mem_cons_self
      omega
    · rw [List.mem_singleton.mp hx]
      exact Int.le_refl _
theorem cs_pair (hc : CntOk lo hi fe ma u d n fr to cs) (hw : (u && d || n) = false) {a : Bool} : (∃ c ∈ cs, PairP (span lo hi) c.1 c.2 a) ↔ ∃ r, RowOf lo hi fe ma u d n fr to r ∧ Two a r := by
  have hw2 := Bool.or_eq_false_iff.mp hw
  rw [pair_rest hw]
  constructor
  · rintro ⟨c, h1, s, h2, h3, x, y, hx, hy, hxy, hl⟩
    obtain ⟨_, g1, g2⟩ := hc.ok c h1
    obtain ⟨g3, _⟩ := (g2 s).mp h2
    exact ⟨x, y, hx, hy, hxy, c.1 - 2, s, by omega, g3, hl⟩
  · rintro ⟨x, y, hx, hy, hxy, m, s, hm, hs, hl⟩
    obtain ⟨l, h1, h2, h3⟩ := (lot_two hx hy).mpr hl
    have hL : Lot (span lo hi) (u && d) n (m + 2) s := ⟨x :: y :: l, by rw [hw2.1, hw2.2]; exact h1, by simp only [List.length_cons]; omega, by simp only [List.sum_cons]; omega⟩
    obtain ⟨b, hb⟩ := hc.all (m + 2) s (by omega) (by omega) hs.1 hs.2 hL
    exact ⟨_, hb, s, ((hc.ok _ hb).2.2 s).mpr ⟨hs, hL⟩, by omega, x, y, hx, hy, hxy, by rw [show m + 2 - 2 = m by omega]; exact hl⟩
theorem cs_stand (hc : CntOk lo hi fe ma u d n fr to cs) {x : Int} : (∃ c ∈ cs, ∃ s, hasS c.2 s ∧ ∃ l, IsLot (span lo hi) (u && d) n l ∧ l.length = c.1 ∧ l.sum = s ∧ x ∈ l) ↔ ∃ r, RowOf lo hi fe ma u d n fr to r ∧ x ∈ r := by
  constructor
  · rintro ⟨c, h1, s, h2, h3⟩
    obtain ⟨_, g1, g2⟩ := hc.ok c h1
    obtain ⟨g3, _⟩ := (g2 s).mp h2
    obtain ⟨r, k1, _, _, k2⟩ := stand_lot.mpr ⟨g1, g3, h3⟩
    exact ⟨r, k1, k2⟩
  · rintro ⟨r, hr, hx⟩
    obtain ⟨c, h1, h2, h3⟩ := cs_at hc hr
    exact ⟨c, h1, _, h3, r, hr.lot, h2.symm, rfl, hx⟩
end
theorem first_of {L : List Int} {R : Int → Int → Prop} (hL : L.Pairwise R) {k : Nat} {v x : Int} (hv : L[k]? = some v) (hx : x ∈ L) (hn : x ∉ L.take k) : x = v ∨ R v x := by
  obtain ⟨hk, e⟩ := List.getElem?_eq_some_iff.mp hv
  have e3 : L = L.take k ++ v :: L.drop (k + 1) := by rw [← e, ← List.drop_eq_getElem_cons hk, List.take_append_drop]
  rw [e3] at hx
  rcases List.mem_append.mp hx with hx | hx
  · exact (hn hx).elim
  · rcases List.mem_cons.mp hx with hx | hx
    · exact .inl hx
    · rw [e3, List.pairwise_append, List.pairwise_cons] at hL
      exact .inr (hL.2.1.1 x hx)
/-- what is looked for first in L -/
def Seek (S : Int → Prop) (L : List Int) (i : Nat) (g : Bool) (v : Int) : Prop := (g = false ∧ v = 0 ∧ ∀ x ∈ L.take i, ¬ S x) ∨ (g = true ∧ S v ∧ ∃ k, L[k]? = some v ∧ ∀ x ∈ L.take k, ¬ S x)
theorem eqOk_cD (cs : List (Nat × Int)) : eqOk (.list (cD cs)) (.list []) = true := eqOk_nil _ fun y hy => by
  obtain ⟨c, _, rfl⟩ := List.mem_map.mp hy
  exact ⟨rfl, by simp [PyData.depth, PyData.depthAll]⟩
/-! the law's own look -/
def cntR (w : Nat) : Nat → Nat
  | 0 => 1
  | m + 1 => cntR w m + w ^ (m + 1)
theorem cntR_le (w : Nat) : ∀ {j m : Nat}, j ≤ m → cntR w j ≤ cntR w m
  | j, 0, h => by rw [Nat.le_zero.mp h]; exact Nat.le_refl _
  | j, m + 1, h => by
    rcases Nat.lt_or_eq_of_le h with h | h
    · exact Nat.le_trans (cntR_le w (Nat.lt_succ_iff.mp h)) (Nat.le_add_right _ _)
    · rw [h]; exact Nat.le_refl _
theorem pow_cnt (w j : Nat) : w ^ j ≤ cntR w j := by
  cases j with
  | zero => exact Nat.le_refl _
  | succ j => exact Nat.le_add_left _ _
def FF__law_pairs : FW T2 := fun rs τ Q => ∃ xs ys : List D, rs = [.d (.list xs), .d (.list ys)] ∧ xs.length * ys.length ≤ 5000 ∧ ys.length ≤ 100 ∧ Q (.ol (xs.flatMap fun x => ys.map fun y => .tuple [x, y])) τ
def FF__law_all_rows : FW T2 := fun rs τ Q => ∃ (ns : List Int) (m : Nat), rs = [.d (.list (ns.map .int)), .d (.int m)] ∧ m ≤ 8 ∧ ns.length ≤ 10 ∧ cntR ns.length m ≤ 1000 ∧
  ∀ rows : List (List Int), (∀ r, r ∈ rows ↔ r.length ≤ m ∧ ∀ x ∈ r, x ∈ ns) → (∃ tl, rows = [] :: tl ∧ ∀ r ∈ tl, r ≠ []) → rows.length ≤ 1000 → Q (.ol (rows.map tI)) τ
def FF__law_small : FW T2 := fun rs τ Q => ∃ (a : Addr) (b : Nat) (cs : List (Addr × Cel)), rs = [.raw (.ref a)] ∧ τ = ⟨.on a b, cs⟩ ∧ 10 ≤ b ∧
  ∀ (lo : Int) (w m b' : Nat), 1 ≤ w → w ≤ 6 → 1 ≤ m → m ≤ 8 → cntR w m ≤ 1000 → -20 ≤ lo → lo + w ≤ 21 → b ≤ b' + 10 → Q (.d (.tuple [.list ((spanN lo w).map .int), .int m])) ⟨.on a b', cs⟩
def FF__law_kind_by : FW T2 := fun rs τ Q => ∃ (a : Addr) (b : Nat) (cs : List (Addr × Cel)) (lo : Int) (w m : Nat), rs = [.raw (.ref a), .d (.list ((spanN lo w).map .int)), .d (.int m)] ∧ τ = ⟨.on a b, cs⟩ ∧ 40 ≤ b ∧ 1 ≤ w ∧ w ≤ 41 ∧ m ≤ 8 ∧ -20 ≤ lo ∧ lo + w ≤ 21 ∧
  ∀ (l h fe ma : Int) (u d n : Bool) (fr to : Int) (b' : Nat), (lo ≤ l ∧ l < lo + w) → (lo ≤ h ∧ h < lo + w) → (0 ≤ fe ∧ fe ≤ m) → (0 ≤ ma ∧ ma ≤ m) → (-160 ≤ fr ∧ fr ≤ 160) → (-160 ≤ to ∧ to ≤ 160) → b ≤ b' + 40 → Q (.d (kD l h fe ma u d n fr to)) ⟨.on a b', cs⟩
def sumsIn (lo : Int) (n m : Nat) : Option (Int × Int) := if m ≤ n then some ((m : Int) * lo + gapN m, (m : Int) * (lo + n - 1) - gapN m) else none
def pN : Option (Int × Int) → D
  | some p => .tuple [.int p.1, .int p.2]
  | none => .none
def FF__law_sums_in : FW T2 := fun rs τ Q => ∃ (lo : Int) (n m : Nat), rs = [.d (.int lo), .d (.int n), .d (.int m)] ∧ (-100 ≤ lo ∧ lo ≤ 100) ∧ n ≤ 100 ∧ m ≤ 8 ∧ Q (.d (pN (sumsIn lo n m))) τ
def inSp (sp : List (Int × Int)) (s : Int) : Prop := ∃ p ∈ sp, p.1 ≤ s ∧ s ≤ p.2
def SpanP (sp : List (Int × Int)) (P : Int → Prop) : Prop := ∀ s, inSp sp s ↔ P s
def FF__law_spans : FW T2 := fun rs τ Q => ∃ (lo hi fe ma : Int) (u d n : Bool) (fr to : Int) (m : Nat), rs = [.d (kD lo hi fe ma u d n fr to), .d (.int m)] ∧ isKindD (kD lo hi fe ma u d n fr to) = true ∧ m ≤ 8 ∧
  ∀ sp, SpanP sp (Lot (span lo hi) (u && d) n m) → sp.length ≤ 50 → Q (.ol (pD sp)) τ
def FF__law_spans_with : FW T2 := fun rs τ Q => ∃ (lo hi fe ma : Int) (u d n : Bool) (fr to : Int) (m : Nat) (x : Int), rs = [.d (kD lo hi fe ma u d n fr to), .d (.int m), .d (.int x)] ∧ isKindD (kD lo hi fe ma u d n fr to) = true ∧ 1 ≤ m ∧ m ≤ 8 ∧ (lo ≤ x ∧ x ≤ hi) ∧
  ∀ sp, SpanP sp (fun s => ∃ l, IsLot (span lo hi) (u && d) n l ∧ l.length = m ∧ l.sum = s ∧ x ∈ l) → sp.length ≤ 50 → Q (.ol (pD sp)) τ
def FF__law_spans_by_pairs : FW T2 := fun rs τ Q => ∃ (lo hi fe ma : Int) (u d n : Bool) (fr to : Int) (m : Nat) (a : Bool), rs = [.d (kD lo hi fe ma u d n fr to), .d (.int m), .d (.bool a)] ∧ isKindD (kD lo hi fe ma u d n fr to) = true ∧ m ≤ 8 ∧
  ∀ sp, SpanP sp (fun s => ∃ l, IsLot (span lo hi) (u && d) n l ∧ l.length = m ∧ l.sum = s ∧ Two a l) → sp.length ≤ 50 → Q (.ol (pD sp)) τ
def cutSp (fr to : Int) (sp : List (Int × Int)) : List (Int × Int) := (sp.map fun p => (max fr p.1, min to p.2)).filter fun p => decide (p.1 ≤ p.2)
theorem cut_in {fr to : Int} {sp : List (Int × Int)} {s : Int} : inSp (cutSp fr to sp) s ↔ (fr ≤ s ∧ s ≤ to) ∧ inSp sp s := by
  unfold inSp cutSp
  constructor
  · rintro ⟨p, hp, h1, h2⟩
    rw [List.mem_filter, List.mem_map] at hp
    obtain ⟨⟨q, hq, rfl⟩, _⟩ := hp
    dsimp only at h1 h2
    exact ⟨by omega, q, hq, by omega, by omega⟩
  · rintro ⟨h0, p, hp, h1, h2⟩
    refine ⟨(max fr p.1, min to p.2), ?_, by dsimp only; omega, by dsimp only; omega⟩
    rw [List.mem_filter, List.mem_map]
    exact ⟨⟨p, hp, rfl⟩, decide_eq_true (by dsimp only; omega)⟩
theorem cut_le {fr to : Int} {sp : List (Int × Int)} {p : Int × Int} (h : p ∈ cutSp fr to sp) : p.1 ≤ p.2 := of_decide_eq_true (List.mem_filter.mp h).2
theorem cut_len (fr to : Int) (sp : List (Int × Int)) : (cutSp fr to sp).length ≤ sp.length := by
  unfold cutSp
  refine Nat.le_trans (List.length_filter_le _ _) ?_
  rw [List.length_map]
  exact Nat.le_refl _
def FF__law_cut : FW T2 := fun rs τ Q => ∃ (lo hi fe ma : Int) (u d n : Bool) (fr to : Int) (sp : List (Int × Int)), rs = [.d (kD lo hi fe ma u d n fr to), .d (.list (pD sp))] ∧ sp.length ≤ 100 ∧ Q (.ol (pD (cutSp fr to sp))) τ
def FF__law_narrow : FW T2 := fun rs τ Q => ∃ (lo hi fe ma : Int) (u d n : Bool) (fr to : Int), rs = [.d (kD lo hi fe ma u d n fr to)] ∧ isKindD (kD lo hi fe ma u d n fr to) = true ∧ ∀ k, LeastD (RowOf lo hi fe ma u d n fr to) k → isKindD k = true → Q (.d k) τ
theorem pairs_snoc {r : Int → Int → Bool} (l : List Int) (x : Int) : pairsB r (l ++ [x]) = true ↔ pairsB r l = true ∧ ∀ y ∈ l, r y x = true := by
  rw [pairs_pw, pairs_pw, List.pairwise_append]
  simp
theorem in_any (x : Int) (l : List Int) : ((l.map PyData.int).any fun y => PyData.eqv y (.int x)) = decide (x ∈ l) := by
  rw [List.any_map, Bool.eq_iff_iff, List.any_eq_true, decide_eq_true_eq]
  constructor
  · rintro ⟨y, hy, e⟩
    simp only [Function.comp_apply, eqv_int, decide_eq_true_eq] at e
    rw [← e]
    exact hy
  · intro h
    exact ⟨x, h, by simp [eqv_int]⟩
theorem flat_ints (l : List Int) : (l.map PyData.int).all flatD = true := by
  rw [List.all_eq_true]
  intro y hy
  obtain ⟨z, _, rfl⟩ := List.mem_map.mp hy
  rfl
theorem mem_new {ns : List Int} {ls : List (List Int)} {j : Nat} (g : ∀ r, r ∈ ls ↔ r.length = j ∧ ∀ x ∈ r, x ∈ ns) {r : List Int} : (r ∈ ls.flatMap fun r => ns.map fun x => r ++ [x]) ↔ r.length = j + 1 ∧ ∀ x ∈ r, x ∈ ns := by
  rw [List.mem_flatMap]
  constructor
  · rintro ⟨q, hq, hr⟩
    obtain ⟨x, hx, rfl⟩ := List.mem_map.mp hr
    obtain ⟨h1, h2⟩ := (g q).mp hq
    refine ⟨by rw [List.length_append, h1]; rfl, fun y hy => ?_⟩
    rcases List.mem_append.mp hy with hy | hy
    · exact h2 y hy
    · rw [List.mem_singleton.mp hy]; exact hx
  · rintro ⟨h1, h2⟩
    obtain ⟨q, x, rfl⟩ := snoc_of (l := r) (fun e => by rw [e] at h1; simp at h1)
    rw [List.length_append, List.length_singleton] at h1
    exact ⟨q, (g q).mpr ⟨by omega, fun y hy => h2 y (List.mem_append_left _ hy)⟩, List.mem_map.mpr ⟨x, h2 x (by simp), rfl⟩⟩
theorem span_lot0 {lo hi : Int} (h : ¬ lo ≤ hi) {lvl unl : Bool} {m : Nat} {s : Int} : Lot (span lo hi) lvl unl (m + 1) s ↔ False := by
  refine ⟨?_, False.elim⟩
  rintro ⟨l, ⟨h1, _, _⟩, h2, _⟩
  cases l with
  | nil => simp at h2
  | cons a l =>
    have := h1 a List.mem_cons_self
    rw [mem_span] at this
    omega
theorem sumsIn_le {lo : Int} {n m : Nat} {p : Int × Int} (h : sumsIn lo n m = some p) : p.1 ≤ p.2 := by
  unfold sumsIn at h
  split at h
  · cases h
    dsimp only
    have h1 := two_gap m
    have h2 : m * m ≤ m * n := Nat.mul_le_mul_left m (by assumption)
    have e2 : (m : Int) * (lo + n - 1) = (m : Int) * lo + (m : Int) * n - m := by rw [Int.mul_sub, Int.mul_add, Int.mul_one]
    have c1 : ((m * n : Nat) : Int) = (m : Int) * n := by simp
    rw [e2]
    generalize (m : Int) * lo = P
    generalize hM : m * m = M at *
    generalize hN : m * n = N at *
    rw [← c1]
    omega
  · cases h
theorem sumsIn_lot {lo : Int} {n m : Nat} {s : Int} : Lot (spanN lo n) false true m s ↔ ∃ p, sumsIn lo n m = some p ∧ p.1 ≤ s ∧ s ≤ p.2 := by
  rw [unl_span]
  unfold sumsIn
  split
  · rename_i e
    simp only [Option.some.injEq, exists_eq_left', e, true_and]
  · rename_i e
    simp [e]
theorem sums_step {lo lo2 x : Int} {n n2 m m2 : Nat} {s : Int} : (∃ s1 s2, Lot (spanN lo n) false true m s1 ∧ Lot (spanN lo2 n2) false true m2 s2 ∧ s = s1 + x + s2) ↔ ∃ p q, sumsIn lo n m = some p ∧ sumsIn lo2 n2 m2 = some q ∧ p.1 + x + q.1 ≤ s ∧ s ≤ p.2 + x + q.2 := by
  constructor
  · rintro ⟨s1, s2, h1, h2, rfl⟩
    obtain ⟨p, e1, a1, a2⟩ := sumsIn_lot.mp h1
    obtain ⟨q, e2, b1, b2⟩ := sumsIn_lot.mp h2
    exact ⟨p, q, e1, e2, by omega, by omega⟩
  · rintro ⟨p, q, e1, e2, h1, h2⟩
    have g1 := sumsIn_le e1
    have g2 := sumsIn_le e2
    by_cases h : s - x - q.1 ≤ p.2
    · exact ⟨s - x - q.1, q.1, sumsIn_lot.mpr ⟨p, e1, by omega, h⟩, sumsIn_lot.mpr ⟨q, e2, by omega, by omega⟩, by omega⟩
    · exact ⟨p.2, s - x - p.2, sumsIn_lot.mpr ⟨p, e1, by omega, by omega⟩, sumsIn_lot.mpr ⟨q, e2, by omega, by omega⟩, by omega⟩
theorem two_len {a : Bool} {l : List Int} (h : Two a l) : 2 ≤ l.length := by
  cases l with
  | nil => cases a <;> simp [Two] at h
  | cons x l =>
    cases l with
    | nil => cases a <;> simp [Two] at h
    | cons y l => simp only [List.length_cons]; omega
theorem pair_lot {ns : List Int} {lvl unl a : Bool} {m : Nat} {s : Int} (hm : 2 ≤ m) (hw : (lvl || unl) = true) : (∃ l, IsLot ns lvl unl l ∧ l.length = m ∧ l.sum = s ∧ Two a l) ↔ ((lvl == a) && (unl != a)) = true ∧ Lot ns lvl unl m s := by
  have key : ∀ l, IsLot ns lvl unl l → 2 ≤ l.length → (Two a l ↔ ((lvl == a) && (unl != a)) = true) := fun l ⟨_, hn, he⟩ hl => by
    obtain ⟨x, y, t, rfl⟩ : ∃ x y t, l = x :: y :: t := by
      match l, hl with
      | x :: y :: t, _ => exact ⟨x, y, t, rfl⟩
    have hx : x ∈ x :: y :: t := List.mem_cons_self
    have hy : y ∈ x :: y :: t := List.mem_cons_of_mem _ List.mem_cons_self
    have nd : unl = true → x ≠ y := fun z e => by
      have := hn z
      rw [List.nodup_cons] at this
      exact this.1 (by rw [e]; exact List.mem_cons_self)
    cases a with
    | true =>
      simp only [Two, if_true]
      constructor
      · intro h
        cases unl with
        | true => exact (h (hn rfl)).elim
        | false =>
          cases lvl with
          | true => rfl
          | false => cases hw
      · intro h g
        cases lvl with
        | false => cases h
        | true =>
          rw [List.nodup_cons] at g
          exact g.1 (by rw [he rfl x hx y hy]; exact List.mem_cons_self)
    | false =>
      simp only [Two, Bool.false_eq_true, if_false]
      constructor
      · rintro ⟨p, hp, q, hq, e⟩
        cases lvl with
        | true => exact (e (he rfl p hp q hq)).elim
        | false =>
          cases unl with
          | true => rfl
          | false => cases hw
      · intro h
        cases unl with
        | false => cases lvl <;> cases h
        | true => exact ⟨x, hx, y, hy, nd rfl⟩
  constructor
  · rintro ⟨l, h1, h2, h3, h4⟩
    exact ⟨(key l h1 (by omega)).mp h4, l, h1, h2, h3⟩
  · rintro ⟨h0, l, h1, h2, h3⟩
    exact ⟨l, h1, h2, h3, (key l h1 (by omega)).mpr h0⟩
theorem eqOk_pD (ps : List (Int × Int)) : eqOk (.list (pD ps)) (.list []) = true := eqOk_nil _ fun y hy => by
  obtain ⟨c, _, rfl⟩ := List.mem_map.mp hy
  exact ⟨rfl, by simp [PyData.depth, PyData.depthAll]⟩
theorem eqv_pD (ps : List (Int × Int)) : PyData.eqv (.list (pD ps)) (.list []) = ps.isEmpty := by cases ps <;> rfl
theorem cut_some {fr to : Int} {sp : List (Int × Int)} {P : Int → Prop} (h : SpanP sp P) : (cutSp fr to sp).isEmpty = false ↔ ∃ s, (fr ≤ s ∧ s ≤ to) ∧ P s := by
  constructor
  · intro e
    cases ec : cutSp fr to sp with
    | nil => rw [ec] at e; cases e
    | cons p t =>
      have hp : p ∈ cutSp fr to sp := by rw [ec]; exact List.mem_cons_self
      have := cut_in.mp ⟨p, hp, Int.le_refl _, cut_le hp⟩
      exact ⟨p.1, this.1, (h _).mp this.2⟩
  · rintro ⟨s, h1, h2⟩
    obtain ⟨p, hp, _⟩ := cut_in.mpr ⟨h1, (h s).mpr h2⟩
    cases ec : cutSp fr to sp with
    | nil => rw [ec] at hp; cases hp
    | cons p t => rfl
def keepH (H : Int → Bool) : D → Option D
  | .int z => if H z then some (.int z) else none
  | _ => none
theorem keepH_int (H : Int → Bool) (z : Int) : keepH H (.int z) = if H z then some (.int z) else none := rfl
theorem filt_ints (H : Int → Bool) (L : List Int) : (L.map PyData.int).filterMap (keepH H) = (L.filter fun z => H z).map .int := by
  induction L with
  | nil => rfl
  | cons a l ih =>
    rw [List.map_cons, List.filterMap_cons, List.filter_cons, keepH_int]
    cases H a with
    | true => simp only [if_true, List.map_cons]; rw [← ih]
    | false => simp only [Bool.false_eq_true, if_false]; rw [← ih]
theorem gMinC_of {x : SV} {ns : List Int} {Q : SV → Prop} (e : x.lst? = some (ns.map .int)) (hl : ns ≠ []) (h : ∀ m, m ∈ ns → (∀ y, y ∈ ns → m ≤ y) → Q (.d (.int m))) : gMinC [x] Q := by
  unfold gMinC
  simp only [e, Option.bind_some, ints_map, opt_some]
  exact ⟨List.length_pos_iff.mpr hl, h⟩
theorem gMaxC_of {x : SV} {ns : List Int} {Q : SV → Prop} (e : x.lst? = some (ns.map .int)) (hl : ns ≠ []) (h : ∀ m, m ∈ ns → (∀ y, y ∈ ns → y ≤ m) → Q (.d (.int m))) : gMaxC [x] Q := by
  unfold gMaxC
  simp only [e, Option.bind_some, ints_map, opt_some]
  exact ⟨List.length_pos_iff.mpr hl, h⟩
def partD (k : Nat) : D → D
  | .tuple ds => ds.getD k .none
  | _ => .none
theorem fst_pD (sp : List (Int × Int)) : (pD sp).map (partD 0) = (sp.map fun p => p.1).map .int := by
  unfold pD
  rw [List.map_map, List.map_map]
  rfl
theorem snd_pD (sp : List (Int × Int)) : (pD sp).map (partD 1) = (sp.map fun p => p.2).map .int := by
  unfold pD
  rw [List.map_map, List.map_map]
  rfl
theorem flat_bools (l : List Bool) : (l.map PyData.bool).all flatD = true := by
  rw [List.all_eq_true]
  intro y hy
  obtain ⟨z, _, rfl⟩ := List.mem_map.mp hy
  rfl
theorem in_anyB (x : Bool) (l : List Bool) : ((l.map PyData.bool).any fun y => PyData.eqv y (.bool x)) = decide (x ∈ l) := by
  rw [List.any_map, Bool.eq_iff_iff, List.any_eq_true, decide_eq_true_eq]
  constructor
  · rintro ⟨y, hy, e⟩
    simp only [Function.comp_apply, eqv_bool] at e
    rw [← (by simpa using e : y = x)]
    exact hy
  · intro h
    exact ⟨x, h, by simp [eqv_bool]⟩
/-! kinds as they are -/
structure Kd where
  lo : Int
  hi : Int
  fe : Int
  ma : Int
  u : Bool
  d : Bool
  n : Bool
  fr : Int
  to : Int
def Kd.D (k : Kd) : D := kD k.lo k.hi k.fe k.ma k.u k.d k.n k.fr k.to
def Kd.R (k : Kd) : List Int → Prop := RowOf k.lo k.hi k.fe k.ma k.u k.d k.n k.fr k.to
def Kd.B (k : Kd) : List Int → Bool := hasB k.lo k.hi k.fe k.ma k.u k.d k.n k.fr k.to
theorem Kd.rb {k : Kd} {r : List Int} : k.B r = true ↔ k.R r := rowOf_has
theorem kd_of {x : D} (h : isKindD x = true) : ∃ k : Kd, x = k.D := by
  obtain ⟨lo, hi, fe, ma, u, d, n, fr, to, e, _⟩ := kind_inv h
  exact ⟨⟨lo, hi, fe, ma, u, d, n, fr, to⟩, e⟩
theorem kd_txt {k : Kd} (h : isKindD k.D = true) : ∀ x ∈ [PyData.int k.lo, .int k.hi, .int k.fe, .int k.ma, .bool k.u, .bool k.d, .bool k.n, .int k.fr, .int k.to], 44 ∉ codes x.shown := by
  have hr := kind_rng h
  intro x hx
  simp only [List.mem_cons, List.not_mem_nil, or_false] at hx
  rcases hx with rfl | rfl | rfl | rfl | rfl | rfl | rfl | rfl | rfl
  · exact (int_txt (by omega)).2
  · exact (int_txt (by omega)).2
  · exact (int_txt (by omega)).2
  · exact (int_txt (by omega)).2
  · exact bool_txt _
  · exact bool_txt _
  · exact bool_txt _
  · exact (int_txt (by omega)).2
  · exact (int_txt (by omega)).2
theorem Kd.shown_inj {k j : Kd} (hk : isKindD k.D = true) (hj : isKindD j.D = true) (h : k.D.shown = j.D.shown) : k.D = j.D := by
  have h1 := kind_rng hk
  have h2 := kind_rng hj
  have := tup_inj (xs := [PyData.int k.lo, .int k.hi, .int k.fe, .int k.ma, .bool k.u, .bool k.d, .bool k.n, .int k.fr, .int k.to]) (ys := [PyData.int j.lo, .int j.hi, .int j.fe, .int j.ma, .bool j.u, .bool j.d, .bool j.n, .int j.fr, .int j.to]) rfl (by simp) (kd_txt hk) (kd_txt hj) h
  simp only [List.map_cons, List.map_nil, List.cons.injEq, and_true] at this
  obtain ⟨e1, e2, e3, e4, e5, e6, e7, e8, e9⟩ := this
  unfold Kd.D
  rw [int_inj (by omega) (by omega) e1, int_inj (by omega) (by omega) e2, int_inj (by omega) (by omega) e3, int_inj (by omega) (by omega) e4, bool_inj e5, bool_inj e6, bool_inj e7, int_inj (by omega) (by omega) e8, int_inj (by omega) (by omega) e9]
theorem LeastD.kd {k : Kd} {x : D} (h : LeastD k.R x) : ∃ g : Kd, x = g.D ∧ (∀ r, g.R r ↔ k.R r) ∧ ((∀ r, ¬ k.R r) ∨ IsLeast k.R g.lo g.hi g.fe g.ma g.u g.d g.n g.fr g.to) := by
  rcases h with ⟨h, rfl⟩ | ⟨lo, hi, fe, ma, u, d, n, fr, to, h, rfl⟩
  · refine ⟨⟨20, -20, 8, 0, true, true, true, 160, -160⟩, rfl, fun r => ⟨fun g => ?_, fun g => (h r g).elim⟩, .inl h⟩
    have := g.1
    dsimp only at this
    omega
  · refine ⟨⟨lo, hi, fe, ma, u, d, n, fr, to⟩, rfl, fun r => ⟨fun g => ?_, fun g => ?_⟩, .inr h⟩
    · obtain ⟨g1, g2, g3, g4, g5, g6⟩ := g
      dsimp only at g1 g2 g3 g4 g5 g6
      have noE : (∀ q, k.R q → q = []) → ∀ x ∈ r, False := fun e x hx => by
        obtain ⟨⟨q, q1, q2⟩, _⟩ := h.ma
        rw [e q q1] at q2
        have := List.length_pos_of_mem hx
        simp at q2
        omega
      refine ⟨⟨?_, ?_⟩, ⟨?_, ?_⟩, fun x hx => ⟨?_, ?_⟩, fun e => g4 (h.n.mpr fun q hq => hq.2.2.2.1 e), fun e => g5 (h.u.mpr fun q hq => hq.2.2.2.2.1 e), fun e => g6 (h.d.mpr fun q hq => hq.2.2.2.2.2 e)⟩
      · obtain ⟨⟨q, q1, q2⟩, _⟩ := h.fe
        have := q1.1
        omega
      · obtain ⟨⟨q, q1, q2⟩, _⟩ := h.ma
        have := q1.1
        omega
      · obtain ⟨⟨q, q1, q2⟩, _⟩ := h.fr
        have := q1.2.1
        omega
      · obtain ⟨⟨q, q1, q2⟩, _⟩ := h.to
        have := q1.2.1
        omega
      · rcases h.lo with ⟨e, _⟩ | ⟨⟨q, q1, q2⟩, _⟩
        · exact (noE e x hx).elim
        · have := q1.2.2.1 _ q2
          have := g3 x hx
          omega
      · rcases h.hi with ⟨e, _⟩ | ⟨⟨q, q1, q2⟩, _⟩
        · exact (noE e x hx).elim
        · have := q1.2.2.1 _ q2
          have := g3 x hx
          omega
    · refine ⟨⟨h.fe.2 r g, h.ma.2 r g⟩, ⟨h.fr.2 r g, h.to.2 r g⟩, fun x hx => ⟨?_, ?_⟩, fun e => h.n.mp e r g, fun e => h.u.mp e r g, fun e => h.d.mp e r g⟩
      · rcases h.lo with ⟨e, _⟩ | ⟨_, e⟩
        · rw [e r g] at hx; cases hx
        · exact e r g x hx
      · rcases h.hi with ⟨e, _⟩ | ⟨_, e⟩
        · rw [e r g] at hx; cases hx
        · exact e r g x hx
def LessK (g k : Kd) : Prop := k = { g with lo := g.lo + 1 } ∨ k = { g with hi := g.hi + -1 } ∨ k = { g with fe := g.fe + 1 } ∨ k = { g with ma := g.ma + -1 } ∨ k = { g with fr := g.fr + 1 } ∨ k = { g with to := g.to + -1 } ∨
  (g.u = false ∧ k = { g with u := true }) ∨ (g.d = false ∧ k = { g with d := true }) ∨ (g.n = false ∧ k = { g with n := true })
theorem less_row {R : List Int → Prop} {g k : Kd} (h : IsLeast R g.lo g.hi g.fe g.ma g.u g.d g.n g.fr g.to) (hne : ∃ r, R r ∧ r ≠ []) (hx : LessK g k) : ∃ r, R r ∧ ¬ k.R r := by
  obtain ⟨r0, r1, r2⟩ := hne
  have word : ∀ {b : Bool} {P : List Int → Prop}, b = false → (b = true ↔ ∀ r, R r → P r) → ∃ r, R r ∧ ¬ P r := fun {b P} e h => by
    refine Classical.byContradiction fun z => ?_
    have := h.mpr fun r hr => Classical.byContradiction fun y => z ⟨r, hr, y⟩
    rw [e] at this
    cases this
  rcases hx with rfl | rfl | rfl | rfl | rfl | rfl | ⟨e, rfl⟩ | ⟨e, rfl⟩ | ⟨e, rfl⟩
  · rcases h.lo with ⟨z, _⟩ | ⟨⟨q, q1, q2⟩, _⟩
    · exact (r2 (z r0 r1)).elim
    · refine ⟨q, q1, fun z => ?_⟩
      have := z.2.2.1 _ q2
      dsimp only at this
      omega
  · rcases h.hi with ⟨z, _⟩ | ⟨⟨q, q1, q2⟩, _⟩
    · exact (r2 (z r0 r1)).elim
    · refine ⟨q, q1, fun z => ?_⟩
      have := z.2.2.1 _ q2
      dsimp only at this
      omega
  · obtain ⟨⟨q, q1, q2⟩, _⟩ := h.fe
    refine ⟨q, q1, fun z => ?_⟩
    have := z.1
    dsimp only at this
    omega
  · obtain ⟨⟨q, q1, q2⟩, _⟩ := h.ma
    refine ⟨q, q1, fun z => ?_⟩
    have := z.1
    dsimp only at this
    omega
  · obtain ⟨⟨q, q1, q2⟩, _⟩ := h.fr
    refine ⟨q, q1, fun z => ?_⟩
    have := z.2.1
    dsimp only at this
    omega
  · obtain ⟨⟨q, q1, q2⟩, _⟩ := h.to
    refine ⟨q, q1, fun z => ?_⟩
    have := z.2.1
    dsimp only at this
    omega
  · obtain ⟨q, q1, q2⟩ := word e h.u
    exact ⟨q, q1, fun z => q2 (z.2.2.2.2.1 rfl)⟩
  · obtain ⟨q, q1, q2⟩ := word e h.d
    exact ⟨q, q1, fun z => q2 (z.2.2.2.2.2 rfl)⟩
  · obtain ⟨q, q1, q2⟩ := word e h.n
    exact ⟨q, q1, fun z => q2 (z.2.2.2.1 rfl)⟩
def FF__law_narrower : FW T2 := fun rs τ Q => ∃ g : Kd, rs = [.d g.D] ∧ isKindD g.D = true ∧ ∀ ks : List Kd, (∀ k ∈ ks, isKindD k.D = true ∧ LessK g k) → ks.length ≤ 9 → Q (.ol (ks.map Kd.D)) τ
theorem sh_ints : ∀ r : List Int, PyData.canLayAll0 (r.map .int) = true ∧ PyData.depthAll (r.map .int) = 0
  | [] => ⟨rfl, rfl⟩
  | a :: r => by
    obtain ⟨h1, h2⟩ := sh_ints r
    refine ⟨?_, ?_⟩
    · rw [List.map_cons, PyData.canLayAll0, h1]
      rfl
    · rw [List.map_cons, PyData.depthAll, h2]
      rfl
theorem shaped_rows (L : List (List Int)) : SeqAt.shaped (.list (L.map tI)) = true := shaped_list fun x hx => by
  obtain ⟨r, _, rfl⟩ := List.mem_map.mp hx
  obtain ⟨h1, h2⟩ := sh_ints r
  refine ⟨by rw [tI, PyData.canLay0]; exact h1, ?_⟩
  rw [tI, PyData.depth, h2]
  decide
theorem eqOk_rows (L M : List (List Int)) : eqOk (.list (L.map tI)) (.list (M.map tI)) = true := by
  unfold eqOk
  rw [shaped_rows, shaped_rows]
  simp
theorem eqvAll_ints : ∀ a b : List Int, PyData.eqvAll (a.map .int) (b.map .int) = decide (a = b)
  | [], [] => by simp [PyData.eqvAll]
  | [], b :: bs => by simp [PyData.eqvAll]
  | a :: as, [] => by simp [PyData.eqvAll]
  | a :: as, b :: bs => by
    rw [List.map_cons, List.map_cons, PyData.eqvAll, eqv_int, eqvAll_ints as bs]
    by_cases h1 : a = b <;> by_cases h2 : as = bs <;> simp [h1, h2]
theorem eqvAll_rows : ∀ a b : List (List Int), PyData.eqvAll (a.map tI) (b.map tI) = decide (a = b)
  | [], [] => by simp [PyData.eqvAll]
  | [], b :: bs => by simp [PyData.eqvAll]
  | a :: as, [] => by simp [PyData.eqvAll]
  | a :: as, b :: bs => by
    rw [List.map_cons, List.map_cons, PyData.eqvAll, tI, tI, PyData.eqv, eqvAll_ints a b, eqvAll_rows as bs]
    by_cases h1 : a = b <;> by_cases h2 : as = bs <;> simp [h1, h2]
theorem eqv_rows (a b : List (List Int)) : PyData.eqv (.list (a.map tI)) (.list (b.map tI)) = decide (a = b) := by rw [PyData.eqv, eqvAll_rows]
theorem str_eqv (a b : Str) : PyData.eqv (.str a) (.str b) = decide (a = b) := by
  rw [eqv_str, decide_eq_decide]
  exact ⟨fun h => codes_inj h, fun h => by rw [h]⟩
def lotD (rows : List (List Int)) (k : Kd) : D := .list ((rows.filter k.B).map tI)
structure FormOf (k g : Kd) : Prop where
  kind : isKindD g.D = true
  rows : ∀ r, g.R r ↔ k.R r
  least : LeastD k.R g.D
  parts : (∀ r, ¬ k.R r) ∨ IsLeast k.R g.lo g.hi g.fe g.ma g.u g.d g.n g.fr g.to
theorem Kd.inj {k j : Kd} (h : k.D = j.D) : k = j := by
  cases k
  cases j
  simp only [Kd.D, kD, PyData.tuple.injEq, List.cons.injEq, PyData.int.injEq, PyData.bool.injEq, and_true] at h
  obtain ⟨rfl, rfl, rfl, rfl, rfl, rfl, rfl, rfl, rfl⟩ := h
  rfl
theorem form_of {k : Kd} {x : D} (h1 : LeastD k.R x) (h2 : isKindD x = true) : ∃ g : Kd, x = g.D ∧ FormOf k g := by
  obtain ⟨g, rfl, h3, h4⟩ := h1.kd
  exact ⟨g, rfl, h2, h3, h1, h4⟩
theorem B_ext {k j : Kd} (h : ∀ r, k.R r ↔ j.R r) : k.B = j.B := funext fun r => Bool.eq_iff_iff.mpr (k.rb.trans ((h r).trans j.rb.symm))
theorem form_same {k k' g g' : Kd} (h : FormOf k g) (h' : FormOf k' g') : g.D.shown = g'.D.shown ↔ ∀ r, k.R r ↔ k'.R r := by
  constructor
  · intro e r
    have e := Kd.inj (Kd.shown_inj h.kind h'.kind e)
    subst e
    exact (h.rows r).symm.trans (h'.rows r)
  · intro e
    rw [(h.least.congr e).eq h'.least]
theorem lot_same {rows : List (List Int)} {k k' : Kd} (h : ∀ r, k.R r → r ∈ rows) (h' : ∀ r, k'.R r → r ∈ rows) : rows.filter k.B = rows.filter k'.B ↔ ∀ r, k.R r ↔ k'.R r := by
  constructor
  · intro e r
    have hm : ∀ q, q ∈ rows.filter k.B ↔ q ∈ rows.filter k'.B := fun q => by rw [e]
    have := hm r
    rw [List.mem_filter, List.mem_filter, Kd.rb, Kd.rb] at this
    exact ⟨fun z => (this.mp ⟨h r z, z⟩).2, fun z => (this.mpr ⟨h' r z, z⟩).2⟩
  · intro e
    rw [B_ext e]
theorem lot_some {rows tl : List (List Int)} {k : Kd} (e : rows = [] :: tl) (ht : ∀ r ∈ tl, r ≠ []) (h1 : rows.filter k.B ≠ []) (h2 : rows.filter k.B ≠ [[]]) : ∃ r, k.R r ∧ r ≠ [] := by
  refine Classical.byContradiction fun z => ?_
  have ho : tl.filter k.B = [] := by
    rw [List.filter_eq_nil_iff]
    intro r hr hb
    exact z ⟨r, k.rb.mp hb, ht r hr⟩
  rw [e, List.filter_cons, ho] at h1 h2
  cases hb : k.B [] with
  | true => rw [hb] at h2; exact h2 rfl
  | false => rw [hb] at h1; exact h1 rfl
/-! ### whether the rows of a least kind are of another kind -/
theorem lies_iff {R : List Int → Prop} {g k : Kd} (h : IsLeast R g.lo g.hi g.fe g.ma g.u g.d g.n g.fr g.to) :
    ((k.fe ≤ g.fe ∧ g.ma ≤ k.ma ∧ k.fr ≤ g.fr ∧ g.to ≤ k.to) ∧ ((k.u = true → g.u = true) ∧ (k.d = true → g.d = true) ∧ (k.n = true → g.n = true)) ∧ (g.ma = 0 ∨ k.lo ≤ g.lo ∧ g.hi ≤ k.hi)) ↔ ∀ r, R r → k.R r := by
  constructor
  · rintro ⟨⟨h1, h2, h3, h4⟩, ⟨h5, h6, h7⟩, h8⟩ r hr
    have l1 := h.fe.2 r hr
    have l2 := h.ma.2 r hr
    have l3 := h.fr.2 r hr
    have l4 := h.to.2 r hr
    refine ⟨⟨by omega, by omega⟩, ⟨by omega, by omega⟩, fun x hx => ?_, fun e => h.n.mp (h7 e) r hr, fun e => h.u.mp (h5 e) r hr, fun e => h.d.mp (h6 e) r hr⟩
    have hp := List.length_pos_of_mem hx
    have h9 : k.lo ≤ g.lo ∧ g.hi ≤ k.hi := h8.resolve_left (fun e => by omega)
    have g1 : g.lo ≤ x := by
      rcases h.lo with ⟨e, _⟩ | ⟨_, e⟩
      · rw [e r hr] at hx; cases hx
      · exact e r hr x hx
    have g2 : x ≤ g.hi := by
      rcases h.hi with ⟨e, _⟩ | ⟨_, e⟩
      · rw [e r hr] at hx; cases hx
      · exact e r hr x hx
    omega
  · intro hk
    have emp : (∀ r, R r → r = []) → g.ma = 0 := fun e => by
      obtain ⟨⟨q, q1, q2⟩, _⟩ := h.ma
      rw [e q q1] at q2
      exact q2.symm
    refine ⟨⟨?_, ?_, ?_, ?_⟩, ⟨fun e => h.u.mpr fun r hr => (hk r hr).2.2.2.2.1 e, fun e => h.d.mpr fun r hr => (hk r hr).2.2.2.2.2 e, fun e => h.n.mpr fun r hr => (hk r hr).2.2.2.1 e⟩, ?_⟩
    · obtain ⟨⟨q, q1, q2⟩, _⟩ := h.fe
      have := (hk q q1).1
      omega
    · obtain ⟨⟨q, q1, q2⟩, _⟩ := h.ma
      have := (hk q q1).1
      omega
    · obtain ⟨⟨q, q1, q2⟩, _⟩ := h.fr
      have := (hk q q1).2.1
      omega
    · obtain ⟨⟨q, q1, q2⟩, _⟩ := h.to
      have := (hk q q1).2.1
      omega
    · rcases h.lo with ⟨e, _⟩ | ⟨⟨q, q1, q2⟩, _⟩
      · exact .inl (emp e)
      · rcases h.hi with ⟨e, _⟩ | ⟨⟨p, p1, p2⟩, _⟩
        · exact .inl (emp e)
        · have a1 := (hk q q1).2.2.1 _ q2
          have a2 := (hk p p1).2.2.1 _ p2
          exact .inr (by omega)
/-! ### rows of both kinds, rows of either -/
def bothK (a b : Kd) : Kd := ⟨max a.lo b.lo, min a.hi b.hi, max a.fe b.fe, min a.ma b.ma, a.u || b.u, a.d || b.d, a.n || b.n, max a.fr b.fr, min a.to b.to⟩
theorem both_row {a b : Kd} {r : List Int} : (bothK a b).R r ↔ a.R r ∧ b.R r := by
  constructor
  · rintro ⟨h1, h2, h3, h4, h5, h6⟩
    simp only [bothK, Bool.or_eq_true] at h1 h2 h3 h4 h5 h6
    exact ⟨⟨by omega, by omega, fun x hx => by have := h3 x hx; omega, fun e => h4 (.inl e), fun e => h5 (.inl e), fun e => h6 (.inl e)⟩, ⟨by omega, by omega, fun x hx => by have := h3 x hx; omega, fun e => h4 (.inr e), fun e => h5 (.inr e), fun e => h6 (.inr e)⟩⟩
  · rintro ⟨⟨h1, h2, h3, h4, h5, h6⟩, ⟨g1, g2, g3, g4, g5, g6⟩⟩
    refine ⟨?_, ?_, fun x hx => ?_, fun e => ?_, fun e => ?_, fun e => ?_⟩
    · show max a.fe b.fe ≤ _ ∧ _ ≤ min a.ma b.ma
      omega
    · show max a.fr b.fr ≤ _ ∧ _ ≤ min a.to b.to
      omega
    · show max a.lo b.lo ≤ _ ∧ _ ≤ min a.hi b.hi
      have := h3 x hx
      have := g3 x hx
      omega
    · exact (Bool.or_eq_true _ _ ▸ e : a.n = true ∨ b.n = true).elim h4 g4
    · exact (Bool.or_eq_true _ _ ▸ e : a.u = true ∨ b.u = true).elim h5 g5
    · exact (Bool.or_eq_true _ _ ▸ e : a.d = true ∨ b.d = true).elim h6 g6
theorem words_or {b c : Bool} {P R S : List Int → Prop} (hb : b = true ↔ ∀ r, R r → P r) (hc : c = true ↔ ∀ r, S r → P r) : (b && c) = true ↔ ∀ r, R r ∨ S r → P r := by
  rw [Bool.and_eq_true, hb, hc]
  exact ⟨fun ⟨h1, h2⟩ r hr => hr.elim (h1 r) (h2 r), fun h => ⟨fun r hr => h r (.inl hr), fun r hr => h r (.inr hr)⟩⟩
def endJ (f : Int → Int → Int) (m1 m2 e1 e2 : Int) : Int := if 0 < m1 then (if 0 < m2 then f e1 e2 else e1) else if 0 < m2 then e2 else 0
theorem join_least {R S : List Int → Prop} {g k : Kd} (h : IsLeast R g.lo g.hi g.fe g.ma g.u g.d g.n g.fr g.to) (q : IsLeast S k.lo k.hi k.fe k.ma k.u k.d k.n k.fr k.to) :
    IsLeast (fun r => R r ∨ S r) (endJ min g.ma k.ma g.lo k.lo) (endJ max g.ma k.ma g.hi k.hi) (min g.fe k.fe) (max g.ma k.ma) (g.u && k.u) (g.d && k.d) (g.n && k.n) (min g.fr k.fr) (max g.to k.to) := by
  have nilR : ∀ {R : List Int → Prop} {m : Int}, ((∃ r, R r ∧ (r.length : Int) = m) ∧ ∀ r, R r → (r.length : Int) ≤ m) → ((∀ r, R r → r = []) ↔ ¬ 0 < m) := fun {R m} hm => by
    constructor
    · intro e
      obtain ⟨r, h1, h2⟩ := hm.1
      rw [e r h1] at h2
      simp at h2
      omega
    · intro e r hr
      have := hm.2 r hr
      exact List.length_eq_zero_iff.mp (by omega)
  have nR := nilR h.ma
  have nS := nilR q.ma
  have top : ∀ {A : Type} {f : (List Int) → Int} {R S : List Int → Prop} {a b : Int}, ((∃ r, R r ∧ f r = a) ∧ ∀ r, R r → f r ≤ a) → ((∃ r, S r ∧ f r = b) ∧ ∀ r, S r → f r ≤ b) → (∃ r, (R r ∨ S r) ∧ f r = max a b) ∧ ∀ r, (R r ∨ S r) → f r ≤ max a b := fun {A f R S a b} ⟨⟨r, r1, r2⟩, r3⟩ ⟨⟨s, s1, s2⟩, s3⟩ => by
    refine ⟨?_, fun z hz => ?_⟩
    · by_cases e : a ≤ b
      · exact ⟨s, .inr s1, by omega⟩
      · exact ⟨r, .inl r1, by omega⟩
    · rcases hz with hz | hz
      · have := r3 z hz; omega
      · have := s3 z hz; omega
  have bot : ∀ {A : Type} {f : (List Int) → Int} {R S : List Int → Prop} {a b : Int}, ((∃ r, R r ∧ f r = a) ∧ ∀ r, R r → a ≤ f r) → ((∃ r, S r ∧ f r = b) ∧ ∀ r, S r → b ≤ f r) → (∃ r, (R r ∨ S r) ∧ f r = min a b) ∧ ∀ r, (R r ∨ S r) → min a b ≤ f r := fun {A f R S a b} ⟨⟨r, r1, r2⟩, r3⟩ ⟨⟨s, s1, s2⟩, s3⟩ => by
    refine ⟨?_, fun z hz => ?_⟩
    · by_cases e : a ≤ b
      · exact ⟨r, .inl r1, by omega⟩
      · exact ⟨s, .inr s1, by omega⟩
    · rcases hz with hz | hz
      · have := r3 z hz; omega
      · have := s3 z hz; omega
  refine ⟨?_, ?_, bot (A := Unit) h.fe q.fe, top (A := Unit) h.ma q.ma, words_or h.u q.u, words_or h.d q.d, words_or h.n q.n, bot (A := Unit) h.fr q.fr, top (A := Unit) h.to q.to⟩
  · unfold endJ
    by_cases e1 : 0 < g.ma <;> by_cases e2 : 0 < k.ma <;> simp only [e1, e2, if_true, if_false]
    · obtain ⟨⟨r, r1, r2⟩, r3⟩ := h.lo.resolve_left fun z => nR.mp z.1 e1
      obtain ⟨⟨s, s1, s2⟩, s3⟩ := q.lo.resolve_left fun z => nS.mp z.1 e2
      refine .inr ⟨?_, fun z hz x hx => ?_⟩
      · by_cases e : g.lo ≤ k.lo
        · exact ⟨r, .inl r1, by rw [show min g.lo k.lo = g.lo by omega]; exact r2⟩
        · exact ⟨s, .inr s1, by rw [show min g.lo k.lo = k.lo by omega]; exact s2⟩
      · rcases hz with hz | hz
        · have := r3 z hz x hx; omega
        · have := s3 z hz x hx; omega
    · obtain ⟨⟨r, r1, r2⟩, r3⟩ := h.lo.resolve_left fun z => nR.mp z.1 e1
      refine .inr ⟨⟨r, .inl r1, r2⟩, fun z hz x hx => ?_⟩
      rcases hz with hz | hz
      · exact r3 z hz x hx
      · rw [nS.mpr e2 z hz] at hx; cases hx
    · obtain ⟨⟨s, s1, s2⟩, s3⟩ := q.lo.resolve_left fun z => nS.mp z.1 e2
      refine .inr ⟨⟨s, .inr s1, s2⟩, fun z hz x hx => ?_⟩
      rcases hz with hz | hz
      · rw [nR.mpr e1 z hz] at hx; cases hx
      · exact s3 z hz x hx
    · exact .inl ⟨fun z hz => hz.elim (nR.mpr e1 z) (nS.mpr e2 z), trivial⟩
  · unfold endJ
    by_cases e1 : 0 < g.ma <;> by_cases e2 : 0 < k.ma <;> simp only [e1, e2, if_true, if_false]
    · obtain ⟨⟨r, r1, r2⟩, r3⟩ := h.hi.resolve_left fun z => nR.mp z.1 e1
      obtain ⟨⟨s, s1, s2⟩, s3⟩ := q.hi.resolve_left fun z => nS.mp z.1 e2
      refine .inr ⟨?_, fun z hz x hx => ?_⟩
      · by_cases e : g.hi ≤ k.hi
        · exact ⟨s, .inr s1, by rw [show max g.hi k.hi = k.hi by omega]; exact s2⟩
        · exact ⟨r, .inl r1, by rw [show max g.hi k.hi = g.hi by omega]; exact r2⟩
      · rcases hz with hz | hz
        · have := r3 z hz x hx; omega
        · have := s3 z hz x hx; omega
    · obtain ⟨⟨r, r1, r2⟩, r3⟩ := h.hi.resolve_left fun z => nR.mp z.1 e1
      refine .inr ⟨⟨r, .inl r1, r2⟩, fun z hz x hx => ?_⟩
      rcases hz with hz | hz
      · exact r3 z hz x hx
      · rw [nS.mpr e2 z hz] at hx; cases hx
    · obtain ⟨⟨s, s1, s2⟩, s3⟩ := q.hi.resolve_left fun z => nS.mp z.1 e2
      refine .inr ⟨⟨s, .inr s1, s2⟩, fun z hz x hx => ?_⟩
      rcases hz with hz | hz
      · rw [nR.mpr e1 z hz] at hx; cases hx
      · exact s3 z hz x hx
    · exact .inl ⟨fun z hz => hz.elim (nR.mpr e1 z) (nS.mpr e2 z), trivial⟩


theorem gLawHas {k : Kd} {r : List Int} (hl : r.length ≤ 1000) {τ : T2} {Q : SV → T2 → Prop} (h : Q (.d (.bool (k.B r))) τ) : FF__law_has [.d k.D, .d (tI r)] τ Q :=
  ⟨k.lo, k.hi, k.fe, k.ma, k.u, k.d, k.n, k.fr, k.to, r, rfl, hl, h⟩
theorem gLawNarrow {k : Kd} (hk : isKindD k.D = true) {τ : T2} {Q : SV → T2 → Prop} (h : ∀ g : Kd, FormOf k g → Q (.d g.D) τ) : FF__law_narrow [.d k.D] τ Q :=
  ⟨k.lo, k.hi, k.fe, k.ma, k.u, k.d, k.n, k.fr, k.to, rfl, hk, fun x h1 h2 => by
    obtain ⟨g, rfl, h3⟩ := form_of (k := k) h1 h2
    exact h g h3⟩
theorem gNarrowed {k : Kd} (hk : isKindD k.D = true) {τ : T2} {Q : SV → T2 → Prop} (h : ∀ g : Kd, FormOf k g → Q (.d g.D) τ) : FF_narrowed [.d k.D] τ Q :=
  ⟨k.lo, k.hi, k.fe, k.ma, k.u, k.d, k.n, k.fr, k.to, rfl, hk, fun x h1 h2 => by
    obtain ⟨g, rfl, h3⟩ := form_of (k := k) h1 h2
    exact h g h3⟩
def noneK : Kd := ⟨20, -20, 8, 0, true, true, true, 160, -160⟩
theorem noneK_D : noneK.D = nothingD := rfl
theorem noneK_kind : isKindD noneK.D = true := by decide +kernel
theorem noneK_no (r : List Int) : ¬ noneK.R r := fun h => by
  have := h.1
  simp only [noneK] at this
  omega
/-- the parts of g lie in those of k -/
def LiesP (g k : Kd) : Prop := (k.fe ≤ g.fe ∧ g.ma ≤ k.ma ∧ k.fr ≤ g.fr ∧ g.to ≤ k.to) ∧ ((k.u = true → g.u = true) ∧ (k.d = true → g.d = true) ∧ (k.n = true → g.n = true)) ∧ (g.ma = 0 ∨ k.lo ≤ g.lo ∧ g.hi ≤ k.hi)
theorem least_not_none {R : List Int → Prop} {g : Kd} (h : IsLeast R g.lo g.hi g.fe g.ma g.u g.d g.n g.fr g.to) : g ≠ noneK := fun e => by
  subst e
  obtain ⟨⟨r, h1, h2⟩, _⟩ := h.fe
  have := h.ma.2 r h1
  simp only [noneK] at h2 this
  omega
theorem FormOf.none_iff {a g : Kd} (h : FormOf a g) : g = noneK ↔ ∀ r, ¬ a.R r := by
  constructor
  · rintro rfl r hr
    exact noneK_no r ((h.rows r).mpr hr)
  · intro hn
    refine Kd.inj ?_
    rw [noneK_D]
    exact h.least.eq (.inl ⟨hn, rfl⟩)
theorem form_lies {a g k : Kd} (h : FormOf a g) : (g = noneK ∨ LiesP g k) ↔ ∀ r, a.R r → k.R r := by
  rcases h.parts with hn | hp
  · exact ⟨fun _ r hr => (hn r hr).elim, fun _ => .inl (h.none_iff.mpr hn)⟩
  · exact ⟨fun z => (lies_iff hp).mp (z.resolve_left (least_not_none hp)), fun z => .inr ((lies_iff hp).mpr z)⟩
theorem eqv_kD (g k : Kd) : PyData.eqv g.D k.D = true ↔ g = k := by
  obtain ⟨a1, a2, a3, a4, a5, a6, a7, a8, a9⟩ := g
  obtain ⟨b1, b2, b3, b4, b5, b6, b7, b8, b9⟩ := k
  simp only [Kd.D, kD, PyData.eqv, PyData.eqvAll, eqv_int, eqv_bool, Bool.and_true, Bool.and_eq_true, decide_eq_true_eq, beq_iff_eq, Kd.mk.injEq]
theorem eqOk_kD (g k : Kd) : eqOk g.D k.D = true := by
  unfold eqOk
  have : ∀ k : Kd, SeqAt.shaped k.D = true := fun k => by
    unfold Kd.D kD SeqAt.shaped
    rfl
  rw [this, this]
  simp
def FF_lies_in : FW T2 := fun rs τ Q => ∃ g k : Kd, rs = [.d g.D, .d k.D] ∧ ∀ b : Bool, (b = true ↔ g = noneK ∨ LiesP g k) → Q (.d (.bool b)) τ
def EitherD (R S : List Int → Prop) (j : Kd) : Prop := LeastD (fun r => R r ∨ S r) j.D ∧ isKindD j.D = true
def FF_joined : FW T2 := fun rs τ Q => ∃ (a b g k : Kd), rs = [.d g.D, .d k.D] ∧ FormOf a g ∧ FormOf b k ∧ ∀ j : Kd, EitherD a.R b.R j → Q (.d j.D) τ
theorem join_nothing {R S : List Int → Prop} {x : D} (hn : ∀ r, ¬ R r) (h : LeastD S x) : LeastD (fun r => R r ∨ S r) x := h.congr fun r => ⟨.inr, fun z => z.resolve_left (hn r)⟩
theorem join_nothing' {R S : List Int → Prop} {x : D} (hn : ∀ r, ¬ S r) (h : LeastD R x) : LeastD (fun r => R r ∨ S r) x := h.congr fun r => ⟨.inl, fun z => z.resolve_right (hn r)⟩
def joinK (g k : Kd) : Kd := ⟨endJ min g.ma k.ma g.lo k.lo, endJ max g.ma k.ma g.hi k.hi, min g.fe k.fe, max g.ma k.ma, g.u && k.u, g.d && k.d, g.n && k.n, min g.fr k.fr, max g.to k.to⟩
theorem joinK_kind {g k : Kd} (hg : isKindD g.D = true) (hk : isKindD k.D = true) : isKindD (joinK g k).D = true := by
  have h1 := kind_rng hg
  have h2 := kind_rng hk
  have e1 : -20 ≤ endJ min g.ma k.ma g.lo k.lo ∧ endJ min g.ma k.ma g.lo k.lo ≤ 20 := by
    unfold endJ
    split <;> split <;> omega
  have e2 : -20 ≤ endJ max g.ma k.ma g.hi k.hi ∧ endJ max g.ma k.ma g.hi k.hi ≤ 20 := by
    unfold endJ
    split <;> split <;> omega
  exact kind_kD e1 e2 (by dsimp only [joinK]; omega) (by dsimp only [joinK]; omega) (by dsimp only [joinK]; omega) (by dsimp only [joinK]; omega)
theorem join_form {a b g k : Kd} (hg : FormOf a g) (hk : FormOf b k) (h1 : ∃ r, a.R r) (h2 : ∃ r, b.R r) : EitherD a.R b.R (joinK g k) :=
  ⟨.inr ⟨_, _, _, _, _, _, _, _, _, join_least (hg.parts.resolve_left fun z => h1.elim z) (hk.parts.resolve_left fun z => h2.elim z), rfl⟩, joinK_kind hg.kind hk.kind⟩
theorem bothK_kind {g k : Kd} (hg : isKindD g.D = true) (hk : isKindD k.D = true) : isKindD (bothK g k).D = true := by
  have h1 := kind_rng hg
  have h2 := kind_rng hk
  exact kind_kD (by dsimp only [bothK]; omega) (by dsimp only [bothK]; omega) (by dsimp only [bothK]; omega) (by dsimp only [bothK]; omega) (by dsimp only [bothK]; omega) (by dsimp only [bothK]; omega)
theorem max_if (a b : Int) : (if b > a then b else a) = max a b := by split <;> omega
theorem min_if (a b : Int) : (if b < a then b else a) = min a b := by split <;> omega
def endsL (g k : Kd) : List (Int × Int) := if 0 < g.ma then (if 0 < k.ma then [(g.lo, g.hi), (k.lo, k.hi)] else [(g.lo, g.hi)]) else if 0 < k.ma then [(k.lo, k.hi)] else [(0, 0)]
theorem endsL_ne (g k : Kd) : endsL g k ≠ [] := by
  unfold endsL
  split <;> split <;> simp
theorem endsL_lo {g k : Kd} {m : Int} (h1 : m ∈ (endsL g k).map (·.1)) (h2 : ∀ y ∈ (endsL g k).map (·.1), m ≤ y) : m = endJ min g.ma k.ma g.lo k.lo := by
  unfold endsL endJ at *
  split <;> split <;> simp_all <;> omega
theorem endsL_hi {g k : Kd} {m : Int} (h1 : m ∈ (endsL g k).map (·.2)) (h2 : ∀ y ∈ (endsL g k).map (·.2), y ≤ m) : m = endJ max g.ma k.ma g.hi k.hi := by
  unfold endsL endJ at *
  split <;> split <;> simp_all <;> omega
theorem endsL_len (g k : Kd) : (endsL g k).length ≤ 2 := by
  unfold endsL
  split <;> split <;> simp
/-- what is told of two kinds -/
structure TwoOf (a b : Kd) (m e : Kd) : Prop where
  both : FormOf (bothK a b) m
  either : EitherD a.R b.R e
def rowsIn (rows : List (List Int)) : Prop := ∀ r ∈ rows, r.length ≤ 8 ∧ ∀ x ∈ r, -20 ≤ x ∧ x ≤ 20
def FF__law_least : FW T2 := fun rs τ Q => ∃ rows : List (List Int), rs = [.d (.list (rows.map tI))] ∧ rows.length ≤ 2000 ∧ rowsIn rows ∧ ∀ k : Kd, LeastD (fun r => r ∈ rows) k.D → isKindD k.D = true → Q (.d k.D) τ
def FF__law_wide : FW T2 := fun rs τ Q => ∃ (a : Addr) (b : Nat) (cs : List (Addr × Cel)), rs = [.raw (.ref a)] ∧ τ = ⟨.on a b, cs⟩ ∧ 60 ≤ b ∧ ∀ (k : Kd) (b' : Nat), isKindD k.D = true → b ≤ b' + 60 → Q (.d k.D) ⟨.on a b', cs⟩
def FF__law_together : FW T2 := fun rs τ Q => ∃ (a b : Kd) (w : Bool), rs = [.d a.D, .d b.D, .d (.bool w)] ∧ isKindD a.D = true ∧ isKindD b.D = true ∧ ∀ g : Kd, (if w = true then FormOf (bothK a b) g else EitherD a.R b.R g) → Q (.d g.D) τ
def FF__law_right : FW T2 := fun rs τ Q => ∃ (a b : Kd) (x : D), rs = [.d a.D, .d b.D, .d x] ∧ isKindD a.D = true ∧ isKindD b.D = true ∧
  (x = .none ∨ ∃ rows : List (List Int), x = .list (rows.map tI) ∧ rows.length ≤ 1000 ∧ rowsIn rows ∧ (∀ r, a.R r → r ∈ rows) ∧ ∀ r, b.R r → r ∈ rows) ∧ Q (.d (.bool true)) τ

theorem kAt_at {xs : List D} {k : Nat} {a : D} {Q : SV → Prop} (h : xs[k]? = some a) : kAt Q (atI xs (k : Int)) = Q (.d a) := by
  have hk := (List.getElem?_eq_some_iff.mp h).1
  unfold atI
  rw [ixN_at hk]
  show kAt Q (xs[k]?) = _
  rw [h]
  rfl
section
variable {a0 a1 a2 a3 a4 a5 a6 a7 a8 : D} {t : List D} {Q : SV → Prop}
theorem at_0 : kAt Q (atI (a0 :: t) 0) = Q (.d a0) := kAt_at (k := 0) rfl
theorem at_1 : kAt Q (atI (a0 :: a1 :: t) 1) = Q (.d a1) := kAt_at (k := 1) rfl
theorem at_2 : kAt Q (atI (a0 :: a1 :: a2 :: t) 2) = Q (.d a2) := kAt_at (k := 2) rfl
theorem at_3 : kAt Q (atI (a0 :: a1 :: a2 :: a3 :: t) 3) = Q (.d a3) := kAt_at (k := 3) rfl
theorem at_4 : kAt Q (atI (a0 :: a1 :: a2 :: a3 :: a4 :: t) 4) = Q (.d a4) := kAt_at (k := 4) rfl
theorem at_5 : kAt Q (atI (a0 :: a1 :: a2 :: a3 :: a4 :: a5 :: t) 5) = Q (.d a5) := kAt_at (k := 5) rfl
theorem at_6 : kAt Q (atI (a0 :: a1 :: a2 :: a3 :: a4 :: a5 :: a6 :: t) 6) = Q (.d a6) := kAt_at (k := 6) rfl
theorem at_7 : kAt Q (atI (a0 :: a1 :: a2 :: a3 :: a4 :: a5 :: a6 :: a7 :: t) 7) = Q (.d a7) := kAt_at (k := 7) rfl
theorem at_8 : kAt Q (atI (a0 :: a1 :: a2 :: a3 :: a4 :: a5 :: a6 :: a7 :: a8 :: t) 8) = Q (.d a8) := kAt_at (k := 8) rfl
end
section
variable {g : Kd} {Q : SV → Prop}
theorem kdIx_0 : gIx (.d g.D) (.d (.int 0)) Q = Q (.d (.int g.lo)) := gIx_t.trans at_0
theorem kdIx_1 : gIx (.d g.D) (.d (.int 1)) Q = Q (.d (.int g.hi)) := gIx_t.trans at_1
theorem kdIx_2 : gIx (.d g.D) (.d (.int 2)) Q = Q (.d (.int g.fe)) := gIx_t.trans at_2
theorem kdIx_3 : gIx (.d g.D) (.d (.int 3)) Q = Q (.d (.int g.ma)) := gIx_t.trans at_3
theorem kdIx_4 : gIx (.d g.D) (.d (.int 4)) Q = Q (.d (.bool g.u)) := gIx_t.trans at_4
theorem kdIx_5 : gIx (.d g.D) (.d (.int 5)) Q = Q (.d (.bool g.d)) := gIx_t.trans at_5
theorem kdIx_6 : gIx (.d g.D) (.d (.int 6)) Q = Q (.d (.bool g.n)) := gIx_t.trans at_6
theorem kdIx_7 : gIx (.d g.D) (.d (.int 7)) Q = Q (.d (.int g.fr)) := gIx_t.trans at_7
theorem kdIx_8 : gIx (.d g.D) (.d (.int 8)) Q = Q (.d (.int g.to)) := gIx_t.trans at_8
theorem kdSl_2 : gSl (.d g.D) none (some 2) Q = Q (.d (.tuple [.int g.lo, .int g.hi])) := rfl
end
section
variable {r : List Int} {Q : SV → Prop}
theorem gSumA_tI : gSumA [.d (tI r)] Q = Q (.d (.int r.sum)) := gSumA_t
theorem gLen_tI : gLen [.d (tI r)] Q = Q (.d (.int r.length)) := by rw [tI, gLen_t, List.length_map]
theorem seq_tI : SV.seq? (.d (tI r)) = some (r.map .int) := rfl
theorem seqd_1 {xs : List D} : SV.seqd? (.d (.list xs)) = some xs := rfl
theorem seqd_2 {xs : List D} : SV.seqd? (.d (.tuple xs)) = some xs := rfl
theorem seqd_3 {xs : List D} : SV.seqd? (.ol xs) = some xs := rfl
theorem seqd_4 {xs : List D} : SV.seqd? (.vw xs) = some xs := rfl
theorem seq_1 {xs : List D} : SV.seq? (.d (.list xs)) = some xs := rfl
theorem seq_2 {xs : List D} : SV.seq? (.d (.tuple xs)) = some xs := rfl
theorem seq_3 {z : Str} : SV.seq? (.d (.str z)) = some (z.cps.toList.map sg) := rfl
theorem seq_4 {xs : List D} : SV.seq? (.ol xs) = some xs := rfl
theorem seqd_tI : SV.seqd? (.d (tI r)) = some (r.map .int) := rfl
theorem lenSet_tI {T : Type} {Q : SV → T → Prop} {τ : T} : kLenSet Q (.d (tI r)) τ = (r.length ≤ 4000 ∧ Q (.d (.int ((dis r).length : Nat))) τ) := by
  unfold kLenSet
  have e : tupI? (.d (tI r)) = some r := by
    show ints? (r.map .int) = some r
    exact ints_map r
  rw [e]
  simp only [Option.some.injEq, exists_eq_left']
end
theorem eqv_intsL (a b : List Int) : PyData.eqv (.list (a.map .int)) (.list (b.map .int)) = decide (a = b) := by rw [PyData.eqv, eqvAll_ints]
theorem shaped_ints (a : List Int) : SeqAt.shaped (.list (a.map .int)) = true := shaped_list fun x hx => by
  obtain ⟨r, _, rfl⟩ := List.mem_map.mp hx
  exact ⟨rfl, by simp [PyData.depth]⟩
theorem eqOk_intsL (a b : List Int) : eqOk (.list (a.map .int)) (.list (b.map .int)) = true := by
  unfold eqOk
  rw [shaped_ints, shaped_ints]
  simp
theorem sorted_eq : ∀ {a b : List Int}, a.Perm b → a.Pairwise (· ≤ ·) → b.Pairwise (· ≤ ·) → a = b
  | [], b, h, _, _ => (List.nil_perm.mp h).symm
  | x :: a, [], h, _, _ => by simpa using h.length_eq
  | x :: a, y :: b, h, h1, h2 => by
    have e : x = y := by
      have m1 : x ∈ y :: b := h.mem_iff.mp List.mem_cons_self
      have m2 : y ∈ x :: a := h.mem_iff.mpr List.mem_cons_self
      rw [List.pairwise_cons] at h1 h2
      rcases List.mem_cons.mp m1 with e | m1
      · exact e
      · rcases List.mem_cons.mp m2 with e | m2
        · exact e.symm
        · have := h1.1 y m2
          have := h2.1 x m1
          omega
    subst e
    rw [sorted_eq (List.perm_cons x |>.mp h) (List.pairwise_cons.mp h1).2 (List.pairwise_cons.mp h2).2]
theorem rise_iff {ms r : List Int} (hp : ms.Perm r) (hs : ms.Pairwise (· ≤ ·)) : decide (r = ms) = pairsB leB r := by
  rw [Bool.eq_iff_iff, decide_eq_true_eq, pairs_pw]
  constructor
  · intro e
    rw [e]
    exact hs.imp fun h => decide_eq_true h
  · intro h
    exact (sorted_eq hp hs (h.imp fun h => of_decide_eq_true h)).symm
theorem fall_iff {ms r : List Int} (hp : ms.Perm r) (hs : ms.Pairwise (· ≤ ·)) : decide (r = ms.reverse) = pairsB geB r := by
  rw [Bool.eq_iff_iff, decide_eq_true_eq, pairs_pw]
  constructor
  · intro e
    rw [e, List.pairwise_reverse]
    exact hs.imp fun h => decide_eq_true h
  · intro h
    have h2 : r.reverse.Pairwise (· ≤ ·) := by
      rw [List.pairwise_reverse]
      exact h.imp fun h => of_decide_eq_true h
    rw [sorted_eq (hp.trans (List.reverse_perm r).symm) hs h2, List.reverse_reverse]
/-! tables of numbers -/
theorem putD_keys {m : List (Key × D)} {ks : List Int} {k : Int} {v : D} (h : m.map (·.1) = ks.map Sum.inl) : (putD m (.inl k) v).map (·.1) = (if k ∈ ks then ks else ks ++ [k]).map Sum.inl := by
  have e : (m.any fun kv => decide (kv.1 = Sum.inl k)) = decide (k ∈ ks) := by
    rw [Bool.eq_iff_iff, List.any_eq_true, decide_eq_true_eq]
    constructor
    · rintro ⟨p, hp, e⟩
      have e := of_decide_eq_true e
      have : p.1 ∈ m.map (·.1) := List.mem_map.mpr ⟨p, hp, rfl⟩
      rw [h, e] at this
      obtain ⟨z, hz, ez⟩ := List.mem_map.mp this
      cases ez
      exact hz
    · intro hk
      have : (Sum.inl k : Key) ∈ m.map (·.1) := by rw [h]; exact List.mem_map.mpr ⟨k, hk, rfl⟩
      obtain ⟨p, hp, e⟩ := List.mem_map.mp this
      exact ⟨p, hp, decide_eq_true e⟩
  unfold putD
  rw [e]
  by_cases hk : k ∈ ks
  · rw [if_pos (decide_eq_true hk), if_pos hk, ← h, List.map_map]
    refine List.map_congr_left fun p _ => ?_
    show (if p.1 = _ then _ else _ : Key × D).1 = p.1
    split <;> rfl
  · rw [if_neg (by simpa using hk), if_neg hk, List.map_append, h, List.map_append]
    rfl
theorem mergeD_keys : ∀ {more m : List (Key × D)} {ks xs : List Int}, m.map (·.1) = ks.map Sum.inl → ks.Nodup → more.map (·.1) = xs.map Sum.inl → ∃ ks' : List Int, (mergeD m more).map (·.1) = ks'.map Sum.inl ∧ ks'.Nodup ∧ ∀ x, x ∈ ks' ↔ x ∈ ks ∨ x ∈ xs
  | [], m, ks, xs, h, hn, e => by
    cases xs with
    | nil => exact ⟨ks, h, hn, fun x => by simp⟩
    | cons a b => cases e
  | p :: more, m, ks, xs, h, hn, e => by
    cases xs with
    | nil => cases e
    | cons a xs =>
      rw [List.map_cons, List.map_cons, List.cons.injEq] at e
      obtain ⟨k, v⟩ := p
      obtain ⟨e1, e2⟩ := e
      dsimp only at e1
      subst e1
      have h1 := putD_keys (v := v) (k := a) h
      have hn1 : (if a ∈ ks then ks else ks ++ [a]).Nodup := by
        split
        · exact hn
        · rename_i ha
          rw [List.nodup_append]
          refine ⟨hn, by simp, fun x hx y hy e => ?_⟩
          rw [List.mem_singleton.mp hy] at e
          exact ha (by rw [← e]; exact hx)
      obtain ⟨ks', g1, g2, g3⟩ := mergeD_keys h1 hn1 e2
      refine ⟨ks', g1, g2, fun x => (g3 x).trans ?_⟩
      split
      · rename_i ha
        simp only [List.mem_cons]
        constructor
        · rintro (z | z)
          · exact .inl z
          · exact .inr (.inr z)
        · rintro (z | z | z)
          · exact .inl z
          · exact .inl (by rw [z]; exact ha)
          · exact .inr z
      · simp only [List.mem_append, List.mem_cons, List.not_mem_nil, or_false, or_assoc]
theorem pairsD_ints : ∀ r : List Int, pairsD (r.map fun x => PyData.tuple [.int x, .bool true]) = some (r.map fun x => ((Sum.inl x : Key), PyData.bool true))
  | [] => rfl
  | x :: r => by
    rw [List.map_cons, pairsD, pairsD_ints r]
    rfl
/-! the least kind of the rows of several kinds -/
def endsM (fs : List Kd) : List (Int × Int) := (fs.filter fun f => decide (0 < f.ma)).map fun f => (f.lo, f.hi)
theorem join_many {fs : List Kd} (hne : fs ≠ []) (hf : ∀ f ∈ fs, IsLeast f.R f.lo f.hi f.fe f.ma f.u f.d f.n f.fr f.to) {lo hi fe ma : Int} {u d n : Bool} {fr to : Int}
    (hlo : (endsM fs = [] ∧ lo = 0) ∨ lo ∈ (endsM fs).map (·.1) ∧ ∀ y ∈ (endsM fs).map (·.1), lo ≤ y) (hhi : (endsM fs = [] ∧ hi = 0) ∨ hi ∈ (endsM fs).map (·.2) ∧ ∀ y ∈ (endsM fs).map (·.2), y ≤ hi)
    (hfe : fe ∈ fs.map (·.fe) ∧ ∀ y ∈ fs.map (·.fe), fe ≤ y) (hma : ma ∈ fs.map (·.ma) ∧ ∀ y ∈ fs.map (·.ma), y ≤ ma) (hu : u = true ↔ ∀ f ∈ fs, f.u = true) (hd : d = true ↔ ∀ f ∈ fs, f.d = true) (hn : n = true ↔ ∀ f ∈ fs, f.n = true)
    (hfr : fr ∈ fs.map (·.fr) ∧ ∀ y ∈ fs.map (·.fr), fr ≤ y) (hto : to ∈ fs.map (·.to) ∧ ∀ y ∈ fs.map (·.to), y ≤ to) : IsLeast (fun r => ∃ f ∈ fs, f.R r) lo hi fe ma u d n fr to := by
  have emp : endsM fs = [] → ∀ r, (∃ f ∈ fs, f.R r) → r = [] := fun e r ⟨f, h1, h2⟩ => by
    have e := List.filter_eq_nil_iff.mp (List.map_eq_nil_iff.mp e) f h1
    have := (hf f h1).ma.2 r h2
    have e : ¬ 0 < f.ma := fun z => e (decide_eq_true z)
    exact List.length_eq_zero_iff.mp (by omega)
  have inE : ∀ f ∈ fs, ∀ r, f.R r → r ≠ [] → (f.lo, f.hi) ∈ endsM fs := fun f h1 r h2 h3 => by
    refine List.mem_map.mpr ⟨f, List.mem_filter.mpr ⟨h1, decide_eq_true ?_⟩, rfl⟩
    have := (hf f h1).ma.2 r h2
    have := List.length_pos_iff.mpr h3
    omega
  have posE : ∀ p ∈ endsM fs, ∃ f ∈ fs, p = (f.lo, f.hi) ∧ ¬ ∀ r, f.R r → r = [] := fun p hp => by
    obtain ⟨f, h1, rfl⟩ := List.mem_map.mp hp
    obtain ⟨h1, h2⟩ := List.mem_filter.mp h1
    refine ⟨f, h1, rfl, fun z => ?_⟩
    obtain ⟨⟨r, h3, h4⟩, _⟩ := (hf f h1).ma
    rw [z r h3] at h4
    have := of_decide_eq_true h2
    simp at h4
    omega
  have bot : ∀ {g : Kd → Int} {h : List Int → Int} {z : Int}, (∀ f ∈ fs, (∃ r, f.R r ∧ h r = g f) ∧ ∀ r, f.R r → g f ≤ h r) → (z ∈ fs.map g ∧ ∀ y ∈ fs.map g, z ≤ y) → (∃ r, (∃ f ∈ fs, f.R r) ∧ h r = z) ∧ ∀ r, (∃ f ∈ fs, f.R r) → z ≤ h r := fun {g h z} hg hz => by
    obtain ⟨f, h1, e⟩ := List.mem_map.mp hz.1
    obtain ⟨⟨r, h2, h3⟩, _⟩ := hg f h1
    refine ⟨⟨r, ⟨f, h1, h2⟩, by rw [h3]; exact e⟩, fun r ⟨f, h1, h2⟩ => ?_⟩
    have := hz.2 _ (List.mem_map.mpr ⟨f, h1, rfl⟩)
    have := (hg f h1).2 r h2
    omega
  have top : ∀ {g : Kd → Int} {h : List Int → Int} {z : Int}, (∀ f ∈ fs, (∃ r, f.R r ∧ h r = g f) ∧ ∀ r, f.R r → h r ≤ g f) → (z ∈ fs.map g ∧ ∀ y ∈ fs.map g, y ≤ z) → (∃ r, (∃ f ∈ fs, f.R r) ∧ h r = z) ∧ ∀ r, (∃ f ∈ fs, f.R r) → h r ≤ z := fun {g h z} hg hz => by
    obtain ⟨f, h1, e⟩ := List.mem_map.mp hz.1
    obtain ⟨⟨r, h2, h3⟩, _⟩ := hg f h1
    refine ⟨⟨r, ⟨f, h1, h2⟩, by rw [h3]; exact e⟩, fun r ⟨f, h1, h2⟩ => ?_⟩
    have := hz.2 _ (List.mem_map.mpr ⟨f, h1, rfl⟩)
    have := (hg f h1).2 r h2
    omega
  have wor : ∀ {b : Bool} {g : Kd → Bool} {P : List Int → Prop}, (∀ f ∈ fs, g f = true ↔ ∀ r, f.R r → P r) → (b = true ↔ ∀ f ∈ fs, g f = true) → (b = true ↔ ∀ r, (∃ f ∈ fs, f.R r) → P r) := fun {b g P} hg hb => by
    rw [hb]
    exact ⟨fun h r ⟨f, h1, h2⟩ => (hg f h1).mp (h f h1) r h2, fun h f h1 => (hg f h1).mpr fun r hr => h r ⟨f, h1, hr⟩⟩
  refine ⟨?_, ?_, bot (fun f hm => (hf f hm).fe) hfe, top (fun f hm => (hf f hm).ma) hma, wor (fun f hm => (hf f hm).u) hu, wor (fun f hm => (hf f hm).d) hd, wor (fun f hm => (hf f hm).n) hn, bot (fun f hm => (hf f hm).fr) hfr, top (fun f hm => (hf f hm).to) hto⟩
  · rcases hlo with ⟨e, rfl⟩ | ⟨h1, h2⟩
    · exact .inl ⟨emp e, rfl⟩
    · obtain ⟨p, hp, rfl⟩ := List.mem_map.mp h1
      obtain ⟨f, h3, rfl, h4⟩ := posE p hp
      obtain ⟨⟨r, g1, g2⟩, _⟩ := (hf f h3).lo.resolve_left fun z => h4 z.1
      refine .inr ⟨⟨r, ⟨f, h3, g1⟩, g2⟩, fun r ⟨f', k1, k2⟩ x hx => ?_⟩
      have hr : r ≠ [] := fun z => by rw [z] at hx; cases hx
      have k3 := h2 _ (List.mem_map.mpr ⟨_, inE f' k1 r k2 hr, rfl⟩)
      have k4 := ((hf f' k1).lo.resolve_left fun z => hr (z.1 r k2)).2 r k2 x hx
      dsimp only at k3 ⊢
      omega
  · rcases hhi with ⟨e, rfl⟩ | ⟨h1, h2⟩
    · exact .inl ⟨emp e, rfl⟩
    · obtain ⟨p, hp, rfl⟩ := List.mem_map.mp h1
      obtain ⟨f, h3, rfl, h4⟩ := posE p hp
      obtain ⟨⟨r, g1, g2⟩, _⟩ := (hf f h3).hi.resolve_left fun z => h4 z.1
      refine .inr ⟨⟨r, ⟨f, h3, g1⟩, g2⟩, fun r ⟨f', k1, k2⟩ x hx => ?_⟩
      have hr : r ≠ [] := fun z => by rw [z] at hx; cases hx
      have k3 := h2 _ (List.mem_map.mpr ⟨_, inE f' k1 r k2 hr, rfl⟩)
      have k4 := ((hf f' k1).hi.resolve_left fun z => hr (z.1 r k2)).2 r k2 x hx
      dsimp only at k3 ⊢
      omega
/-- the forms that have rows -/
theorem forms_some {a b g k : Kd} (hg : FormOf a g) (hk : FormOf b k) : ∀ f ∈ [g, k].filter (fun k => decide (k.fe ≤ k.ma)), isKindD f.D = true ∧ IsLeast f.R f.lo f.hi f.fe f.ma f.u f.d f.n f.fr f.to := by
  have one : ∀ {a g : Kd}, FormOf a g → g.fe ≤ g.ma → isKindD g.D = true ∧ IsLeast g.R g.lo g.hi g.fe g.ma g.u g.d g.n g.fr g.to := fun {a g} h hl => by
    refine ⟨h.kind, ?_⟩
    have hp := h.parts.resolve_left fun z => by
      have e := h.none_iff.mpr z
      subst e
      simp only [noneK] at hl
      omega
    have e : g.R = a.R := funext fun r => propext (h.rows r)
    rw [e]
    exact hp
  intro f hf
  obtain ⟨h1, h2⟩ := List.mem_filter.mp hf
  have h2 := of_decide_eq_true h2
  simp only [List.mem_cons, List.not_mem_nil, or_false] at h1
  rcases h1 with rfl | rfl
  · exact one hg h2
  · exact one hk h2
theorem forms_rows {a b g k : Kd} (hg : FormOf a g) (hk : FormOf b k) (r : List Int) : (∃ f ∈ [g, k].filter (fun k => decide (k.fe ≤ k.ma)), f.R r) ↔ a.R r ∨ b.R r := by
  constructor
  · rintro ⟨f, hf, hr⟩
    obtain ⟨h1, _⟩ := List.mem_filter.mp hf
    simp only [List.mem_cons, List.not_mem_nil, or_false] at h1
    rcases h1 with rfl | rfl
    · exact .inl ((hg.rows r).mp hr)
    · exact .inr ((hk.rows r).mp hr)
  · rintro (h | h)
    · have h := (hg.rows r).mpr h
      refine ⟨g, List.mem_filter.mpr ⟨by simp, decide_eq_true ?_⟩, h⟩
      have := h.1
      omega
    · have h := (hk.rows r).mpr h
      refine ⟨k, List.mem_filter.mpr ⟨by simp, decide_eq_true ?_⟩, h⟩
      have := h.1
      omega
theorem eqOk_kds (ks : List Kd) : eqOk (.list (ks.map Kd.D)) (.list []) = true := eqOk_nil _ fun y hy => by
  obtain ⟨k, _, rfl⟩ := List.mem_map.mp hy
  exact ⟨rfl, by simp [Kd.D, kD, PyData.depth, PyData.depthAll]⟩
theorem leastD_has {R : List Int → Prop} {j : Kd} (h : LeastD R j.D) {r : List Int} (hr : R r) : j.R r := by
  rcases h with ⟨h, _⟩ | ⟨lo, hi, fe, ma, u, d, n, fr, to, h, e⟩
  · exact (h r hr).elim
  · cases Kd.inj (k := j) (j := ⟨lo, hi, fe, ma, u, d, n, fr, to⟩) e
    exact (lies_iff (g := ⟨lo, hi, fe, ma, u, d, n, fr, to⟩) (k := ⟨lo, hi, fe, ma, u, d, n, fr, to⟩) h).mp ⟨⟨Int.le_refl _, Int.le_refl _, Int.le_refl _, Int.le_refl _⟩, ⟨id, id, id⟩, .inr ⟨Int.le_refl _, Int.le_refl _⟩⟩ r hr
theorem either_same {a b k e : Kd} (he : EitherD a.R b.R e) (hk : FormOf b k) : e.D.shown = k.D.shown ↔ ∀ r, a.R r → b.R r := by
  constructor
  · intro z r hr
    have z := Kd.inj (Kd.shown_inj he.2 hk.kind z)
    subst z
    exact (hk.rows r).mp (leastD_has he.1 (.inl hr))
  · intro z
    rw [LeastD.eq (R := b.R) (he.1.congr fun r => ⟨fun y => y.elim (z r) id, .inr⟩) hk.least]
theorem kd_rb {k : Kd} (h : isKindD k.D = true) : Rb 1 2000 k.D := by
  have r := kind_rng h
  have I : ∀ i : Int, -160 ≤ i → i ≤ 160 → Rb 0 200 (.int i) := fun i h1 h2 => Rb.int (by omega)
  have B : ∀ b : Bool, Rb 0 200 (.bool b) := fun b => (Rb.bool b).le (Nat.le_refl _) (by decide)
  refine (Rb.tup (m := 0) (w := 200) (n := 9) (xs := [.int k.lo, .int k.hi, .int k.fe, .int k.ma, .bool k.u, .bool k.d, .bool k.n, .int k.fr, .int k.to]) (fun x hx => ?_) (Nat.le_refl 9)).le (Nat.le_refl _) (by decide)
  simp only [List.mem_cons, List.not_mem_nil, or_false] at hx
  rcases hx with rfl | rfl | rfl | rfl | rfl | rfl | rfl | rfl | rfl
  · exact I _ (by omega) (by omega)
  · exact I _ (by omega) (by omega)
  · exact I _ (by omega) (by omega)
  · exact I _ (by omega) (by omega)
  · exact B _
  · exact B _
  · exact B _
  · exact I _ (by omega) (by omega)
  · exact I _ (by omega) (by omega)
theorem rep_told {c : Bool} {m e : Kd} (hm : isKindD m.D = true) (he : isKindD e.D = true) : reprOk (.list [.bool c, m.D, e.D]) := by
  refine (Rb.lst (m := 1) (w := 2000) (n := 3) (xs := [.bool c, m.D, e.D]) (fun x hx => ?_) (Nat.le_refl 3)).rep (by decide) (by decide)
  simp only [List.mem_cons, List.not_mem_nil, or_false] at hx
  rcases hx with rfl | rfl | rfl
  · exact (Rb.bool c).le (by decide) (by decide)
  · exact kd_rb hm
  · exact kd_rb he
def allK : Kd := ⟨-20, 20, 0, 8, false, false, false, -160, 160⟩
theorem allK_lit : PyData.tuple [.int (-20), .int 20, .int 0, .int 8, .bool false, .bool false, .bool false, .int (-160), .int 160] = allK.D := rfl
theorem allK_kind : isKindD allK.D = true := by decide +kernel
/-- rows of a window -/
def winR (lo : Int) (w m : Nat) (r : List Int) : Prop := r.length ≤ m ∧ ∀ x ∈ r, lo ≤ x ∧ x < lo + w
theorem kind_win {k : Kd} {lo : Int} {w m : Nat} (h1 : lo ≤ k.lo) (h2 : k.hi < lo + w) (h3 : k.ma ≤ m) (r : List Int) (h : k.R r) : winR lo w m r :=
  ⟨by have := h.1; omega, fun x hx => by have := h.2.2.1 x hx; omega⟩
theorem either_win {a b e : Kd} {lo : Int} {w m : Nat} (ha : ∀ r, a.R r → winR lo w m r) (hb : ∀ r, b.R r → winR lo w m r) (he : EitherD a.R b.R e) (r : List Int) (h : e.R r) : winR lo w m r := by
  have hu : ∀ r, (a.R r ∨ b.R r) → winR lo w m r := fun r z => z.elim (ha r) (hb r)
  rcases he.1 with ⟨_, z⟩ | ⟨lo', hi', fe', ma', u', d', n', fr', to', z, y⟩
  · have z := Kd.inj (j := noneK) z
    subst z
    exact (noneK_no r h).elim
  · cases Kd.inj (k := e) (j := ⟨lo', hi', fe', ma', u', d', n', fr', to'⟩) y
    obtain ⟨⟨q, q1, q2⟩, _⟩ := z.ma
    have h1 := h.1
    dsimp only at h1
    have w1 := (hu q q1).1
    refine ⟨by omega, fun x hx => ?_⟩
    have hp := List.length_pos_of_mem hx
    have hn : ¬ ∀ r, (a.R r ∨ b.R r) → r = [] := fun y => by
      rw [y q q1] at q2
      simp at q2
      omega
    obtain ⟨⟨q3, q4, q5⟩, _⟩ := z.lo.resolve_left fun y => hn y.1
    obtain ⟨⟨q6, q7, q8⟩, _⟩ := z.hi.resolve_left fun y => hn y.1
    have w2 := (hu q3 q4).2 _ q5
    have w3 := (hu q6 q7).2 _ q8
    have h2 := h.2.2.1 x hx
    dsimp only at h2
    omega
def pK (p : Kd × Kd) : D := .tuple [p.1.D, p.2.D]
theorem count_all {fs : List Kd} (f : Kd → Bool) : decide ((((fs.map f).count true : Nat) : Int) = (fs.length : Int)) = true ↔ ∀ k ∈ fs, f k = true := by
  rw [decide_eq_true_eq]
  have e : (((fs.map f).count true : Nat) : Int) = (fs.length : Int) ↔ (fs.map f).count true = (fs.map f).length := by
    rw [List.length_map]
    omega
  rw [e, List.count_eq_length]
  simp
theorem cut_ends (E : List D) (z : D) : cutL (E ++ [z]) none (some (if ((E ++ [z]).length : Int) - 1 > 1 then ((E ++ [z]).length : Int) - 1 else 1)) = if E = [] then [z] else E := by
  have e : (if ((E ++ [z]).length : Int) - 1 > 1 then ((E ++ [z]).length : Int) - 1 else 1) = ((max 1 E.length : Nat) : Int) := by
    rw [List.length_append, List.length_singleton]
    split <;> omega
  rw [e, cut_pre]
  cases E with
  | nil => rfl
  | cons a t =>
    rw [if_neg (by simp), show max 1 (a :: t).length = (a :: t).length by simp only [List.length_cons]; omega, List.take_left]
theorem kind_many {fs : List Kd} (hf : ∀ f ∈ fs, isKindD f.D = true) {lo hi fe ma : Int} {u d n : Bool} {fr to : Int}
    (hlo : lo = 0 ∨ lo ∈ (endsM fs).map (·.1)) (hhi : hi = 0 ∨ hi ∈ (endsM fs).map (·.2)) (hfe : fe ∈ fs.map (·.fe)) (hma : ma ∈ fs.map (·.ma)) (hfr : fr ∈ fs.map (·.fr)) (hto : to ∈ fs.map (·.to)) : isKindD (kD lo hi fe ma u d n fr to) = true := by
  have inE : ∀ p ∈ endsM fs, ∃ f ∈ fs, p = (f.lo, f.hi) := fun p hp => by
    obtain ⟨f, h1, rfl⟩ := List.mem_map.mp hp
    exact ⟨f, (List.mem_filter.mp h1).1, rfl⟩
  obtain ⟨f1, m1, rfl⟩ := List.mem_map.mp hfe
  obtain ⟨f2, m2, rfl⟩ := List.mem_map.mp hma
  obtain ⟨f3, m3, rfl⟩ := List.mem_map.mp hfr
  obtain ⟨f4, m4, rfl⟩ := List.mem_map.mp hto
  have r1 := kind_rng (hf f1 m1)
  have r2 := kind_rng (hf f2 m2)
  have r3 := kind_rng (hf f3 m3)
  have r4 := kind_rng (hf f4 m4)
  refine kind_kD ?_ ?_ (by omega) (by omega) (by omega) (by omega)
  · rcases hlo with rfl | h
    · omega
    · obtain ⟨p, hp, rfl⟩ := List.mem_map.mp h
      obtain ⟨f, hf1, rfl⟩ := inE p hp
      have := kind_rng (hf f hf1)
      dsimp only
      omega
  · rcases hhi with rfl | h
    · omega
    · obtain ⟨p, hp, rfl⟩ := List.mem_map.mp h
      obtain ⟨f, hf1, rfl⟩ := inE p hp
      have := kind_rng (hf f hf1)
      dsimp only
      omega
theorem at_first {l t : List Int} {lo : Int} {Q : SV → Prop} (e : l = lo :: t) (q : Q (.d (.int lo))) : kAt Q (atI (l.map PyData.int) 0) := by
  subst e
  rw [List.map_cons, at_0]
  exact q
theorem at_last {l i : List Int} {hi : Int} {Q : SV → Prop} (e : l = i ++ [hi]) (q : Q (.d (.int hi))) : kAt Q (atI (l.map PyData.int) (-1)) := by
  subst e
  rw [List.map_append, List.map_cons, List.map_nil, atI_lst]
  exact q
theorem ks_len {ks : List Int} (hn : ks.Nodup) (h : ∀ x ∈ ks, -20 ≤ x ∧ x ≤ 20) : ks.length ≤ 41 := by
  have := nodup_le hn (b := span (-20) 20) fun x hx => mem_span.mpr (h x hx)
  rwa [span_len] at this
theorem noneK_lit : PyData.tuple [.int 20, .int (-20), .int 8, .int 0, .bool true, .bool true, .bool true, .int 160, .int (-160)] = noneK.D := rfl

theorem eqOk_ints (L : List Int) : eqOk (.list (L.map .int)) (.list []) = true := eqOk_nil _ fun y hy => by
  obtain ⟨x, _, rfl⟩ := List.mem_map.mp hy
  exact ⟨rfl, by simp [PyData.depth]⟩

local macro_rules | `(tactic| walk_at "Y") => `(tactic| (simp only [allK_lit, gSumA_tI, gLen_tI, seq_tI, seqd_tI, lenSet_tI, Int.reduceEq, Int.reduceLT, Int.reduceLE, Int.reduceAdd, Int.reduceSub, decide_false, Bool.or_true, Bool.false_or, szl, kForN_e, kLcY_e, kLcN_e, lcW_n, forW_n, at_0, at_1, at_2, at_3, at_4, at_5, at_6, at_7, at_8, kdIx_0, kdIx_1, kdIx_2, kdIx_3, kdIx_4, kdIx_5, kdIx_6, kdIx_7, kdIx_8, kdSl_2, noneK_lit, dExtT_k, kExtT_1, kExT_1, dIsi2_k, kIsi2B_k, kTy2_s, dRg1_k, kRg1B_k, dAsgL_k, kUnl_1, kUnl_2, kUnl2_1, dCnt_k, kCnt1_1, kCnt1_2, kCnt1_3, dNewD_k, dUpdD_k, kUpd0_1, dSrtD_k, kSrt0_1, dNe0_k, kNe0_1, dCallV_k, dCallVX_k, dRg_k, kRgA, kRgB_k, dNil3_k, dRevT_k, kRevT_k, gSumA_t, gSumA_l, gSumA_ol, gSumA_vw, dGIndex_k, gAbs_i, dMnD_k, dCallX_k, kCallX, dIsX_k, dLam_k, dRaise_k, dLenSet_k, dRev_k, kRev_1, kRev_2, kRev_3, gReprE_e, gReprE_s, gReprE_i, gReprE_b, gReprE_n, gReprE_l, gReprE_t, gReprE_ol, gReprE_vw, gBits_k, dRng3_k, kAu_i, kAug_1, gTupC_k, gLstC_k, kSe_1, gIn_sf, gIn_st, gIn_tf, gIn_tt, flatD_none, flatD_int, flatD_str, flatD_bool, List.any_cons, List.any_nil, Bool.or_false, dOwn_k, kOw_1, kOw_2, kOw_3, kEx_1, kExt_1, dExt_k, kSI4_1, kSI3_1, kSI2_1, kSI1, kSetI_1, dSetI_k, kEn_k, dEnum_k, kEn2_l, kEn2_t, dEnum2_k, kZp_l, kZp_u, dZip_k, gMulA_i, gMulA_s, dVar_k, dC_k, dRaw_k, dOp_k, dT_k, kChB_t, kChB_f, dChain_k, dTru_k, kAndT_t, kAndT_f, kOrT_t, kOrT_f, dAndT_k, dOrT_k, dNotT_k, dAnd_k, dOr_k, dNot_k, kIf_t, kIf_f, dIf_k, dNil_k, dCons_k, dTup_k, dLst_k, dCB_k, dCall_k, dNext_k, dSeq_k, dBreak_k, dCont_k, dNever_k, dDrop_k, dRet_k, dRetN_k, kIfS_t, kIfS_f, dIfS_k, dSet_k, dAsg_k, dPar_k, kPar_k, dApp_k, dFrz_k, dSeqI_k, dRng1_k, dRng2_k, kR1_k, kR2_k, dFor_k, dLc_k, dYes_k, kTurn_t, kTurn_f, dSl_k, dNoPart_k, dPart_k, dUn_k, dEmp_k, dM1_k, kM1_k, gI_k, gAdd_i, gAdd_s, gAdd_t, gAdd_ll, gAdd_lo, gAdd_ol, gAdd_oo, gAdd_vo, gAdd_ov, gAdd_vv, gEq_k, gNe_k, gCmp_i, gCmp_s, gIsN_d, gNotN_d, gIsN_ol, gNotN_ol, gIsN_vw, gNotN_vw, gIx_s, gIx_t, gIx_l, gIx_ol, gIx_vw, gSl_s, gSl_t, gSl_l, gSl_ol, gSl_vw, gLen_s, gLen_t, gLen_l, gLen_ol, gLen_vw, gIsi_k, gAll_d, gAll_ol, gAny_d, gAny_ol, gInt_i, gInt_b, gInt_s, gII_k, gNeg_k, gJoin_ol, gJoin_l, gJoin_t, gJoin_vw, gMul_i, gMul_s, kG, kV_1, kV_2, kV_3, kOp2, kOp1, kTb_1, kTb_2, kT, kCh3, kCh4, kCh2, kCh1, kTru, kNotT, kAndB_1, kAndB_2, kAndB_3, kOrB_1, kOrB_2, kOrB_3, kAnd, kOr, kNotB_1, kNotB_2, kNot, kCo2, kCoB_1, kCoB_2, kCo, kTupB_1, kTupB_2, kTup, kLstB_1, kLstB_2, kLst, kCB, kCall, kNx, kDrop, kRet, kStB_1, kStB_2, kSet, kEnv_1, kEnv_2, kAsB_1, kAsB_2, kAsg, kApD_1, kApD_2, kAp, kApp_1, kFrz_1, kFrz_2, kSqB_1, kSqB_2, kSq, kFor, kOl, kLc, kDt_1, kDt_2, kDat, kTgB_1, kTgB_2, kFtB_1, kFtB_2, kSl3, kSl2, kSl1, kPtB_1, kPtB_2, kPt, kUn, kM2, kEq2_1, kEq2_2, kEq1_1, kEq1_2, kIsB_1, kIsB_2, kAtS_1, kAtS_2, kAt_1, kAt_2, kTy_1, kTy_2, kBls_1, kBls_2, kJn_1, kJn_2,
  SV.arg, SV.dat?, SV.sto, SV.out, SV.dr, SV.truth, SV.lst?, seqd_1, seqd_2, seqd_3, seqd_4, SV.now?, seq_1, seq_2, seq_3, seq_4, SV.isN, SV.size?, SV.tyN, SV.bl?, SV.int?, tyNs_none, tyNs_bool, tyNs_int, tyNs_str, tyNs_list, tyNs_tuple, tyNs_dict, tyCs, isTs, szs, noC_t, eqOks_none_none, eqOks_none_int, eqOks_int_none, eqOks_none_bool, eqOks_bool_none, eqOks_none_str, eqOks_str_none, eqOks_int_int, eqOks_bool_bool, eqOks_str_str, eqOks_int_str, eqOks_str_int, eqOks_bool_str, eqOks_str_bool, eqv_int, eqv_bool, eqv_none_none, eqv_none_bool, eqv_none_int, eqv_none_str, eqv_none_list, eqv_none_tuple, eqv_bool_none, eqv_bool_str, eqv_bool_list, eqv_bool_tuple, eqv_int_none, eqv_int_str, eqv_int_list, eqv_int_tuple, eqv_str_none, eqv_str_bool, eqv_str_int, eqv_str_list, eqv_str_tuple, eqv_list_none, eqv_list_bool, eqv_list_int, eqv_list_str, eqv_list_tuple, eqv_tuple_none, eqv_tuple_bool, eqv_tuple_int, eqv_tuple_str, eqv_tuple_list, allD,
  tgE, tgEs, wipeE, List.map_cons, List.map_nil, List.getElem?_cons_zero, List.getElem?_cons_succ, List.set_cons_zero, List.set_cons_succ, List.all_cons, List.all_nil, Bool.and_true, Bool.and_self, Option.map_some, Option.bind_some, List.cons_append, List.nil_append, List.length_cons, List.length_nil, List.replicate, Nat.reduceAdd, Nat.reduceSub, Nat.reduceLeDiff, Nat.reduceMul,
  Bool.not_true, Bool.not_false, Bool.false_xor, Bool.true_xor, true_and, and_true, beq_self_eq_true, eq_self, decide_true, Bool.true_and, Bool.false_and, Nat.zero_le, List.isEmpty_cons, List.isEmpty_nil]))
/-! the simplest steps of a reading -/

local macro_rules | `(tactic| walk_at "X") => `(tactic| (try simp only [allK_lit, gSumA_tI, gLen_tI, seq_tI, seqd_tI, lenSet_tI, Int.reduceEq, Int.reduceLT, Int.reduceLE, Int.reduceAdd, Int.reduceSub, decide_false, Bool.or_true, Bool.false_or, szl, kForN_e, kLcY_e, kLcN_e, lcW_n, forW_n, at_0, at_1, at_2, at_3, at_4, at_5, at_6, at_7, at_8, kdIx_0, kdIx_1, kdIx_2, kdIx_3, kdIx_4, kdIx_5, kdIx_6, kdIx_7, kdIx_8, kdSl_2, noneK_lit, dExtT_k, kExtT_1, kExT_1, dIsi2_k, kIsi2B_k, kTy2_s, dRg1_k, kRg1B_k, dAsgL_k, kUnl_1, kUnl_2, kUnl2_1, dCnt_k, kCnt1_1, kCnt1_2, kCnt1_3, dNewD_k, dUpdD_k, kUpd0_1, dSrtD_k, kSrt0_1, dNe0_k, kNe0_1, dCallV_k, dCallVX_k, dRg_k, kRgA, kRgB_k, dNil3_k, dRevT_k, kRevT_k, gSumA_t, gSumA_l, gSumA_ol, gSumA_vw, dGIndex_k, gAbs_i, dMnD_k, dCallX_k, kCallX, dIsX_k, dLam_k, dRaise_k, dLenSet_k, dRev_k, kRev_1, kRev_2, kRev_3, gReprE_e, gReprE_s, gReprE_i, gReprE_b, gReprE_n, gReprE_l, gReprE_t, gReprE_ol, gReprE_vw, gBits_k, dRng3_k, kAu_i, kAug_1, gTupC_k, gLstC_k, kSe_1, gIn_sf, gIn_st, gIn_tf, gIn_tt, flatD_none, flatD_int, flatD_str, flatD_bool, List.any_cons, List.any_nil, Bool.or_false, dOwn_k, kOw_1, kOw_2, kOw_3, kEx_1, kExt_1, dExt_k, kSI4_1, kSI3_1, kSI2_1, kSI1, kSetI_1, dSetI_k, kEn_k, dEnum_k, kEn2_l, kEn2_t, dEnum2_k, kZp_l, kZp_u, dZip_k, gMulA_i, gMulA_s, dVar_k, dC_k, dRaw_k, dOp_k, dT_k, kChB_t, kChB_f, dChain_k, dTru_k, kAndT_t, kAndT_f, kOrT_t, kOrT_f, dAndT_k, dOrT_k, dNotT_k, dAnd_k, dOr_k, dNot_k, kIf_t, kIf_f, dIf_k, dNil_k, dCons_k, dTup_k, dLst_k, dCB_k, dCall_k, dNext_k, dSeq_k, dBreak_k, dCont_k, dNever_k, dDrop_k, dRet_k, dRetN_k, kIfS_t, kIfS_f, dIfS_k, dSet_k, dAsg_k, dPar_k, kPar_k, dApp_k, dFrz_k, dSeqI_k, dRng1_k, dRng2_k, kR1_k, kR2_k, dFor_k, dLc_k, dYes_k, kTurn_t, kTurn_f, dSl_k, dNoPart_k, dPart_k, dUn_k, dEmp_k, dM1_k, kM1_k, gI_k, gAdd_i, gAdd_s, gAdd_t, gAdd_ll, gAdd_lo, gAdd_ol, gAdd_oo, gAdd_vo, gAdd_ov, gAdd_vv, gEq_k, gNe_k, gCmp_i, gCmp_s, gIsN_d, gNotN_d, gIsN_ol, gNotN_ol, gIsN_vw, gNotN_vw, gIx_s, gIx_t, gIx_l, gIx_ol, gIx_vw, gSl_s, gSl_t, gSl_l, gSl_ol, gSl_vw, gLen_s, gLen_t, gLen_l, gLen_ol, gLen_vw, gIsi_k, gAll_d, gAll_ol, gAny_d, gAny_ol, gInt_i, gInt_b, gInt_s, gII_k, gNeg_k, gJoin_ol, gJoin_l, gJoin_t, gJoin_vw, gMul_i, gMul_s, kG, kV_1, kV_2, kV_3, kOp2, kOp1, kTb_1, kTb_2, kT, kCh3, kCh4, kCh2, kCh1, kTru, kNotT, kAndB_1, kAndB_2, kAndB_3, kOrB_1, kOrB_2, kOrB_3, kAnd, kOr, kNotB_1, kNotB_2, kNot, kCo2, kCoB_1, kCoB_2, kCo, kTupB_1, kTupB_2, kTup, kLstB_1, kLstB_2, kLst, kCB, kCall, kNx, kDrop, kRet, kStB_1, kStB_2, kSet, kEnv_1, kEnv_2, kAsB_1, kAsB_2, kAsg, kApD_1, kApD_2, kAp, kApp_1, kFrz_1, kFrz_2, kSqB_1, kSqB_2, kSq, kFor, kOl, kLc, kDt_1, kDt_2, kDat, kTgB_1, kTgB_2, kFtB_1, kFtB_2, kSl3, kSl2, kSl1, kPtB_1, kPtB_2, kPt, kUn, kM2, kEq2_1, kEq2_2, kEq1_1, kEq1_2, kIsB_1, kIsB_2, kAtS_1, kAtS_2, kAt_1, kAt_2, kTy_1, kTy_2, kBls_1, kBls_2, kJn_1, kJn_2,
  SV.arg, SV.dat?, SV.sto, SV.out, SV.dr, SV.truth, SV.lst?, seqd_1, seqd_2, seqd_3, seqd_4, SV.now?, seq_1, seq_2, seq_3, seq_4, SV.isN, SV.size?, SV.tyN, SV.bl?, SV.int?, tyNs_none, tyNs_bool, tyNs_int, tyNs_str, tyNs_list, tyNs_tuple, tyNs_dict, tyCs, isTs, szs, noC_t, eqOks_none_none, eqOks_none_int, eqOks_int_none, eqOks_none_bool, eqOks_bool_none, eqOks_none_str, eqOks_str_none, eqOks_int_int, eqOks_bool_bool, eqOks_str_str, eqOks_int_str, eqOks_str_int, eqOks_bool_str, eqOks_str_bool, eqv_int, eqv_bool, eqv_none_none, eqv_none_bool, eqv_none_int, eqv_none_str, eqv_none_list, eqv_none_tuple, eqv_bool_none, eqv_bool_str, eqv_bool_list, eqv_bool_tuple, eqv_int_none, eqv_int_str, eqv_int_list, eqv_int_tuple, eqv_str_none, eqv_str_bool, eqv_str_int, eqv_str_list, eqv_str_tuple, eqv_list_none, eqv_list_bool, eqv_list_int, eqv_list_str, eqv_list_tuple, eqv_tuple_none, eqv_tuple_bool, eqv_tuple_int, eqv_tuple_str, eqv_tuple_list, allD,
  tgE, tgEs, wipeE, List.map_cons, List.map_nil, List.getElem?_cons_zero, List.getElem?_cons_succ, List.set_cons_zero, List.set_cons_succ, List.all_cons, List.all_nil, Bool.and_true, Bool.and_self, Option.map_some, Option.bind_some, List.cons_append, List.nil_append, List.length_cons, List.length_nil, List.replicate, Nat.reduceAdd, Nat.reduceSub, Nat.reduceLeDiff, Nat.reduceMul,
  Bool.not_true, Bool.not_false, Bool.false_xor, Bool.true_xor, true_and, and_true, beq_self_eq_true, eq_self, decide_true, Bool.true_and, Bool.false_and, Nat.zero_le, List.isEmpty_cons, List.isEmpty_nil]))

local macro_rules | `(tactic| walk_at "I") => `(tactic| (refine kAt_of (by decide) (by simp only [allK_lit, gSumA_tI, gLen_tI, seq_tI, seqd_tI, lenSet_tI, Int.reduceEq, Int.reduceLT, Int.reduceLE, Int.reduceAdd, Int.reduceSub, decide_false, Bool.or_true, Bool.false_or, szl, kForN_e, kLcY_e, kLcN_e, lcW_n, forW_n, at_0, at_1, at_2, at_3, at_4, at_5, at_6, at_7, at_8, kdIx_0, kdIx_1, kdIx_2, kdIx_3, kdIx_4, kdIx_5, kdIx_6, kdIx_7, kdIx_8, kdSl_2, noneK_lit, List.length_cons, List.length_nil]; decide) (fun z ez _ => ?_); cases ez; walk_at "X"))


def top (i : Nat) : Stmt := PySem.Challenge.pw_rowkinds_k08_narrow_by_all_rows.main.body.getD i (.Pass ⟨0, 0, 0, 0⟩)
abbrev s_is_whole : Stmt := top 5
theorem sc_is_whole : FnScope ["thing", "least", "most"] ["thing", "least", "most"] (defScope s_is_whole) :=
  ⟨rfl, rfl, rfl, by decide +kernel, rfl, by decide +kernel, by decide +kernel⟩
abbrev s_is_number : Stmt := top 9
theorem sc_is_number : FnScope ["thing"] ["thing"] (defScope s_is_number) :=
  ⟨rfl, rfl, rfl, by decide +kernel, rfl, by decide +kernel, by decide +kernel⟩
abbrev s_is_row : Stmt := top 10
theorem sc_is_row : FnScope ["thing", "one"] ["thing"] (defScope s_is_row) :=
  ⟨rfl, rfl, rfl, by decide +kernel, rfl, by decide +kernel, by decide +kernel⟩
abbrev s_rises : Stmt := top 11
theorem sc_rises : FnScope ["row", "one", "other"] ["row"] (defScope s_rises) :=
  ⟨rfl, rfl, rfl, by decide +kernel, rfl, by decide +kernel, by decide +kernel⟩
abbrev s_falls : Stmt := top 12
theorem sc_falls : FnScope ["row", "one", "other"] ["row"] (defScope s_falls) :=
  ⟨rfl, rfl, rfl, by decide +kernel, rfl, by decide +kernel, by decide +kernel⟩
abbrev s_are_unlike : Stmt := top 13
theorem sc_are_unlike : FnScope ["row"] ["row"] (defScope s_are_unlike) :=
  ⟨rfl, rfl, rfl, by decide +kernel, rfl, by decide +kernel, by decide +kernel⟩
abbrev s_is_part : Stmt := top 18
theorem sc_is_part : FnScope ["at", "thing"] ["at", "thing"] (defScope s_is_part) :=
  ⟨rfl, rfl, rfl, by decide +kernel, rfl, by decide +kernel, by decide +kernel⟩
abbrev s_is_kind : Stmt := top 19
theorem sc_is_kind : FnScope ["thing", "at", "part"] ["thing"] (defScope s_is_kind) :=
  ⟨rfl, rfl, rfl, by decide +kernel, rfl, by decide +kernel, by decide +kernel⟩
abbrev s_need_kind : Stmt := top 20
theorem sc_need_kind : FnScope ["thing"] ["thing"] (defScope s_need_kind) :=
  ⟨rfl, rfl, rfl, by decide +kernel, rfl, by decide +kernel, by decide +kernel⟩
abbrev s_window : Stmt := top 22
theorem sc_window : FnScope ["least", "most", "low", "high"] ["least", "most"] (defScope s_window) :=
  ⟨rfl, rfl, rfl, by decide +kernel, rfl, by decide +kernel, by decide +kernel⟩
abbrev s_moved : Stmt := top 23
theorem sc_moved : FnScope ["bits", "number"] ["bits", "number"] (defScope s_moved) :=
  ⟨rfl, rfl, rfl, by decide +kernel, rfl, by decide +kernel, by decide +kernel⟩
abbrev s_level_sums : Stmt := top 24
theorem sc_level_sums : FnScope ["numbers", "most", "is_unlike", "found", "many", "bits", "number"] ["numbers", "most", "is_unlike"] (defScope s_level_sums) :=
  ⟨rfl, rfl, rfl, by decide +kernel, rfl, by decide +kernel, by decide +kernel⟩
abbrev s_all_sums : Stmt := top 25
theorem sc_all_sums : FnScope ["numbers", "most", "is_level", "is_unlike", "found", "number", "many"] ["numbers", "most", "is_level", "is_unlike"] (defScope s_all_sums) :=
  ⟨rfl, rfl, rfl, by decide +kernel, rfl, by decide +kernel, by decide +kernel⟩
abbrev s_sums_of : Stmt := top 26
theorem sc_sums_of : FnScope ["numbers", "many", "is_level", "is_unlike"] ["numbers", "many", "is_level", "is_unlike"] (defScope s_sums_of) :=
  ⟨rfl, rfl, rfl, by decide +kernel, rfl, by decide +kernel, by decide +kernel⟩
abbrev s_without : Stmt := top 27
theorem sc_without : FnScope ["numbers", "number", "is_unlike", "one"] ["numbers", "number", "is_unlike"] (defScope s_without) :=
  ⟨rfl, rfl, rfl, by decide +kernel, rfl, by decide +kernel, by decide +kernel⟩
abbrev s_may_stand : Stmt := top 28
theorem sc_may_stand : FnScope ["numbers", "number", "many", "is_level", "is_unlike", "bits", "rest"] ["numbers", "number", "many", "is_level", "is_unlike", "bits"] (defScope s_may_stand) :=
  ⟨rfl, rfl, rfl, by decide +kernel, rfl, by decide +kernel, by decide +kernel⟩
abbrev s_pairs_by : Stmt := top 29
theorem sc_pairs_by : FnScope ["numbers", "is_alike", "one", "found", "at", "other"] ["numbers", "is_alike"] (defScope s_pairs_by) :=
  ⟨rfl, rfl, rfl, by decide +kernel, rfl, by decide +kernel, by decide +kernel⟩
abbrev s_pair_with : Stmt := top 30
theorem sc_pair_with : FnScope ["numbers", "many", "bits", "is_alike", "rest", "one", "other"] ["numbers", "many", "bits", "is_alike"] (defScope s_pair_with) :=
  ⟨rfl, rfl, rfl, by decide +kernel, rfl, by decide +kernel, by decide +kernel⟩
abbrev s_numbers_of : Stmt := top 32
theorem sc_numbers_of : FnScope ["kind"] ["kind"] (defScope s_numbers_of) :=
  ⟨rfl, rfl, rfl, by decide +kernel, rfl, by decide +kernel, by decide +kernel⟩
abbrev s_is_level : Stmt := top 33
theorem sc_is_level : FnScope ["kind"] ["kind"] (defScope s_is_level) :=
  ⟨rfl, rfl, rfl, by decide +kernel, rfl, by decide +kernel, by decide +kernel⟩
abbrev s_least_sum : Stmt := top 34
theorem sc_least_sum : FnScope ["bits"] ["bits"] (defScope s_least_sum) :=
  ⟨rfl, rfl, rfl, by decide +kernel, rfl, by decide +kernel, by decide +kernel⟩
abbrev s_greatest_sum : Stmt := top 35
theorem sc_greatest_sum : FnScope ["bits"] ["bits"] (defScope s_greatest_sum) :=
  ⟨rfl, rfl, rfl, by decide +kernel, rfl, by decide +kernel, by decide +kernel⟩
abbrev s_counts_of : Stmt := top 36
theorem sc_counts_of : FnScope ["kind", "own", "sums", "many"] ["kind"] (defScope s_counts_of) :=
  ⟨rfl, rfl, rfl, by decide +kernel, rfl, by decide +kernel, by decide +kernel⟩
abbrev s_stands : Stmt := top 37
theorem sc_stands : FnScope ["kind", "counts", "number", "numbers", "many", "bits"] ["kind", "counts", "number"] (defScope s_stands) :=
  ⟨rfl, rfl, rfl, by decide +kernel, rfl, by decide +kernel, by decide +kernel⟩
abbrev s_ends_of : Stmt := top 38
theorem sc_ends_of : FnScope ["kind", "counts", "found", "at", "numbers", "is_found", "number"] ["kind", "counts"] (defScope s_ends_of) :=
  ⟨rfl, rfl, rfl, by decide +kernel, rfl, by decide +kernel, by decide +kernel⟩
abbrev s_has_pair : Stmt := top 39
theorem sc_has_pair : FnScope ["kind", "counts", "is_alike", "many", "bits"] ["kind", "counts", "is_alike"] (defScope s_has_pair) :=
  ⟨rfl, rfl, rfl, by decide +kernel, rfl, by decide +kernel, by decide +kernel⟩
abbrev s_narrowed : Stmt := top 40
theorem sc_narrowed : FnScope ["kind", "counts", "bits", "many", "own", "is_even", "is_unlike", "flags"] ["kind"] (defScope s_narrowed) :=
  ⟨rfl, rfl, rfl, by decide +kernel, rfl, by decide +kernel, by decide +kernel⟩
abbrev s_narrow : Stmt := top 41
theorem sc_narrow : FnScope ["kind"] ["kind"] (defScope s_narrow) :=
  ⟨rfl, rfl, rfl, by decide +kernel, rfl, by decide +kernel, by decide +kernel⟩
abbrev s_is_nothing : Stmt := top 42
theorem sc_is_nothing : FnScope ["kind"] ["kind"] (defScope s_is_nothing) :=
  ⟨rfl, rfl, rfl, by decide +kernel, rfl, by decide +kernel, by decide +kernel⟩
abbrev s_least_kind : Stmt := top 43
theorem sc_least_kind : FnScope ["rows", "row", "numbers", "sizes", "sums", "ends", "flags", "look"] ["rows"] (defScope s_least_kind) :=
  ⟨rfl, rfl, rfl, by decide +kernel, rfl, by decide +kernel, by decide +kernel⟩
abbrev s__law_begin : Stmt := top 45
theorem sc__law_begin : FnScope ["_law_script"] ["_law_script"] (defScope s__law_begin) :=
  ⟨rfl, rfl, rfl, by decide +kernel, rfl, by decide +kernel, by decide +kernel⟩
abbrev s__law_mixed : Stmt := top 46
theorem sc__law_mixed : FnScope ["_law_cell", "_law_k", "_law_number"] ["_law_cell", "_law_k"] (defScope s__law_mixed) :=
  ⟨rfl, rfl, rfl, by decide +kernel, rfl, by decide +kernel, by decide +kernel⟩
abbrev s__law_next : Stmt := top 47
theorem sc__law_next : FnScope ["_law_draw", "_law_many", "_law_found", "_law_cells", "_law_cell"] ["_law_draw", "_law_many"] (defScope s__law_next) :=
  ⟨rfl, rfl, rfl, by decide +kernel, rfl, by decide +kernel, by decide +kernel⟩
abbrev s__law_has : Stmt := top 48
theorem sc__law_has : FnScope ["_law_kind", "_law_row", "_law_low", "_law_high", "_law_few", "_law_many", "_law_up", "_law_down", "_law_unlike", "_law_least_here", "_law_most", "_law_at", "_law_one"] ["_law_kind", "_law_row"] (defScope s__law_has) :=
  ⟨rfl, rfl, rfl, by decide +kernel, rfl, by decide +kernel, by decide +kernel⟩
abbrev s__law_least : Stmt := top 49
theorem sc__law_least : FnScope ["_law_rows", "_law_some", "_law_flags", "_law_row", "_law_rising", "_law_numbers", "_law_sizes", "_law_totals", "_law_ends", "_law_one"] ["_law_rows"] (defScope s__law_least) :=
  ⟨rfl, rfl, rfl, by decide +kernel, rfl, by decide +kernel, by decide +kernel⟩
abbrev s__law_all_rows : Stmt := top 50
theorem sc__law_all_rows : FnScope ["_law_numbers", "_law_most", "_law_found", "_law_layer", "_law_turn", "_law_row", "_law_one"] ["_law_numbers", "_law_most"] (defScope s__law_all_rows) :=
  ⟨rfl, rfl, rfl, by decide +kernel, rfl, by decide +kernel, by decide +kernel⟩
abbrev s__law_pairs : Stmt := top 51
theorem sc__law_pairs : FnScope ["_law_some", "_law_others", "_law_found", "_law_one", "_law_other"] ["_law_some", "_law_others"] (defScope s__law_pairs) :=
  ⟨rfl, rfl, rfl, by decide +kernel, rfl, by decide +kernel, by decide +kernel⟩
abbrev s__law_small : Stmt := top 52
theorem sc__law_small : FnScope ["_law_draw", "_law_width", "_law_most", "_law_low"] ["_law_draw"] (defScope s__law_small) :=
  ⟨rfl, rfl, rfl, by decide +kernel, rfl, by decide +kernel, by decide +kernel⟩
abbrev s__law_kind_by : Stmt := top 53
theorem sc__law_kind_by : FnScope ["_law_draw", "_law_numbers", "_law_most", "_law_row", "_law_total", "_law_ends", "_law_few", "_law_many", "_law_flags", "_law_sums", "_law_way", "_law_k", "_law_one"] ["_law_draw", "_law_numbers", "_law_most"] (defScope s__law_kind_by) :=
  ⟨rfl, rfl, rfl, by decide +kernel, rfl, by decide +kernel, by decide +kernel⟩
abbrev s_law : Stmt := top 54
theorem sc_law : FnScope ["_law_script", "_law_draw", "_law_turn", "_law_numbers", "_law_most", "_law_rows", "_law_k", "_law_kind", "_law_own", "_law_due", "_law_again", "_law_some", "_law_row"] ["_law_script"] (defScope s_law) :=
  ⟨rfl, rfl, rfl, by decide +kernel, rfl, by decide +kernel, by decide +kernel⟩
/-- where the classes stand, the code objects and the tables of defs that make lambdas -/
structure Cas where
  nil : Unit := ()
  BadRow : Addr
  BadKind : Addr
  f_rises : Addr
  f_falls : Addr
  f_are_unlike : Addr
abbrev tn (ca : Cas) : List TN := []
abbrev Ts (ca : Cas) : List (Addr × Str) := tsOf (tn ca)
/-! what the top has for the defs -/
structure Txt (K : PySem.W.Frag) (mg : Str → Option Value) (ca : Cas) : Prop where
  nil : True := trivial
  b_isinstance : mg "isinstance" = none
  b_bool : mg "bool" = none
  b_int : mg "int" = none
  b_all : mg "all" = none
  b_len : mg "len" = none
  b_tuple : mg "tuple" = none
  b_zip : mg "zip" = none
  b_set : mg "set" = none
  b_enumerate : mg "enumerate" = none
  b_min : mg "min" = none
  b_max : mg "max" = none
  b_range : mg "range" = none
  b_any : mg "any" = none
  b_list : mg "list" = none
  b_sum : mg "sum" = none
  b_dict : mg "dict" = none
  b_sorted : mg "sorted" = none
  b_repr : mg "repr" = none
  c_MOST_NUMBER : ∃ t, mg "MOST_NUMBER" = some (.int (20) t)
  c_MOST_LONG : ∃ t, mg "MOST_LONG" = some (.int (8) t)
  c_MOST_SUM : ∃ t, mg "MOST_SUM" = some (.int (160) t)
  c_PARTS : GData mg K "PARTS" (.tuple [.str "low", .str "high", .str "few", .str "many", .str "up", .str "down", .str "unlike", .str "from", .str "to"])
  c_NOTHING : GData mg K "NOTHING" (.tuple [.int (20), .int (-20), .int (8), .int (0), .bool true, .bool true, .bool true, .int (160), .int (-160)])
  g_BadRow : mg "BadRow" = some (.ref ca.BadRow)
  g_BadKind : mg "BadKind" = some (.ref ca.BadKind)
  gf_rises : mg "rises" = some (.ref ca.f_rises)
  gf_falls : mg "falls" = some (.ref ca.f_falls)
  gf_are_unlike : mg "are_unlike" = some (.ref ca.f_are_unlike)
  x_BadRow : ClsX K mg "BadRow" ca.BadRow
  e_BadRow : ExC K ca.BadRow
  x_BadKind : ClsX K mg "BadKind" ca.BadKind
  e_BadKind : ExC K ca.BadKind

def FF_need_kind (ca : Cas) : FWX T2 := fun rs τ Q Ed => ∃ x, rs = [.d x] ∧ pl x ∧ (if isKindD x = true then Q (.d .none) τ else Ed (exD ca.BadKind) τ)
def FF_narrow (ca : Cas) : FWX T2 := fun rs τ Q Ed => ∃ x, rs = [.d x] ∧ pl x ∧ (if isKindD x = true then ∀ (lo hi fe ma : Int) (u d n : Bool) (fr to : Int), x = kD lo hi fe ma u d n fr to → ∀ k, LeastD (RowOf lo hi fe ma u d n fr to) k → isKindD k = true → Q (.d k) τ else Ed (exD ca.BadKind) τ)
theorem gNarrow {ca : Cas} {k : Kd} (hk : isKindD k.D = true) {τ : T2} {Q : SV → T2 → Prop} {Ed : D → T2 → Prop} (h : ∀ g : Kd, FormOf k g → Q (.d g.D) τ) : FF_narrow ca [.d k.D] τ Q Ed := by
  refine ⟨k.D, rfl, (fine_kind hk).1, ?_⟩
  rw [if_pos hk]
  intro lo hi fe ma u d n fr to e x h1 h2
  have e := Kd.inj (j := ⟨lo, hi, fe, ma, u, d, n, fr, to⟩) e
  subst e
  obtain ⟨g, rfl, h3⟩ := form_of (k := ⟨lo, hi, fe, ma, u, d, n, fr, to⟩) h1 h2
  exact h g h3

def FF_is_nothing (ca : Cas) : FWX T2 := fun rs τ Q Ed => ∃ k : Kd, rs = [.d k.D] ∧ isKindD k.D = true ∧ ∀ c : Bool, (c = true ↔ ∀ r, ¬ k.R r) → Q (.d (.bool c)) τ
def FF_least_kind (ca : Cas) : FWX T2 := fun rs τ Q Ed => ∃ rows : List (List Int), rs = [.d (.list (rows.map tI))] ∧ rows.length ≤ 1000 ∧ rowsIn rows ∧ ∀ k : Kd, LeastD (fun r => r ∈ rows) k.D → isKindD k.D = true → Q (.d k.D) τ

section
variable {P : Program} {w : World} {K : PySem.W.Frag} {mg : Str → Option Value} {base : Heap} {ca : Cas}
theorem ok_is_whole {f : Addr} {fd : FuncData} (T : Txt K mg ca) (F : Fun K "is_whole" "is_whole" s_is_whole f fd)  :
    FnOk P w K mg base CX0 1 f fd ["thing", "least", "most"] (spD (theT (Ts ca)) K (FF_is_whole)) := by
  refine okP F sc_is_whole (by walk_at "v") (by decide) fun cdv A outer s H E G Fp hr => ⟨_, (dss_one (ds_ret (de_and rfl (de_callB call_isi (cd_isi rfl) (by rfl) T.b_isinstance (by decide +kernel) (da_cons (de_var (pv 0)) (da_cons (de_ty (n := "int") (by rfl) T.b_int (by decide +kernel)) da_nil))) (de_and rfl (de_not rfl (de_callB call_isi (cd_isi rfl) (by rfl) T.b_isinstance (by decide +kernel) (da_cons (de_var (pv 0)) (da_cons (de_ty (n := "bool") (by rfl) T.b_bool (by decide +kernel)) da_nil)))) (de_one (de_chain op_leA od_cmp op_leA od_cmp (de_var (pv 1)) (de_var (pv 0)) (de_var (pv 2)))))))), ?_⟩
  dsimp only [Bk.T, theT]
  rintro rs τ Q ⟨x, a, b, rfl, hx, h⟩
  walk_at "y"
  cases x with
  | dict m =>
    cases m with
    | nil => walk_at "y"; exact h
    | cons p r => exact hx.elim
  | int i =>
    walk_at "y"
    refine kChB_of (fun e1 => ?_) fun e1 => ?_
    · walk_at "y"
      simp only [isWholeD, e1, Bool.true_and] at h
      exact h
    · simp only [isWholeD, e1, Bool.false_and] at h
      walk_at "y"
      exact h
  | _ => walk_at "y"; exact h
theorem ok_rises {f : Addr} {fd : FuncData} (T : Txt K mg ca) (F : Fun K "rises" "rises" s_rises f fd)  :
    FnOk P w K mg base CX0 1 f fd ["row"] (spD (theT (Ts ca)) K (FF_rises)) := by
  refine okP F sc_rises (by walk_at "v") (by decide) fun cdv A outer s H E G Fp hr => ⟨_, (dss_one (ds_ret (de_callB (cr_all rfl) (cd_all rfl) (by rfl) T.b_all (by decide +kernel) (da_cons (de_lc (own := [("one", 1), ("other", 2)]) rfl sc_rises.nd (di_zip rfl (by rfl) T.b_zip (da_cons (de_var (pv 0)) (da_cons (de_slice rfl (de_var (pv 0)) (do_some de_int) do_none) da_nil))) (blkOk_by (by kernel_rfl)) (by decide) (fun _ _ _ _ _ => (dg_tp rfl rfl (dg_cons (dg_nm (i := 1) sc_rises.nd rfl (by first | exact .inl rfl | exact .inr rfl)) (dg_cons (dg_nm (i := 2) sc_rises.nd rfl (by first | exact .inl rfl | exact .inr rfl)) dg_nil)))) (fun _ _ _ _ _ => dts_nil) (fun _ _ _ _ _ => (de_cmp op_leA od_cmp (de_var (pv 1)) (de_var (pv 2)) (nomark _)))) da_nil)))), ?_⟩
  dsimp only [Bk.T, theT]
  rintro rs τ Q ⟨ns, rfl, hl, h⟩
  simp only [tI]
  walk_at "y"
  rw [cut_1, zipD_ints]
  refine lc_map (fun y => match y with | .tuple [.int a, .int b] => .bool (decide (a ≤ b)) | _ => .none) _ (fun y hy kc k0 hk => ?_) ?_ ?_
  · obtain ⟨p, hp, rfl⟩ := List.mem_map.mp hy
    walk_at "y"
    exact hk
  · rw [sizeLine_eq, List.length_map, List.length_zip]
    omega
  · rw [List.map_map]
    walk_at "y"
    show kBls _ _ (bools? ((ns.zip (ns.drop 1)).map fun p => .bool (decide (p.1 ≤ p.2))))
    rw [bools_of]
    walk_at "y"
    rw [all_id, pairs_adj (r := fun a b => decide (a ≤ b))]
    · exact h
    · intro a b c h1 h2
      have h1 := of_decide_eq_true h1
      have h2 := of_decide_eq_true h2
      exact decide_eq_true (by omega)
theorem ok_falls {f : Addr} {fd : FuncData} (T : Txt K mg ca) (F : Fun K "falls" "falls" s_falls f fd)  :
    FnOk P w K mg base CX0 1 f fd ["row"] (spD (theT (Ts ca)) K (FF_falls)) := by
  refine okP F sc_falls (by walk_at "v") (by decide) fun cdv A outer s H E G Fp hr => ⟨_, (dss_one (ds_ret (de_callB (cr_all rfl) (cd_all rfl) (by rfl) T.b_all (by decide +kernel) (da_cons (de_lc (own := [("one", 1), ("other", 2)]) rfl sc_falls.nd (di_zip rfl (by rfl) T.b_zip (da_cons (de_var (pv 0)) (da_cons (de_slice rfl (de_var (pv 0)) (do_some de_int) do_none) da_nil))) (blkOk_by (by kernel_rfl)) (by decide) (fun _ _ _ _ _ => (dg_tp rfl rfl (dg_cons (dg_nm (i := 1) sc_falls.nd rfl (by first | exact .inl rfl | exact .inr rfl)) (dg_cons (dg_nm (i := 2) sc_falls.nd rfl (by first | exact .inl rfl | exact .inr rfl)) dg_nil)))) (fun _ _ _ _ _ => dts_nil) (fun _ _ _ _ _ => (de_cmp op_geA od_cmp (de_var (pv 1)) (de_var (pv 2)) (nomark _)))) da_nil)))), ?_⟩
  dsimp only [Bk.T, theT]
  rintro rs τ Q ⟨ns, rfl, hl, h⟩
  simp only [tI]
  walk_at "y"
  rw [cut_1, zipD_ints]
  refine lc_map (fun y => match y with | .tuple [.int a, .int b] => .bool (decide (b ≤ a)) | _ => .none) _ (fun y hy kc k0 hk => ?_) ?_ ?_
  · obtain ⟨p, hp, rfl⟩ := List.mem_map.mp hy
    walk_at "y"
    exact hk
  · rw [sizeLine_eq, List.length_map, List.length_zip]
    omega
  · rw [List.map_map]
    walk_at "y"
    show kBls _ _ (bools? ((ns.zip (ns.drop 1)).map fun p => .bool (decide (p.2 ≤ p.1))))
    rw [bools_of]
    walk_at "y"
    rw [all_id, pairs_adj (r := fun a b => decide (b ≤ a))]
    · exact h
    · intro a b c h1 h2
      have h1 := of_decide_eq_true h1
      have h2 := of_decide_eq_true h2
      exact decide_eq_true (by omega)
theorem ok_are_unlike {f : Addr} {fd : FuncData} (T : Txt K mg ca) (F : Fun K "are_unlike" "are_unlike" s_are_unlike f fd)  :
    FnOk P w K mg base CX0 1 f fd ["row"] (spD (theT (Ts ca)) K (FF_are_unlike)) := by
  refine okP F sc_are_unlike (by walk_at "v") (by decide) fun cdv A outer s H E G Fp hr => ⟨_, (dss_one (ds_ret (de_cmp (op_eqA hr.units) (od_eq rfl) (de_lenSet rfl (by rfl) T.b_len (by rfl) T.b_set (de_var (pv 0))) (de_callB call_len (cd_len rfl) (by rfl) T.b_len (by decide +kernel) (da_cons (de_var (pv 0)) da_nil)) (nomark _)))), ?_⟩
  dsimp only [Bk.T, theT]
  rintro rs τ Q ⟨ns, rfl, hl, h⟩
  simp only [tI]
  walk_at "y"
  refine ⟨ns, tupI_map ns, by omega, ?_⟩
  rw [pairs_nodup] at h
  rw [show decide (((dis ns).length : Int) = ((ns.map PyData.int).length : Int)) = decide ns.Nodup from ?_]
  · exact h
  rw [List.length_map, ← dis_nd ns, decide_eq_decide]
  omega
theorem ok_window {f : Addr} {fd : FuncData} (T : Txt K mg ca) (F : Fun K "window" "window" s_window f fd)  :
    FnOk P w K mg base CX0 1 f fd ["least", "most"] (spD (theT (Ts ca)) K (FF_window)) := by
  refine okP F sc_window (by walk_at "v") (by decide) fun cdv A outer s H E G Fp hr => ⟨_, (dss_cons (ds_par (i := 2) (j := 3) rfl sc_window.nd rfl rfl (by decide) rfl rfl (da_cons (de_callB (call_max2 rfl) cd_II (by rfl) T.b_max (by decide +kernel) (da_cons (de_var (pv 0)) (da_cons (de_op op_sub od_I0 de_int (de_gint (by rfl) T.c_MOST_SUM)) da_nil))) (da_cons (de_callB (call_min2 rfl) cd_II (by rfl) T.b_min (by decide +kernel) (da_cons (de_var (pv 1)) (da_cons (de_gint (by rfl) T.c_MOST_SUM) da_nil))) da_nil)) rfl)
      (dss_one (ds_ret (de_if (dt_cmp op_gtA od_cmp (de_var (pv 2)) (de_var (pv 3)) (nomark _)) de_int (de_op op_sub od_I0 (de_op op_shlW od_I de_int (de_op op_addA (od_add rfl) (de_op op_addA (od_add rfl) (de_var (pv 3)) (de_gint (by rfl) T.c_MOST_SUM)) de_int)) (de_op op_shlW od_I de_int (de_op op_addA (od_add rfl) (de_var (pv 2)) (de_gint (by rfl) T.c_MOST_SUM)))))))), ?_⟩
  dsimp only [Bk.T, theT]
  rintro rs τ Q ⟨a, b, rfl, h⟩
  walk_at "x"
  have hL : (if 0 - 160 > a then 0 - 160 else a) = max a (-160) := by split <;> omega
  have hH : (if 160 < b then 160 else b) = min b 160 := by split <;> omega
  rw [hL, hH]
  generalize eL : max a (-160) = L
  generalize eH : min b 160 = U
  clear hL hH
  refine kIf_of (fun e => ?_) fun e => ?_
  · have e := of_decide_eq_true e
    walk_at "x"
    refine h 0 ⟨Int.le_refl _, fun s => ⟨fun z => ?_, fun z => ?_⟩⟩
    · have := z.2.2
      simp at this
    · omega
  · have e := of_decide_eq_false e
    have p27 : (2 : Int) ^ 27 = 134217728 := by decide
    walk_at "x"
    refine ⟨⟨by omega, by rw [p27]; show ((1 : Nat) : Int) + _ ≤ _; omega⟩, ⟨by omega, by rw [p27]; show ((1 : Nat) : Int) + _ ≤ _; omega⟩, ?_⟩
    rw [Int.one_mul, Int.one_mul]
    obtain ⟨A, eA⟩ : ∃ A : Nat, L + 160 = (A : Int) := ⟨(L + 160).toNat, by omega⟩
    obtain ⟨N, eN⟩ : ∃ N : Nat, U + 160 + 1 = (A : Int) + N := ⟨(U + 160 + 1 - A).toNat, by omega⟩
    rw [eN, eA, show ((A : Int) + N).toNat = A + N by omega, Int.toNat_natCast]
    have key := fun s => ones_has (a := A) (n := N) s
    refine h _ ⟨((key L).mpr ⟨by omega, by omega, by omega⟩).1, fun s => ?_⟩
    rw [key]
    omega
theorem ok_moved {f : Addr} {fd : FuncData} (T : Txt K mg ca) (F : Fun K "moved" "moved" s_moved f fd)  :
    FnOk P w K mg base CX0 1 f fd ["bits", "number"] (spD (theT (Ts ca)) K (FF_moved)) := by
  refine okP F sc_moved (by walk_at "v") (by decide) fun cdv A outer s H E G Fp hr => ⟨_, (dss_one (ds_ret (de_if (dt_cmp op_geA od_cmp (de_var (pv 1)) de_int (nomark _)) (de_op op_shlW od_I (de_var (pv 0)) (de_var (pv 1))) (de_op op_shr od_I (de_var (pv 0)) (de_op op_sub od_I0 de_int (de_var (pv 1))))))), ?_⟩
  dsimp only [Bk.T, theT]
  rintro rs τ Q ⟨b, n, rfl, hb, hs, hn, h⟩
  walk_at "x"
  refine kIf_of (fun e => ?_) fun e => ?_
  · have e := of_decide_eq_true e
    obtain ⟨k, rfl⟩ := Int.eq_ofNat_of_zero_le e
    have p27 : (2 : Int) ^ 27 = 134217728 := by decide
    have := bits_le hb hs (by decide)
    walk_at "x"
    refine ⟨⟨e, by rw [p27]; omega⟩, ?_⟩
    rw [Int.toNat_natCast]
    refine h _ ⟨Int.mul_nonneg hb (Int.le_of_lt (Int.pow_pos (by decide))), fun s => ?_⟩
    rw [shl_has hb]
    constructor
    · rintro ⟨h1, h2, h3⟩
      exact ⟨by omega, h3⟩
    · rintro ⟨h1, h3⟩
      have := h3.2.1
      exact ⟨by omega, by omega, h3⟩
  · have e := of_decide_eq_false e
    obtain ⟨k, ek⟩ : ∃ k : Nat, (0 : Int) - n = k := ⟨(0 - n).toNat, by omega⟩
    walk_at "x"
    refine ⟨by omega, ?_⟩
    rw [ek, Int.toNat_natCast]
    refine h _ ⟨Int.ediv_nonneg hb (Int.le_of_lt (Int.pow_pos (by decide))), fun s => ?_⟩
    show _ ↔ -160 ≤ s ∧ hasS b (s - n)
    rw [shr_has hb, show s - n = s + k by omega]
    constructor
    · rintro ⟨h1, h3⟩
      exact ⟨by omega, h3⟩
    · rintro ⟨h1, h3⟩
      exact ⟨by omega, h3⟩
theorem ok_without {f : Addr} {fd : FuncData} (T : Txt K mg ca) (F : Fun K "without" "without" s_without f fd)  :
    FnOk P w K mg base CX0 1 f fd ["numbers", "number", "is_unlike"] (spD (theT (Ts ca)) K (FF_without)) := by
  refine okP F sc_without (by walk_at "v") (by decide) fun cdv A outer s H E G Fp hr => ⟨_, (dss_one (ds_ret (de_if (dt_tru rfl (de_var (pv 2))) (de_callTy call_tuple_of (cd_tuple rfl) (by rfl) T.b_tuple (by decide +kernel) (da_cons (de_lc (own := [("one", 3)]) rfl sc_without.nd (di_seq rfl (de_var (pv 0))) (blkOk_by (by kernel_rfl)) (by decide) (fun _ _ _ _ _ => (dg_nm (i := 3) sc_without.nd rfl (by first | exact .inl rfl | exact .inr rfl))) (fun _ _ _ _ _ => (dts_one (dt_cmp (op_neA hr.units) (od_ne rfl) (de_var (pv 3)) (de_var (pv 1)) (nomark _)))) (fun _ _ _ _ _ => (de_var (pv 3)))) da_nil)) (de_callTy call_tuple_of (cd_tuple rfl) (by rfl) T.b_tuple (by decide +kernel) (da_cons (de_var (pv 0)) da_nil))))), ?_⟩
  dsimp only [Bk.T, theT]
  rintro rs τ Q ⟨ns, x, unl, rfl, hl, h⟩
  simp only [tI]
  walk_at "x"
  unfold outOf at h
  cases unl with
  | false =>
    walk_at "x"
    exact h
  | true =>
    walk_at "x"
    refine lc_fm (fun (y : D) => match y with | .int z => if (!decide (z = x)) = true then some (PyData.int z) else none | _ => none) _ (fun y hy kc k0 hk => ?_) (by rw [sizeLine_eq, List.length_map]; omega) ?_
    · obtain ⟨z, _, rfl⟩ := List.mem_map.mp hy
      walk_at "x"
      refine kTurn_of (fun e => ?_) fun e => ?_
      · walk_at "x"
        simp only [e, if_true] at hk
        exact hk
      · simp only [e] at hk
        exact hk
    · have e : ((ns.map PyData.int).filterMap fun (y : D) => match y with | .int z => if (!decide (z = x)) = true then some (PyData.int z) else none | _ => none) = (ns.filter fun y => !decide (y = x)).map .int := by
        rw [List.filterMap_map]
        clear hl h
        induction ns with
        | nil => rfl
        | cons a l ih =>
          rw [List.filterMap_cons, List.filter_cons]
          simp only [Function.comp_apply] at ih ⊢
          cases hc : (!decide (a = x)) with
          | true => simp only [if_true, List.map_cons]; rw [← ih]
          | false => simp only [Bool.false_eq_true, if_false]; rw [← ih]
      rw [e]
      walk_at "x"
      exact h
theorem ok_pairs_by {f : Addr} {fd : FuncData} (T : Txt K mg ca) (F : Fun K "pairs_by" "pairs_by" s_pairs_by f fd)  :
    FnOk P w K mg base CX0 1 f fd ["numbers", "is_alike"] (spD (theT (Ts ca)) K (FF_pairs_by)) := by
  refine okP F sc_pairs_by (by walk_at "v") (by decide) fun cdv A outer s H E G Fp hr => ⟨_, (dss_cons (ds_if (dt_tru rfl (de_var (pv 1)))
        (dss_one (ds_ret (de_lc (own := [("one", 2)]) rfl sc_pairs_by.nd (di_seq rfl (de_var (pv 0))) (blkOk_by (by kernel_rfl)) (by decide) (fun _ _ _ _ _ => (dg_nm (i := 2) sc_pairs_by.nd rfl (by first | exact .inl rfl | exact .inr rfl))) (fun _ _ _ _ _ => dts_nil) (fun _ _ _ _ _ => (de_tup (da_cons (de_var (pv 2)) (da_cons (de_var (pv 2)) da_nil)))))))
        dss_nil)
      (dss_cons (ds_set (i := 3) sc_pairs_by.nd rfl (by first | exact .inl rfl | exact .inr rfl) (de_lst da_nil))
      (dss_cons (ds_for PassesOwn.never rfl (di_enum2 rfl (by rfl) T.b_enumerate (da_cons (de_var (pv 0)) da_nil)) (dg_tp rfl rfl (dg_cons (dg_nm (i := 4) sc_pairs_by.nd rfl (by first | exact .inl rfl | exact .inr rfl)) (dg_cons (dg_nm (i := 2) sc_pairs_by.nd rfl (by first | exact .inl rfl | exact .inr rfl)) dg_nil)))
        (dss_one (ds_ext (ps_expr (pe_bm PySem.F.plainAttrs_list PySem.F.slot_list_extend PySem.F.type_list_extend mt_extend (pv 3) (pa_cons (de_lc (own := [("other", 5)]) rfl sc_pairs_by.nd (di_seq rfl (de_slice rfl (de_var (pv 0)) (do_some (de_op op_addA (od_add rfl) (de_var (pv 4)) de_int)) do_none)) (blkOk_by (by kernel_rfl)) (by decide) (fun _ _ _ _ _ => (dg_nm (i := 5) sc_pairs_by.nd rfl (by first | exact .inl rfl | exact .inr rfl))) (fun _ _ _ _ _ => dts_nil) (fun _ _ _ _ _ => (de_tup (da_cons (de_var (pv 2)) (da_cons (de_var (pv 5)) da_nil))))) pa_nil))))))
      (dss_one (ds_retR (dr_own (pv 3))))))), ?_⟩
  dsimp only [Bk.T, theT]
  rintro rs τ Q ⟨ns, a, rfl, hs, hl, h⟩
  simp only [tI]
  walk_at "x"
  cases a with
  | true =>
    walk_at "x"
    refine lc_map (fun y => .tuple [y, y]) _ (fun y hy kc k0 hk => ?_) (by rw [sizeLine_eq, List.length_map]; omega) ?_
    · walk_at "x"
      exact hk
    · rw [List.map_map]
      walk_at "x"
      have := h (ns.map fun x => (x, x)) (by rw [pairsL, if_pos rfl]) (fun x y => ?_) (by rw [List.length_map]; omega)
      · rw [pD, List.map_map] at this
        exact this
      · rw [List.mem_map, if_pos rfl]
        constructor
        · rintro ⟨z, hz, e⟩
          cases e
          exact ⟨hz, hz, rfl⟩
        · rintro ⟨h1, h2, rfl⟩
          exact ⟨x, h1, rfl⟩
  | false =>
    walk_at "x"
    refine for_inv (fun j env τ' => τ' = τ ∧ ∃ x3 x4 x5, ∃ ps : List (Int × Int), env = [.d (.tuple (ns.map .int)), .d (.bool false), x3, .ol (pD ps), x4, x5] ∧ ps.length ≤ 100 * j ∧ ps = pairsU ns j ∧ ∀ x y, (x, y) ∈ ps ↔ x ∈ ns.take j ∧ y ∈ ns ∧ x < y) _ _ _ ⟨rfl, _, _, _, [], rfl, by simp, rfl, fun x y => by simp⟩ ?_ ?_
    · rintro j z env τ' ej ⟨rfl, x3, x4, x5, ps, rfl, hpl, hpu, hps⟩ kn hkn
      obtain ⟨v, ev, rfl⟩ := enum_get ej
      rw [List.getElem?_map] at ev
      cases en : ns[j]? with
      | none => rw [en] at ev; cases ev
      | some n =>
        rw [en] at ev
        cases ev
        obtain ⟨hlt, e2⟩ := List.getElem?_eq_some_iff.mp en
        walk_at "x"
        rw [show ((j : Int) + 1) = ((j + 1 : Nat) : Int) by omega, cut_post, ← List.map_drop]
        refine lc_map (fun y => .tuple [.int n, y]) _ (fun y hy kc k0 hk => ?_) (by rw [sizeLine_eq, List.length_map, List.length_drop]; omega) ?_
        · walk_at "x"
          exact hk
        · rw [List.map_map]
          walk_at "x"
          have e9 : pD ps ++ ((ns.drop (j + 1)).map ((fun y => PyData.tuple [.int n, y]) ∘ PyData.int)) = pD (ps ++ (ns.drop (j + 1)).map fun y => (n, y)) := by
            unfold pD
            rw [List.map_append, List.map_map]
            rfl
          rw [e9]
          refine ⟨by rw [sizeLine_eq, pD, List.length_map, List.length_map, List.length_drop]; omega, hkn _ _ ⟨rfl, _, _, _, _, rfl, ?_, ?_, fun x y => ?_⟩⟩
          · rw [List.length_append, List.length_map, List.length_drop]
            omega
          · rw [hpu, pairsU, pairsU, List.range_succ, List.flatMap_append]
            congr 1
            simp only [List.flatMap_cons, List.flatMap_nil, List.append_nil, en]
          · rw [List.mem_append, hps, List.take_add_one, en, List.mem_map]
            have hd : ∀ y, y ∈ ns.drop (j + 1) ↔ y ∈ ns ∧ n < y := fun y => by
              have e3 : ns = ns.take j ++ n :: ns.drop (j + 1) := by
                rw [← e2, ← List.drop_eq_getElem_cons hlt, List.take_append_drop]
              have hs2 := hs
              rw [e3, List.pairwise_append, List.pairwise_cons] at hs2
              constructor
              · exact fun hy => ⟨List.mem_of_mem_drop hy, hs2.2.1.1 y hy⟩
              · rintro ⟨h1, h2⟩
                rw [e3] at h1
                rcases List.mem_append.mp h1 with h1 | h1
                · have := hs2.2.2 y h1 n List.mem_cons_self
                  omega
                · rcases List.mem_cons.mp h1 with h1 | h1
                  · omega
                  · exact h1
            constructor
            · rintro (⟨h1, h2, h3⟩ | ⟨z, hz, e⟩)
              · exact ⟨List.mem_append_left _ h1, h2, h3⟩
              · cases e
                have := (hd y).mp hz
                exact ⟨by simp, this.1, this.2⟩
            · rintro ⟨h1, h2, h3⟩
              rcases List.mem_append.mp h1 with h1 | h1
              · exact .inl ⟨h1, h2, h3⟩
              · simp only [Option.toList_some, List.mem_singleton] at h1
                subst h1
                exact .inr ⟨y, (hd y).mpr ⟨h2, h3⟩, rfl⟩
    · rintro env τ' ⟨rfl, x3, x4, x5, ps, rfl, hpl, hpu, hps⟩
      rw [enumD, List.length_map, List.length_zipIdx, List.length_map] at hpl hps hpu
      rw [List.take_length] at hps
      walk_at "x"
      exact h ps (by rw [pairsL, if_neg (by decide)]; exact hpu) (fun x y => by rw [hps, if_neg (by decide)]) (by omega)
theorem ok_numbers_of {f : Addr} {fd : FuncData} (T : Txt K mg ca) (F : Fun K "numbers_of" "numbers_of" s_numbers_of f fd)  :
    FnOk P w K mg base CX0 1 f fd ["kind"] (spD (theT (Ts ca)) K (FF_numbers_of)) := by
  refine okP F sc_numbers_of (by walk_at "v") (by decide) fun cdv A outer s H E G Fp hr => ⟨_, (dss_one (ds_ret (de_tupRg (by rfl) T.b_tuple (by rfl) T.b_range (de_ix ix_A (od_ix rfl) (de_var (pv 0)) de_int (fun _ _ => rfl)) (de_op op_addA (od_add rfl) (de_ix ix_A (od_ix rfl) (de_var (pv 0)) de_int (fun _ _ => rfl)) de_int)))), ?_⟩
  dsimp only [Bk.T, theT]
  rintro rs τ Q ⟨lo, hi, fe, ma, u, d, n, fr, to, rfl, hk, h⟩
  have hr := kind_rng hk
  simp only [kD]
  walk_at "x"
  refine kAt_of (by decide) (by show (0 : Int) < 9; decide) fun z ez _ => ?_
  cases ez
  walk_at "x"
  refine kAt_of (by decide) (by show (1 : Int) < 9; decide) fun z ez _ => ?_
  cases ez
  walk_at "x"
  refine ⟨⟨by omega, by omega, by omega, by omega, by omega⟩, ?_⟩
  rw [rgI_span]
  exact h
theorem ok_is_level {f : Addr} {fd : FuncData} (T : Txt K mg ca) (F : Fun K "is_level" "is_level" s_is_level f fd)  :
    FnOk P w K mg base CX0 1 f fd ["kind"] (spD (theT (Ts ca)) K (FF_is_level)) := by
  refine okP F sc_is_level (by walk_at "v") (by decide) fun cdv A outer s H E G Fp hr => ⟨_, (dss_one (ds_ret (de_and rfl (de_ix ix_A (od_ix rfl) (de_var (pv 0)) de_int (fun _ _ => rfl)) (de_one (de_ix ix_A (od_ix rfl) (de_var (pv 0)) de_int (fun _ _ => rfl)))))), ?_⟩
  dsimp only [Bk.T, theT]
  rintro rs τ Q ⟨lo, hi, fe, ma, u, d, n, fr, to, rfl, h⟩
  simp only [kD]
  walk_at "x"
  refine kAt_of (by decide) (by show (4 : Int) < 9; decide) fun z ez _ => ?_
  cases ez
  walk_at "x"
  refine kAndV (c := d) (fun _ Q' q => ?_) ?_
  · walk_at "x"
    refine kAt_of (by decide) (by show (5 : Int) < 9; decide) fun z ez _ => ?_
    cases ez
    exact q
  · walk_at "x"
    exact h
theorem ok_least_sum {f : Addr} {fd : FuncData} (T : Txt K mg ca) (F : Fun K "least_sum" "least_sum" s_least_sum f fd)  :
    FnOk P w K mg base CX0 1 f fd ["bits"] (spD (theT (Ts ca)) K (FF_least_sum)) := by
  refine okP F sc_least_sum (by walk_at "v") (by decide) fun cdv A outer s H E G Fp hr => ⟨_, (dss_one (ds_ret (de_op op_sub od_I0 (de_op op_sub od_I0 (de_bits (de_op op_and od_I0 (de_var (pv 0)) (de_op op_sub od_I0 de_int (de_var (pv 0))))) de_int) (de_gint (by rfl) T.c_MOST_SUM)))), ?_⟩
  dsimp only [Bk.T, theT]
  rintro rs τ Q ⟨b, rfl, hb, h⟩
  walk_at "x"
  obtain ⟨s, h1, h2, h3⟩ := least_has hb
  rw [h3]
  exact h s h1 h2
theorem ok_greatest_sum {f : Addr} {fd : FuncData} (T : Txt K mg ca) (F : Fun K "greatest_sum" "greatest_sum" s_greatest_sum f fd)  :
    FnOk P w K mg base CX0 1 f fd ["bits"] (spD (theT (Ts ca)) K (FF_greatest_sum)) := by
  refine okP F sc_greatest_sum (by walk_at "v") (by decide) fun cdv A outer s H E G Fp hr => ⟨_, (dss_one (ds_ret (de_op op_sub od_I0 (de_op op_sub od_I0 (de_bits (de_var (pv 0))) de_int) (de_gint (by rfl) T.c_MOST_SUM)))), ?_⟩
  dsimp only [Bk.T, theT]
  rintro rs τ Q ⟨b, rfl, hb, h⟩
  walk_at "x"
  obtain ⟨s, h1, h2, h3⟩ := greatest_has hb
  rw [h3]
  exact h s h1 h2

theorem ok__law_begin {f : Addr} {fd : FuncData} (T : Txt K mg ca) (F : Fun K "_law_begin" "_law_begin" s__law_begin f fd) : FnOk P w K mg base CX0 1 f fd ["_law_script"] (spD (theS ((Ts ca).map (·.1))) K FF__law_begin) := by
  refine F.ok sc__law_begin (fun vs H Q E h => ?_) (fun cdv A outer s H vs Q E hr h => ?_)
  · obtain ⟨G, Fp, τ, rs, Qd, Ha, k, r, dr, ⟨ns, e, hl, ht, q⟩, fin⟩ := h
    subst e
    obtain ⟨v, e1, _⟩ := r.one
    subst e1
    rfl
  · obtain ⟨G, Fp, τ, rs, Qd, Ha, k, r, dr, ⟨ns, e, hl, ht, q⟩, fin⟩ := h
    subst e ht
    obtain ⟨v, e1, rv⟩ := r.one
    subst e1
    obtain ⟨p, ws, ev, hp, ra⟩ := rv.sql (xs := ns.map PyData.int) k.same rfl
    subst ev
    have ew := ints_ok ra (ints_map ns)
    subst ew
    have noF : ∀ b, ¬ Fp b := k.r
    refine ⟨_, pss_one (ps_ret (pe_disp (pps_cons pe_str (pe_op op_addA (pv 0) (pe_lst (pa_cons pe_int pa_nil))) (pps_cons pe_str pe_int (pps_cons pe_str pe_int (pps_cons pe_str pe_int pps_nil)))) (by rfl) (by rfl) (fun z => by cases z) (by decide))), ?_⟩
    intro d hd
    refine ⟨_, rfl, (by show 1 ≤ sizeLine; decide), fun x hx => ?_⟩
    have s1 : Same H (upd H d (.dK [])) := fun b o e => by rw [upd_ne (ne_of_none e hd)]; exact e
    have s2 : Same (upd H d (.dK [])) (upd (upd H d (.dK [])) x (.lst [.int 0])) := fun b o e => by rw [upd_ne (ne_of_none e hx)]; exact e
    refine .inr (.inr (.inr ⟨p, x, _, _, rfl, rfl, same_sqp (s1.trans s2) hp, .inl (.inl upd_same), ?_, fun c hc => ?_⟩))
    · rw [List.length_map]
      show ns.length + 1 ≤ sizeLine
      rw [sizeLine_eq]
      omega
    have s3 : Same (upd (upd H d (.dK [])) x (.lst [.int 0])) (upd (upd (upd H d (.dK [])) x (.lst [.int 0])) c (.lst (ns.map V.int ++ [.int 0]))) := fun b o e => by rw [upd_ne (ne_of_none e hc)]; exact e
    have dx : d ≠ x := fun z => by
      subst z
      rw [upd_same] at hx
      cases hx
    have dc : d ≠ c := fun z => by
      subst z
      rw [upd_ne dx, upd_same] at hc
      cases hc
    have hc0 : H c = none := by
      cases z : H c with
      | none => rfl
      | some o =>
        rw [s2 c o (s1 c o z)] at hc
        cases hc
    refine ⟨by rw [upd_ne dc, upd_ne dx, upd_same], drK c 0 0 0, rfl, by show 4 ≤ 15; decide, ?_⟩
    rw [dr_new]
    have hG : G c = none := by
      cases z : G c with
      | none => rfl
      | some o =>
        rw [k.same c o z] at hc0
        cases hc0
    have ec : ns.map V.int ++ [V.int 0] = (ns ++ [0]).map V.int := by rw [List.map_append]; rfl
    have sG : Same G (upd G c (.lst (ns.map V.int ++ [.int 0]))) := fun b o e => by rw [upd_ne (ne_of_none e hG)]; exact e
    refine fin (.raw (.ref d)) (.on d 1152921504606846976) (upd G c (.lst (ns.map V.int ++ [.int 0]))) (fun b => b = d) _ (.ref d) ⟨sG, fun b o _ e => ?_, fun b o e => ?_, fun b e => ?_, fun b e => (noF b e).elim, fun b e => ?_⟩ ⟨fun b o e => ?_, fun b e => ?_, fun b e => ?_, ⟨fun b => Iff.rfl, c, ns ++ [0], 0, 0, 0, upd_same, ?_, by simp, by omega⟩, fun b ps e => ?_, fun b φ e => ?_⟩ rfl (q d)
    · rw [upd_ne (ne_of_none e hd)]
      exact s3 b o (s2 b o (s1 b o e))
    · by_cases z : b = c
      · subst z; exact .inr hc0
      · rw [upd_ne z] at e; exact .inl e
    · subst e; exact .inr hd
    · intro z
      by_cases zd : b = d
      · subst zd; exact e hd
      · rw [upd_ne zd] at z
        cases y : H b with
        | none => exact e y
        | some o =>
          rw [s3 b o (s2 b o (s1 b o y))] at z
          cases z
    · by_cases z : b = c
      · subst z
        rw [upd_same] at e
        rw [upd_ne (Ne.symm dc), upd_same]
        exact e
      · rw [upd_ne z] at e
        have hb := k.same b o e
        rw [upd_ne (ne_of_none hb hd)]
        exact s3 b o (s2 b o (s1 b o hb))
    · subst e
      rw [upd_ne dc]
      cases z : G b with
      | none => rfl
      | some o =>
        rw [k.same b o z] at hd
        cases hd
    · subst e
      rw [upd_same]
      exact fun z => by cases z
    · rw [← ec]
      exact .inl (.inl upd_same)
    · by_cases h1 : b = d
      · subst h1; rw [upd_same] at e; cases e
      rw [upd_ne h1] at e
      by_cases h2 : b = c
      · subst h2; rw [upd_same] at e; cases e
      rw [upd_ne h2] at e
      by_cases h3 : b = x
      · subst h3; rw [upd_same] at e; cases e
      rw [upd_ne h3, upd_ne h1] at e
      exact k.nt b ps e
    · by_cases h1 : b = d
      · subst h1; rw [upd_same] at e; cases e
      rw [upd_ne h1] at e
      by_cases h2 : b = c
      · subst h2; rw [upd_same] at e; cases e
      rw [upd_ne h2] at e
      by_cases h3 : b = x
      · subst h3; rw [upd_same] at e; cases e
      rw [upd_ne h3, upd_ne h1] at e
      rw [upd_ne h2]
      exact k.nx b φ e

theorem ok__law_mixed {f : Addr} {fd : FuncData} (T : Txt K mg ca) (F : Fun K "_law_mixed" "_law_mixed" s__law_mixed f fd) :
    FnOk P w K mg base CX0 1 f fd ["_law_cell", "_law_k"] (spD (theS ((Ts ca).map (·.1))) K FF__law_mixed) := by
  refine okDr F sc__law_mixed (by walk_at "v") (by decide) fun cdv A outer s H E G Fp hr => ⟨_, (dss_cons (ds_set (i := 2) sc__law_mixed.nd rfl (by first | exact .inl rfl | exact .inr rfl) (de_op op_mod od_I (de_op op_mulB (od_mulB rfl) (de_op op_addA (od_add rfl) (de_op op_addA (od_add rfl) (de_op op_addA (od_add rfl) (de_op op_mod od_I (de_var (pv 0)) de_int) (de_op op_mulB (od_mulB rfl) (de_op op_mulB (od_mulB rfl) de_int (de_var (pv 1))) (de_var (pv 1)))) (de_op op_mulB (od_mulB rfl) de_int (de_var (pv 1)))) de_int) de_int) de_int))
      (dss_one (ds_ret (de_op op_fdiv od_I (de_op op_mod od_I (de_op op_mulB (od_mulB rfl) (de_var (pv 2)) (de_op op_addA (od_add rfl) de_int (de_op op_mulB (od_mulB rfl) de_int (de_op op_mod od_I (de_var (pv 1)) de_int)))) de_int) de_int)))), ?_⟩
  dsimp only [Bk.T, theS]
  rintro rs τ Q ⟨c, k, rfl, hk, h⟩
  walk_at "y"
  refine ⟨by decide, .inl ⟨by decide, by decide⟩, .inr ⟨by omega, by omega⟩, .inl ⟨by decide, by decide⟩, .inr ⟨by decide, by decide⟩, by decide, by decide, .inl ⟨by decide, by decide⟩, .inr ⟨by omega, by omega⟩, by decide, ⟨by decide, by decide⟩, h _ ?_⟩
  exact Int.ediv_nonneg (Int.emod_nonneg _ (by decide)) (by decide)
theorem ok__law_has {f : Addr} {fd : FuncData} (T : Txt K mg ca) (F : Fun K "_law_has" "_law_has" s__law_has f fd)  :
    FnG P w K mg base 1 f fd ["_law_kind", "_law_row"] (spD (theT (Ts ca)) K (FF__law_has)) := by
  refine okG F sc__law_has (by walk_at "v") (by decide) fun cdv A outer s H E G Fp hcd hr => ⟨_, (dss_cons (ds_asg (de_var (pv 0)) (dg_tp rfl rfl (dg_cons (dg_nm (i := 2) sc__law_has.nd rfl (by first | exact .inl rfl | exact .inr rfl)) (dg_cons (dg_nm (i := 3) sc__law_has.nd rfl (by first | exact .inl rfl | exact .inr rfl)) (dg_cons (dg_nm (i := 4) sc__law_has.nd rfl (by first | exact .inl rfl | exact .inr rfl)) (dg_cons (dg_nm (i := 5) sc__law_has.nd rfl (by first | exact .inl rfl | exact .inr rfl)) (dg_cons (dg_nm (i := 6) sc__law_has.nd rfl (by first | exact .inl rfl | exact .inr rfl)) (dg_cons (dg_nm (i := 7) sc__law_has.nd rfl (by first | exact .inl rfl | exact .inr rfl)) (dg_cons (dg_nm (i := 8) sc__law_has.nd rfl (by first | exact .inl rfl | exact .inr rfl)) (dg_cons (dg_nm (i := 9) sc__law_has.nd rfl (by first | exact .inl rfl | exact .inr rfl)) (dg_cons (dg_nm (i := 10) sc__law_has.nd rfl (by first | exact .inl rfl | exact .inr rfl)) dg_nil)))))))))))
      (dss_cons (ds_if (dt_w (dw_or (dt_not (dt_chain op_leA od_cmp op_leA od_cmp (de_var (pv 4)) (de_callB call_len (cd_len rfl) (by rfl) T.b_len (by decide +kernel) (da_cons (de_var (pv 1)) da_nil)) (de_var (pv 5)))) (dw_or1 (dt_not (dt_chain op_leA od_cmp op_leA od_cmp (de_var (pv 9)) (de_callB (cr_sumA rfl) (cd_sumA rfl) (by rfl) T.b_sum (by decide +kernel) (da_cons (de_var (pv 1)) da_nil)) (de_var (pv 10)))))))
        (dss_one (ds_ret de_bl))
        dss_nil)
      (dss_cons (ds_for PassesOwn.never rfl (di_enum2 rfl (by rfl) T.b_enumerate (da_cons (de_var (pv 1)) da_nil)) (dg_tp rfl rfl (dg_cons (dg_nm (i := 11) sc__law_has.nd rfl (by first | exact .inl rfl | exact .inr rfl)) (dg_cons (dg_nm (i := 12) sc__law_has.nd rfl (by first | exact .inl rfl | exact .inr rfl)) dg_nil)))
        (dss_cons (ds_if (dt_w (dw_or (dt_not (dt_chain op_leA od_cmp op_leA od_cmp (de_var (pv 2)) (de_var (pv 12)) (de_var (pv 3)))) (dw_or1 (dt_w (dw_and (dt_tru rfl (de_var (pv 8))) (dw_and1 (dt_cmp op_inA (od_in rfl) (de_var (pv 12)) (de_slice rfl (de_var (pv 1)) do_none (do_some (de_var (pv 11)))) (by rfl))))))))
          (dss_one (ds_ret de_bl))
          dss_nil)
        (dss_one (ds_if (dt_w (dw_and (dt_cmp op_gtA od_cmp (de_var (pv 11)) de_int (nomark _)) (dw_and1 (dt_w (dw_or (dt_w (dw_and (dt_tru rfl (de_var (pv 6))) (dw_and1 (dt_cmp op_gtA od_cmp (de_ix ix_A (od_ix rfl) (de_var (pv 1)) (de_op op_sub od_I0 (de_var (pv 11)) de_int) (fun _ _ => rfl)) (de_var (pv 12)) (nomark _))))) (dw_or1 (dt_w (dw_and (dt_tru rfl (de_var (pv 7))) (dw_and1 (dt_cmp op_ltA od_cmp (de_ix ix_A (od_ix rfl) (de_var (pv 1)) (de_op op_sub od_I0 (de_var (pv 11)) de_int) (fun _ _ => rfl)) (de_var (pv 12)) (nomark _)))))))))))
          (dss_one (ds_ret de_bl))
          dss_nil))))
      (dss_one (ds_ret de_bl))))), ?_⟩
  dsimp only [Bk.T, theT]
  rintro rs τ Q ⟨lo, hi, fe, ma, u, d, n, fr, to, ns, rfl, hl, h⟩
  have el : ((ns.map PyData.int).length : Int) = (ns.length : Int) := by rw [List.length_map]
  simp only [kD, tI]
  walk_at "x"
  rw [el]
  refine kChB_and (c := decide ((ns.length : Int) ≤ ma)) (fun _ Q' q => by walk_at "x"; exact q) ?_
  walk_at "x"
  refine kOrT_or (c := !(decide (fr ≤ ns.sum) && decide (ns.sum ≤ to))) (fun _ Q' q => by
    walk_at "x"
    refine kChB_and (c := decide (ns.sum ≤ to)) (fun _ Q' q => by walk_at "x"; exact q) ?_
    walk_at "x"
    exact q) ?_
  have noB : ¬ RowOf lo hi fe ma u d n fr to ns → hasB lo hi fe ma u d n fr to ns = false := fun hn => by
    cases e : hasB lo hi fe ma u d n fr to ns with
    | false => rfl
    | true => exact (hn (rowOf_has.mp e)).elim
  refine kIfS_of (fun e => ?_) fun e => ?_
  · walk_at "x"
    rw [noB (fun hr => by
      obtain ⟨h1, h2, _⟩ := hr
      simp [h1.1, h1.2, h2.1, h2.2] at e)] at h
    exact h
  have e : (fe ≤ (ns.length : Int) ∧ (ns.length : Int) ≤ ma) ∧ (fr ≤ ns.sum ∧ ns.sum ≤ to) := by
    simpa [Bool.or_eq_false_iff] using e
  walk_at "x"
  refine for_inv (fun j env τ' => τ' = τ ∧ (∃ x1 x2, env = [SV.d (kD lo hi fe ma u d n fr to), .d (tI ns), .d (.int lo), .d (.int hi), .d (.int fe), .d (.int ma), .d (.bool u), .d (.bool d), .d (.bool n), .d (.int fr), .d (.int to), x1, x2]) ∧
    (∀ x ∈ ns.take j, lo ≤ x ∧ x ≤ hi) ∧ (n = true → (ns.take j).Nodup) ∧ (u = true → pairsB leB (ns.take j) = true) ∧ (d = true → pairsB geB (ns.take j) = true)) _ _ _ ⟨rfl, ⟨_, _, rfl⟩, by simp, by simp, by simp [pairsB], by simp [pairsB]⟩ ?_ ?_
  · rintro j y env τ' ej ⟨rfl, ⟨x1, x2, rfl⟩, p1, p2, p3, p4⟩ kn hkn
    obtain ⟨v, ev, rfl⟩ := enum_get ej
    rw [List.getElem?_map] at ev
    cases en : ns[j]? with
    | none => rw [en] at ev; cases ev
    | some x =>
      rw [en] at ev
      cases ev
      have hxm := List.mem_of_getElem? en
      have htk : ns.take (j + 1) = ns.take j ++ [x] := by rw [List.take_add_one, en]; rfl
      have htm : ∀ y ∈ ns.take j, y ∈ ns := fun y hy => List.mem_of_mem_take hy
      walk_at "x"
      refine kChB_and (c := decide (x ≤ hi)) (fun _ Q' q => by walk_at "x"; exact q) ?_
      walk_at "x"
      refine kOrT_or (c := n && decide (x ∈ ns.take j)) (fun _ Q' q => ?_) ?_
      · walk_at "x"
        refine kAndT_and (c := decide (x ∈ ns.take j)) (fun _ Q'' q => ?_) q
        simp only [tI]
        walk_at "x"
        rw [cut_pre, ← List.map_take]
        walk_at "x"
        refine ⟨flat_ints _, ?_⟩
        rw [in_any]
        exact q
      refine kIfS_of (fun e2 => ?_) fun e2 => ?_
      · walk_at "x"
        rw [noB (fun hr => by
          obtain ⟨_, _, h3, h4, _⟩ := hr
          have h5 := h3 x hxm
          rw [Bool.or_eq_true, Bool.and_eq_true, Bool.not_eq_true', Bool.and_eq_false_iff, decide_eq_false_iff_not, decide_eq_false_iff_not, decide_eq_true_eq] at e2
          rcases e2 with e2 | ⟨e2, e3⟩
          · omega
          · have h6 := h4 e2
            rw [← List.take_append_drop (j + 1) ns, htk, List.append_assoc, List.nodup_append] at h6
            exact h6.2.2 x e3 x (by simp) rfl)] at h
        exact h
      · rw [Bool.or_eq_false_iff, Bool.not_eq_false', Bool.and_eq_true, decide_eq_true_eq, decide_eq_true_eq, Bool.and_eq_false_iff, decide_eq_false_iff_not] at e2
        have q1 : ∀ z ∈ ns.take (j + 1), lo ≤ z ∧ z ≤ hi := fun z hz => by
          rw [htk] at hz
          rcases List.mem_append.mp hz with hz | hz
          · exact p1 z hz
          · rw [List.mem_singleton.mp hz]; exact e2.1
        have q2 : n = true → (ns.take (j + 1)).Nodup := fun hn => by
          rw [htk, List.nodup_append]
          refine ⟨p2 hn, by simp, fun y hy z hz e => ?_⟩
          rw [List.mem_singleton] at hz
          rcases e2.2 with e3 | e3
          · rw [hn] at e3; cases e3
          · exact e3 (by rw [← hz, ← e]; exact hy)
        have hkn := fun h3 h4 z1 z2 => hkn _ τ' ⟨rfl, ⟨z1, z2, rfl⟩, q1, q2, h3, h4⟩
        rw [htk] at hkn
        cases j with
        | zero =>
          walk_at "x"
          rw [show decide ((0 : Int) < ((0 : Nat) : Int)) = false from rfl]
          walk_at "x"
          exact hkn (fun _ => by simp [pairsB]) (fun _ => by simp [pairsB]) _ _
        | succ j =>
          obtain ⟨y, ey⟩ : ∃ y, ns[j]? = some y := by
            obtain ⟨h1, _⟩ := List.getElem?_eq_some_iff.mp en
            exact ⟨_, List.getElem?_eq_getElem (by omega)⟩
          have hy : ns.take (j + 1) = ns.take j ++ [y] := by rw [List.take_add_one, ey]; rfl
          have hd1 : decide ((0 : Int) < ((j + 1 : Nat) : Int)) = true := decide_eq_true (by omega)
          have at1 : ∀ Q' : SV → Prop, Q' (.d (.int y)) → kAt Q' (atI (ns.map PyData.int) (((j + 1 : Nat) : Int) - 1)) := fun Q' q => by
            rw [show ((j + 1 : Nat) : Int) - 1 = (j : Int) by omega]
            refine kAt_of (by omega) (by rw [List.length_map]; have := (List.getElem?_eq_some_iff.mp ey).1; omega) fun z ez _ => ?_
            rw [Int.toNat_natCast, List.getElem?_map, ey] at ez
            cases ez
            exact q
          walk_at "x"
          rw [hd1]
          walk_at "x"
          refine kAndT_and (c := decide (x < y)) (fun _ Q' q => ?_) ?_
          · simp only [tI]
            walk_at "x"
            refine at1 _ ?_
            walk_at "x"
            exact q
          refine kOrT_or (c := d && decide (y < x)) (fun _ Q' q => ?_) ?_
          · walk_at "x"
            refine kAndT_and (c := decide (y < x)) (fun _ Q' q => ?_) q
            simp only [tI]
            walk_at "x"
            refine at1 _ ?_
            walk_at "x"
            exact q
          refine kIfS_of (fun e3 => ?_) fun e3 => ?_
          · walk_at "x"
            rw [noB (fun hr => by
              obtain ⟨_, _, _, _, h5, h6⟩ := hr
              have hsp : ns = (ns.take j ++ [y]) ++ x :: ns.drop (j + 2) := by
                rw [← hy]
                obtain ⟨g1, g2⟩ := List.getElem?_eq_some_iff.mp en
                rw [← g2, ← List.drop_eq_getElem_cons g1, List.take_append_drop]
              rw [hsp, pairs_pw, List.pairwise_append] at h5 h6
              rw [Bool.or_eq_true, Bool.and_eq_true, Bool.and_eq_true, decide_eq_true_eq, decide_eq_true_eq] at e3
              rcases e3 with e3 | e3
              · have := of_decide_eq_true ((h5 e3.1).2.2 y (by simp) x List.mem_cons_self)
                omega
              · have := of_decide_eq_true ((h6 e3.1).2.2 y (by simp) x List.mem_cons_self)
                omega)] at h
            exact h
          · rw [Bool.or_eq_false_iff, Bool.and_eq_false_iff, Bool.and_eq_false_iff, decide_eq_false_iff_not, decide_eq_false_iff_not] at e3
            walk_at "x"
            refine hkn (fun hu => (pairs_snoc _ _).mpr ⟨p3 hu, fun z hz => ?_⟩) (fun hd => (pairs_snoc _ _).mpr ⟨p4 hd, fun z hz => ?_⟩) _ _
            · have h1 := p3 hu
              rw [hy] at h1 hz
              have h2 := (pairs_snoc _ _).mp h1
              rcases e3.1 with e4 | e4
              · rw [hu] at e4; cases e4
              · rcases List.mem_append.mp hz with hz | hz
                · have := of_decide_eq_true (h2.2 z hz)
                  exact decide_eq_true (by omega)
                · rw [List.mem_singleton.mp hz]; exact decide_eq_true (by omega)
            · have h1 := p4 hd
              rw [hy] at h1 hz
              have h2 := (pairs_snoc _ _).mp h1
              rcases e3.2 with e4 | e4
              · rw [hd] at e4; cases e4
              · rcases List.mem_append.mp hz with hz | hz
                · have := of_decide_eq_true (h2.2 z hz)
                  exact decide_eq_true (by omega)
                · rw [List.mem_singleton.mp hz]; exact decide_eq_true (by omega)
  · rintro env τ' ⟨rfl, ⟨x1, x2, rfl⟩, p1, p2, p3, p4⟩
    rw [enumD, List.length_map, List.length_zipIdx, List.length_map, List.take_length] at p1 p2 p3 p4
    walk_at "x"
    rw [rowOf_has.mpr ⟨e.1, e.2, p1, p2, p3, p4⟩] at h
    exact h
theorem ok__law_least {f : Addr} {fd : FuncData} (T : Txt K mg ca) (F : Fun K "_law_least" "_law_least" s__law_least f fd)  :
    FnG P w K mg base 1 f fd ["_law_rows"] (spD (theT (Ts ca)) K (FF__law_least)) := by
  refine FnG.drop ?_
  refine okG F sc__law_least (by walk_at "w") (by decide) fun cdv A outer s H E G Fp hcd hr => ⟨_, (dss_cons (ds_if (dt_cmp (op_eqA hr.units) (od_eq rfl) (de_var (pv 0)) (de_lst da_nil) (nomark _))
        (dss_one (ds_ret (de_tup (da_cons de_int (da_cons (de_neg de_int) (da_cons de_int (da_cons de_int (da_cons de_bl (da_cons de_bl (da_cons de_bl (da_cons de_int (da_cons (de_neg de_int) da_nil))))))))))))
        dss_nil)
      (dss_cons (ds_set (i := 1) sc__law_least.nd rfl (by first | exact .inl rfl | exact .inr rfl) de_newD)
      (dss_cons (ds_set (i := 2) sc__law_least.nd rfl (by first | exact .inl rfl | exact .inr rfl) (de_lst (da_cons de_bl (da_cons de_bl (da_cons de_bl da_nil)))))
      (dss_cons (ds_for PassesOwn.never rfl (di_seq rfl (de_var (pv 0))) (dg_nm (i := 3) sc__law_least.nd rfl (by first | exact .inl rfl | exact .inr rfl))
        (dss_cons (ds_expr (de_updD (pv 1) (by rfl) T.b_dict rfl (da_cons (de_lc (own := [("_law_one", 9)]) rfl sc__law_least.nd (di_seq rfl (de_var (pv 3))) (blkOk_by (by kernel_rfl)) (by decide) (fun _ _ _ _ _ => (dg_nm (i := 9) sc__law_least.nd rfl (by first | exact .inl rfl | exact .inr rfl))) (fun _ _ _ _ _ => dts_nil) (fun _ _ _ _ _ => (de_tup (da_cons (de_var (pv 9)) (da_cons de_bl da_nil))))) da_nil) ⟨by rfl, by rfl, by rfl, by rfl⟩))
        (dss_cons (ds_set (i := 4) sc__law_least.nd rfl (by first | exact .inl rfl | exact .inr rfl) (de_callB cr_sortA (cd_sortA rfl) (by rfl) T.b_sorted (by decide +kernel) (da_cons (de_var (pv 3)) da_nil)))
        (dss_cons (ds_set (i := 2) sc__law_least.nd rfl (by first | exact .inl rfl | exact .inr rfl) (de_lst (da_cons (de_and rfl (de_ix ix_A (od_ix rfl) (de_var (pv 2)) de_int (fun _ _ => rfl)) (de_one (de_cmp (op_eqA hr.units) (od_eq rfl) (de_callTy call_list_of (cd_list rfl) (by rfl) T.b_list (by decide +kernel) (da_cons (de_var (pv 3)) da_nil)) (de_var (pv 4)) (nomark _)))) (da_cons (de_and rfl (de_ix ix_A (od_ix rfl) (de_var (pv 2)) de_int (fun _ _ => rfl)) (de_one (de_cmp (op_eqA hr.units) (od_eq rfl) (de_callTy call_list_of (cd_list rfl) (by rfl) T.b_list (by decide +kernel) (da_cons (de_var (pv 3)) da_nil)) (de_rev rfl (de_var (pv 4))) (nomark _)))) (da_cons (de_ix ix_A (od_ix rfl) (de_var (pv 2)) de_int (fun _ _ => rfl)) da_nil)))))
        (dss_one (ds_seti (i := 2) (ps_asg (de_and rfl (de_ix ix_A (od_ix rfl) (de_var (pv 2)) de_int (fun _ _ => rfl)) (de_one (de_cmp (op_eqA hr.units) (od_eq rfl) (de_lenSet rfl (by rfl) T.b_len (by rfl) T.b_set (de_var (pv 3))) (de_callB call_len (cd_len rfl) (by rfl) T.b_len (by decide +kernel) (da_cons (de_var (pv 3)) da_nil)) (nomark _)))) (pg_sub (pv 2) de_int set_list))))))))
      (dss_cons (ds_set (i := 5) sc__law_least.nd rfl (by first | exact .inl rfl | exact .inr rfl) (de_if (dt_ne0 hr.u0 (pv 1)) (de_srtD (pv 1) (by rfl) T.b_sorted) (de_lst (da_cons de_int da_nil))))
      (dss_cons (ds_par (i := 6) (j := 7) rfl sc__law_least.nd rfl rfl (by decide) rfl rfl (da_cons (de_lc (own := [("_law_row", 3)]) rfl sc__law_least.nd (di_seq rfl (de_var (pv 0))) (blkOk_by (by kernel_rfl)) (by decide) (fun _ _ _ _ _ => (dg_nm (i := 3) sc__law_least.nd rfl (by first | exact .inl rfl | exact .inr rfl))) (fun _ _ _ _ _ => dts_nil) (fun _ _ _ _ _ => (de_callB call_len (cd_len rfl) (by rfl) T.b_len (by decide +kernel) (da_cons (de_var (pv 3)) da_nil)))) (da_cons (de_lc (own := [("_law_row", 3)]) rfl sc__law_least.nd (di_seq rfl (de_var (pv 0))) (blkOk_by (by kernel_rfl)) (by decide) (fun _ _ _ _ _ => (dg_nm (i := 3) sc__law_least.nd rfl (by first | exact .inl rfl | exact .inr rfl))) (fun _ _ _ _ _ => dts_nil) (fun _ _ _ _ _ => (de_callB (cr_sumA rfl) (cd_sumA rfl) (by rfl) T.b_sum (by decide +kernel) (da_cons (de_var (pv 3)) da_nil)))) da_nil)) rfl)
      (dss_cons (ds_set (i := 8) sc__law_least.nd rfl (by first | exact .inl rfl | exact .inr rfl) (de_tup (da_cons (de_ix ix_A (od_ix rfl) (de_var (pv 5)) de_int (fun _ _ => rfl)) (da_cons (de_ix ix_A (od_ix rfl) (de_var (pv 5)) (de_neg de_int) (fun _ _ => rfl)) (da_cons (de_callB (cr_min rfl) (cd_min rfl) (by rfl) T.b_min (by decide +kernel) (da_cons (de_var (pv 6)) da_nil)) (da_cons (de_callB (cr_max rfl) (cd_max rfl) (by rfl) T.b_max (by decide +kernel) (da_cons (de_var (pv 6)) da_nil)) da_nil))))))
      (dss_one (ds_ret (de_op op_addA (od_add rfl) (de_op op_addA (od_add rfl) (de_var (pv 8)) (de_callTy call_tuple_of (cd_tuple rfl) (by rfl) T.b_tuple (by decide +kernel) (da_cons (de_var (pv 2)) da_nil))) (de_tup (da_cons (de_callB (cr_min rfl) (cd_min rfl) (by rfl) T.b_min (by decide +kernel) (da_cons (de_var (pv 7)) da_nil)) (da_cons (de_callB (cr_max rfl) (cd_max rfl) (by rfl) T.b_max (by decide +kernel) (da_cons (de_var (pv 7)) da_nil)) da_nil))))))))))))), ?_⟩
  dsimp only [Bk.T, theT]
  rintro rs τ Q2 ⟨Q, ⟨rows, rfl, hrl, hin, h⟩, rfl⟩
  walk_at "X"
  refine ⟨eqOk_rows rows [], kIfS_of (fun e => ?_) fun e => ?_⟩
  · walk_at "X"
    refine ⟨⟨[], rfl⟩, h noneK (.inl ⟨fun r hr => ?_, rfl⟩) noneK_kind⟩
    have e : PyData.eqv (.list (rows.map tI)) (.list (([] : List (List Int)).map tI)) = true := e
    rw [eqv_rows, decide_eq_true_eq] at e
    rw [e] at hr
    cases hr
  have hne : rows ≠ [] := fun z => by subst z; cases e
  walk_at "X"
  intro p hp
  walk_at "X"
  refine for_mapA (T := T2) tI (fun j env τ' => ∃ (m : List (Key × Z.D)) (ks : List Int) (u d n : Bool) (x3 x4 x9 : SV), τ' = ⟨τ.dr, (p, .dk m) :: τ.cs⟩ ∧ env = [SV.d (.list (rows.map tI)), .raw (.ref p), .ol [.bool u, .bool d, .bool n], x3, x4, .no, .no, .no, .no, x9] ∧
    m.map (·.1) = ks.map Sum.inl ∧ ks.Nodup ∧ (∀ x, x ∈ ks ↔ ∃ r ∈ rows.take j, x ∈ r) ∧ (u = true ↔ ∀ r ∈ rows.take j, pairsB leB r = true) ∧ (d = true ↔ ∀ r ∈ rows.take j, pairsB geB r = true) ∧ (n = true ↔ ∀ r ∈ rows.take j, r.Nodup)) rows _ _
    ⟨[], [], true, true, true, _, _, _, rfl, rfl, rfl, List.nodup_nil, by simp, by simp, by simp, by simp⟩ ?_ ?_
  · rintro j r env τ' er ⟨m, ks, u, d, n, x3, x4, x9, rfl, rfl, hk, hkn, hkm, hu, hd, hn⟩ kn hkn'
    have hr := hin r (List.mem_of_getElem? er)
    have htk : rows.take (j + 1) = rows.take j ++ [r] := by rw [List.take_add_one, er]; rfl
    walk_at "X"
    refine lc_mapA (τ := (⟨τ.dr, (p, .dk m) :: τ.cs⟩ : T2)) PyData.int (fun x => .tuple [.int x, .bool true]) r (fun x _ kc k0 q => ?_) (by rw [sizeLine_eq]; omega) ?_
    · walk_at "X"
      exact q
    walk_at "X"
    have mlen : m.length = ks.length := by have := congrArg List.length hk; simpa using this
    have hkr : ∀ x ∈ ks, -20 ≤ x ∧ x ≤ 20 := fun x hx => by
      obtain ⟨q, hq, hxq⟩ := (hkm x).mp hx
      exact (hin q (List.mem_of_mem_take hq)).2 x hxq
    have kl := ks_len hkn hkr
    obtain ⟨ks1, a1, a2, a3⟩ := mergeD_keys (m := []) (ks := []) (more := r.map fun x => ((Sum.inl x : Key), PyData.bool true)) (xs := r) rfl List.nodup_nil (by rw [List.map_map]; rfl)
    obtain ⟨ks2, b1, b2, b3⟩ := mergeD_keys hk hkn a1
    refine ⟨_, _, rfl, pairsD_ints r, rfl, by rw [List.length_map, sizeLine_eq]; omega, ?_⟩
    generalize mergeD m (mergeD [] (r.map fun x => ((Sum.inl x : Key), PyData.bool true))) = m2 at b1 ⊢
    walk_at "X"
    refine gSortA_of (ns := r) rfl fun ms hp hs => ?_
    walk_at "X"
    refine kAndV (c := pairsB leB r) (fun _ Q' q => ?_) ?_
    · walk_at "X"
      refine ⟨eqOk_intsL r ms, ?_⟩
      rw [eqv_intsL, rise_iff hp hs]
      exact q
    walk_at "X"
    refine kAndV (c := pairsB geB r) (fun _ Q' q => ?_) ?_
    · walk_at "X"
      rw [← List.map_reverse]
      refine ⟨eqOk_intsL r ms.reverse, ?_⟩
      rw [eqv_intsL, fall_iff hp hs]
      exact q
    walk_at "X"
    refine kAndV (c := decide r.Nodup) (fun _ Q' q => ?_) ?_
    · walk_at "X"
      refine ⟨by omega, ?_⟩
      rw [show (decide (((dis r).length : Int) = (r.length : Int))) = decide r.Nodup by rw [← dis_nd, decide_eq_decide]; omega]
      exact q
    walk_at "X"
    rw [show ixN 3 2 = some 2 from rfl]
    walk_at "X"
    refine hkn' _ _ ⟨m2, ks2, u && pairsB leB r, d && pairsB geB r, n && decide r.Nodup, _, _, _, rfl, rfl, b1, b2, fun x => ?_, ?_, ?_, ?_⟩
    · rw [b3, a3, hkm, htk]
      simp only [List.mem_append, List.mem_singleton, or_and_right, exists_or, exists_eq_left, List.not_mem_nil, false_or]
    · rw [Bool.and_eq_true, hu, htk]
      simp only [List.mem_append, List.mem_singleton, or_imp, forall_and, forall_eq]
    · rw [Bool.and_eq_true, hd, htk]
      simp only [List.mem_append, List.mem_singleton, or_imp, forall_and, forall_eq]
    · rw [Bool.and_eq_true, hn, htk, decide_eq_true_eq]
      simp only [List.mem_append, List.mem_singleton, or_imp, forall_and, forall_eq]
  rintro env τ' ⟨m, ks, u, d, n, x3, x4, x9, rfl, rfl, hk, hkn, hkm, hu, hd, hn⟩
  rw [List.take_length] at hkm hu hd hn
  walk_at "X"
  refine kIf_join (fun x τ'' => τ'' = (⟨τ.dr, (p, .dk m) :: τ.cs⟩ : T2) ∧ ∃ (l t i : List Int) (lo hi : Int), x = .ol (l.map .int) ∧ l = lo :: t ∧ l = i ++ [hi] ∧ EndLo (fun r => r ∈ rows) lo ∧ EndHi (fun r => r ∈ rows) hi) (fun e Q' q => ?_) (fun e Q' q => ?_) ?_
  · have hkr : ∀ x ∈ ks, -20 ≤ x ∧ x ≤ 20 := fun x hx => by
      obtain ⟨q, hq, hxq⟩ := (hkm x).mp hx
      exact (hin q hq).2 x hxq
    have kl := ks_len hkn hkr
    have hks : ks ≠ [] := fun z => by
      subst z
      cases m with
      | nil => cases e
      | cons a b => cases hk
    walk_at "X"
    refine ⟨ks, hk, by omega, fun ys hp hs => ?_⟩
    have hm : ∀ x, x ∈ ys ↔ ∃ r ∈ rows, x ∈ r := fun x => hp.mem_iff.trans (hkm x)
    have hy : ys ≠ [] := fun z => by subst z; exact hks (List.nil_perm.mp hp)
    obtain ⟨i, hi, ei⟩ := snoc_of hy
    cases ys with
    | nil => exact (hy rfl).elim
    | cons lo t =>
      refine q _ _ ⟨rfl, lo :: t, t, i, lo, hi, rfl, rfl, ei, .inr ⟨?_, fun r hr x hx => ?_⟩, .inr ⟨?_, fun r hr x hx => ?_⟩⟩
      · exact (hm lo).mp List.mem_cons_self
      · rcases List.mem_cons.mp ((hm x).mpr ⟨r, hr, hx⟩) with z | z
        · rw [z]; exact Int.le_refl _
        · exact (List.pairwise_cons.mp hs).1 x z
      · exact (hm hi).mp (by rw [ei]; simp)
      · have z := (hm x).mpr ⟨r, hr, hx⟩
        rw [ei] at z hs
        rcases List.mem_append.mp z with z | z
        · exact (List.pairwise_append.mp hs).2.2 x z hi (by simp)
        · rw [List.mem_singleton.mp z]; exact Int.le_refl _
  · have hks : ks = [] := by
      cases m with
      | nil =>
        cases ks with
        | nil => rfl
        | cons a b => cases hk
      | cons a b => cases e
    subst hks
    have he : ∀ r ∈ rows, r = [] := fun r hr => by
      cases r with
      | nil => rfl
      | cons a b => exact absurd ((hkm a).mpr ⟨_, hr, List.mem_cons_self⟩) (by simp)
    walk_at "X"
    exact q _ _ ⟨rfl, [0], [], [], 0, 0, rfl, rfl, rfl, .inl ⟨he, rfl⟩, .inl ⟨he, rfl⟩⟩
  rintro _ _ ⟨rfl, l, t, i, lo, hi, rfl, el, ei, hlo, hhi⟩
  walk_at "X"
  refine lc_mapA (τ := (⟨τ.dr, (p, .dk m) :: τ.cs⟩ : T2)) tI (fun r => .int (r.length : Int)) rows (fun x _ kc k0 q => ?_) (by rw [sizeLine_eq]; omega) ?_
  · walk_at "X"
    exact q
  walk_at "X"
  refine lc_mapA (τ := (⟨τ.dr, (p, .dk m) :: τ.cs⟩ : T2)) tI (fun r => .int r.sum) rows (fun x _ kc k0 q => ?_) (by rw [sizeLine_eq]; omega) ?_
  · walk_at "X"
    exact q
  walk_at "X"
  refine at_first el ?_
  walk_at "X"
  refine at_last ei ?_
  walk_at "X"
  have mn : ∀ f : List Int → Int, rows.map f ≠ [] := fun f z => hne (List.map_eq_nil_iff.mp z)
  refine gMinC_of (ns := rows.map fun r => (r.length : Int)) (by rw [List.map_map]; rfl) (mn _) fun fe fe1 fe2 => ?_
  walk_at "X"
  refine gMaxC_of (ns := rows.map fun r => (r.length : Int)) (by rw [List.map_map]; rfl) (mn _) fun ma ma1 ma2 => ?_
  walk_at "X"
  refine gMinC_of (ns := rows.map fun r => r.sum) (by rw [List.map_map]; rfl) (mn _) fun fr fr1 fr2 => ?_
  walk_at "X"
  refine gMaxC_of (ns := rows.map fun r => r.sum) (by rw [List.map_map]; rfl) (mn _) fun to to1 to2 => ?_
  walk_at "X"
  have top : ∀ {f : List Int → Int} {z : Int}, z ∈ rows.map f → (∀ y ∈ rows.map f, y ≤ z) → (∃ r, r ∈ rows ∧ f r = z) ∧ ∀ r, r ∈ rows → f r ≤ z := fun {f z} h1 h2 =>
    ⟨let ⟨r, h, e⟩ := List.mem_map.mp h1; ⟨r, h, e⟩, fun r hr => h2 _ (List.mem_map.mpr ⟨r, hr, rfl⟩)⟩
  have bot : ∀ {f : List Int → Int} {z : Int}, z ∈ rows.map f → (∀ y ∈ rows.map f, z ≤ y) → (∃ r, r ∈ rows ∧ f r = z) ∧ ∀ r, r ∈ rows → z ≤ f r := fun {f z} h1 h2 =>
    ⟨let ⟨r, h, e⟩ := List.mem_map.mp h1; ⟨r, h, e⟩, fun r hr => h2 _ (List.mem_map.mpr ⟨r, hr, rfl⟩)⟩
  have hfe := bot fe1 fe2
  have hma := top ma1 ma2
  have hfr := bot fr1 fr2
  have hto := top to1 to2
  refine ⟨⟨[_], rfl⟩, h ⟨lo, hi, fe, ma, u, d, n, fr, to⟩ (.inr ⟨lo, hi, fe, ma, u, d, n, fr, to, ⟨hlo, hhi, hfe, hma, hu, hd, hn, hfr, hto⟩, rfl⟩) ?_⟩
  have b1 : ∀ r ∈ rows, (r.length : Int) ≤ 8 ∧ -160 ≤ r.sum ∧ r.sum ≤ 160 := fun r hr => by
    obtain ⟨g1, g2⟩ := hin r hr
    have := sum_bound g2
    omega
  obtain ⟨⟨r1, c1, d1⟩, _⟩ := hfe
  obtain ⟨⟨r2, c2, d2⟩, _⟩ := hma
  obtain ⟨⟨r3, c3, d3⟩, _⟩ := hfr
  obtain ⟨⟨r4, c4, d4⟩, _⟩ := hto
  have g1 := b1 r1 c1
  have g2 := b1 r2 c2
  have g3 := b1 r3 c3
  have g4 := b1 r4 c4
  refine kind_kD ?_ ?_ (by dsimp only; omega) (by dsimp only; omega) (by dsimp only; omega) (by dsimp only; omega)
  · rcases hlo with ⟨_, rfl⟩ | ⟨⟨r, hr, hx⟩, _⟩
    · dsimp only
      omega
    · exact (hin r hr).2 _ hx
  · rcases hhi with ⟨_, rfl⟩ | ⟨⟨r, hr, hx⟩, _⟩
    · dsimp only
      omega
    · exact (hin r hr).2 _ hx
theorem ok__law_pairs {f : Addr} {fd : FuncData} (T : Txt K mg ca) (F : Fun K "_law_pairs" "_law_pairs" s__law_pairs f fd)  :
    FnG P w K mg base 1 f fd ["_law_some", "_law_others"] (spD (theT (Ts ca)) K (FF__law_pairs)) := by
  refine okG F sc__law_pairs (by walk_at "v") (by decide) fun cdv A outer s H E G Fp hcd hr => ⟨_, (dss_cons (ds_set (i := 2) sc__law_pairs.nd rfl (by first | exact .inl rfl | exact .inr rfl) (de_lst da_nil))
      (dss_cons (ds_for PassesOwn.never rfl (di_seq rfl (de_var (pv 0))) (dg_nm (i := 3) sc__law_pairs.nd rfl (by first | exact .inl rfl | exact .inr rfl))
        (dss_one (ds_ext (ps_expr (pe_bm PySem.F.plainAttrs_list PySem.F.slot_list_extend PySem.F.type_list_extend mt_extend (pv 2) (pa_cons (de_lc (own := [("_law_other", 4)]) rfl sc__law_pairs.nd (di_seq rfl (de_var (pv 1))) (blkOk_by (by kernel_rfl)) (by decide) (fun _ _ _ _ _ => (dg_nm (i := 4) sc__law_pairs.nd rfl (by first | exact .inl rfl | exact .inr rfl))) (fun _ _ _ _ _ => dts_nil) (fun _ _ _ _ _ => (de_tup (da_cons (de_var (pv 3)) (da_cons (de_var (pv 4)) da_nil))))) pa_nil))))))
      (dss_one (ds_retR (dr_own (pv 2)))))), ?_⟩
  dsimp only [Bk.T, theT]
  rintro rs τ Q ⟨xs, ys, rfl, hl, hl2, h⟩
  walk_at "x"
  have hlen : ∀ l : List D, (l.flatMap fun x => ys.map fun y => PyData.tuple [x, y]).length = l.length * ys.length := fun l => by
    induction l with
    | nil => simp
    | cons a l ih => rw [List.flatMap_cons, List.length_append, ih, List.length_map, List.length_cons, Nat.succ_mul]; omega
  refine for_inv (fun j env τ' => τ' = τ ∧ (∃ x2 x4, env = [.d (.list xs), .d (.list ys), .ol ((xs.take j).flatMap fun x => ys.map fun y => .tuple [x, y]), x2, x4])) _ _ _ ⟨rfl, ⟨_, _, rfl⟩⟩ ?_ ?_
  · rintro j x env τ' ej ⟨rfl, ⟨x2, x4, rfl⟩⟩ kn hkn
    have hj : j < xs.length := (List.getElem?_eq_some_iff.mp ej).1
    walk_at "x"
    refine lc_map (fun y => .tuple [x, y]) _ (fun y hy kc k0 hk => ?_) (by rw [sizeLine_eq]; omega) ?_
    · walk_at "x"
      exact hk
    · walk_at "x"
      have e : ((xs.take j).flatMap fun x => ys.map fun y => PyData.tuple [x, y]) ++ ys.map (fun y => PyData.tuple [x, y]) = (xs.take (j + 1)).flatMap fun x => ys.map fun y => .tuple [x, y] := by
        rw [List.take_add_one, ej, List.flatMap_append]
        simp
      rw [e]
      refine ⟨?_, hkn _ _ ⟨rfl, ⟨_, _, rfl⟩⟩⟩
      rw [hlen, List.length_map, sizeLine_eq, List.length_take]
      have : min j xs.length * ys.length ≤ xs.length * ys.length := Nat.mul_le_mul_right _ (Nat.min_le_right _ _)
      omega
  · rintro env τ' ⟨rfl, ⟨x2, x4, rfl⟩⟩
    rw [List.take_length]
    walk_at "x"
    exact h
theorem ok_is_number {f : Addr} {fd : FuncData} (T : Txt K mg ca) (F : Fun K "is_number" "is_number" s_is_number f fd) (k_is_whole : Known P w K mg base (theT (Ts ca)) "is_whole" ["thing", "least", "most"] 1 (FF_is_whole)) :
    FnOk P w K mg base CX0 2 f fd ["thing"] (spD (theT (Ts ca)) K (FF_is_number)) := by
  refine okP F sc_is_number (by walk_at "v") (by decide) fun cdv A outer s H E G Fp hr => ⟨_, (dss_one (ds_ret (de_callK rfl k_is_whole (hr.mono (by decide)) (by rfl) (da_cons (de_var (pv 0)) (da_cons (de_op op_sub od_I0 de_int (de_gint (by rfl) T.c_MOST_NUMBER)) (da_cons (de_gint (by rfl) T.c_MOST_NUMBER) da_nil)))))), ?_⟩
  dsimp only [Bk.T, theT]
  rintro rs τ Q ⟨x, rfl, hx, h⟩
  walk_at "y"
  exact ⟨x, _, _, rfl, hx, by walk_at "y"; exact h⟩
theorem ok_level_sums {f : Addr} {fd : FuncData} (T : Txt K mg ca) (F : Fun K "level_sums" "level_sums" s_level_sums f fd) (k_window : Known P w K mg base (theT (Ts ca)) "window" ["least", "most"] 1 (FF_window)) :
    FnOk P w K mg base CX0 2 f fd ["numbers", "most", "is_unlike"] (spD (theT (Ts ca)) K (FF_level_sums)) := by
  refine okP F sc_level_sums (by walk_at "v") (by decide) fun cdv A outer s H E G Fp hr => ⟨_, (dss_cons (ds_set (i := 3) sc_level_sums.nd rfl (by first | exact .inl rfl | exact .inr rfl) (de_lst (da_cons (de_callK rfl k_window (hr.mono (by decide)) (by rfl) (da_cons de_int (da_cons de_int da_nil))) da_nil)))
      (dss_cons (ds_for PassesOwn.never rfl (di_range2 (by rfl) T.b_range (da_cons de_int (da_cons (de_op op_addA (od_add rfl) (de_var (pv 1)) de_int) da_nil))) (dg_nm (i := 4) sc_level_sums.nd rfl (by first | exact .inl rfl | exact .inr rfl))
        (dss_cons (ds_set (i := 5) sc_level_sums.nd rfl (by first | exact .inl rfl | exact .inr rfl) de_int)
        (dss_cons (ds_for PassesOwn.never rfl (di_seq rfl (de_if (dt_w (dw_or (dt_cmp (op_eqA hr.units) (od_eq rfl) (de_var (pv 4)) de_int (nomark _)) (dw_or1 (dt_not (dt_tru rfl (de_var (pv 2))))))) (de_var (pv 0)) (de_tup da_nil))) (dg_nm (i := 6) sc_level_sums.nd rfl (by first | exact .inl rfl | exact .inr rfl))
          (dss_one (ds_set (i := 5) sc_level_sums.nd rfl (by first | exact .inl rfl | exact .inr rfl) (de_op op_or od_I0 (de_var (pv 5)) (de_callK rfl k_window (hr.mono (by decide)) (by rfl) (da_cons (de_op op_mulB (od_mulB rfl) (de_var (pv 4)) (de_var (pv 6))) (da_cons (de_op op_mulB (od_mulB rfl) (de_var (pv 4)) (de_var (pv 6))) da_nil)))))))
        (dss_one (ds_app (ps_expr (pe_bm PySem.F.plainAttrs_list PySem.F.slot_list_append PySem.F.type_list_append mt_append (pv 3) (pa_cons (de_var (pv 5)) pa_nil))))))))
      (dss_one (ds_retR (dr_own (pv 3)))))), ?_⟩
  dsimp only [Bk.T, theT]
  rintro rs τ Q ⟨ns, m, unl, rfl, hr, hl, hm, h⟩
  walk_at "x"
  refine ⟨_, _, rfl, fun f hf => ?_⟩
  walk_at "x"
  refine ⟨⟨by omega, by omega⟩, ?_⟩
  refine for_inv (fun j env τ' => τ' = τ ∧ ∃ x4 x5 x6, ∃ fs : List Int, env = [.d (tI ns), .d (.int m), .d (.bool unl), .ol (fs.map .int), x4, x5, x6] ∧ fs.length = j + 1 ∧ SumsOk ns true unl fs) _ _ _ ⟨rfl, _, _, _, [f], rfl, rfl, ?_⟩ ?_ ?_
  · intro k g hk
    match k, hk with
    | 0, hk =>
      cases hk
      refine ⟨hf.1, fun s => (hf.2 s).trans ?_⟩
      rw [lot_zero]
      omega
    | k + 1, hk => simp at hk
  · rintro j x env τ' ej ⟨rfl, x4, x5, x6, fs, rfl, hfl, hfs⟩ kn hkn
    obtain ⟨hj, rfl⟩ := rgI_get ej
    have hj : j < m := by omega
    clear ej
    walk_at "x"
    refine kOrT_or (c := !unl) (fun _ Q' q => by walk_at "x"; exact q) ?_
    refine kIf_join (fun x τ'' => τ'' = τ' ∧ x = .d (tI (if (decide ((1 : Int) + j = 1) || !unl) = true then ns else []))) (fun e Q' q => ?_) (fun e Q' q => ?_) ?_
    · walk_at "x"
      exact q _ _ ⟨rfl, by rw [e, if_pos rfl]⟩
    · walk_at "x"
      exact q _ _ ⟨rfl, by rw [e, if_neg (by decide)]; rfl⟩
    rintro x τ'' ⟨rfl, rfl⟩
    have hL : ∀ x, x ∈ (if (decide ((1 : Int) + j = 1) || !unl) = true then ns else []) ↔ x ∈ ns ∧ (j = 0 ∨ unl = false) := by
      intro x
      by_cases hc : (decide ((1 : Int) + j = 1) || !unl) = true
      · rw [if_pos hc]
        rw [Bool.or_eq_true, decide_eq_true_eq, Bool.not_eq_true'] at hc
        exact ⟨fun z => ⟨z, hc.elim (fun e => .inl (by omega)) .inr⟩, fun z => z.1⟩
      · rw [if_neg hc]
        rw [Bool.or_eq_true, decide_eq_true_eq, Bool.not_eq_true'] at hc
        refine ⟨fun z => by simp at z, fun z => (hc ?_).elim⟩
        rcases z.2 with e | e
        · exact .inl (by omega)
        · exact .inr e
    generalize (if (decide ((1 : Int) + j = 1) || !unl) = true then ns else []) = L at hL
    simp only [tI]
    walk_at "x"
    refine for_inv (fun i env τ3 => τ3 = τ'' ∧ ∃ x6, ∃ b : Int, env = [.d (.tuple (ns.map .int)), .d (.int m), .d (.bool unl), .ol (fs.map .int), .d (.int (1 + j)), .d (.int b), x6] ∧ BitsOf b (fun s => ∃ x ∈ L.take i, s = ((j : Int) + 1) * x)) _ _ _ ⟨rfl, _, 0, rfl, Int.le_refl _, fun s => ⟨fun z => ?_, fun z => ?_⟩⟩ ?_ ?_
    · have := z.2.2
      simp at this
    · obtain ⟨x, hx, _⟩ := z
      simp at hx
    · rintro i y env τ3 ei ⟨rfl, x6, b, rfl, hb⟩ kn2 hkn2
      rw [List.getElem?_map] at ei
      cases en : L[i]? with
      | none => rw [en] at ei; cases ei
      | some x =>
        rw [en] at ei
        cases ei
        have hxn := ((hL x).mp (List.mem_of_getElem? en)).1
        have hxr := hr x hxn
        walk_at "x"
        refine ⟨.inl (by omega), .inl (by omega), ?_⟩
        refine ⟨_, _, rfl, fun g hg => ?_⟩
        walk_at "x"
        refine hkn2 _ _ ⟨rfl, _, _, rfl, ?_⟩
        refine ⟨bitOr_nn0 hb.1 hg.1, fun s => ?_⟩
        rw [or_has hb.1 hg.1, hb.2, hg.2, List.take_add_one, en]
        have hjx : -160 ≤ (1 + (j : Int)) * x ∧ (1 + (j : Int)) * x ≤ 160 := by
          have : (1 + (j : Int)) * x = x * (1 + (j : Int)) := Int.mul_comm _ _
          have h1 : (1 + (j : Int)) * x ≤ (1 + (j : Int)) * 20 := Int.mul_le_mul_of_nonneg_left hxr.2 (by omega)
          have h2 : (1 + (j : Int)) * (-20) ≤ (1 + (j : Int)) * x := Int.mul_le_mul_of_nonneg_left hxr.1 (by omega)
          omega
        have ec : (1 + (j : Int)) * x = ((j : Int) + 1) * x := by rw [Int.add_comm]
        constructor
        · rintro (⟨y, hy, rfl⟩ | ⟨_, h1, h2⟩)
          · exact ⟨y, List.mem_append_left _ hy, rfl⟩
          · exact ⟨x, by simp, by omega⟩
        · rintro ⟨y, hy, rfl⟩
          rcases List.mem_append.mp hy with hy | hy
          · exact .inl ⟨y, hy, rfl⟩
          · simp only [Option.toList_some, List.mem_singleton] at hy
            subst hy
            exact .inr ⟨by omega, by omega, by omega⟩
    · rintro env τ3 ⟨rfl, x6, b, rfl, hb⟩
      rw [List.length_map, List.take_length] at hb
      walk_at "x"
      refine ⟨by rw [List.length_map, sizeLine_eq]; omega, ?_⟩
      refine hkn _ _ ⟨rfl, _, _, _, fs ++ [b], by rw [List.map_append]; rfl, by rw [List.length_append, hfl]; rfl, ?_⟩
      intro k g hk
      by_cases hkj : k < fs.length
      · rw [List.getElem?_append_left hkj] at hk
        exact hfs k g hk
      · rw [List.getElem?_append_right (by omega)] at hk
        have hk0 : k - fs.length = 0 := by
          obtain ⟨h1, _⟩ := List.getElem?_eq_some_iff.mp hk
          simp at h1
          omega
        rw [hk0] at hk
        cases hk
        have : k = j + 1 := by omega
        subst this
        refine ⟨hb.1, fun s => (hb.2 s).trans ?_⟩
        rw [lot_lvl]
        constructor
        · rintro ⟨x, hx, rfl⟩
          have := (hL x).mp hx
          exact ⟨x, this.1, this.2, rfl⟩
        · rintro ⟨x, h1, h2, rfl⟩
          exact ⟨x, (hL x).mpr ⟨h1, h2⟩, rfl⟩
  · rintro env τ' ⟨rfl, x4, x5, x6, fs, rfl, hfl, hfs⟩
    walk_at "x"
    rw [rgI_len] at hfl
    exact h fs (by omega) hfs

theorem ok__law_next {f : Addr} {fd : FuncData} (T : Txt K mg ca) (F : Fun K "_law_next" "_law_next" s__law_next f fd) (k__law_mixed : Known P w K mg base (theS ((Ts ca).map (·.1))) "_law_mixed" ["_law_cell", "_law_k"] 1 FF__law_mixed) :
    FnOk P w K mg base CX0 2 f fd ["_law_draw", "_law_many"] (spD (theS ((Ts ca).map (·.1))) K FF__law_next) := by
  obtain ⟨fM, fdM, GM, gM, kM, bM⟩ := k__law_mixed.ex
  refine F.ok sc__law_next (fun vs H Q E h => ?_) (fun cdv A outer s H vs Q E hr h => ?_)
  · obtain ⟨G, Fp, τ, rs, Qd, Ha, k, r, dr, ⟨a, b, n, e, ht, hn, q⟩, fin⟩ := h
    subst e
    obtain ⟨v, w', e1, _, _⟩ := r.two
    subst e1
    rfl
  · obtain ⟨G, Fp, τ, rs, Qd, Ha, k, r, dr, ⟨a, b, n, e, ht, hn, q⟩, fin⟩ := h
    subst e ht
    obtain ⟨v, w', e1, rv, rw'⟩ := r.two
    have rv : v = .ref a := rv
    have rw' := rint rw'
    subst e1 rv rw'
    have hu := hu_of hr
    obtain ⟨hF, c, cs, i, l, u, hd, hc, hne, h0⟩ := id k.r
    have hcH : SqP K H c (cs.map V.int) := same_sqp k.same hc
    refine ⟨_, pss_cons (ps_if (pt_cmpR op_gt (pe_dget hu (pv 0) pe_str (fun _ _ => rfl)) pe_int (nomark _))
        (pss_cons (ps_set (i := 2) sc__law_next.nd rfl (.inl rfl) (pe_op op_mod (pe_dget hu (pv 0) pe_str (fun _ _ => rfl)) (pv 1)))
        (pss_cons (ps_dput hu (pv 0) pe_str (pe_op op_fdiv (pe_dget hu (pv 0) pe_str (fun _ _ => rfl)) (pv 1)) rfl)
        (pss_one (ps_ret (pv 2))))) pss_nil)
      (pss_cons (ps_set (i := 3) sc__law_next.nd rfl (.inl rfl) (pe_dget hu (pv 0) pe_str (fun _ _ => rfl)))
      (pss_cons (ps_set (i := 4) sc__law_next.nd rfl (.inl rfl) (pe_ix ix_list (pv 3) (pe_op op_mod (pe_dget hu (pv 0) pe_str (fun _ _ => rfl)) (pe_callB call_len_seq (by rfl) T.b_len PySem.boot_len (pa_cons (pv 3) pa_nil))) (fun _ _ => rfl)))
      (pss_cons (ps_dput hu (pv 0) pe_str (pe_op op_add (pe_dget hu (pv 0) pe_str (fun _ _ => rfl)) pe_int) rfl)
      (pss_cons (ps_if (PW.pt (pw_and (pt_cmpR op_ge (pv 4) (pe_op op_pow pe_int pe_int) (nomark _)) (pw_and1 (pt_cmpR op_le (pe_dget hu (pv 0) pe_str (fun _ _ => rfl)) (pe_callB call_len_seq (by rfl) T.b_len PySem.boot_len (pa_cons (pv 3) pa_nil)) (nomark _)))))
        (pss_cons (ps_dput hu (pv 0) pe_str (pe_op op_fdiv (pv 4) (pv 1)) rfl) (pss_one (ps_ret (pe_op op_mod (pv 4) (pv 1))))) pss_nil)
      (pss_cons (ps_dput hu (pv 0) pe_str (pe_op op_add (pe_dget hu (pv 0) pe_str (fun _ _ => rfl)) pe_int) rfl)
      (pss_one (ps_ret (pe_op op_mod (pe_call GM hr (by rfl) gM kM bM .nil pass0 (pa_cons (pe_call GM hr (by rfl) gM kM bM .nil pass0 (pa_cons (pv 4) (pa_cons (pe_dget hu (pv 0) pe_str (fun _ _ => rfl)) pa_nil)))
        (pa_cons (pe_dget hu (pv 0) pe_str (fun _ _ => rfl)) pa_nil))) (pv 1))))))))), ?_⟩
    have gL : DGet H a (.str "left") (some (.int l)) := by
      have z := DGet.k (k := Sum.inr ("left" : Str)) hd
      rw [dr_left] at z
      exact z
    have gA : DGet H a (.str "at") (some (.int i)) := by
      have z := DGet.k (k := Sum.inr ("at" : Str)) hd
      rw [dr_at] at z
      exact z
    have gC : DGet H a (.str "cells") (some (.ref c)) := by
      have z := DGet.k (k := Sum.inr ("cells" : Str)) hd
      rw [dr_cells] at z
      exact z
    have put : ∀ {H' : Hp} {i l u : Int} (x : Str) (z : Int) (K' : List (Key × V)), H' a = some (.dK (drK c i l u)) → putK (drK c i l u) (Sum.inr x) (.int z) = K' → DPut H' a (.str x) (.int z) (upd H' a (.dK K')) := fun {H' i l u} x z K' e ek => by
      have y := DPut.k (k := Sum.inr x) (v := .int z) e (by rw [dr_len]; decide)
      rw [ek] at y
      exact y
    -- if left > 0
    refine ⟨_, rfl, a, _, rfl, gL, _, _, rfl, rfl, _, rfl, ite2 (fun _ => ?_) (fun _ => ?_)⟩
    · refine ⟨_, rfl, a, _, rfl, gL, _, rfl, _, _, rfl, rfl, hn.1, ?_⟩
      refine ⟨_, rfl, a, _, rfl, gL, _, rfl, _, _, rfl, rfl, hn, _, rfl, a, _, rfl, put "left" _ _ hd dr_pleft, _, rfl, ?_⟩
      obtain ⟨k2, st2⟩ := dr_ok (b' := b) (i' := i) (l' := l / n) (u' := u) k hc hne (by omega)
      exact fin (.d (.int (l % n))) (.on a b) G Fp _ _ st2 k2 (Rp.int _) (q _ (Int.emod_nonneg _ (by omega)) (Int.emod_lt_of_pos _ hn.1))
    -- cells; the cell at hand
    refine ⟨_, rfl, a, _, rfl, gC, ?_⟩
    have hlen : 0 < cs.length := List.length_pos_iff.mpr hne
    have hix : (i % (cs.length : Int)).toNat < cs.length := by
      have h1 := Int.emod_nonneg i (show (cs.length : Int) ≠ 0 by omega)
      have h2 := Int.emod_lt_of_pos i (show (0 : Int) < cs.length by omega)
      omega
    have hat : atI (cs.map V.int) (i % (cs.length : Int)) = some (.int cs[(i % (cs.length : Int)).toNat]) := by
      have e : i % (cs.length : Int) = ((i % (cs.length : Int)).toNat : Int) := (Int.toNat_of_nonneg (Int.emod_nonneg i (by omega))).symm
      exact at_of e (by rw [List.getElem?_map, List.getElem?_eq_getElem hix]; rfl)
    refine ⟨_, rfl, _, rfl, a, _, rfl, gA, _, rfl, c, _, rfl, .inl hcH.sql, i, (((cs.map V.int).length : Nat) : Int), rfl, rfl, by rw [List.length_map]; show (0 : Int) < cs.length; omega, c, cs.map V.int, _, _, rfl, rfl, hcH.sql, by rw [List.length_map]; exact hat, ?_⟩
    -- at + 1
    refine ⟨_, rfl, a, _, rfl, gA, _, _, rfl, rfl, _, rfl, a, _, rfl, put "at" _ _ hd dr_pat, ?_⟩
    obtain ⟨k2, st2⟩ := dr_ok (b' := b) (i' := i + 1) (l' := l) (u' := u) k hc hne (by omega)
    generalize cs[(i % (cs.length : Int)).toNat] = cell
    have hcH2 : SqP K (upd H a (.dK (drK c (i + 1) l u))) c (cs.map V.int) := same_sqp k2.same hc
    have gA2 : DGet (upd H a (.dK (drK c (i + 1) l u))) a (.str "at") (some (.int (i + 1))) := by
      have z := DGet.k (k := Sum.inr ("at" : Str)) (show (upd H a (.dK (drK c (i + 1) l u))) a = _ from upd_same)
      rw [dr_at] at z
      exact z
    have gU2 : DGet (upd H a (.dK (drK c (i + 1) l u))) a (.str "used") (some (.int u)) := by
      have z := DGet.k (k := Sum.inr ("used" : Str)) (show (upd H a (.dK (drK c (i + 1) l u))) a = _ from upd_same)
      rw [dr_used] at z
      exact z
    have lastR : ∀ (D : Ends) (σ0 : L2.St), σ0[0]? = some (some (.ref a)) → σ0[1]? = some (some (.int n)) → σ0[4]? = some (some (.int cell)) → (∀ v H', Q v H' → D.rt v H') → tSeq (sDPut (tVar 0) (tC (.str "used")) (tOp (rI0 fun i j => .int (i + j)) (tDGet (tVar 0) (tC (.str "used"))) (tC (.int 1))))
        (tRet (tOp (rI (fun _ j => 0 < j) fun i j => .int (i % j)) (tCall (spD (theS ((Ts ca).map (·.1))) K FF__law_mixed) [] E0 (tCons (tCall (spD (theS ((Ts ca).map (·.1))) K FF__law_mixed) [] E0 (tCons (tVar 4) (tCons (tDGet (tVar 0) (tC (.str "at"))) tNil))) (tCons (tDGet (tVar 0) (tC (.str "used"))) tNil))) (tVar 1))) D
        σ0 (upd H a (.dK (drK c (i + 1) l u))) := fun D σ0 z0 z1 z4 hD => by
      refine ⟨_, z0, a, _, rfl, gU2, _, _, rfl, rfl, _, z0, a, _, rfl, put "used" _ _ upd_same dr_pused, ?_⟩
      rw [upd_upd]
      obtain ⟨k3, st3⟩ := dr_ok (b' := b) (i' := i + 1) (l' := l) (u' := u + 1) k hc hne (by omega)
      have gA3 : DGet (upd H a (.dK (drK c (i + 1) l (u + 1)))) a (.str "at") (some (.int (i + 1))) := by
        have z := DGet.k (k := Sum.inr ("at" : Str)) (show (upd H a (.dK (drK c (i + 1) l (u + 1)))) a = _ from upd_same)
        rw [dr_at] at z
        exact z
      have fa : Fp a := (hF a).mpr rfl
      refine ⟨_, z4, _, z0, a, _, rfl, gA3, G, Fp, .on a b, [.d (.int cell), .d (.int (i + 1))], fun r τ => (∃ m : Int, 0 ≤ m ∧ r = .d (.int m)) ∧ τ = .on a b, H, k3, .cons (Rp.int _) (.cons (Rp.int _) .nil), rfl, ⟨cell, i + 1, rfl, by omega, fun m hm => ⟨⟨m, hm, rfl⟩, rfl⟩⟩, fun r1 τ4 G4 F4 H4 v4 st4 ok4 res4 q4 => ?_⟩
      obtain ⟨⟨m, hm, e1⟩, e2⟩ := q4
      subst e1 e2
      have e3 := rint res4
      subst e3
      obtain ⟨hF4, c4, cs4, i4, l4, u4, hd4, hc4, hne4, h4⟩ := id ok4.r
      have gU4 : DGet H4 a (.str "used") (some (.int u4)) := by
        have z := DGet.k (k := Sum.inr ("used" : Str)) hd4
        rw [dr_used] at z
        exact z
      refine ⟨_, z0, a, _, rfl, gU4, G4, F4, .on a b, [.d (.int m), .d (.int u4)], fun r τ => (∃ m : Int, 0 ≤ m ∧ r = .d (.int m)) ∧ τ = .on a b, H4, ok4, .cons (Rp.int _) (.cons (Rp.int _) .nil), rfl, ⟨m, u4, rfl, by omega, fun m hm => ⟨⟨m, hm, rfl⟩, rfl⟩⟩, fun r1 τ5 G5 F5 H5 v5 st5 ok5 res5 q5 => ?_⟩
      obtain ⟨⟨m5, hm5, e1⟩, e2⟩ := q5
      subst e1 e2
      have e3 := rint res5
      subst e3
      refine ⟨_, z1, _, _, rfl, rfl, hn.1, hD _ _ ?_⟩
      exact fin (.d (.int (m5 % n))) (.on a b) G5 F5 H5 _ (st3.trans (st4.trans st5)) ok5 (Rp.int _) (q _ (Int.emod_nonneg _ (by omega)) (Int.emod_lt_of_pos _ hn.1))
    refine ⟨_, rfl, _, _, rfl, rfl, (by refine ⟨by decide, by decide, by decide⟩), _, _, rfl, rfl, _, rfl, ite2 (fun _ => ?_) (fun _ => ?_)⟩
    · refine ⟨_, rfl, a, _, rfl, gA2, _, rfl, c, _, rfl, .inl hcH2.sql, _, _, rfl, rfl, _, rfl, ite2 (fun _ => ?_) (fun _ => ?_)⟩
      · refine ⟨_, rfl, _, rfl, _, _, rfl, rfl, hn, _, rfl, a, _, rfl, put "left" _ _ upd_same dr_pleft, _, rfl, _, rfl, _, _, rfl, rfl, hn.1, ?_⟩
        rw [upd_upd]
        obtain ⟨k3, st3⟩ := dr_ok (b' := b) (i' := i + 1) (l' := cell / n) (u' := u) k hc hne (by omega)
        exact fin (.d (.int (cell % n))) (.on a b) G Fp _ _ st3 k3 (Rp.int _) (q _ (Int.emod_nonneg _ (by omega)) (Int.emod_lt_of_pos _ hn.1))
      · exact lastR _ _ rfl rfl rfl fun _ _ h => h
    · exact iteF (lastR _ _ rfl rfl rfl fun _ _ h => h)

theorem ok__law_all_rows {f : Addr} {fd : FuncData} (T : Txt K mg ca) (F : Fun K "_law_all_rows" "_law_all_rows" s__law_all_rows f fd) (k__law_pairs : KnownG P w K mg base (theT (Ts ca)) "_law_pairs" ["_law_some", "_law_others"] 1 (FF__law_pairs)) :
    FnG P w K mg base 2 f fd ["_law_numbers", "_law_most"] (spD (theT (Ts ca)) K (FF__law_all_rows)) := by
  refine okG F sc__law_all_rows (by walk_at "v") (by decide) fun cdv A outer s H E G Fp hcd hr => ⟨_, (dss_cons (ds_set (i := 2) sc__law_all_rows.nd rfl (by first | exact .inl rfl | exact .inr rfl) (de_lst (da_cons (de_tup da_nil) da_nil)))
      (dss_cons (ds_set (i := 3) sc__law_all_rows.nd rfl (by first | exact .inl rfl | exact .inr rfl) (de_lst (da_cons (de_tup da_nil) da_nil)))
      (dss_cons (ds_for PassesOwn.never rfl (di_range1 (by rfl) T.b_range (da_cons (de_var (pv 1)) da_nil)) (dg_nm (i := 4) sc__law_all_rows.nd rfl (by first | exact .inl rfl | exact .inr rfl))
        (dss_cons (ds_frz (i := 3) (ds_setLc (i := 3) (own := [("_law_row", 5), ("_law_one", 6)]) rfl sc__law_all_rows.nd rfl rfl (sw_true rfl rfl rfl (by decide +kernel)) (di_seq rfl (de_callG rfl k__law_pairs (hr.mono (by decide)) (by rfl) (da_cons (de_var (pv 3)) (da_cons (de_var (pv 0)) da_nil)))) (blkOk_by (by kernel_rfl)) (by decide) (fun _ _ _ _ _ => (dg_tp rfl rfl (dg_cons (dg_nm (i := 5) sc__law_all_rows.nd rfl (by first | exact .inl rfl | exact .inr rfl)) (dg_cons (dg_nm (i := 6) sc__law_all_rows.nd rfl (by first | exact .inl rfl | exact .inr rfl)) dg_nil)))) (fun _ _ _ _ _ => dts_nil) (fun _ _ _ _ _ => (de_op op_addA (od_add rfl) (de_var (pv 5)) (de_tup (da_cons (de_var (pv 6)) da_nil))))))
        (dss_one (ds_set (i := 2) sc__law_all_rows.nd rfl (by first | exact .inl rfl | exact .inr rfl) (de_op op_addA (od_add rfl) (de_var (pv 2)) (de_var (pv 3)))))))
      (dss_one (ds_retR (dr_own (pv 2))))))), ?_⟩
  dsimp only [Bk.T, theT]
  rintro rs τ Q ⟨ns, m, rfl, hm, hl, hc, h⟩
  walk_at "x"
  refine ⟨⟨by omega, by omega⟩, ?_⟩
  refine for_inv (fun j env τ' => τ' = τ ∧ (∃ x4 x5 x6, ∃ fs ls : List (List Int), env = [.d (.list (ns.map .int)), .d (.int m), .ol (fs.map tI), .ol (ls.map tI), x4, x5, x6] ∧ fs.length = cntR ns.length j ∧ ls.length = ns.length ^ j ∧
    (∀ r, r ∈ fs ↔ r.length ≤ j ∧ ∀ x ∈ r, x ∈ ns) ∧ (∀ r, r ∈ ls ↔ r.length = j ∧ ∀ x ∈ r, x ∈ ns) ∧ ∃ tl, fs = [] :: tl ∧ ∀ r ∈ tl, r ≠ [])) _ _ _ ⟨rfl, _, _, _, [[]], [[]], rfl, rfl, rfl, fun r => ?_, fun r => ?_, [], rfl, by simp⟩ ?_ ?_
  · rw [List.mem_singleton]
    exact ⟨fun e => by subst e; simp, fun ⟨e, _⟩ => List.length_eq_zero_iff.mp (Nat.le_zero.mp e)⟩
  · rw [List.mem_singleton]
    exact ⟨fun e => by subst e; simp, fun ⟨e, _⟩ => List.length_eq_zero_iff.mp e⟩
  · rintro j x env τ' ej ⟨rfl, x4, x5, x6, fs, ls, rfl, g1, g2, g3, g4, g5⟩ kn hkn
    obtain ⟨hj, rfl⟩ := rgI_get ej
    have hj : j < m := hj
    have b1 : cntR ns.length (j + 1) ≤ 1000 := Nat.le_trans (cntR_le _ hj) hc
    have b2 : ns.length ^ (j + 1) ≤ 1000 := Nat.le_trans (pow_cnt _ _) b1
    have b3 : ns.length ^ j ≤ 1000 := Nat.le_trans (pow_cnt _ _) (Nat.le_trans (cntR_le _ (Nat.le_of_lt hj)) hc)
    have b4 : ns.length ^ j * ns.length ≤ 1000 := by rw [← Nat.pow_succ]; exact b2
    walk_at "x"
    refine ⟨_, _, rfl, by rw [List.length_map, List.length_map, g2]; omega, by rw [List.length_map]; omega, ?_⟩
    walk_at "x"
    refine lc_map (fun (y : D) => match y with | .tuple [.tuple r, z] => .tuple (r ++ [z]) | _ => .none) _ (fun y hy kc k0 hk => ?_) ?_ ?_
    · obtain ⟨r0, hr0, hy⟩ := List.mem_flatMap.mp hy
      obtain ⟨z, hz, rfl⟩ := List.mem_map.mp hy
      obtain ⟨r, hr, rfl⟩ := List.mem_map.mp hr0
      have := ((g4 r).mp hr).1
      simp only [tI] at hk ⊢
      walk_at "x"
      refine ⟨by rw [List.length_map, sizeLine_eq]; omega, ?_⟩
      exact hk
    · have e : ∀ l : List D, (l.flatMap fun x => (ns.map PyData.int).map fun y => PyData.tuple [x, y]).length = l.length * ns.length := fun l => by
        induction l with
        | nil => simp
        | cons a l ih => rw [List.flatMap_cons, List.length_append, ih, List.length_map, List.length_map, List.length_cons, Nat.succ_mul]; omega
      rw [e, List.length_map, g2, sizeLine_eq]
      omega
    · have e : (((ls.map tI).flatMap fun x => (ns.map PyData.int).map fun y => PyData.tuple [x, y]).map fun (y : D) => match y with | .tuple [.tuple r, z] => PyData.tuple (r ++ [z]) | _ => .none) = (ls.flatMap fun r => ns.map fun x => r ++ [x]).map tI := by
        clear g2 g4
        induction ls with
        | nil => rfl
        | cons r l ih =>
          rw [List.map_cons, List.flatMap_cons, List.map_append, ih, List.flatMap_cons, List.map_append]
          congr 1
          rw [List.map_map, List.map_map, List.map_map]
          refine List.map_congr_left fun x _ => ?_
          simp only [Function.comp_apply, tI, List.map_append, List.map_cons, List.map_nil]
      rw [e]
      have elen : (ls.flatMap fun r => ns.map fun x => r ++ [x]).length = ns.length ^ (j + 1) := by
        rw [Nat.pow_succ, ← g2]
        clear g2 g4 e
        induction ls with
        | nil => simp
        | cons a l ih => rw [List.flatMap_cons, List.length_append, ih, List.length_map, List.length_cons, Nat.succ_mul]; omega
      walk_at "x"
      rw [← List.map_append]
      refine ⟨by rw [List.length_map, List.length_map, elen, g1, sizeLine_eq]; have := cntR_le ns.length (Nat.le_of_lt hj); omega, hkn _ _ ⟨rfl, _, _, _, _, _, rfl, ?_, elen, fun r => ?_, fun r => ?_, ?_⟩⟩
      · rw [List.length_append, elen, g1]
        rfl
      · rw [List.mem_append, g3, mem_new g4]
        constructor
        · rintro (⟨h1, h2⟩ | ⟨h1, h2⟩)
          · exact ⟨by omega, h2⟩
          · exact ⟨by omega, h2⟩
        · rintro ⟨h1, h2⟩
          by_cases h3 : r.length ≤ j
          · exact .inl ⟨h3, h2⟩
          · exact .inr ⟨by omega, h2⟩
      · exact mem_new g4
      · obtain ⟨tl, rfl, htl⟩ := g5
        refine ⟨_, rfl, fun r hr e => ?_⟩
        rcases List.mem_append.mp hr with hr | hr
        · exact htl r hr e
        · have := ((mem_new g4).mp hr).1
          rw [e] at this
          cases this
  · rintro env τ' ⟨rfl, x4, x5, x6, fs, ls, rfl, g1, g2, g3, g4, g5⟩
    rw [rgI_len, Int.toNat_natCast] at g1 g3
    walk_at "x"
    exact h fs g3 g5 (by omega)
theorem ok_is_row {f : Addr} {fd : FuncData} (T : Txt K mg ca) (F : Fun K "is_row" "is_row" s_is_row f fd) (k_is_number : Known P w K mg base (theT (Ts ca)) "is_number" ["thing"] 2 (FF_is_number)) :
    FnOk P w K mg base CX0 3 f fd ["thing"] (spD (theT (Ts ca)) K (FF_is_row)) := by
  refine okP F sc_is_row (by walk_at "v") (by decide) fun cdv A outer s H E G Fp hr => ⟨_, (dss_one (ds_ret (de_and rfl (de_callB call_isi (cd_isi rfl) (by rfl) T.b_isinstance (by decide +kernel) (da_cons (de_var (pv 0)) (da_cons (de_ty (n := "tuple") (by rfl) T.b_tuple (by decide +kernel)) da_nil))) (de_and rfl (de_cmp op_leA od_cmp (de_callB call_len (cd_len rfl) (by rfl) T.b_len (by decide +kernel) (da_cons (de_var (pv 0)) da_nil)) (de_gint (by rfl) T.c_MOST_LONG) (nomark _)) (de_one (de_callB (cr_all rfl) (cd_all rfl) (by rfl) T.b_all (by decide +kernel) (da_cons (de_lc (own := [("one", 1)]) rfl sc_is_row.nd (di_seq rfl (de_var (pv 0))) (blkOk_by (by kernel_rfl)) (by decide) (fun _ _ _ _ _ => (dg_nm (i := 1) sc_is_row.nd rfl (by first | exact .inl rfl | exact .inr rfl))) (fun _ _ _ _ _ => dts_nil) (fun _ _ _ _ _ => (de_callK rfl k_is_number (hr.mono (by decide)) (by rfl) (da_cons (de_var (pv 1)) da_nil)))) da_nil))))))), ?_⟩
  dsimp only [Bk.T, theT]
  rintro rs τ Q ⟨x, rfl, hx, h⟩
  walk_at "y"
  cases x with
  | dict m =>
    cases m with
    | nil => walk_at "y"; exact h
    | cons p r => exact hx.1.elim
  | tuple xs =>
    walk_at "y"
    simp only [isRowD, nat_le8] at h
    refine kAndB_of (fun e1 => ?_) fun e1 => ?_
    · rw [e1, Bool.true_and] at h
      walk_at "y"
      refine lc_map (fun y => .bool (isNumD y)) xs (fun y hy kc k0 hk => ?_) ?_ ?_
      · walk_at "y"
        exact ⟨y, rfl, hx.2 xs rfl y hy, by walk_at "y"; exact hk⟩
      · rw [sizeLine_eq]; have := of_decide_eq_true e1; omega
      · walk_at "y"
        rw [bools_of]
        walk_at "y"
        rw [all_id]
        exact h
    · rw [e1, Bool.false_and] at h
      rw [e1]
      walk_at "y"
      exact h
  | _ => walk_at "y"; exact h
theorem ok_is_part {f : Addr} {fd : FuncData} (T : Txt K mg ca) (F : Fun K "is_part" "is_part" s_is_part f fd) (k_is_number : Known P w K mg base (theT (Ts ca)) "is_number" ["thing"] 2 (FF_is_number)) (k_is_whole : Known P w K mg base (theT (Ts ca)) "is_whole" ["thing", "least", "most"] 1 (FF_is_whole)) :
    FnOk P w K mg base CX0 3 f fd ["at", "thing"] (spD (theT (Ts ca)) K (FF_is_part)) := by
  refine okP F sc_is_part (by walk_at "v") (by decide) fun cdv A outer s H E G Fp hr => ⟨_, (dss_cons (ds_if (dt_cmp op_ltA od_cmp (de_var (pv 0)) de_int (nomark _))
        (dss_one (ds_ret (de_callK rfl k_is_number (hr.mono (by decide)) (by rfl) (da_cons (de_var (pv 1)) da_nil))))
        dss_nil)
      (dss_cons (ds_if (dt_cmp op_ltA od_cmp (de_var (pv 0)) de_int (nomark _))
        (dss_one (ds_ret (de_callK rfl k_is_whole (hr.mono (by decide)) (by rfl) (da_cons (de_var (pv 1)) (da_cons de_int (da_cons (de_gint (by rfl) T.c_MOST_LONG) da_nil))))))
        dss_nil)
      (dss_one (ds_ret (de_if (dt_cmp op_ltA od_cmp (de_var (pv 0)) de_int (nomark _)) (de_callB call_isi (cd_isi rfl) (by rfl) T.b_isinstance (by decide +kernel) (da_cons (de_var (pv 1)) (da_cons (de_ty (n := "bool") (by rfl) T.b_bool (by decide +kernel)) da_nil))) (de_callK rfl k_is_whole (hr.mono (by decide)) (by rfl) (da_cons (de_var (pv 1)) (da_cons (de_op op_sub od_I0 de_int (de_gint (by rfl) T.c_MOST_SUM)) (da_cons (de_gint (by rfl) T.c_MOST_SUM) da_nil))))))))), ?_⟩
  dsimp only [Bk.T, theT]
  rintro rs τ Q ⟨i, x, rfl, hi, hx, h⟩
  walk_at "y"
  unfold isPartD at h
  refine kIfS_of (fun e1 => ?_) fun e1 => ?_
  · rw [if_pos (by have := of_decide_eq_true e1; omega)] at h
    walk_at "y"
    exact ⟨x, rfl, hx, by walk_at "y"; exact h⟩
  rw [if_neg (by have := of_decide_eq_false e1; omega)] at h
  walk_at "y"
  refine kIfS_of (fun e2 => ?_) fun e2 => ?_
  · rw [if_pos (by have := of_decide_eq_true e2; omega)] at h
    walk_at "y"
    exact ⟨x, _, _, rfl, hx, by walk_at "y"; exact h⟩
  rw [if_neg (by have := of_decide_eq_false e2; omega)] at h
  walk_at "y"
  refine kIf_of (fun e3 => ?_) fun e3 => ?_
  · rw [if_pos (by have := of_decide_eq_true e3; omega)] at h
    walk_at "y"
    cases x with
    | dict m =>
      cases m with
      | nil => walk_at "y"; exact h
      | cons p r => exact hx.elim
    | _ => walk_at "y"; exact h
  rw [if_neg (by have := of_decide_eq_false e3; omega)] at h
  walk_at "y"
  exact ⟨x, _, _, rfl, hx, by walk_at "y"; exact h⟩
theorem ok_all_sums {f : Addr} {fd : FuncData} (T : Txt K mg ca) (F : Fun K "all_sums" "all_sums" s_all_sums f fd) (k_level_sums : Known P w K mg base (theT (Ts ca)) "level_sums" ["numbers", "most", "is_unlike"] 2 (FF_level_sums)) (k_window : Known P w K mg base (theT (Ts ca)) "window" ["least", "most"] 1 (FF_window)) (k_moved : Known P w K mg base (theT (Ts ca)) "moved" ["bits", "number"] 1 (FF_moved)) :
    FnOk P w K mg base CX0 3 f fd ["numbers", "most", "is_level", "is_unlike"] (spD (theT (Ts ca)) K (FF_all_sums)) := by
  refine okP F sc_all_sums (by walk_at "v") (by decide) fun cdv A outer s H E G Fp hr => ⟨_, (dss_cons (ds_if (dt_tru rfl (de_var (pv 2)))
        (dss_one (ds_ret (de_callK rfl k_level_sums (hr.mono (by decide)) (by rfl) (da_cons (de_var (pv 0)) (da_cons (de_var (pv 1)) (da_cons (de_var (pv 3)) da_nil))))))
        dss_nil)
      (dss_cons (ds_set (i := 4) sc_all_sums.nd rfl (by first | exact .inl rfl | exact .inr rfl) (de_op op_addA (od_add rfl) (de_lst (da_cons (de_callK rfl k_window (hr.mono (by decide)) (by rfl) (da_cons de_int (da_cons de_int da_nil))) da_nil)) (de_op op_mulB (od_mulB rfl) (de_lst (da_cons de_int da_nil)) (de_var (pv 1)))))
      (dss_cons (ds_if (dt_tru rfl (de_var (pv 3)))
        (dss_cons (ds_for PassesOwn.never rfl (di_seq rfl (de_var (pv 0))) (dg_nm (i := 5) sc_all_sums.nd rfl (by first | exact .inl rfl | exact .inr rfl))
          (dss_one (ds_for PassesOwn.never rfl (di_range3 (by rfl) T.b_range (da_cons (de_var (pv 1)) (da_cons de_int (da_cons (de_neg de_int) da_nil)))) (dg_nm (i := 6) sc_all_sums.nd rfl (by first | exact .inl rfl | exact .inr rfl))
            (dss_one (ds_seti (i := 4) (ps_asg (de_op op_or od_I0 (de_ix ix_A (od_ix rfl) (de_var (pv 4)) (de_var (pv 6)) (fun _ _ => rfl)) (de_callK rfl k_moved (hr.mono (by decide)) (by rfl) (da_cons (de_ix ix_A (od_ix rfl) (de_var (pv 4)) (de_op op_sub od_I0 (de_var (pv 6)) de_int) (fun _ _ => rfl)) (da_cons (de_var (pv 5)) da_nil)))) (pg_sub (pv 4) (de_var (pv 6)) set_list)))))))
        (dss_one (ds_retR (dr_own (pv 4)))))
        dss_nil)
      (dss_cons (ds_for PassesOwn.never rfl (di_range2 (by rfl) T.b_range (da_cons de_int (da_cons (de_op op_addA (od_add rfl) (de_var (pv 1)) de_int) da_nil))) (dg_nm (i := 6) sc_all_sums.nd rfl (by first | exact .inl rfl | exact .inr rfl))
        (dss_one (ds_for PassesOwn.never rfl (di_seq rfl (de_var (pv 0))) (dg_nm (i := 5) sc_all_sums.nd rfl (by first | exact .inl rfl | exact .inr rfl))
          (dss_one (ds_seti (i := 4) (ps_asg (de_op op_or od_I0 (de_ix ix_A (od_ix rfl) (de_var (pv 4)) (de_var (pv 6)) (fun _ _ => rfl)) (de_callK rfl k_moved (hr.mono (by decide)) (by rfl) (da_cons (de_ix ix_A (od_ix rfl) (de_var (pv 4)) (de_op op_sub od_I0 (de_var (pv 6)) de_int) (fun _ _ => rfl)) (da_cons (de_var (pv 5)) da_nil)))) (pg_sub (pv 4) (de_var (pv 6)) set_list)))))))
      (dss_one (ds_retR (dr_own (pv 4)))))))), ?_⟩
  dsimp only [Bk.T, theT]
  rintro rs τ Q ⟨ns, m, lvl, unl, rfl, hr, hn, hl, hm, h⟩
  walk_at "x"
  cases lvl with
  | true =>
    walk_at "x"
    exact ⟨ns, m, unl, rfl, hr, hl, hm, fun fs h1 h2 => by walk_at "x"; exact h fs h1 h2⟩
  | false =>
    walk_at "x"
    refine ⟨_, _, rfl, fun f hf => ?_⟩
    have hf0 : ∀ (ns : List Int) (unl : Bool), BitsOf f (Lot ns false unl 0) := fun ns unl => ⟨hf.1, fun s => (hf.2 s).trans (by rw [lot_zero]; omega)⟩
    walk_at "x"
    refine gMulA_ol ⟨⟨by omega, by omega⟩, by rw [sizeLine_eq, List.length_singleton]; omega, ?_⟩
    rw [Int.toNat_natCast, zeros_map]
    walk_at "x"
    refine ⟨by rw [List.length_map, List.length_replicate, sizeLine_eq]; omega, ?_⟩
    obtain ⟨fs0, e0, hl0, h00⟩ : ∃ fs0 : List Int, PyData.int f :: (List.replicate m (0 : Int)).map PyData.int = fs0.map .int ∧ fs0.length = m + 1 ∧ (∀ (k : Nat) (g : Int), fs0[k]? = some g → (k = 0 ∧ g = f) ∨ (0 < k ∧ g = 0)) := by
      refine ⟨f :: List.replicate m 0, rfl, by simp, fun k g hk => ?_⟩
      cases k with
      | zero => cases hk; exact .inl ⟨rfl, rfl⟩
      | succ k =>
        rw [List.getElem?_cons_succ] at hk
        exact .inr ⟨by omega, (List.mem_replicate.mp (List.mem_of_getElem? hk)).2⟩
    rw [e0]
    have zeroN : ∀ (P : Int → Prop), (∀ s, ¬ P s) → BitsOf 0 P := fun P hP => ⟨Int.le_refl _, fun s => ⟨fun z => by have := z.2.2; simp at this, fun z => (hP s z).elim⟩⟩
    cases unl with
    | true =>
      simp only [tI]
      walk_at "x"
      refine for_inv (fun i env τ' => τ' = τ ∧ ∃ x5 x6, ∃ fs : List Int, env = [.d (.tuple (ns.map .int)), .d (.int m), .d (.bool false), .d (.bool true), .ol (fs.map .int), x5, x6] ∧ fs.length = m + 1 ∧ SumsOk (ns.take i) false true fs) _ _ _ ⟨rfl, _, _, _, rfl, hl0, ?_⟩ ?_ ?_
      · intro k g hk
        rcases h00 k g hk with ⟨rfl, rfl⟩ | ⟨h1, rfl⟩
        · exact hf0 _ _
        · refine zeroN _ fun s => ?_
          rintro ⟨l, ⟨h1, _, _⟩, h2, _⟩
          cases l with
          | nil => simp at h2; omega
          | cons a l => have := h1 a List.mem_cons_self; simp at this
      · rintro i y env τ' ei ⟨rfl, x5, x6, fs, rfl, hfl, hfs⟩ kn hkn
        rw [List.getElem?_map] at ei
        cases en : ns[i]? with
        | none => rw [en] at ei; cases ei
        | some x =>
          rw [en] at ei
          cases ei
          have hxr := hr x (List.mem_of_getElem? en)
          have hxt : x ∉ ns.take i := by
            intro hx
            obtain ⟨hi, e2⟩ := List.getElem?_eq_some_iff.mp en
            have e3 : ns.drop i = x :: ns.drop (i + 1) := by rw [← e2]; exact List.drop_eq_getElem_cons hi
            have e4 := hn
            rw [← List.take_append_drop i ns, e3, List.nodup_append] at e4
            exact e4.2.2 x hx x List.mem_cons_self rfl
          have htk : ns.take (i + 1) = ns.take i ++ [x] := by rw [List.take_add_one, en]; rfl
          have hrt : inR (ns.take i) := fun y hy => hr y (List.mem_of_mem_take hy)
          walk_at "x"
          refine kR3_of (RgC.neg (by omega) (by omega) (by omega) (by omega)) ?_
          refine for_inv (fun k env τ3 => τ3 = τ' ∧ ∃ x6, ∃ fs : List Int, env = [.d (.tuple (ns.map .int)), .d (.int m), .d (.bool false), .d (.bool true), .ol (fs.map .int), .d (.int x), x6] ∧ fs.length = m + 1 ∧ ∀ (j : Nat) (g : Int), fs[j]? = some g → BitsOf g (Lot (if m < j + k then ns.take (i + 1) else ns.take i) false true j)) _ _ _ ⟨rfl, _, fs, rfl, hfl, fun j g hj => ?_⟩ ?_ ?_
          · have : j < fs.length := (List.getElem?_eq_some_iff.mp hj).1
            rw [if_neg (by omega)]
            exact hfs j g hj
          · rintro k y env τ3 ek ⟨rfl, x6, fs, rfl, hfl, hfs⟩ kn2 hkn2
            obtain ⟨hk, rfl⟩ := rgC_get ek
            have hk : k < m := by omega
            obtain ⟨j, ej⟩ : ∃ j : Nat, (m : Int) + (k : Int) * (-1) = ((j + 1 : Nat) : Int) := ⟨m - k - 1, by omega⟩
            have hjm : j + 1 + k = m := by omega
            rw [ej]
            obtain ⟨g1, eg1⟩ : ∃ g, fs[j + 1]? = some g := ⟨_, List.getElem?_eq_getElem (by omega)⟩
            obtain ⟨g0, eg0⟩ : ∃ g, fs[j]? = some g := ⟨_, List.getElem?_eq_getElem (by omega)⟩
            have b1 := hfs _ _ eg1
            have b0 := hfs _ _ eg0
            rw [if_neg (by omega)] at b1 b0
            walk_at "x"
            refine kAt_of (by omega) (by rw [List.length_map]; omega) fun z ez _ => ?_
            rw [Int.toNat_natCast, List.getElem?_map, eg1] at ez
            cases ez
            walk_at "x"
            rw [show ((j + 1 : Nat) : Int) - 1 = (j : Int) by omega]
            refine kAt_of (by omega) (by rw [List.length_map]; omega) fun z ez _ => ?_
            rw [Int.toNat_natCast, List.getElem?_map, eg0] at ez
            cases ez
            walk_at "x"
            refine ⟨g0, x, rfl, b0.1, fun s hs => ?_, by omega, fun f2 hf2 => ?_⟩
            · have := lot_bound hrt ((b0.2 s).mp hs)
              omega
            walk_at "x"
            rw [ixN_at (by rw [List.length_map]; omega)]
            walk_at "x"
            rw [← List.map_set]
            refine hkn2 _ _ ⟨rfl, _, _, rfl, by rw [List.length_set]; exact hfl, fun q g hq => ?_⟩
            rw [List.getElem?_set] at hq
            by_cases eq : j + 1 = q
            · subst eq
              rw [if_pos rfl, if_pos (by omega)] at hq
              cases hq
              rw [if_pos (by omega), htk]
              refine ⟨bitOr_nn0 b1.1 hf2.1, fun s => ?_⟩
              rw [or_has b1.1 hf2.1, b1.2, hf2.2, lot_unl hxt]
              dsimp only
              rw [b0.2]
              refine or_congr Iff.rfl ⟨fun z => z.2, fun z => ⟨?_, z⟩⟩
              have := lot_bound hrt z
              omega
            · rw [if_neg eq] at hq
              have := hfs q g hq
              by_cases e5 : m < q + k
              · rw [if_pos e5] at this
                rw [if_pos (by omega)]
                exact this
              · rw [if_neg e5] at this
                rw [if_neg (by omega)]
                exact this
          · rintro env τ3 ⟨rfl, x6, fs, rfl, hfl, hfs⟩
            rw [rgC_len] at hfs
            refine hkn _ _ ⟨rfl, _, _, fs, rfl, hfl, fun j g hj => ?_⟩
            have := hfs j g hj
            by_cases hj0 : j = 0
            · subst hj0
              refine ⟨this.1, fun s => (this.2 s).trans ?_⟩
              rw [lot_zero, lot_zero]
            · rw [if_pos (by omega)] at this
              exact this
      · rintro env τ' ⟨rfl, x5, x6, fs, rfl, hfl, hfs⟩
        rw [List.length_map, List.take_length] at hfs
        walk_at "x"
        exact h fs hfl hfs
    | false =>
      walk_at "x"
      refine ⟨⟨by omega, by omega, by omega, by omega⟩, ?_⟩
      refine for_inv (fun j env τ' => τ' = τ ∧ ∃ x5 x6, ∃ fs : List Int, env = [.d (tI ns), .d (.int m), .d (.bool false), .d (.bool false), .ol (fs.map .int), x5, x6] ∧ fs.length = m + 1 ∧ ∀ (q : Nat) (g : Int), fs[q]? = some g → if q ≤ j then BitsOf g (Lot ns false false q) else g = 0) _ _ _ ⟨rfl, _, _, fs0, rfl, hl0, fun q g hq => ?_⟩ ?_ ?_
      · rcases h00 q g hq with ⟨rfl, rfl⟩ | ⟨h1, rfl⟩
        · rw [if_pos (Nat.le_refl _)]
          exact hf0 _ _
        · rw [if_neg (by omega)]
      · rintro j y env τ' ej ⟨rfl, x5, x6, fs, rfl, hfl, hfs⟩ kn hkn
        obtain ⟨hj, rfl⟩ := rgI_get ej
        have hj : j < m := by omega
        obtain ⟨g0, eg0⟩ : ∃ g, fs[j]? = some g := ⟨_, List.getElem?_eq_getElem (by omega)⟩
        have b0 := hfs _ _ eg0
        rw [if_pos (Nat.le_refl _)] at b0
        rw [show (1 : Int) + (j : Nat) = ((j + 1 : Nat) : Int) by omega]
        simp only [tI]
        walk_at "x"
        refine for_inv (fun i env τ3 => τ3 = τ' ∧ ∃ x5, ∃ fs : List Int, env = [.d (tI ns), .d (.int m), .d (.bool false), .d (.bool false), .ol (fs.map .int), x5, .d (.int (j + 1 : Nat))] ∧ fs.length = m + 1 ∧ fs[j]? = some g0 ∧
          ∀ (q : Nat) (g : Int), fs[q]? = some g → if q ≤ j then BitsOf g (Lot ns false false q) else if q = j + 1 then BitsOf g (fun s => ∃ x ∈ ns.take i, Lot ns false false j (s - x)) else g = 0) _ _ _ ⟨rfl, _, fs, rfl, hfl, eg0, fun q g hq => ?_⟩ ?_ ?_
        · have := hfs q g hq
          by_cases e5 : q ≤ j
          · rw [if_pos e5] at this ⊢
            exact this
          · rw [if_neg e5] at this ⊢
            subst this
            by_cases e6 : q = j + 1
            · rw [if_pos e6]
              exact zeroN _ fun s => by simp
            · rw [if_neg e6]
        · rintro i y env τ3 ei ⟨rfl, x5, fs, rfl, hfl, eg0, hfs⟩ kn2 hkn2
          rw [List.getElem?_map] at ei
          cases en : ns[i]? with
          | none => rw [en] at ei; cases ei
          | some x =>
            rw [en] at ei
            cases ei
            have hxr := hr x (List.mem_of_getElem? en)
            obtain ⟨g1, eg1⟩ : ∃ g, fs[j + 1]? = some g := ⟨_, List.getElem?_eq_getElem (by omega)⟩
            have b1 := hfs _ _ eg1
            rw [if_neg (by omega), if_pos rfl] at b1
            walk_at "x"
            refine kAt_of (by omega) (by rw [List.length_map]; omega) fun z ez _ => ?_
            rw [Int.toNat_natCast, List.getElem?_map, eg1] at ez
            cases ez
            walk_at "x"
            rw [show ((j + 1 : Nat) : Int) - 1 = (j : Int) by omega]
            refine kAt_of (by omega) (by rw [List.length_map]; omega) fun z ez _ => ?_
            rw [Int.toNat_natCast, List.getElem?_map, eg0] at ez
            cases ez
            walk_at "x"
            refine ⟨g0, x, rfl, b0.1, fun s hs => ?_, by omega, fun f2 hf2 => ?_⟩
            · have := lot_bound hr ((b0.2 s).mp hs)
              omega
            walk_at "x"
            rw [ixN_at (by rw [List.length_map]; omega)]
            walk_at "x"
            rw [← List.map_set]
            refine hkn2 _ _ ⟨rfl, _, _, rfl, by rw [List.length_set]; exact hfl, by rw [List.getElem?_set, if_neg (by omega)]; exact eg0, fun q g hq => ?_⟩
            rw [List.getElem?_set] at hq
            by_cases eq : j + 1 = q
            · subst eq
              rw [if_pos rfl, if_pos (by omega)] at hq
              cases hq
              rw [if_neg (by omega), if_pos rfl]
              refine ⟨bitOr_nn0 b1.1 hf2.1, fun s => ?_⟩
              rw [or_has b1.1 hf2.1, b1.2, hf2.2]
              dsimp only
              rw [b0.2, List.take_add_one, en]
              constructor
              · rintro (⟨y, hy, z⟩ | ⟨_, z⟩)
                · exact ⟨y, List.mem_append_left _ hy, z⟩
                · exact ⟨x, by simp, z⟩
              · rintro ⟨y, hy, z⟩
                rcases List.mem_append.mp hy with hy | hy
                · exact .inl ⟨y, hy, z⟩
                · simp only [Option.toList_some, List.mem_singleton] at hy
                  subst hy
                  have := lot_bound hr z
                  exact .inr ⟨by omega, z⟩
            · rw [if_neg eq] at hq
              have := hfs q g hq
              by_cases e5 : q ≤ j
              · rw [if_pos e5] at this ⊢
                exact this
              · rw [if_neg e5, if_neg (Ne.symm eq)] at this ⊢
                exact this
        · rintro env τ3 ⟨rfl, x5, fs, rfl, hfl, eg0, hfs⟩
          rw [List.length_map, List.take_length] at hfs
          refine hkn _ _ ⟨rfl, _, _, fs, rfl, hfl, fun q g hq => ?_⟩
          have := hfs q g hq
          by_cases e5 : q ≤ j
          · rw [if_pos e5] at this
            rw [if_pos (by omega)]
            exact this
          · rw [if_neg e5] at this
            by_cases e6 : q = j + 1
            · rw [if_pos e6] at this
              rw [if_pos (by omega), e6]
              exact ⟨this.1, fun s => (this.2 s).trans lot_rep.symm⟩
            · rw [if_neg e6] at this
              rw [if_neg (by omega)]
              exact this
      · rintro env τ' ⟨rfl, x5, x6, fs, rfl, hfl, hfs⟩
        rw [rgI_len] at hfs
        walk_at "x"
        refine h fs hfl fun q g hq => ?_
        have hq2 : q < fs.length := (List.getElem?_eq_some_iff.mp hq).1
        have := hfs q g hq
        rw [if_pos (by omega)] at this
        exact this
theorem ok__law_small {f : Addr} {fd : FuncData} (T : Txt K mg ca) (F : Fun K "_law_small" "_law_small" s__law_small f fd) (k__law_next : Known P w K mg base (theT (Ts ca)) "_law_next" ["_law_draw", "_law_many"] 2 (FF_next)) :
    FnG P w K mg base 3 f fd ["_law_draw"] (spD (theT (Ts ca)) K (FF__law_small)) := by
  refine okG F sc__law_small (by walk_at "v") (by decide) fun cdv A outer s H E G Fp hcd hr => ⟨_, (dss_cons (ds_asg (de_ix ix_A (od_ix rfl) (de_lst (da_cons (de_tup (da_cons de_int (da_cons de_int da_nil))) (da_cons (de_tup (da_cons de_int (da_cons de_int da_nil))) (da_cons (de_tup (da_cons de_int (da_cons de_int da_nil))) (da_cons (de_tup (da_cons de_int (da_cons de_int da_nil))) (da_cons (de_tup (da_cons de_int (da_cons de_int da_nil))) (da_cons (de_tup (da_cons de_int (da_cons de_int da_nil))) (da_cons (de_tup (da_cons de_int (da_cons de_int da_nil))) (da_cons (de_tup (da_cons de_int (da_cons de_int da_nil))) da_nil))))))))) (de_callK rfl k__law_next (hr.r.mono (by decide)) (by rfl) (da_cons (de_var (pv 0)) (da_cons de_int da_nil))) (fun _ _ => rfl)) (dg_tp rfl rfl (dg_cons (dg_nm (i := 1) sc__law_small.nd rfl (by first | exact .inl rfl | exact .inr rfl)) (dg_cons (dg_nm (i := 2) sc__law_small.nd rfl (by first | exact .inl rfl | exact .inr rfl)) dg_nil))))
      (dss_cons (ds_set (i := 3) sc__law_small.nd rfl (by first | exact .inl rfl | exact .inr rfl) (de_ix ix_A (od_ix rfl) (de_lst (da_cons (de_op op_sub od_I0 de_int (de_op op_fdiv od_I (de_var (pv 1)) de_int)) (da_cons (de_op op_sub od_I0 (de_callK rfl k__law_next (hr.r.mono (by decide)) (by rfl) (da_cons (de_var (pv 0)) (da_cons (de_op op_sub od_I0 de_int (de_var (pv 1))) da_nil))) de_int) (da_cons (de_ix ix_A (od_ix rfl) (de_lst (da_cons (de_neg de_int) (da_cons (de_op op_sub od_I0 de_int (de_var (pv 1))) da_nil))) (de_callK rfl k__law_next (hr.r.mono (by decide)) (by rfl) (da_cons (de_var (pv 0)) (da_cons de_int da_nil))) (fun _ _ => rfl)) da_nil)))) (de_callK rfl k__law_next (hr.r.mono (by decide)) (by rfl) (da_cons (de_var (pv 0)) (da_cons de_int da_nil))) (fun _ _ => rfl)))
      (dss_one (ds_ret (de_tup (da_cons (de_lstRg (by rfl) T.b_list (by rfl) T.b_range (de_var (pv 3)) (de_op op_addA (od_add rfl) (de_var (pv 3)) (de_var (pv 1)))) (da_cons (de_var (pv 2)) da_nil))))))), ?_⟩
  dsimp only [Bk.T, theT]
  rintro rs τ Q ⟨a, b, cs, rfl, rfl, hb, h⟩
  walk_at "x"
  refine nextT (by omega) (by decide) (by decide) fun r r0 r1 => ?_
  walk_at "x"
  refine kAt_of r0 (by simpa using r1) fun z ez hz => ?_
  obtain ⟨w, m, rfl, h1, h2, h3, h4, h5⟩ : ∃ w m : Nat, z = .tuple [.int w, .int m] ∧ 1 ≤ w ∧ w ≤ 6 ∧ 1 ≤ m ∧ m ≤ 8 ∧ cntR w m ≤ 1000 := by
    simp only [List.mem_cons, List.not_mem_nil, or_false] at hz
    rcases hz with rfl | rfl | rfl | rfl | rfl | rfl | rfl | rfl
    · exact ⟨1, 8, rfl, by decide, by decide, by decide, by decide, by decide⟩
    · exact ⟨2, 6, rfl, by decide, by decide, by decide, by decide, by decide⟩
    · exact ⟨3, 4, rfl, by decide, by decide, by decide, by decide, by decide⟩
    · exact ⟨4, 4, rfl, by decide, by decide, by decide, by decide, by decide⟩
    · exact ⟨5, 3, rfl, by decide, by decide, by decide, by decide, by decide⟩
    · exact ⟨6, 3, rfl, by decide, by decide, by decide, by decide, by decide⟩
    · exact ⟨2, 7, rfl, by decide, by decide, by decide, by decide, by decide⟩
    · exact ⟨3, 5, rfl, by decide, by decide, by decide, by decide, by decide⟩
  clear ez hz
  walk_at "x"
  refine ⟨⟨by decide, by decide⟩, ?_⟩
  refine nextT (by omega) (by omega) (by omega) fun r2 l2 u2 => ?_
  walk_at "x"
  refine nextT (by omega) (by decide) (by decide) fun r3 l3 u3 => ?_
  walk_at "x"
  refine kAt_of l3 (by simpa using u3) fun z ez hz => ?_
  obtain ⟨y, rfl, y1, y2⟩ : ∃ y : Int, z = .int y ∧ -20 ≤ y ∧ y + w ≤ 21 := by
    rcases mem2 hz with rfl | rfl <;> exact ⟨_, rfl, by omega, by omega⟩
  clear ez hz
  walk_at "x"
  refine nextT (by omega) (by decide) (by decide) fun r4 l4 u4 => ?_
  walk_at "x"
  refine kAt_of l4 (by simpa using u4) fun z ez hz => ?_
  obtain ⟨lo, rfl, w1, w2⟩ : ∃ y : Int, z = .int y ∧ -20 ≤ y ∧ y + w ≤ 21 := by
    rcases mem3 hz with rfl | rfl | rfl <;> exact ⟨_, rfl, by omega, by omega⟩
  clear ez hz
  walk_at "x"
  refine ⟨⟨by omega, by omega, by omega, by omega, by omega⟩, ?_⟩
  rw [show rgI lo (lo + (w : Int) - lo).toNat = (spanN lo w).map .int by rw [show (lo + (w : Int) - lo).toNat = w by omega, rgI, spanN, List.map_map]; rfl]
  walk_at "x"
  exact h lo w m _ h1 h2 h3 h4 h5 w1 w2 (by omega)
theorem ok__law_kind_by {f : Addr} {fd : FuncData} (T : Txt K mg ca) (F : Fun K "_law_kind_by" "_law_kind_by" s__law_kind_by f fd) (k__law_next : Known P w K mg base (theT (Ts ca)) "_law_next" ["_law_draw", "_law_many"] 2 (FF_next)) :
    FnG P w K mg base 3 f fd ["_law_draw", "_law_numbers", "_law_most"] (spD (theT (Ts ca)) K (FF__law_kind_by)) := by
  refine okG F sc__law_kind_by (by walk_at "v") (by decide) fun cdv A outer s H E G Fp hcd hr => ⟨_, (dss_cons (ds_setLc (i := 3) (own := [("_law_k", 11)]) rfl sc__law_kind_by.nd rfl rfl (sw_true rfl rfl rfl (by decide +kernel)) (di_range1 (by rfl) T.b_range (da_cons (de_callK rfl k__law_next (hr.r.mono (by decide)) (by rfl) (da_cons (de_var (pv 0)) (da_cons (de_op op_addA (od_add rfl) (de_var (pv 2)) de_int) da_nil))) da_nil)) (blkOk_by (by kernel_rfl)) (by decide) (fun _ _ _ _ _ => (dg_nm (i := 11) sc__law_kind_by.nd rfl (by first | exact .inl rfl | exact .inr rfl))) (fun _ _ _ _ _ => dts_nil) (fun _ _ _ _ _ => (de_ix ix_A (od_ix rfl) (de_var (pv 1)) (de_callK rfl k__law_next (hr.r.mono (by decide)) (by rfl) (da_cons (de_var (pv 0)) (da_cons (de_callB call_len (cd_len rfl) (by rfl) T.b_len (by decide +kernel) (da_cons (de_var (pv 1)) da_nil)) da_nil))) (fun _ _ => rfl))))
      (dss_cons (ds_set (i := 4) sc__law_kind_by.nd rfl (by first | exact .inl rfl | exact .inr rfl) (de_callB (cr_sumA rfl) (cd_sumA rfl) (by rfl) T.b_sum (by decide +kernel) (da_cons (de_var (pv 3)) da_nil)))
      (dss_cons (ds_set (i := 5) sc__law_kind_by.nd rfl (by first | exact .inl rfl | exact .inr rfl) (de_callB cr_sortA (cd_sortA rfl) (by rfl) T.b_sorted (by decide +kernel) (da_cons (de_op op_addA (od_add rfl) (de_lc (own := [("_law_k", 11)]) rfl sc__law_kind_by.nd (di_range1 (by rfl) T.b_range (da_cons de_int da_nil)) (blkOk_by (by kernel_rfl)) (by decide) (fun _ _ _ _ _ => (dg_nm (i := 11) sc__law_kind_by.nd rfl (by first | exact .inl rfl | exact .inr rfl))) (fun _ _ _ _ _ => dts_nil) (fun _ _ _ _ _ => (de_ix ix_A (od_ix rfl) (de_var (pv 1)) (de_callK rfl k__law_next (hr.r.mono (by decide)) (by rfl) (da_cons (de_var (pv 0)) (da_cons (de_callB call_len (cd_len rfl) (by rfl) T.b_len (by decide +kernel) (da_cons (de_var (pv 1)) da_nil)) da_nil))) (fun _ _ => rfl)))) (de_var (pv 3))) da_nil)))
      (dss_cons (ds_set (i := 5) sc__law_kind_by.nd rfl (by first | exact .inl rfl | exact .inr rfl) (de_lst (da_cons (de_tup (da_cons (de_ix ix_A (od_ix rfl) (de_var (pv 5)) de_int (fun _ _ => rfl)) (da_cons (de_ix ix_A (od_ix rfl) (de_var (pv 5)) (de_neg de_int) (fun _ _ => rfl)) da_nil))) (da_cons (de_tup (da_cons (de_ix ix_A (od_ix rfl) (de_var (pv 1)) de_int (fun _ _ => rfl)) (da_cons (de_ix ix_A (od_ix rfl) (de_var (pv 1)) (de_neg de_int) (fun _ _ => rfl)) da_nil))) (da_cons (de_tup (da_cons (de_ix ix_A (od_ix rfl) (de_var (pv 5)) (de_neg de_int) (fun _ _ => rfl)) (da_cons (de_ix ix_A (od_ix rfl) (de_var (pv 5)) de_int (fun _ _ => rfl)) da_nil))) da_nil)))))
      (dss_cons (ds_set (i := 5) sc__law_kind_by.nd rfl (by first | exact .inl rfl | exact .inr rfl) (de_ix ix_A (od_ix rfl) (de_var (pv 5)) (de_ix ix_A (od_ix rfl) (de_lst (da_cons de_int (da_cons de_int (da_cons de_int (da_cons de_int (da_cons de_int (da_cons de_int da_nil))))))) (de_callK rfl k__law_next (hr.r.mono (by decide)) (by rfl) (da_cons (de_var (pv 0)) (da_cons de_int da_nil))) (fun _ _ => rfl)) (fun _ _ => rfl)))
      (dss_cons (ds_set (i := 6) sc__law_kind_by.nd rfl (by first | exact .inl rfl | exact .inr rfl) (de_callK rfl k__law_next (hr.r.mono (by decide)) (by rfl) (da_cons (de_var (pv 0)) (da_cons (de_op op_addA (od_add rfl) (de_callB call_len (cd_len rfl) (by rfl) T.b_len (by decide +kernel) (da_cons (de_var (pv 3)) da_nil)) de_int) da_nil))))
      (dss_cons (ds_set (i := 7) sc__law_kind_by.nd rfl (by first | exact .inl rfl | exact .inr rfl) (de_op op_addA (od_add rfl) (de_callB call_len (cd_len rfl) (by rfl) T.b_len (by decide +kernel) (da_cons (de_var (pv 3)) da_nil)) (de_callK rfl k__law_next (hr.r.mono (by decide)) (by rfl) (da_cons (de_var (pv 0)) (da_cons (de_op op_addA (od_add rfl) (de_op op_sub od_I0 (de_var (pv 2)) (de_callB call_len (cd_len rfl) (by rfl) T.b_len (by decide +kernel) (da_cons (de_var (pv 3)) da_nil))) de_int) da_nil)))))
      (dss_cons (ds_if (dt_cmp (op_eqA hr.units) (od_eq rfl) (de_callK rfl k__law_next (hr.r.mono (by decide)) (by rfl) (da_cons (de_var (pv 0)) (da_cons de_int da_nil))) de_int (nomark _))
        (dss_one (ds_par (i := 6) (j := 7) rfl sc__law_kind_by.nd rfl rfl (by decide) rfl rfl (da_cons (de_var (pv 7)) (da_cons (de_var (pv 6)) da_nil)) rfl))
        dss_nil)
      (dss_cons (ds_set (i := 8) sc__law_kind_by.nd rfl (by first | exact .inl rfl | exact .inr rfl) (de_callTy call_tuple_of (cd_tuple rfl) (by rfl) T.b_tuple (by decide +kernel) (da_cons (de_lc (own := [("_law_k", 11)]) rfl sc__law_kind_by.nd (di_range1 (by rfl) T.b_range (da_cons de_int da_nil)) (blkOk_by (by kernel_rfl)) (by decide) (fun _ _ _ _ _ => (dg_nm (i := 11) sc__law_kind_by.nd rfl (by first | exact .inl rfl | exact .inr rfl))) (fun _ _ _ _ _ => dts_nil) (fun _ _ _ _ _ => (de_cmp (op_eqA hr.units) (od_eq rfl) (de_callK rfl k__law_next (hr.r.mono (by decide)) (by rfl) (da_cons (de_var (pv 0)) (da_cons de_int da_nil))) de_int (nomark _)))) da_nil)))
      (dss_cons (ds_set (i := 9) sc__law_kind_by.nd rfl (by first | exact .inl rfl | exact .inr rfl) (de_tup (da_cons (de_op op_sub od_I0 (de_var (pv 4)) (de_ix ix_A (od_ix rfl) (de_lst (da_cons de_int (da_cons de_int (da_cons de_int (da_cons de_int (da_cons de_int da_nil)))))) (de_callK rfl k__law_next (hr.r.mono (by decide)) (by rfl) (da_cons (de_var (pv 0)) (da_cons de_int da_nil))) (fun _ _ => rfl))) (da_cons (de_op op_addA (od_add rfl) (de_var (pv 4)) (de_ix ix_A (od_ix rfl) (de_lst (da_cons de_int (da_cons de_int (da_cons de_int (da_cons de_int (da_cons de_int da_nil)))))) (de_callK rfl k__law_next (hr.r.mono (by decide)) (by rfl) (da_cons (de_var (pv 0)) (da_cons de_int da_nil))) (fun _ _ => rfl))) da_nil))))
      (dss_cons (ds_set (i := 10) sc__law_kind_by.nd rfl (by first | exact .inl rfl | exact .inr rfl) (de_callK rfl k__law_next (hr.r.mono (by decide)) (by rfl) (da_cons (de_var (pv 0)) (da_cons de_int da_nil))))
      (dss_cons (ds_if (dt_cmp op_gtA od_cmp (de_var (pv 10)) de_int (nomark _))
        (dss_one (ds_set (i := 9) sc__law_kind_by.nd rfl (by first | exact .inl rfl | exact .inr rfl) (de_ix ix_A (od_ix rfl) (de_lst (da_cons (de_tup (da_cons (de_neg de_int) (da_cons de_int da_nil))) (da_cons (de_tup (da_cons (de_neg de_int) (da_cons (de_ix ix_A (od_ix rfl) (de_var (pv 9)) de_int (fun _ _ => rfl)) da_nil))) (da_cons (de_tup (da_cons (de_ix ix_A (od_ix rfl) (de_var (pv 9)) de_int (fun _ _ => rfl)) (da_cons de_int da_nil))) (da_cons (de_revT rfl (de_var (pv 9))) da_nil))))) (de_op op_sub od_I0 (de_var (pv 10)) de_int) (fun _ _ => rfl))))
        dss_nil)
      (dss_cons (ds_set (i := 9) sc__law_kind_by.nd rfl (by first | exact .inl rfl | exact .inr rfl) (de_callTy call_tuple_of (cd_tuple rfl) (by rfl) T.b_tuple (by decide +kernel) (da_cons (de_lc (own := [("_law_one", 12)]) rfl sc__law_kind_by.nd (di_seq rfl (de_var (pv 9))) (blkOk_by (by kernel_rfl)) (by decide) (fun _ _ _ _ _ => (dg_nm (i := 12) sc__law_kind_by.nd rfl (by first | exact .inl rfl | exact .inr rfl))) (fun _ _ _ _ _ => dts_nil) (fun _ _ _ _ _ => (de_callB (call_max2 rfl) cd_II (by rfl) T.b_max (by decide +kernel) (da_cons (de_neg de_int) (da_cons (de_callB (call_min2 rfl) cd_II (by rfl) T.b_min (by decide +kernel) (da_cons de_int (da_cons (de_var (pv 12)) da_nil))) da_nil))))) da_nil)))
      (dss_one (ds_ret (de_op op_addA (od_add rfl) (de_op op_addA (od_add rfl) (de_op op_addA (od_add rfl) (de_var (pv 5)) (de_tup (da_cons (de_var (pv 6)) (da_cons (de_var (pv 7)) da_nil)))) (de_var (pv 8))) (de_var (pv 9)))))))))))))))))), ?_⟩
  dsimp only [Bk.T, theT]
  rintro rs τ Q ⟨a, b, cs, lo, w, m, rfl, rfl, hb, hw, hw2, hm, hlo, hlw, h⟩
  have el : ((spanN lo w).map PyData.int).length = w := by rw [List.length_map, spanN, List.length_map, List.length_range]
  walk_at "x"
  refine nextT (by omega) (by omega) (by omega) fun r r0 r1 => ?_
  walk_at "x"
  refine ⟨⟨by omega, by omega⟩, ?_⟩
  obtain ⟨k, rfl⟩ : ∃ k : Nat, r = k := ⟨r.toNat, by omega⟩
  have pick : ∀ (b2 : Nat) (Q' : SV → T2 → Prop) (r : Int), 0 ≤ r → r < w → (∀ x : Int, lo ≤ x → x < lo + w → Q' (.d (.int x)) ⟨.on a b2, cs⟩) → kAt (fun x => Q' x ⟨.on a b2, cs⟩) (atI ((spanN lo w).map PyData.int) r) := fun b2 Q' r h1 h2 q => by
    refine kAt_of h1 (by rw [el]; omega) fun z ez hz => ?_
    obtain ⟨x, hx, rfl⟩ := List.mem_map.mp hz
    have := mem_spanN.mp hx
    exact q x this.1 this.2
  refine lc_inv (fun j acc τ => ∃ (b' : Nat) (row : List Int), τ = ⟨.on a b', cs⟩ ∧ b ≤ b' + 1 + j ∧ acc = row.map .int ∧ row.length = j ∧ ∀ x ∈ row, lo ≤ x ∧ x < lo + w) _ _ ⟨_, [], rfl, by omega, rfl, rfl, by simp⟩ ?_ (by rw [rgI_len, sizeLine_eq]; omega) ?_
  · rintro j x acc τ ej ⟨b', row, rfl, g1, rfl, g2, g3⟩ _ kc k0 q _
    have hj : j < k := by
      have := (rgI_get ej).1
      simpa using this
    walk_at "x"
    refine nextT (by omega) (by omega) (by omega) fun r r0 r1 => ?_
    walk_at "x"
    rw [el] at r1
    refine pick _ _ r r0 r1 fun x x0 x1 => ?_
    refine q _ _ ⟨_, row ++ [x], rfl, by omega, by rw [List.map_append]; rfl, by rw [List.length_append, g2]; rfl, fun z hz => ?_⟩
    rcases List.mem_append.mp hz with hz | hz
    · exact g3 z hz
    · rw [List.mem_singleton.mp hz]
      exact ⟨x0, x1⟩
  · rintro acc τ ⟨b', row, rfl, g1, rfl, g2, g3⟩
    rw [rgI_len, Int.toNat_natCast] at g1 g2
    have hk : k ≤ m := by omega
    have rw20 : ∀ x ∈ row, -20 ≤ x ∧ x ≤ 20 := fun x hx => by
      have := g3 x hx
      omega
    have tot := sum_bound rw20
    rw [g2] at tot
    walk_at "x"
    refine ⟨by decide, ?_⟩
    refine lc_inv (fun j acc τ => ∃ (b2 : Nat) (es : List Int), τ = ⟨.on a b2, cs⟩ ∧ b' ≤ b2 + j ∧ acc = es.map .int ∧ es.length = j ∧ ∀ x ∈ es, lo ≤ x ∧ x < lo + w) _ _ ⟨_, [], rfl, by omega, rfl, rfl, by simp⟩ ?_ (by decide) ?_
    · rintro j x acc τ ej ⟨b2, es, rfl, f1, rfl, f2, f3⟩ _ kc k0 q _
      have hj : j < 2 := (rgI_get ej).1
      walk_at "x"
      refine nextT (by omega) (by omega) (by omega) fun r r0 r1 => ?_
      walk_at "x"
      rw [el] at r1
      refine pick _ _ r r0 r1 fun x x0 x1 => ?_
      refine q _ _ ⟨_, es ++ [x], rfl, by omega, by rw [List.map_append]; rfl, by rw [List.length_append, f2]; rfl, fun z hz => ?_⟩
      rcases List.mem_append.mp hz with hz | hz
      · exact f3 z hz
      · rw [List.mem_singleton.mp hz]
        exact ⟨x0, x1⟩
    rintro acc τ ⟨b2, es, rfl, f1, rfl, f2, f3⟩
    have f1 : b' ≤ b2 + 2 := f1
    have f2 : es.length = 2 := f2
    walk_at "x"
    refine ⟨by rw [List.length_map, List.length_map, f2, g2, sizeLine_eq]; omega, ?_⟩
    rw [← List.map_append]
    refine gSortA_of rfl fun ms mp _ => ?_
    have m3 : ∀ x ∈ ms, lo ≤ x ∧ x < lo + w := fun x hx => by
      rcases List.mem_append.mp (mp.mem_iff.mp hx) with hx | hx
      · exact f3 x hx
      · exact g3 x hx
    have ml : ms.length = 2 + k := by rw [mp.length_eq, List.length_append, f2, g2]
    clear mp
    obtain ⟨mi, mz, em⟩ := snoc_of (l := ms) (fun e => by rw [e] at ml; simp at ml; omega)
    obtain ⟨m0, mt, em0⟩ : ∃ m0 mt, ms = m0 :: mt := by
      cases ms with
      | nil => simp at ml; omega
      | cons m0 mt => exact ⟨m0, mt, rfl⟩
    have hm0 := m3 m0 (by rw [em0]; exact List.mem_cons_self)
    have hmz := m3 mz (by rw [em]; simp)
    have eAt0 : atI (ms.map PyData.int) 0 = some (.int m0) := by rw [em0]; exact atI_hd _ _
    have eAtZ : atI (ms.map PyData.int) (-1) = some (.int mz) := by rw [em, List.map_append]; exact atI_lst _ _
    have eN0 : atI ((spanN lo w).map PyData.int) 0 = some (.int lo) := by
      obtain ⟨v, rfl⟩ : ∃ v, w = v + 1 := ⟨w - 1, by omega⟩
      rw [spanN, List.range_succ_eq_map]
      simp only [List.map_cons]
      rw [atI_hd, show lo + ((0 : Nat) : Int) = lo by omega]
    have eNZ : atI ((spanN lo w).map PyData.int) (-1) = some (.int (lo + w - 1)) := by
      obtain ⟨v, rfl⟩ : ∃ v, w = v + 1 := ⟨w - 1, by omega⟩
      rw [spanN_succ, List.map_append]
      rw [show lo + ((v + 1 : Nat) : Int) - 1 = lo + v by omega]
      exact atI_lst _ _
    walk_at "x"
    rw [eAt0]
    walk_at "x"
    rw [eAtZ]
    walk_at "x"
    rw [eN0]
    walk_at "x"
    rw [eNZ]
    walk_at "x"
    rw [eAtZ]
    walk_at "x"
    rw [eAt0]
    walk_at "x"
    refine nextT (by omega) (by decide) (by decide) fun r r0 r1 => ?_
    walk_at "x"
    refine kAt_of r0 (by simpa using r1) fun z ez hz => ?_
    obtain ⟨y, rfl, y0, y1⟩ : ∃ y : Int, z = .int y ∧ 0 ≤ y ∧ y < 3 := by
      simp only [List.mem_cons, List.not_mem_nil, or_false] at hz
      rcases hz with rfl | rfl | rfl | rfl | rfl | rfl <;> exact ⟨_, rfl, by decide, by decide⟩
    clear ez hz
    walk_at "x"
    refine kAt_of y0 (by simpa using y1) fun z ez hz => ?_
    obtain ⟨L, H, rfl, hL, hH⟩ : ∃ L H : Int, z = .tuple [.int L, .int H] ∧ (lo ≤ L ∧ L < lo + w) ∧ (lo ≤ H ∧ H < lo + w) := by
      rcases mem3 hz with rfl | rfl | rfl
      · exact ⟨_, _, rfl, by omega, by omega⟩
      · exact ⟨_, _, rfl, by omega, by omega⟩
      · exact ⟨_, _, rfl, by omega, by omega⟩
    clear ez hz eAt0 eAtZ eN0 eNZ em em0 ml m3
    walk_at "x"
    have ek : (row.map PyData.int).length = k := by rw [List.length_map, g2]
    rw [ek]
    refine nextT (by omega) (by omega) (by omega) fun fw fw0 fw1 => ?_
    walk_at "x"
    rw [ek]
    refine nextT (by omega) (by omega) (by omega) fun mr mr0 mr1 => ?_
    walk_at "x"
    refine nextT (by omega) (by decide) (by decide) fun sw sw0 sw1 => ?_
    walk_at "x"
    refine kIfS_join (fun e τ' => τ' = ⟨.on a (b2 - 1 - 1 - 1 - 1), cs⟩ ∧ ∃ fe ma : Int, (0 ≤ fe ∧ fe ≤ m) ∧ (0 ≤ ma ∧ ma ≤ m) ∧ e = [.raw (.ref a), .d (.list ((spanN lo w).map .int)), .d (.int m), .ol (row.map .int), .d (.int row.sum), .d (.tuple [.int L, .int H]), .d (.int fe), .d (.int ma), .no, .no, .no, .no, .no]) (fun e n2 q => ?_) (fun e n2 q => ?_) ?_
    · walk_at "x"
      exact q _ _ ⟨rfl, _, _, by omega, by omega, rfl⟩
    · walk_at "x"
      exact q _ _ ⟨rfl, _, _, by omega, by omega, rfl⟩
    rintro e τ' ⟨rfl, fe, ma, hfe, hma, rfl⟩
    walk_at "x"
    refine ⟨by decide, ?_⟩
    refine lc_inv (fun j acc τ => ∃ (b3 : Nat) (es : List Bool), τ = ⟨.on a b3, cs⟩ ∧ b2 ≤ b3 + 4 + j ∧ acc = es.map .bool ∧ es.length = j) _ _ ⟨_, [], rfl, by omega, rfl, rfl⟩ ?_ (by decide) ?_
    · rintro j x acc τ ej ⟨b3, es, rfl, q1, rfl, q2⟩ _ kc k0 q _
      have hj : j < 3 := (rgI_get ej).1
      walk_at "x"
      refine nextT (by omega) (by decide) (by decide) fun r r0 r1 => ?_
      walk_at "x"
      exact q _ _ ⟨_, es ++ [decide (r = 0)], rfl, by omega, by rw [List.map_append]; rfl, by rw [List.length_append, q2]; rfl⟩
    rintro acc τ ⟨b3, es, rfl, q1, rfl, q2⟩
    have q1 : b2 ≤ b3 + 4 + 3 := q1
    obtain ⟨u, d, n, rfl⟩ : ∃ u d n, es = [u, d, n] := by
      match es, q2 with
      | [u, d, n], _ => exact ⟨u, d, n, rfl⟩
    walk_at "x"
    refine nextT (by omega) (by decide) (by decide) fun r r0 r1 => ?_
    walk_at "x"
    refine kAt_of r0 (by simpa using r1) fun z ez hz => ?_
    obtain ⟨y, rfl, y0, y1⟩ : ∃ y : Int, z = .int y ∧ 0 ≤ y ∧ y ≤ 5 := by
      simp only [List.mem_cons, List.not_mem_nil, or_false] at hz
      rcases hz with rfl | rfl | rfl | rfl | rfl <;> exact ⟨_, rfl, by decide, by decide⟩
    clear ez hz
    walk_at "x"
    refine nextT (by omega) (by decide) (by decide) fun r r0 r1 => ?_
    walk_at "x"
    refine kAt_of r0 (by simpa using r1) fun z ez hz => ?_
    obtain ⟨y', rfl, y0', y1'⟩ : ∃ y : Int, z = .int y ∧ 0 ≤ y ∧ y ≤ 5 := by
      simp only [List.mem_cons, List.not_mem_nil, or_false] at hz
      rcases hz with rfl | rfl | rfl | rfl | rfl <;> exact ⟨_, rfl, by decide, by decide⟩
    clear ez hz
    walk_at "x"
    refine nextT (by omega) (by decide) (by decide) fun wy wy0 wy1 => ?_
    walk_at "x"
    refine kIfS_join (fun e τ' => τ' = ⟨.on a (b3 - 1 - 1 - 1), cs⟩ ∧ ∃ p q : Int, e = [.raw (.ref a), .d (.list ((spanN lo w).map .int)), .d (.int m), .ol (row.map .int), .d (.int row.sum), .d (.tuple [.int L, .int H]), .d (.int fe), .d (.int ma), .d (.tuple [.bool u, .bool d, .bool n]), .d (.tuple [.int p, .int q]), .d (.int wy), .no, .no]) (fun e n2 q => ?_) (fun e n2 q => ?_) ?_
    · have e := of_decide_eq_true e
      walk_at "x"
      walk_at "i"
      walk_at "i"
      refine kAt_of (by omega) (by simp only [List.length_cons, List.length_nil]; omega) fun z ez hz => ?_
      obtain ⟨p, q', rfl⟩ : ∃ p q : Int, z = .tuple [.int p, .int q] := by
        simp only [List.mem_cons, List.not_mem_nil, or_false] at hz
        rcases hz with rfl | rfl | rfl | rfl <;> exact ⟨_, _, rfl⟩
      clear ez hz
      exact q _ _ ⟨rfl, p, q', rfl⟩
    · walk_at "x"
      exact q _ _ ⟨rfl, _, _, rfl⟩
    rintro e τ' ⟨rfl, p, q, rfl⟩
    walk_at "x"
    refine lc_map (fun (y : D) => match y with | .int x => .int (max (-160) (min 160 x)) | _ => .none) _ (fun y hy kc k0 kk => ?_) (by show 2 ≤ sizeLine; decide) ?_
    · obtain ⟨x, rfl⟩ : ∃ x : Int, y = .int x := by
        simp only [List.mem_cons, List.not_mem_nil, or_false] at hy
        rcases hy with rfl | rfl <;> exact ⟨_, rfl⟩
      walk_at "x"
      have e1 : (if (if x < 160 then x else 160) > -160 then (if x < 160 then x else 160) else -160) = max (-160) (min 160 x) := by
        split <;> split <;> omega
      rw [e1]
      exact kk
    · simp only [List.map_cons, List.map_nil]
      walk_at "x"
      exact h L H fe ma u d n _ _ _ hL hH hfe hma (by omega) (by omega) (by omega)
theorem ok_is_kind {f : Addr} {fd : FuncData} (T : Txt K mg ca) (F : Fun K "is_kind" "is_kind" s_is_kind f fd) (k_is_part : Known P w K mg base (theT (Ts ca)) "is_part" ["at", "thing"] 3 (FF_is_part)) :
    FnOk P w K mg base CX0 4 f fd ["thing"] (spD (theT (Ts ca)) K (FF_is_kind)) := by
  refine okP F sc_is_kind (by walk_at "v") (by decide) fun cdv A outer s H E G Fp hr => ⟨_, (dss_cons (ds_if (dt_w (dw_or (dt_not (dt_tru rfl (de_callB call_isi (cd_isi rfl) (by rfl) T.b_isinstance (by decide +kernel) (da_cons (de_var (pv 0)) (da_cons (de_ty (n := "tuple") (by rfl) T.b_tuple (by decide +kernel)) da_nil))))) (dw_or1 (dt_cmp (op_neA hr.units) (od_ne rfl) (de_callB call_len (cd_len rfl) (by rfl) T.b_len (by decide +kernel) (da_cons (de_var (pv 0)) da_nil)) (de_callB call_len (cd_len rfl) (by rfl) T.b_len (by decide +kernel) (da_cons (de_gdat rfl (by rfl) T.c_PARTS) da_nil)) (nomark _)))))
        (dss_one (ds_ret de_bl))
        dss_nil)
      (dss_one (ds_ret (de_callB (cr_all rfl) (cd_all rfl) (by rfl) T.b_all (by decide +kernel) (da_cons (de_lc (own := [("at", 1), ("part", 2)]) rfl sc_is_kind.nd (di_enum2 rfl (by rfl) T.b_enumerate (da_cons (de_var (pv 0)) da_nil)) (blkOk_by (by kernel_rfl)) (by decide) (fun _ _ _ _ _ => (dg_tp rfl rfl (dg_cons (dg_nm (i := 1) sc_is_kind.nd rfl (by first | exact .inl rfl | exact .inr rfl)) (dg_cons (dg_nm (i := 2) sc_is_kind.nd rfl (by first | exact .inl rfl | exact .inr rfl)) dg_nil)))) (fun _ _ _ _ _ => dts_nil) (fun _ _ _ _ _ => (de_callK rfl k_is_part (hr.mono (by decide)) (by rfl) (da_cons (de_var (pv 1)) (da_cons (de_var (pv 2)) da_nil))))) da_nil))))), ?_⟩
  dsimp only [Bk.T, theT]
  rintro rs τ Q ⟨x, rfl, hx, h⟩
  walk_at "y"
  cases x with
  | dict m =>
    cases m with
    | nil => walk_at "y"; exact h
    | cons p r => exact hx.1.elim
  | tuple xs =>
    walk_at "y"
    refine kIfS_of (fun e1 => ?_) fun e1 => ?_
    · have e1 : ¬ xs.length = 9 := by simp at e1; omega
      simp only [isKindD, e1, decide_false, Bool.false_and] at h
      walk_at "y"
      exact h
    have e1 : xs.length = 9 := by simp at e1; omega
    simp only [isKindD, e1, decide_true, Bool.true_and] at h
    walk_at "y"
    refine lc_map (fun y => match y with | .tuple [.int i, x] => .bool (isPartD i.toNat x) | _ => .none) _ (fun y hy kc k0 hk => ?_) ?_ ?_
    · obtain ⟨⟨x, i⟩, hp, rfl⟩ := List.mem_map.mp hy
      have hm := List.mem_zipIdx hp
      walk_at "y"
      refine ⟨i, x, rfl, by omega, hx.2 xs rfl x (by rw [hm.2.2]; exact List.getElem_mem _), ?_⟩
      walk_at "y"
      exact hk
    · rw [sizeLine_eq, enumD, List.length_map, List.length_zipIdx]
      omega
    · unfold enumD
      rw [List.map_map]
      walk_at "y"
      show kBls _ _ (bools? (xs.zipIdx.map fun p => .bool (isPartD p.2 p.1)))
      rw [bools_of]
      walk_at "y"
      rw [all_id, parts_zip]
      exact h
  | _ => walk_at "y"; exact h
theorem ok_sums_of {f : Addr} {fd : FuncData} (T : Txt K mg ca) (F : Fun K "sums_of" "sums_of" s_sums_of f fd) (k_all_sums : Known P w K mg base (theT (Ts ca)) "all_sums" ["numbers", "most", "is_level", "is_unlike"] 3 (FF_all_sums)) :
    FnOk P w K mg base CX0 4 f fd ["numbers", "many", "is_level", "is_unlike"] (spD (theT (Ts ca)) K (FF_sums_of)) := by
  refine okP F sc_sums_of (by walk_at "v") (by decide) fun cdv A outer s H E G Fp hr => ⟨_, (dss_one (ds_ret (de_ix ix_A (od_ix rfl) (de_callK rfl k_all_sums (hr.mono (by decide)) (by rfl) (da_cons (de_var (pv 0)) (da_cons (de_var (pv 1)) (da_cons (de_var (pv 2)) (da_cons (de_var (pv 3)) da_nil))))) (de_var (pv 1)) (fun _ _ => rfl)))), ?_⟩
  dsimp only [Bk.T, theT]
  rintro rs τ Q ⟨ns, m, lvl, unl, rfl, hr, hn, hl, hm, h⟩
  walk_at "x"
  refine ⟨ns, m, lvl, unl, rfl, hr, hn, hl, hm, fun fs h1 h2 => ?_⟩
  walk_at "x"
  refine kAt_of (by omega) (by rw [List.length_map]; omega) fun z ez _ => ?_
  rw [Int.toNat_natCast, List.getElem?_map] at ez
  cases ef : fs[m]? with
  | none => rw [ef] at ez; cases ez
  | some f =>
    rw [ef] at ez
    cases ez
    walk_at "x"
    exact h f (h2 m f ef)
theorem ok_counts_of {f : Addr} {fd : FuncData} (T : Txt K mg ca) (F : Fun K "counts_of" "counts_of" s_counts_of f fd) (k_window : Known P w K mg base (theT (Ts ca)) "window" ["least", "most"] 1 (FF_window)) (k_all_sums : Known P w K mg base (theT (Ts ca)) "all_sums" ["numbers", "most", "is_level", "is_unlike"] 3 (FF_all_sums)) (k_is_level : Known P w K mg base (theT (Ts ca)) "is_level" ["kind"] 1 (FF_is_level)) (k_numbers_of : Known P w K mg base (theT (Ts ca)) "numbers_of" ["kind"] 1 (FF_numbers_of)) :
    FnOk P w K mg base CX0 4 f fd ["kind"] (spD (theT (Ts ca)) K (FF_counts_of)) := by
  refine okP F sc_counts_of (by walk_at "v") (by decide) fun cdv A outer s H E G Fp hr => ⟨_, (dss_cons (ds_set (i := 1) sc_counts_of.nd rfl (by first | exact .inl rfl | exact .inr rfl) (de_callK rfl k_window (hr.mono (by decide)) (by rfl) (da_cons (de_ix ix_A (od_ix rfl) (de_var (pv 0)) de_int (fun _ _ => rfl)) (da_cons (de_ix ix_A (od_ix rfl) (de_var (pv 0)) de_int (fun _ _ => rfl)) da_nil))))
      (dss_cons (ds_set (i := 2) sc_counts_of.nd rfl (by first | exact .inl rfl | exact .inr rfl) (de_callK rfl k_all_sums (hr.mono (by decide)) (by rfl) (da_cons (de_callK rfl k_numbers_of (hr.mono (by decide)) (by rfl) (da_cons (de_var (pv 0)) da_nil)) (da_cons (de_ix ix_A (od_ix rfl) (de_var (pv 0)) de_int (fun _ _ => rfl)) (da_cons (de_callK rfl k_is_level (hr.mono (by decide)) (by rfl) (da_cons (de_var (pv 0)) da_nil)) (da_cons (de_ix ix_A (od_ix rfl) (de_var (pv 0)) de_int (fun _ _ => rfl)) da_nil))))))
      (dss_one (ds_ret (de_lc (own := [("many", 3)]) rfl sc_counts_of.nd (di_range2 (by rfl) T.b_range (da_cons (de_ix ix_A (od_ix rfl) (de_var (pv 0)) de_int (fun _ _ => rfl)) (da_cons (de_op op_addA (od_add rfl) (de_ix ix_A (od_ix rfl) (de_var (pv 0)) de_int (fun _ _ => rfl)) de_int) da_nil))) (blkOk_by (by kernel_rfl)) (by decide) (fun _ _ _ _ _ => (dg_nm (i := 3) sc_counts_of.nd rfl (by first | exact .inl rfl | exact .inr rfl))) (fun _ _ _ _ _ => (dts_one (dt_cmp (op_neA hr.units) (od_ne rfl) (de_op op_and od_I0 (de_ix ix_A (od_ix rfl) (de_var (pv 2)) (de_var (pv 3)) (fun _ _ => rfl)) (de_var (pv 1))) de_int (nomark _)))) (fun _ _ _ _ _ => (de_tup (da_cons (de_var (pv 3)) (da_cons (de_op op_and od_I0 (de_ix ix_A (od_ix rfl) (de_var (pv 2)) (de_var (pv 3)) (fun _ _ => rfl)) (de_var (pv 1))) da_nil))))))))), ?_⟩
  dsimp only [Bk.T, theT]
  rintro rs τ Q ⟨lo, hi, fe, ma, u, d, n, fr, to, rfl, hk, h⟩
  have hr := kind_rng hk
  simp only [kD]
  walk_at "x"
  refine kAt_of (by decide) (by show (7 : Int) < 9; decide) fun z ez _ => ?_
  cases ez
  walk_at "x"
  refine kAt_of (by decide) (by show (8 : Int) < 9; decide) fun z ez _ => ?_
  cases ez
  walk_at "x"
  refine ⟨fr, to, rfl, fun w hw => ?_⟩
  walk_at "x"
  refine ⟨lo, hi, fe, ma, u, d, n, fr, to, rfl, hk, ?_⟩
  walk_at "x"
  refine kAt_of (by decide) (by show (3 : Int) < 9; decide) fun z ez _ => ?_
  cases ez
  walk_at "x"
  refine ⟨lo, hi, fe, ma, u, d, n, fr, to, rfl, ?_⟩
  walk_at "x"
  refine kAt_of (by decide) (by show (6 : Int) < 9; decide) fun z ez _ => ?_
  cases ez
  walk_at "x"
  obtain ⟨M, eM⟩ : ∃ M : Nat, ma = M := ⟨ma.toNat, by omega⟩
  obtain ⟨F, eF⟩ : ∃ F : Nat, fe = F := ⟨fe.toNat, by omega⟩
  subst eM eF
  have hin : inR (span lo hi) := span_inR hr.1.1 hr.2.1.2
  refine ⟨span lo hi, M, u && d, n, rfl, hin, span_nd lo hi, by rw [span_len]; omega, by omega, fun fs hfl hfs => ?_⟩
  walk_at "x"
  refine kAt_of (by decide) (by show (2 : Int) < 9; decide) fun z ez _ => ?_
  cases ez
  walk_at "x"
  refine kAt_of (by decide) (by show (3 : Int) < 9; decide) fun z ez _ => ?_
  cases ez
  walk_at "x"
  refine ⟨⟨by omega, by omega, by omega, by omega⟩, ?_⟩
  refine lc_fm (fun (y : D) => match y with | .int k => if (!decide (Builtin.bitAnd (fs.getD k.toNat 0) w = 0)) = true then some (.tuple [.int k, .int (Builtin.bitAnd (fs.getD k.toNat 0) w)]) else none | _ => none) _ (fun y hy kc k0 hk => ?_) (by rw [rgI_len, sizeLine_eq]; omega) ?_
  · obtain ⟨i, hi, ey⟩ := List.mem_map.mp hy
    subst ey
    rw [List.mem_range] at hi
    have hi : i < M + 1 - F := by omega
    rw [show (F : Int) + (i : Nat) = ((F + i : Nat) : Int) by omega] at hk ⊢
    obtain ⟨g, eg⟩ : ∃ g, fs[F + i]? = some g := ⟨_, List.getElem?_eq_getElem (by omega)⟩
    have e0 : fs.getD (((F + i : Nat) : Int).toNat) 0 = g := by rw [Int.toNat_natCast, List.getD_eq_getElem?_getD, eg]; rfl
    dsimp only at hk
    rw [e0] at hk
    walk_at "x"
    refine kAt_of (by omega) (by rw [List.length_map]; omega) fun z ez _ => ?_
    rw [Int.toNat_natCast, List.getElem?_map, eg] at ez
    cases ez
    walk_at "x"
    refine kTurn_of (fun e => ?_) fun e => ?_
    · rw [if_pos e] at hk
      walk_at "x"
      refine kAt_of (by omega) (by rw [List.length_map]; omega) fun z ez _ => ?_
      rw [Int.toNat_natCast, List.getElem?_map, eg] at ez
      cases ez
      walk_at "x"
      exact hk
    · rw [if_neg (by rw [e]; decide)] at hk
      exact hk
  · obtain ⟨cs, ecs⟩ : ∃ cs : List (Nat × Int), cs = (List.range (M + 1 - F)).filterMap fun i => if (!decide (Builtin.bitAnd (fs.getD (F + i) 0) w = 0)) = true then some (F + i, Builtin.bitAnd (fs.getD (F + i) 0) w) else none := ⟨_, rfl⟩
    have e1 : ((rgI (F : Int) ((M : Int) + 1 - F).toNat).filterMap fun (y : D) => match y with | .int k => if (!decide (Builtin.bitAnd (fs.getD k.toNat 0) w = 0)) = true then some (PyData.tuple [.int k, .int (Builtin.bitAnd (fs.getD k.toNat 0) w)]) else none | _ => none) = cD cs := by
      rw [ecs, cD, rgI, List.filterMap_map, List.map_filterMap, show ((M : Int) + 1 - F).toNat = M + 1 - F by omega]
      refine fm_congr fun i _ => ?_
      simp only [Function.comp_apply]
      rw [show (F : Int) + (i : Nat) = ((F + i : Nat) : Int) by omega, Int.toNat_natCast]
      split <;> rfl
    rw [e1]
    walk_at "x"
    have bnd : ∀ i, i < M + 1 - F → BitsOf (fs.getD (F + i) 0) (Lot (span lo hi) (u && d) n (F + i)) := fun i hi => by
      obtain ⟨g, eg⟩ : ∃ g, fs[F + i]? = some g := ⟨_, List.getElem?_eq_getElem (by omega)⟩
      rw [List.getD_eq_getElem?_getD, eg]
      exact hfs _ _ eg
    have bnd2 : ∀ i, i < M + 1 - F → BitsOf (Builtin.bitAnd (fs.getD (F + i) 0) w) (fun s => (fr ≤ s ∧ s ≤ to) ∧ Lot (span lo hi) (u && d) n (F + i) s) := fun i hi => by
      have h1 := bnd i hi
      refine ⟨by rw [and_nn h1.1 hw.1]; omega, fun s => ?_⟩
      rw [and_has h1.1 hw.1, h1.2, hw.2]
      constructor
      · rintro ⟨g1, g2⟩
        exact ⟨g2.2, g1⟩
      · rintro ⟨g1, g2⟩
        exact ⟨g2, by omega, g1⟩
    refine h cs ⟨fun c hc => ?_, fun m s h1 h2 h3 h4 h5 => ?_, ?_⟩ ?_
    · rw [ecs, List.mem_filterMap] at hc
      obtain ⟨i, hi, e⟩ := hc
      rw [List.mem_range] at hi
      have b2 := bnd2 i hi
      split at e
      · rename_i e3
        cases e
        rw [Bool.not_eq_true', decide_eq_false_iff_not] at e3
        exact ⟨by have := b2.1; dsimp only; omega, by dsimp only; omega, b2.2⟩
      · cases e
    · have hi : m - F < M + 1 - F := by omega
      have b2 := bnd2 (m - F) hi
      rw [show F + (m - F) = m by omega] at b2
      refine ⟨Builtin.bitAnd (fs.getD m 0) w, ?_⟩
      rw [ecs, List.mem_filterMap]
      refine ⟨m - F, List.mem_range.mpr hi, ?_⟩
      rw [show F + (m - F) = m by omega, if_pos]
      rw [Bool.not_eq_true', decide_eq_false_iff_not]
      exact (has_some b2.1).mpr ⟨s, (b2.2 s).mpr ⟨⟨h3, h4⟩, h5⟩⟩
    · rw [ecs, List.pairwise_filterMap]
      refine List.pairwise_lt_range.imp fun {i j} hij b hb c hc => ?_
      split at hb
      · split at hc
        · cases hb
          cases hc
          show F + i < F + j
          omega
        · cases hc
      · cases hb
    · rw [ecs]
      refine Nat.le_trans (List.length_filterMap_le _ _) ?_
      rw [List.length_range]
      omega
theorem ok_least_kind {f : Addr} {fd : FuncData} (T : Txt K mg ca) (F : Fun K "least_kind" "least_kind" s_least_kind f fd) (k_is_row : Known P w K mg base (theT (Ts ca)) "is_row" ["thing"] 3 (FF_is_row)) (k_rises : Known P w K mg base (theT (Ts ca)) "rises" ["row"] 1 (FF_rises)) (k_falls : Known P w K mg base (theT (Ts ca)) "falls" ["row"] 1 (FF_falls)) (k_are_unlike : Known P w K mg base (theT (Ts ca)) "are_unlike" ["row"] 1 (FF_are_unlike)) :
    FnOk P w K mg base (L2.CX P w) 4 f fd ["rows"] (spDX (theT (Ts ca)) K (FF_least_kind ca)) := by
  refine okX F sc_least_kind (by walk_at "u") (by decide) fun cdv A outer s H E G Fp Ed hr hE tk hx hpo => ⟨_, (dss_cons (ds_if (dt_w (dw_or (dt_not (dt_tru rfl (de_isi2 (a := "list") (b := "tuple") rfl (by rfl) T.b_isinstance (de_var (pv 0)) (by rfl) T.b_list (by decide +kernel) (by rfl) T.b_tuple (by decide +kernel) (by decide) (by decide)))) (dw_or1 (dt_not (dt_tru rfl (de_callB (cr_all rfl) (cd_all rfl) (by rfl) T.b_all (by decide +kernel) (da_cons (de_lc (own := [("row", 1)]) rfl sc_least_kind.nd (di_seq rfl (de_var (pv 0))) (blkOk_by (by kernel_rfl)) (by decide) (fun _ _ _ _ _ => (dg_nm (i := 1) sc_least_kind.nd rfl (by first | exact .inl rfl | exact .inr rfl))) (fun _ _ _ _ _ => dts_nil) (fun _ _ _ _ _ => (de_callK rfl k_is_row (hr.mono (by decide)) (by rfl) (da_cons (de_var (pv 1)) da_nil)))) da_nil)))))))
        (dss_one (ds_raise rfl rfl hE tk T.x_BadRow (by rfl)))
        dss_nil)
      (dss_cons (ds_if (dt_cmp (op_eqA hr.units) (od_eq rfl) (de_callB call_len (cd_len rfl) (by rfl) T.b_len (by decide +kernel) (da_cons (de_var (pv 0)) da_nil)) de_int (nomark _))
        (dss_one (ds_ret (de_gdat rfl (by rfl) T.c_NOTHING)))
        dss_nil)
      (dss_cons (ds_set (i := 2) sc_least_kind.nd rfl (by first | exact .inl rfl | exact .inr rfl) (de_lst da_nil))
      (dss_cons (ds_for hpo rfl (di_seq rfl (de_var (pv 0))) (dg_nm (i := 1) sc_least_kind.nd rfl (by first | exact .inl rfl | exact .inr rfl))
        (dss_one (ds_extT rfl (ps_expr (pe_bm PySem.F.plainAttrs_list PySem.F.slot_list_extend PySem.F.type_list_extend mt_extT (pv 2) (pa_cons (de_var (pv 1)) pa_nil))))))
      (dss_cons (ds_setLc (i := 3) (own := [("row", 1)]) rfl sc_least_kind.nd rfl rfl (sw_true rfl rfl rfl (by decide +kernel)) (di_seq rfl (de_var (pv 0))) (blkOk_by (by kernel_rfl)) (by decide) (fun _ _ _ _ _ => (dg_nm (i := 1) sc_least_kind.nd rfl (by first | exact .inl rfl | exact .inr rfl))) (fun _ _ _ _ _ => dts_nil) (fun _ _ _ _ _ => (de_callB call_len (cd_len rfl) (by rfl) T.b_len (by decide +kernel) (da_cons (de_var (pv 1)) da_nil))))
      (dss_cons (ds_setLc (i := 4) (own := [("row", 1)]) rfl sc_least_kind.nd rfl rfl (sw_true rfl rfl rfl (by decide +kernel)) (di_seq rfl (de_var (pv 0))) (blkOk_by (by kernel_rfl)) (by decide) (fun _ _ _ _ _ => (dg_nm (i := 1) sc_least_kind.nd rfl (by first | exact .inl rfl | exact .inr rfl))) (fun _ _ _ _ _ => dts_nil) (fun _ _ _ _ _ => (de_callB (cr_sumA rfl) (cd_sumA rfl) (by rfl) T.b_sum (by decide +kernel) (da_cons (de_var (pv 1)) da_nil))))
      (dss_cons (ds_frz (i := 2) (ds_set (i := 5) sc_least_kind.nd rfl (by first | exact .inl rfl | exact .inr rfl) (de_if (dt_cmp (op_neA hr.units) (od_ne rfl) (de_var (pv 2)) (de_lst da_nil) (nomark _)) (de_tup (da_cons (de_callB (cr_min rfl) (cd_min rfl) (by rfl) T.b_min (by decide +kernel) (da_cons (de_var (pv 2)) da_nil)) (da_cons (de_callB (cr_max rfl) (cd_max rfl) (by rfl) T.b_max (by decide +kernel) (da_cons (de_var (pv 2)) da_nil)) da_nil))) (de_tup (da_cons de_int (da_cons de_int da_nil))))))
      (dss_cons (ds_set (i := 6) sc_least_kind.nd rfl (by first | exact .inl rfl | exact .inr rfl) (de_callTy call_tuple_of (cd_tuple rfl) (by rfl) T.b_tuple (by decide +kernel) (da_cons (de_lc (own := [("look", 7)]) rfl sc_least_kind.nd (di_seq rfl (de_tup (da_cons (de_gfn (by rfl) T.gf_rises) (da_cons (de_gfn (by rfl) T.gf_falls) (da_cons (de_gfn (by rfl) T.gf_are_unlike) da_nil))))) (blkOk_by (by kernel_rfl)) (by decide) (fun _ _ _ _ _ => (dg_nm (i := 7) sc_least_kind.nd rfl (by first | exact .inl rfl | exact .inr rfl))) (fun _ _ _ _ _ => dts_nil) (fun _ _ _ _ _ => (de_callB (cr_all rfl) (cd_all rfl) (by rfl) T.b_all (by decide +kernel) (da_cons (de_lc (own := [("row", 1)]) rfl sc_least_kind.nd (di_seq rfl (de_var (pv 0))) (blkOk_by (by kernel_rfl)) (by decide) (fun _ _ _ _ _ => (dg_nm (i := 1) sc_least_kind.nd rfl (by first | exact .inl rfl | exact .inr rfl))) (fun _ _ _ _ _ => dts_nil) (fun _ _ _ _ _ => (de_callV (i := 7) (k := 1) (fs := ([(ca.f_rises, FF_rises), (ca.f_falls, FF_falls), (ca.f_are_unlike, FF_are_unlike)] : List (Addr × FW T2))) rfl (show ∀ q ∈ ([(ca.f_rises, FF_rises), (ca.f_falls, FF_falls), (ca.f_are_unlike, FF_are_unlike)] : List (Addr × FW T2)), FunV P w K mg base (theT (Ts ca)) 1 q.1 q.2 from (fv_cons (.of k_rises T.gf_rises (by decide)) (fv_cons (.of k_falls T.gf_falls (by decide)) (fv_cons (.of k_are_unlike T.gf_are_unlike (by decide)) fv_nil)))) (hr.mono (by decide)) (da_cons (de_var (pv 1)) da_nil)))) da_nil)))) da_nil)))
      (dss_one (ds_ret (de_op op_addA (od_add rfl) (de_op op_addA (od_add rfl) (de_op op_addA (od_add rfl) (de_var (pv 5)) (de_tup (da_cons (de_callB (cr_min rfl) (cd_min rfl) (by rfl) T.b_min (by decide +kernel) (da_cons (de_var (pv 3)) da_nil)) (da_cons (de_callB (cr_max rfl) (cd_max rfl) (by rfl) T.b_max (by decide +kernel) (da_cons (de_var (pv 3)) da_nil)) da_nil)))) (de_var (pv 6))) (de_tup (da_cons (de_callB (cr_min rfl) (cd_min rfl) (by rfl) T.b_min (by decide +kernel) (da_cons (de_var (pv 4)) da_nil)) (da_cons (de_callB (cr_max rfl) (cd_max rfl) (by rfl) T.b_max (by decide +kernel) (da_cons (de_var (pv 4)) da_nil)) da_nil)))))))))))))), ?_⟩
  dsimp only [Bk.T, theT]
  rintro rs τ Q ⟨rows, rfl, hrl, hin, h⟩
  have h8 : ∀ r ∈ rows, (r.length : Int) ≤ 8 ∧ r.length ≤ 1000 := fun r hr => by
    have := (hin r hr).1
    omega
  walk_at "X"
  refine lc_mapA (τ := τ) tI (fun _ => .bool true) rows (fun x hx kc k0 q => ?_) (by rw [sizeLine_eq]; omega) ?_
  · walk_at "X"
    refine ⟨tI x, rfl, (fine_tI (h8 x hx).1 (hin x hx).2).1, ?_⟩
    rw [row_tI (h8 x hx).1 (hin x hx).2]
    walk_at "X"
    exact q
  walk_at "X"
  rw [show bools? (rows.map fun _ => PyData.bool true) = some (rows.map fun _ => true) from bools_of (fun _ => true) rows]
  walk_at "X"
  rw [show ((rows.map fun _ => true).all id) = true by rw [all_id]; simp]
  walk_at "X"
  refine kIfS_of (fun e => ?_) fun e => ?_
  · walk_at "X"
    refine h noneK (.inl ⟨fun r hr => ?_, rfl⟩) noneK_kind
    have e : ((rows.map tI).length : Int) = 0 := of_decide_eq_true e
    rw [List.length_map] at e
    have : rows = [] := List.length_eq_zero_iff.mp (by omega)
    rw [this] at hr
    cases hr
  have hne : rows ≠ [] := fun z => by subst z; cases e
  walk_at "X"
  refine for_mapA (T := T2) tI (fun j env τ' => τ' = τ ∧ ∃ x1, env = [SV.d (.list (rows.map tI)), x1, .ol ((rows.take j).flatten.map .int), .no, .no, .no, .no, .no]) rows _ _ ⟨rfl, _, rfl⟩ ?_ ?_
  · rintro j r env τ' er ⟨rfl, x1, rfl⟩ kn hkn
    have hr := h8 r (List.mem_of_getElem? er)
    have hsz : (rows.take j).flatten.length ≤ 8000 := by
      have : ∀ l : List (List Int), (∀ r ∈ l, r.length ≤ 8) → l.flatten.length ≤ 8 * l.length := fun l => by
        induction l with
        | nil => intro _; simp
        | cons a t ih =>
          intro z
          have z1 := z a List.mem_cons_self
          have z2 := ih fun r hr => z r (List.mem_cons_of_mem _ hr)
          rw [List.flatten_cons, List.length_append, List.length_cons]
          omega
      have z := this (rows.take j) fun r hr => (hin r (List.mem_of_mem_take hr)).1
      have := List.length_take_le j rows
      have := List.length_take_le' j rows
      omega
    have htk : rows.take (j + 1) = rows.take j ++ [r] := by rw [List.take_add_one, er]; rfl
    walk_at "X"
    simp only [tI]
    walk_at "X"
    refine ⟨by rw [List.length_map, List.length_map, sizeLine_eq]; omega, ?_⟩
    refine hkn _ _ ⟨rfl, .d (tI r), ?_⟩
    rw [htk, List.flatten_append, List.flatten_singleton, List.map_append]
    rfl
  rintro env τ' ⟨rfl, x1, rfl⟩
  rw [List.take_length]
  walk_at "X"
  refine lc_mapA (τ := τ') tI (fun r => .int (r.length : Int)) rows (fun x _ kc k0 q => ?_) (by rw [sizeLine_eq]; omega) ?_
  · walk_at "X"
    exact q
  walk_at "X"
  refine lc_mapA (τ := τ') tI (fun r => .int r.sum) rows (fun x _ kc k0 q => ?_) (by rw [sizeLine_eq]; omega) ?_
  · walk_at "X"
    exact q
  walk_at "X"
  rw [eqv_nil, List.isEmpty_map]
  refine ⟨eqOk_ints rows.flatten, ?_⟩
  have hmem : ∀ x, x ∈ rows.flatten ↔ ∃ r ∈ rows, x ∈ r := fun x => List.mem_flatten
  refine kIf_join (fun x τ'' => τ'' = τ' ∧ ∃ lo hi : Int, x = .d (.tuple [.int lo, .int hi]) ∧ EndLo (fun r => r ∈ rows) lo ∧ EndHi (fun r => r ∈ rows) hi) (fun e Q' q => ?_) (fun e Q' q => ?_) ?_
  · have hn : rows.flatten ≠ [] := fun z => by rw [z] at e; cases e
    walk_at "X"
    refine gMinC_of (ns := rows.flatten) rfl hn fun lo l1 l2 => ?_
    walk_at "X"
    refine gMaxC_of (ns := rows.flatten) rfl hn fun hi h1 h2 => ?_
    walk_at "X"
    exact q _ _ ⟨rfl, lo, hi, rfl, .inr ⟨(hmem lo).mp l1, fun r hr x hx => l2 x ((hmem x).mpr ⟨r, hr, hx⟩)⟩, .inr ⟨(hmem hi).mp h1, fun r hr x hx => h2 x ((hmem x).mpr ⟨r, hr, hx⟩)⟩⟩
  · have hn : rows.flatten = [] := by
      rw [Bool.not_eq_false', List.isEmpty_iff] at e
      exact e
    have he : ∀ r ∈ rows, r = [] := fun r hr => List.flatten_eq_nil_iff.mp hn r hr
    walk_at "X"
    exact q _ _ ⟨rfl, 0, 0, rfl, .inl ⟨he, rfl⟩, .inl ⟨he, rfl⟩⟩
  rintro _ _ ⟨rfl, lo, hi, rfl, hlo, hhi⟩
  walk_at "X"
  rw [lcW_c]
  walk_at "X"
  refine lc_mapA tI (fun r => .bool (pairsB leB r)) rows (fun x hx kc k0 q => ?_) (by rw [sizeLine_eq]; omega) ?_
  · walk_at "X"
    refine ⟨_, _, rfl, .head _, ?_⟩
    walk_at "X"
    refine ⟨x, rfl, (h8 x hx).2, ?_⟩
    walk_at "X"
    exact q
  walk_at "X"
  rw [show bools? (rows.map fun r => PyData.bool (pairsB leB r)) = some (rows.map fun r => pairsB leB r) from bools_of _ rows]
  walk_at "X"
  rw [lcW_c]
  walk_at "X"
  refine lc_mapA tI (fun r => .bool (pairsB geB r)) rows (fun x hx kc k0 q => ?_) (by rw [sizeLine_eq]; omega) ?_
  · walk_at "X"
    refine ⟨_, _, rfl, .tail _ (.head _), ?_⟩
    walk_at "X"
    refine ⟨x, rfl, (h8 x hx).2, ?_⟩
    walk_at "X"
    exact q
  walk_at "X"
  rw [show bools? (rows.map fun r => PyData.bool (pairsB geB r)) = some (rows.map fun r => pairsB geB r) from bools_of _ rows]
  walk_at "X"
  rw [lcW_c]
  walk_at "X"
  refine lc_mapA tI (fun r => .bool (pairsB neB r)) rows (fun x hx kc k0 q => ?_) (by rw [sizeLine_eq]; omega) ?_
  · walk_at "X"
    refine ⟨_, _, rfl, .tail _ (.tail _ (.head _)), ?_⟩
    walk_at "X"
    refine ⟨x, rfl, (h8 x hx).2, ?_⟩
    walk_at "X"
    exact q
  walk_at "X"
  rw [show bools? (rows.map fun r => PyData.bool (pairsB neB r)) = some (rows.map fun r => pairsB neB r) from bools_of _ rows]
  walk_at "X"
  have mn : ∀ f : List Int → Int, rows.map f ≠ [] := fun f z => hne (List.map_eq_nil_iff.mp z)
  refine gMinC_of (ns := rows.map fun r => (r.length : Int)) (by rw [List.map_map]; rfl) (mn _) fun fe fe1 fe2 => ?_
  walk_at "X"
  refine gMaxC_of (ns := rows.map fun r => (r.length : Int)) (by rw [List.map_map]; rfl) (mn _) fun ma ma1 ma2 => ?_
  walk_at "X"
  refine gMinC_of (ns := rows.map fun r => r.sum) (by rw [List.map_map]; rfl) (mn _) fun fr fr1 fr2 => ?_
  walk_at "X"
  refine gMaxC_of (ns := rows.map fun r => r.sum) (by rw [List.map_map]; rfl) (mn _) fun to to1 to2 => ?_
  walk_at "X"
  have top : ∀ {f : List Int → Int} {z : Int}, z ∈ rows.map f → (∀ y ∈ rows.map f, y ≤ z) → (∃ r, r ∈ rows ∧ f r = z) ∧ ∀ r, r ∈ rows → f r ≤ z := fun {f z} h1 h2 =>
    ⟨let ⟨r, h, e⟩ := List.mem_map.mp h1; ⟨r, h, e⟩, fun r hr => h2 _ (List.mem_map.mpr ⟨r, hr, rfl⟩)⟩
  have bot : ∀ {f : List Int → Int} {z : Int}, z ∈ rows.map f → (∀ y ∈ rows.map f, z ≤ y) → (∃ r, r ∈ rows ∧ f r = z) ∧ ∀ r, r ∈ rows → z ≤ f r := fun {f z} h1 h2 =>
    ⟨let ⟨r, h, e⟩ := List.mem_map.mp h1; ⟨r, h, e⟩, fun r hr => h2 _ (List.mem_map.mpr ⟨r, hr, rfl⟩)⟩
  have hfe := bot fe1 fe2
  have hma := top ma1 ma2
  have hfr := bot fr1 fr2
  have hto := top to1 to2
  have flag : ∀ f : List Int → Bool, (rows.map f).all id = true ↔ ∀ r, r ∈ rows → f r = true := fun f => by rw [all_id, List.all_eq_true]
  refine h ⟨lo, hi, fe, ma, _, _, _, fr, to⟩ (.inr ⟨lo, hi, fe, ma, _, _, _, fr, to, ⟨hlo, hhi, hfe, hma, flag _, flag _, (flag _).trans (forall_congr' fun r => forall_congr' fun _ => pairs_ne), hfr, hto⟩, rfl⟩) ?_
  have b1 : ∀ r ∈ rows, (r.length : Int) ≤ 8 ∧ -160 ≤ r.sum ∧ r.sum ≤ 160 := fun r hr => by
    obtain ⟨g1, g2⟩ := hin r hr
    have := sum_bound g2
    omega
  obtain ⟨⟨r1, c1, d1⟩, _⟩ := hfe
  obtain ⟨⟨r2, c2, d2⟩, _⟩ := hma
  obtain ⟨⟨r3, c3, d3⟩, _⟩ := hfr
  obtain ⟨⟨r4, c4, d4⟩, _⟩ := hto
  have g1 := b1 r1 c1
  have g2 := b1 r2 c2
  have g3 := b1 r3 c3
  have g4 := b1 r4 c4
  refine kind_kD ?_ ?_ (by dsimp only; omega) (by dsimp only; omega) (by dsimp only; omega) (by dsimp only; omega)
  · rcases hlo with ⟨_, rfl⟩ | ⟨⟨r, hr, hx⟩, _⟩
    · dsimp only
      omega
    · exact (hin r hr).2 _ hx
  · rcases hhi with ⟨_, rfl⟩ | ⟨⟨r, hr, hx⟩, _⟩
    · dsimp only
      omega
    · exact (hin r hr).2 _ hx
theorem ok_need_kind {f : Addr} {fd : FuncData} (T : Txt K mg ca) (F : Fun K "need_kind" "need_kind" s_need_kind f fd) (k_is_kind : Known P w K mg base (theT (Ts ca)) "is_kind" ["thing"] 4 (FF_is_kind)) :
    FnOk P w K mg base (L2.CX P w) 5 f fd ["thing"] (spDX (theT (Ts ca)) K (FF_need_kind ca)) := by
  refine okX F sc_need_kind (by walk_at "u") (by decide) fun cdv A outer s H E G Fp Ed hr hE tk hx hpo => ⟨_, (dss_one (ds_if (dt_not (dt_tru rfl (de_callK rfl k_is_kind (hr.mono (by decide)) (by rfl) (da_cons (de_var (pv 0)) da_nil))))
        (dss_one (ds_raise rfl rfl hE tk T.x_BadKind (by rfl)))
        dss_nil)), ?_⟩
  dsimp only [Bk.T, theT]
  rintro rs τ Q ⟨x, rfl, hx, h⟩
  walk_at "y"
  refine ⟨x, rfl, hx, ?_⟩
  walk_at "y"
  refine kIfS_of (fun e1 => ?_) fun e1 => ?_
  · rw [if_neg (by rw [Bool.not_eq_true'] at e1; rw [e1]; decide)] at h
    walk_at "y"
    exact h
  · rw [if_pos (by rw [Bool.not_eq_false'] at e1; exact e1)] at h
    walk_at "y"
    exact h
theorem ok_may_stand {f : Addr} {fd : FuncData} (T : Txt K mg ca) (F : Fun K "may_stand" "may_stand" s_may_stand f fd) (k_sums_of : Known P w K mg base (theT (Ts ca)) "sums_of" ["numbers", "many", "is_level", "is_unlike"] 4 (FF_sums_of)) (k_without : Known P w K mg base (theT (Ts ca)) "without" ["numbers", "number", "is_unlike"] 1 (FF_without)) (k_moved : Known P w K mg base (theT (Ts ca)) "moved" ["bits", "number"] 1 (FF_moved)) :
    FnOk P w K mg base CX0 5 f fd ["numbers", "number", "many", "is_level", "is_unlike", "bits"] (spD (theT (Ts ca)) K (FF_may_stand)) := by
  refine okP F sc_may_stand (by walk_at "v") (by decide) fun cdv A outer s H E G Fp hr => ⟨_, (dss_cons (ds_if (dt_cmp (op_eqA hr.units) (od_eq rfl) (de_var (pv 2)) de_int (nomark _))
        (dss_one (ds_ret de_bl))
        dss_nil)
      (dss_cons (ds_if (dt_tru rfl (de_var (pv 3)))
        (dss_one (ds_ret (de_cmp (op_neA hr.units) (od_ne rfl) (de_op op_and od_I0 (de_callK rfl k_sums_of (hr.mono (by decide)) (by rfl) (da_cons (de_tup (da_cons (de_var (pv 1)) da_nil)) (da_cons (de_var (pv 2)) (da_cons de_bl (da_cons (de_var (pv 4)) da_nil))))) (de_var (pv 5))) de_int (nomark _))))
        dss_nil)
      (dss_cons (ds_set (i := 6) sc_may_stand.nd rfl (by first | exact .inl rfl | exact .inr rfl) (de_callK rfl k_sums_of (hr.mono (by decide)) (by rfl) (da_cons (de_callK rfl k_without (hr.mono (by decide)) (by rfl) (da_cons (de_var (pv 0)) (da_cons (de_var (pv 1)) (da_cons (de_var (pv 4)) da_nil)))) (da_cons (de_op op_sub od_I0 (de_var (pv 2)) de_int) (da_cons de_bl (da_cons (de_var (pv 4)) da_nil))))))
      (dss_one (ds_ret (de_cmp (op_neA hr.units) (od_ne rfl) (de_op op_and od_I0 (de_callK rfl k_moved (hr.mono (by decide)) (by rfl) (da_cons (de_var (pv 6)) (da_cons (de_var (pv 1)) da_nil))) (de_var (pv 5))) de_int (nomark _))))))), ?_⟩
  dsimp only [Bk.T, theT]
  rintro rs τ Q ⟨ns, x, m, lvl, unl, bits, rfl, hx, hr, hn, hl, hm, hb, h⟩
  walk_at "x"
  refine kIfS_of (fun e => ?_) fun e => ?_
  · have e := of_decide_eq_true e
    walk_at "x"
    refine h false ⟨fun z => (by cases z), ?_⟩
    rintro ⟨s, _, l, _, h1, _, h2⟩
    cases l with
    | nil => cases h2
    | cons a l => simp at h1; omega
  have e := of_decide_eq_false e
  obtain ⟨k, rfl⟩ : ∃ k, m = k + 1 := ⟨m - 1, by omega⟩
  have bb := fun (f : Int) (P : Int → Prop) (hf : BitsOf f P) => and_some (b := bits) hf hb
  walk_at "x"
  cases lvl with
  | true =>
    walk_at "x"
    refine ⟨[x], k + 1, true, unl, rfl, fun y hy => by rw [List.mem_singleton.mp hy]; exact hr x hx, by simp, by simp, hm, fun f hf => ?_⟩
    walk_at "x"
    refine h _ ?_
    rw [Bool.not_eq_true', decide_eq_false_iff_not]
    rw [bb f _ hf]
    refine ⟨fun ⟨s, h1, h2⟩ => ⟨s, h1, (stand_gen1 hx).mpr h2⟩, fun ⟨s, h1, h2⟩ => ⟨s, h1, (stand_gen1 hx).mp h2⟩⟩
  | false =>
    walk_at "x"
    refine ⟨ns, x, unl, rfl, hl, ?_⟩
    walk_at "x"
    have ho : ∀ y ∈ outOf ns x unl, y ∈ ns := fun y hy => by
      unfold outOf at hy
      split at hy
      · exact (List.mem_filter.mp hy).1
      · exact hy
    have hro : inR (outOf ns x unl) := fun y hy => hr y (ho y hy)
    rw [show ((k + 1 : Nat) : Int) - 1 = (k : Int) by omega]
    refine ⟨outOf ns x unl, k, false, unl, rfl, hro, ?_, ?_, by omega, fun f hf => ?_⟩
    · unfold outOf
      split
      · exact hn.filter _
      · exact hn
    · unfold outOf
      split
      · exact Nat.le_trans (List.length_filter_le _ _) hl
      · exact hl
    walk_at "x"
    have hxr := hr x hx
    refine ⟨f, x, rfl, hf.1, fun s hs => ?_, by omega, fun g hg => ?_⟩
    · have := lot_bound hro ((hf.2 s).mp hs)
      omega
    walk_at "x"
    refine h _ ?_
    rw [Bool.not_eq_true', decide_eq_false_iff_not]
    rw [bb g _ hg]
    constructor
    · rintro ⟨s, h1, _, h2⟩
      exact ⟨s, h1, (stand_gen hx rfl).mpr ((hf.2 _).mp h2)⟩
    · rintro ⟨s, h1, h2⟩
      have h3 := (stand_gen hx rfl).mp h2
      have := lot_bound hro h3
      exact ⟨s, h1, by omega, (hf.2 _).mpr h3⟩
theorem ok_pair_with {f : Addr} {fd : FuncData} (T : Txt K mg ca) (F : Fun K "pair_with" "pair_with" s_pair_with f fd) (k_sums_of : Known P w K mg base (theT (Ts ca)) "sums_of" ["numbers", "many", "is_level", "is_unlike"] 4 (FF_sums_of)) (k_pairs_by : Known P w K mg base (theT (Ts ca)) "pairs_by" ["numbers", "is_alike"] 1 (FF_pairs_by)) (k_moved : Known P w K mg base (theT (Ts ca)) "moved" ["bits", "number"] 1 (FF_moved)) :
    FnOk P w K mg base CX0 5 f fd ["numbers", "many", "bits", "is_alike"] (spD (theT (Ts ca)) K (FF_pair_with)) := by
  refine okP F sc_pair_with (by walk_at "v") (by decide) fun cdv A outer s H E G Fp hr => ⟨_, (dss_cons (ds_if (dt_cmp op_ltA od_cmp (de_var (pv 1)) de_int (nomark _))
        (dss_one (ds_ret de_non))
        dss_nil)
      (dss_cons (ds_set (i := 4) sc_pair_with.nd rfl (by first | exact .inl rfl | exact .inr rfl) (de_callK rfl k_sums_of (hr.mono (by decide)) (by rfl) (da_cons (de_var (pv 0)) (da_cons (de_op op_sub od_I0 (de_var (pv 1)) de_int) (da_cons de_bl (da_cons de_bl da_nil))))))
      (dss_cons (ds_for PassesOwn.never rfl (di_seq rfl (de_callK rfl k_pairs_by (hr.mono (by decide)) (by rfl) (da_cons (de_var (pv 0)) (da_cons (de_var (pv 3)) da_nil)))) (dg_tp rfl rfl (dg_cons (dg_nm (i := 5) sc_pair_with.nd rfl (by first | exact .inl rfl | exact .inr rfl)) (dg_cons (dg_nm (i := 6) sc_pair_with.nd rfl (by first | exact .inl rfl | exact .inr rfl)) dg_nil)))
        (dss_one (ds_if (dt_cmp (op_neA hr.units) (od_ne rfl) (de_op op_and od_I0 (de_callK rfl k_moved (hr.mono (by decide)) (by rfl) (da_cons (de_var (pv 4)) (da_cons (de_op op_addA (od_add rfl) (de_var (pv 5)) (de_var (pv 6))) da_nil))) (de_var (pv 2))) de_int (nomark _))
          (dss_one (ds_ret (de_tup (da_cons (de_var (pv 5)) (da_cons (de_var (pv 6)) da_nil)))))
          dss_nil)))
      (dss_one (ds_ret de_non))))), ?_⟩
  dsimp only [Bk.T, theT]
  rintro rs τ Q ⟨ns, m, bits, a, rfl, hs, hr, hl, hm, hb, h⟩
  walk_at "x"
  refine kIfS_of (fun e => ?_) fun e => ?_
  · have e := of_decide_eq_true e
    walk_at "x"
    refine h none ?_ (.inl ⟨rfl, ?_⟩)
    · refine (List.find?_eq_none.mpr fun p _ => ?_).symm
      rw [cdec_iff]
      rintro ⟨s, _, h2, _⟩
      omega
    · rintro ⟨s, _, h2, _⟩
      omega
  have e := of_decide_eq_false e
  walk_at "x"
  rw [show (m : Int) - 2 = ((m - 2 : Nat) : Int) by omega]
  refine ⟨ns, m - 2, false, false, rfl, hr, hs.imp fun {a b} z => by omega, hl, by omega, fun f hf => ?_⟩
  walk_at "x"
  refine ⟨ns, a, rfl, hs, hl, fun ps hpu hps hpl => ?_⟩
  walk_at "x"
  have key : ∀ p ∈ ps, p.1 ∈ ns ∧ p.2 ∈ ns ∧ (if a = true then p.1 = p.2 else p.1 < p.2) := fun p hp => (hps p.1 p.2).mp hp
  refine for_inv (fun j env τ' => τ' = τ ∧ (∃ x5 x6, env = [.d (tI ns), .d (.int m), .d (.int bits), .d (.bool a), .d (.int f), x5, x6]) ∧ ∀ p ∈ ps.take j, ¬ ∃ s, hasS bits s ∧ Lot ns false false (m - 2) (s - (p.1 + p.2))) _ _ _ ⟨rfl, ⟨_, _, rfl⟩, by simp⟩ ?_ ?_
  · rintro j x env τ' ej ⟨rfl, ⟨x5, x6, rfl⟩, hno⟩ kn hkn
    unfold pD at ej
    rw [List.getElem?_map] at ej
    cases ep : ps[j]? with
    | none => rw [ep] at ej; cases ej
    | some p =>
      rw [ep] at ej
      cases ej
      obtain ⟨h1, h2, h3⟩ := key p (List.mem_of_getElem? ep)
      have r1 := hr _ h1
      have r2 := hr _ h2
      walk_at "x"
      refine ⟨f, p.1 + p.2, rfl, hf.1, fun s hs => ?_, by omega, fun g hg => ?_⟩
      · have := lot_bound hr ((hf.2 s).mp hs)
        omega
      walk_at "x"
      have hg2 := and_some hg hb
      refine kIfS_of (fun e => ?_) fun e => ?_
      · rw [Bool.not_eq_true', decide_eq_false_iff_not, hg2] at e
        obtain ⟨s, h4, _, h5⟩ := e
        walk_at "x"
        refine h (some p) ?_ (.inr ⟨p.1, p.2, rfl, s, h4, by omega, h1, h2, h3, (hf.2 _).mp h5⟩)
        rw [pairF, ← hpu]
        refine (find_first ep (cdec_t ⟨s, h4, by omega, (hf.2 _).mp h5⟩) fun y hy => cdec_f ?_).symm
        rintro ⟨s, h6, _, h7⟩
        exact hno y hy ⟨s, h6, h7⟩
      · have e2 : ¬ ¬ Builtin.bitAnd g bits = 0 := by simpa using e
        rw [hg2] at e2
        walk_at "x"
        refine hkn _ _ ⟨rfl, ⟨_, _, rfl⟩, fun q hq => ?_⟩
        rw [List.take_add_one, ep] at hq
        rcases List.mem_append.mp hq with hq | hq
        · exact hno q hq
        · simp only [Option.toList_some, List.mem_singleton] at hq
          subst hq
          rintro ⟨s, h4, h5⟩
          have := lot_bound hr h5
          exact e2 ⟨s, h4, by omega, (hf.2 _).mpr h5⟩
  · rintro env τ' ⟨rfl, ⟨x5, x6, rfl⟩, hno⟩
    unfold pD at hno
    rw [List.length_map, List.take_length] at hno
    walk_at "x"
    refine h none ?_ (.inl ⟨rfl, ?_⟩)
    · rw [pairF, ← hpu]
      refine (List.find?_eq_none.mpr fun p hp => ?_).symm
      rw [cdec_iff]
      rintro ⟨s, h1, _, h2⟩
      exact hno p hp ⟨s, h1, h2⟩
    · rintro ⟨s, h1, _, x, y, h2, h3, h4, h5⟩
      exact hno (x, y) ((hps x y).mpr ⟨h2, h3, h4⟩) ⟨s, h1, h5⟩
theorem ok_stands {f : Addr} {fd : FuncData} (T : Txt K mg ca) (F : Fun K "stands" "stands" s_stands f fd) (k_numbers_of : Known P w K mg base (theT (Ts ca)) "numbers_of" ["kind"] 1 (FF_numbers_of)) (k_may_stand : Known P w K mg base (theT (Ts ca)) "may_stand" ["numbers", "number", "many", "is_level", "is_unlike", "bits"] 5 (FF_may_stand)) (k_is_level : Known P w K mg base (theT (Ts ca)) "is_level" ["kind"] 1 (FF_is_level)) :
    FnOk P w K mg base CX0 6 f fd ["kind", "counts", "number"] (spD (theT (Ts ca)) K (FF_stands)) := by
  refine okP F sc_stands (by walk_at "v") (by decide) fun cdv A outer s H E G Fp hr => ⟨_, (dss_cons (ds_set (i := 3) sc_stands.nd rfl (by first | exact .inl rfl | exact .inr rfl) (de_callK rfl k_numbers_of (hr.mono (by decide)) (by rfl) (da_cons (de_var (pv 0)) da_nil)))
      (dss_one (ds_ret (de_callB (cr_any rfl) (cd_any rfl) (by rfl) T.b_any (by decide +kernel) (da_cons (de_lc (own := [("many", 4), ("bits", 5)]) rfl sc_stands.nd (di_seq rfl (de_var (pv 1))) (blkOk_by (by kernel_rfl)) (by decide) (fun _ _ _ _ _ => (dg_tp rfl rfl (dg_cons (dg_nm (i := 4) sc_stands.nd rfl (by first | exact .inl rfl | exact .inr rfl)) (dg_cons (dg_nm (i := 5) sc_stands.nd rfl (by first | exact .inl rfl | exact .inr rfl)) dg_nil)))) (fun _ _ _ _ _ => dts_nil) (fun _ _ _ _ _ => (de_callK rfl k_may_stand (hr.mono (by decide)) (by rfl) (da_cons (de_var (pv 3)) (da_cons (de_var (pv 2)) (da_cons (de_var (pv 4)) (da_cons (de_callK rfl k_is_level (hr.mono (by decide)) (by rfl) (da_cons (de_var (pv 0)) da_nil)) (da_cons (de_ix ix_A (od_ix rfl) (de_var (pv 0)) de_int (fun _ _ => rfl)) (da_cons (de_var (pv 5)) da_nil))))))))) da_nil))))), ?_⟩
  dsimp only [Bk.T, theT]
  rintro rs τ Q ⟨lo, hi, fe, ma, u, d, n, fr, to, cs, x, rfl, hk, hc, hcl, hx, h⟩
  have hr := kind_rng hk
  have hin : inR (span lo hi) := span_inR hr.1.1 hr.2.1.2
  simp only [kD]
  walk_at "x"
  refine ⟨lo, hi, fe, ma, u, d, n, fr, to, rfl, hk, ?_⟩
  walk_at "x"
  refine lc_inv (fun j acc τ' => τ' = τ ∧ ∃ bs : List Bool, acc = bs.map .bool ∧ (bs.any id = true ↔ ∃ c ∈ cs.take j, ∃ s, hasS c.2 s ∧ ∃ l, IsLot (span lo hi) (u && d) n l ∧ l.length = c.1 ∧ l.sum = s ∧ x ∈ l)) _ _ ⟨rfl, [], rfl, by simp⟩ ?_ (by rw [cD, List.length_map, sizeLine_eq]; omega) ?_
  · rintro j y acc τ' ej ⟨rfl, bs, rfl, hbs⟩ ha kc k0 g1 g2
    unfold cD at ej
    rw [List.getElem?_map] at ej
    cases ep : cs[j]? with
    | none => rw [ep] at ej; cases ej
    | some c =>
      rw [ep] at ej
      cases ej
      have hcm := List.mem_of_getElem? ep
      obtain ⟨k1, k2, k3⟩ := hc.ok c hcm
      walk_at "x"
      refine ⟨lo, hi, fe, ma, u, d, n, fr, to, rfl, ?_⟩
      walk_at "x"
      refine kAt_of (by decide) (by show (6 : Int) < 9; decide) fun z ez _ => ?_
      cases ez
      walk_at "x"
      refine ⟨span lo hi, x, c.1, u && d, n, c.2, rfl, hx, hin, span_nd lo hi, by rw [span_len]; omega, by omega, by omega, fun b hb => ?_⟩
      walk_at "x"
      refine g1 _ _ ⟨rfl, bs ++ [b], by rw [List.map_append]; rfl, ?_⟩
      rw [List.any_append, Bool.or_eq_true, hbs, List.take_add_one, ep]
      simp only [List.any_cons, List.any_nil, Bool.or_false, id]
      rw [hb]
      constructor
      · rintro (⟨c', h1, h2⟩ | h2)
        · exact ⟨c', List.mem_append_left _ h1, h2⟩
        · exact ⟨c, by simp, h2⟩
      · rintro ⟨c', h1, h2⟩
        rcases List.mem_append.mp h1 with h1 | h1
        · exact .inl ⟨c', h1, h2⟩
        · simp only [Option.toList_some, List.mem_singleton] at h1
          subst h1
          exact .inr h2
  · rintro acc τ' ⟨rfl, bs, rfl, hbs⟩
    rw [cD, List.length_map, List.take_length] at hbs
    walk_at "x"
    rw [bools_map]
    walk_at "x"
    exact h _ (hbs.trans (cs_stand hc))
theorem ok_has_pair {f : Addr} {fd : FuncData} (T : Txt K mg ca) (F : Fun K "has_pair" "has_pair" s_has_pair f fd) (k_is_level : Known P w K mg base (theT (Ts ca)) "is_level" ["kind"] 1 (FF_is_level)) (k_pair_with : Known P w K mg base (theT (Ts ca)) "pair_with" ["numbers", "many", "bits", "is_alike"] 5 (FF_pair_with)) (k_numbers_of : Known P w K mg base (theT (Ts ca)) "numbers_of" ["kind"] 1 (FF_numbers_of)) :
    FnOk P w K mg base CX0 6 f fd ["kind", "counts", "is_alike"] (spD (theT (Ts ca)) K (FF_has_pair)) := by
  refine okP F sc_has_pair (by walk_at "v") (by decide) fun cdv A outer s H E G Fp hr => ⟨_, (dss_cons (ds_if (dt_w (dw_or (dt_tru rfl (de_callK rfl k_is_level (hr.mono (by decide)) (by rfl) (da_cons (de_var (pv 0)) da_nil))) (dw_or1 (dt_tru rfl (de_ix ix_A (od_ix rfl) (de_var (pv 0)) de_int (fun _ _ => rfl))))))
        (dss_one (ds_ret (de_and rfl (de_cmp (op_neA hr.units) (od_ne rfl) (de_var (pv 2)) (de_ix ix_A (od_ix rfl) (de_var (pv 0)) de_int (fun _ _ => rfl)) (nomark _)) (de_and rfl (de_cmp (op_eqA hr.units) (od_eq rfl) (de_callK rfl k_is_level (hr.mono (by decide)) (by rfl) (da_cons (de_var (pv 0)) da_nil)) (de_var (pv 2)) (nomark _)) (de_one (de_cmp op_gtA od_cmp (de_ix ix_A (od_ix rfl) (de_ix ix_A (od_ix rfl) (de_var (pv 1)) (de_neg de_int) (fun _ _ => rfl)) de_int (fun _ _ => rfl)) de_int (nomark _)))))))
        dss_nil)
      (dss_cons (ds_for PassesOwn.never rfl (di_seq rfl (de_rev rfl (de_var (pv 1)))) (dg_tp rfl rfl (dg_cons (dg_nm (i := 3) sc_has_pair.nd rfl (by first | exact .inl rfl | exact .inr rfl)) (dg_cons (dg_nm (i := 4) sc_has_pair.nd rfl (by first | exact .inl rfl | exact .inr rfl)) dg_nil)))
        (dss_one (ds_if (dt_cmp op_notN od_notN (de_callK rfl k_pair_with (hr.mono (by decide)) (by rfl) (da_cons (de_callK rfl k_numbers_of (hr.mono (by decide)) (by rfl) (da_cons (de_var (pv 0)) da_nil)) (da_cons (de_var (pv 3)) (da_cons (de_var (pv 4)) (da_cons (de_var (pv 2)) da_nil))))) de_non (nomark _))
          (dss_one (ds_ret de_bl))
          dss_nil)))
      (dss_one (ds_ret de_bl)))), ?_⟩
  dsimp only [Bk.T, theT]
  rintro rs τ Q ⟨lo, hi, fe, ma, u, d, n, fr, to, cs, a, rfl, hk, hc, hcl, hne, h⟩
  have hr := kind_rng hk
  walk_at "x"
  refine ⟨lo, hi, fe, ma, u, d, n, fr, to, rfl, ?_⟩
  walk_at "x"
  refine kOrT_or (c := n) (fun _ Q' q => ?_) ?_
  · simp only [kD]
    walk_at "x"
    refine kAt_of (by decide) (by show (6 : Int) < 9; decide) fun z ez _ => ?_
    cases ez
    walk_at "x"
    exact q
  cases hw : (u && d || n) with
  | true =>
    obtain ⟨t, c, rfl⟩ := snoc_of hne
    simp only [kD]
    walk_at "x"
    refine kAt_of (by decide) (by show (6 : Int) < 9; decide) fun z ez _ => ?_
    cases ez
    walk_at "x"
    refine kAndV (c := ((u && d) == a) && decide (1 < (c.1 : Int))) (fun _ Q' q => ?_) ?_
    · walk_at "x"
      refine ⟨lo, hi, fe, ma, u, d, n, fr, to, rfl, ?_⟩
      walk_at "x"
      refine kAndV (c := decide (1 < (c.1 : Int))) (fun _ Q' q => ?_) ?_
      · walk_at "x"
        rw [show cD (t ++ [c]) = cD t ++ [.tuple [.int (c.1 : Nat), .int c.2]] by rw [cD, List.map_append]; rfl, atI_lst]
        walk_at "x"
        refine kAt_of (by decide) (by show (0 : Int) < 2; decide) fun z ez _ => ?_
        cases ez
        walk_at "x"
        exact q
      · exact q
    · walk_at "x"
      refine h _ ?_
      obtain ⟨g1, g2⟩ := cs_last hc
      rw [← pair_words hw g1 g2]
      have e : (!(a == n)) = (a != n) := rfl
      rw [e, Bool.and_assoc]
  | false =>
    walk_at "x"
    have er : (cD cs).reverse = cD cs.reverse := by rw [cD, cD, List.map_reverse]
    rw [er]
    refine for_inv (fun j env τ' => τ' = τ ∧ (∃ x3 x4, env = [.d (kD lo hi fe ma u d n fr to), .d (.list (cD cs)), .d (.bool a), x3, x4]) ∧ ∀ c ∈ cs.reverse.take j, ¬ PairP (span lo hi) c.1 c.2 a) _ _ _ ⟨rfl, ⟨_, _, rfl⟩, by simp⟩ ?_ ?_
    · rintro j y env τ' ej ⟨rfl, ⟨x3, x4, rfl⟩, hno⟩ kn hkn
      unfold cD at ej
      rw [List.getElem?_map] at ej
      cases ep : cs.reverse[j]? with
      | none => rw [ep] at ej; cases ej
      | some c =>
        rw [ep] at ej
        cases ej
        have hcm := List.mem_reverse.mp (List.mem_of_getElem? ep)
        obtain ⟨k1, k2, k3⟩ := hc.ok c hcm
        walk_at "x"
        refine ⟨lo, hi, fe, ma, u, d, n, fr, to, rfl, hk, ?_⟩
        walk_at "x"
        refine ⟨span lo hi, c.1, c.2, a, rfl, span_lt lo hi, span_inR hr.1.1 hr.2.1.2, by rw [span_len]; omega, by omega, by omega, fun o _ hr' => ?_⟩
        rcases hr' with ⟨rfl, hp⟩ | ⟨x, y, rfl, hp⟩
        · simp only [optP]
          walk_at "x"
          refine hkn _ _ ⟨rfl, ⟨_, _, rfl⟩, fun q hq => ?_⟩
          rw [List.take_add_one, ep] at hq
          rcases List.mem_append.mp hq with hq | hq
          · exact hno q hq
          · simp only [Option.toList_some, List.mem_singleton] at hq
            subst hq
            exact hp
        · simp only [optP]
          walk_at "x"
          exact h true ⟨fun _ => (cs_pair hc hw).mp ⟨c, hcm, hp.p⟩, fun _ => rfl⟩
    · rintro env τ' ⟨rfl, ⟨x3, x4, rfl⟩, hno⟩
      rw [cD, List.length_map, List.take_length] at hno
      walk_at "x"
      refine h false ⟨fun z => (by cases z), fun z => ?_⟩
      obtain ⟨c, h1, h2⟩ := (cs_pair hc hw).mpr z
      exact (hno c (List.mem_reverse.mpr h1) h2).elim
theorem ok_is_nothing {f : Addr} {fd : FuncData} (T : Txt K mg ca) (F : Fun K "is_nothing" "is_nothing" s_is_nothing f fd) (k_need_kind : KnownX P w K mg base (theT (Ts ca)) "need_kind" ["thing"] 5 (FF_need_kind ca)) (k_counts_of : Known P w K mg base (theT (Ts ca)) "counts_of" ["kind"] 4 (FF_counts_of)) :
    FnOk P w K mg base (L2.CX P w) 6 f fd ["kind"] (spDX (theT (Ts ca)) K (FF_is_nothing ca)) := by
  refine okX F sc_is_nothing (by walk_at "u") (by decide) fun cdv A outer s H E G Fp Ed hr hE tk hx hpo => ⟨_, (dss_cons (ds_expr (de_callX rfl hE hx k_need_kind (hr.mono (by decide)) (by rfl) (da_cons (de_var (pv 0)) da_nil)))
      (dss_one (ds_ret (de_cmp (op_eqA hr.units) (od_eq rfl) (de_callK rfl k_counts_of (hr.mono (by decide)) (by rfl) (da_cons (de_var (pv 0)) da_nil)) (de_lst da_nil) (nomark _))))), ?_⟩
  dsimp only [Bk.T, theT]
  rintro rs τ Q ⟨k, rfl, hk, h⟩
  walk_at "X"
  refine ⟨k.D, rfl, (fine_kind hk).1, ?_⟩
  rw [if_pos hk]
  walk_at "X"
  refine ⟨k.lo, k.hi, k.fe, k.ma, k.u, k.d, k.n, k.fr, k.to, rfl, hk, fun cs hc hl => ?_⟩
  walk_at "X"
  rw [eqv_nil]
  refine ⟨eqOk_cD cs, h _ ?_⟩
  rw [List.isEmpty_iff]
  constructor
  · intro z r hr
    obtain ⟨c, hc', _⟩ := cs_at hc hr
    rw [cD, List.map_eq_nil_iff] at z
    rw [z] at hc'
    cases hc'
  · intro z
    cases cs with
    | nil => rfl
    | cons c t =>
      obtain ⟨r, hr, _⟩ := cs_some hc List.mem_cons_self
      exact (z r hr).elim
theorem ok_ends_of {f : Addr} {fd : FuncData} (T : Txt K mg ca) (F : Fun K "ends_of" "ends_of" s_ends_of f fd) (k_numbers_of : Known P w K mg base (theT (Ts ca)) "numbers_of" ["kind"] 1 (FF_numbers_of)) (k_stands : Known P w K mg base (theT (Ts ca)) "stands" ["kind", "counts", "number"] 6 (FF_stands)) :
    FnOk P w K mg base CX0 7 f fd ["kind", "counts"] (spD (theT (Ts ca)) K (FF_ends_of)) := by
  refine okP F sc_ends_of (by walk_at "v") (by decide) fun cdv A outer s H E G Fp hr => ⟨_, (dss_cons (ds_set (i := 2) sc_ends_of.nd rfl (by first | exact .inl rfl | exact .inr rfl) (de_lst (da_cons de_int (da_cons de_int da_nil))))
      (dss_cons (ds_for PassesOwn.never rfl (di_enum2 rfl (by rfl) T.b_enumerate (da_cons (de_tup (da_cons (de_callK rfl k_numbers_of (hr.mono (by decide)) (by rfl) (da_cons (de_var (pv 0)) da_nil)) (da_cons (de_revT rfl (de_callK rfl k_numbers_of (hr.mono (by decide)) (by rfl) (da_cons (de_var (pv 0)) da_nil))) da_nil))) da_nil)) (dg_tp rfl rfl (dg_cons (dg_nm (i := 3) sc_ends_of.nd rfl (by first | exact .inl rfl | exact .inr rfl)) (dg_cons (dg_nm (i := 4) sc_ends_of.nd rfl (by first | exact .inl rfl | exact .inr rfl)) dg_nil)))
        (dss_cons (ds_set (i := 5) sc_ends_of.nd rfl (by first | exact .inl rfl | exact .inr rfl) de_bl)
        (dss_one (ds_for PassesOwn.never rfl (di_seq rfl (de_var (pv 4))) (dg_nm (i := 6) sc_ends_of.nd rfl (by first | exact .inl rfl | exact .inr rfl))
          (dss_one (ds_if (dt_w (dw_and (dt_not (dt_tru rfl (de_var (pv 5)))) (dw_and1 (dt_tru rfl (de_callK rfl k_stands (hr.mono (by decide)) (by rfl) (da_cons (de_var (pv 0)) (da_cons (de_var (pv 1)) (da_cons (de_var (pv 6)) da_nil))))))))
            (dss_cons (ds_seti (i := 2) (ps_asg (de_var (pv 6)) (pg_sub (pv 2) (de_var (pv 3)) set_list)))
            (dss_one (ds_set (i := 5) sc_ends_of.nd rfl (by first | exact .inl rfl | exact .inr rfl) de_bl)))
            dss_nil))))))
      (dss_one (ds_ret (de_callTy call_tuple_of (cd_tuple rfl) (by rfl) T.b_tuple (by decide +kernel) (da_cons (de_var (pv 2)) da_nil)))))), ?_⟩
  dsimp only [Bk.T, theT]
  rintro rs τ Q ⟨lo, hi, fe, ma, u, d, n, fr, to, cs, rfl, hk, hc, hcl, h⟩
  have hr := kind_rng hk
  walk_at "x"
  refine ⟨lo, hi, fe, ma, u, d, n, fr, to, rfl, hk, ?_⟩
  walk_at "x"
  refine ⟨lo, hi, fe, ma, u, d, n, fr, to, rfl, hk, ?_⟩
  simp only [tI]
  walk_at "x"
  rw [← List.map_reverse]
  obtain ⟨S, eS⟩ : ∃ S : Int → Prop, S = fun x => ∃ r, RowOf lo hi fe ma u d n fr to r ∧ x ∈ r := ⟨_, rfl⟩
  have hin : ∀ r, RowOf lo hi fe ma u d n fr to r → ∀ x ∈ r, x ∈ span lo hi ∧ S x := fun r hr' x hx => ⟨hr'.lot.1 x hx, by rw [eS]; exact ⟨r, hr', hx⟩⟩
  refine for_inv (fun j env τ' => τ' = τ ∧ ∃ x3 x4 x5 x6, ∃ l h : Int, env = [.d (kD lo hi fe ma u d n fr to), .d (.list (cD cs)), .ol [.int l, .int h], x3, x4, x5, x6] ∧ (j = 0 → l = 0) ∧ (j ≤ 1 → h = 0) ∧ (1 ≤ j → EndLo (RowOf lo hi fe ma u d n fr to) l) ∧ (2 ≤ j → EndHi (RowOf lo hi fe ma u d n fr to) h)) _ _ _ ⟨rfl, _, _, _, _, 0, 0, rfl, fun _ => rfl, fun _ => rfl, fun h => by omega, fun h => by omega⟩ ?_ ?_
  · rintro j y env τ' ej ⟨rfl, x3, x4, x5, x6, l, h', rfl, p1, p2, p3, p4⟩ kn hkn
    obtain ⟨v, ev, rfl⟩ := enum_get ej
    match j, ev with
    | 0, ev =>
      cases ev
      obtain rfl := p1 rfl
      obtain rfl := p2 (by omega)
      walk_at "x"
      refine for_inv (fun i env τ3 => τ3 = τ' ∧ ∃ x6, ∃ (g : Bool) (v : Int), env = [.d (kD lo hi fe ma u d n fr to), .d (.list (cD cs)), .ol [.int v, .int 0], .d (.int (0 : Nat)), .d (.tuple ((span lo hi).map .int)), .d (.bool g), x6] ∧ Seek S (span lo hi) i g v) _ _ _ ⟨rfl, _, false, 0, rfl, .inl ⟨rfl, rfl, by simp⟩⟩ ?_ ?_
      · rintro i y env τ3 ei ⟨rfl, x6, g, v, rfl, hs⟩ kn2 hkn2
        rw [List.getElem?_map] at ei
        cases en : (span lo hi)[i]? with
        | none => rw [en] at ei; cases ei
        | some x =>
          rw [en] at ei
          cases ei
          walk_at "x"
          rcases hs with ⟨rfl, rfl, hno⟩ | ⟨rfl, hS, hk'⟩
          · walk_at "x"
            refine ⟨lo, hi, fe, ma, u, d, n, fr, to, cs, x, rfl, hk, hc, hcl, id (List.mem_of_getElem? en), fun b hb => ?_⟩
            have hb : b = true ↔ S x := by rw [eS]; exact hb
            walk_at "x"
            refine kIfS_of (fun e => ?_) fun e => ?_
            · subst e
              walk_at "x"
              rw [show ixN 2 (0 : Nat) = some 0 from rfl]
              walk_at "x"
              refine hkn2 _ _ ⟨rfl, _, true, x, rfl, .inr ⟨rfl, hb.mp rfl, i, en, hno⟩⟩
            · subst e
              walk_at "x"
              refine hkn2 _ _ ⟨rfl, _, false, 0, rfl, .inl ⟨rfl, rfl, fun z hz => ?_⟩⟩
              rw [List.take_add_one, en] at hz
              rcases List.mem_append.mp hz with hz | hz
              · exact hno z hz
              · simp only [Option.toList_some, List.mem_singleton] at hz
                subst hz
                exact fun z => by have := hb.mpr z; cases this
          · walk_at "x"
            exact hkn2 _ _ ⟨rfl, _, true, v, rfl, .inr ⟨rfl, hS, hk'⟩⟩
      · rintro env τ3 ⟨rfl, x6, g, v, rfl, hs⟩
        rw [List.length_map, Seek, List.take_length] at hs
        refine hkn _ _ ⟨rfl, _, _, _, _, v, 0, rfl, fun e => by omega, fun _ => rfl, fun _ => ?_, fun e => by omega⟩
        rcases hs with ⟨_, rfl, hno⟩ | ⟨_, hS, k, ek, hno⟩
        · refine .inl ⟨fun r hr' => ?_, rfl⟩
          cases r with
          | nil => rfl
          | cons a r =>
            have := hin _ hr' a List.mem_cons_self
            exact (hno a this.1 this.2).elim
        · refine .inr ⟨by rw [eS] at hS; exact hS, fun r hr' x hx => ?_⟩
          have := hin r hr' x hx
          rcases first_of (span_lt lo hi) ek this.1 (fun z => hno x z this.2) with e | e
          · omega
          · omega
    | 1, ev =>
      cases ev
      obtain rfl := p2 (by omega)
      have hl := p3 (by omega)
      walk_at "x"
      refine for_inv (fun i env τ3 => τ3 = τ' ∧ ∃ x6, ∃ (g : Bool) (v : Int), env = [.d (kD lo hi fe ma u d n fr to), .d (.list (cD cs)), .ol [.int l, .int v], .d (.int (1 : Nat)), .d (.tuple (((span lo hi).reverse).map .int)), .d (.bool g), x6] ∧ Seek S ((span lo hi).reverse) i g v) _ _ _ ⟨rfl, _, false, 0, rfl, .inl ⟨rfl, rfl, by simp⟩⟩ ?_ ?_
      · rintro i y env τ3 ei ⟨rfl, x6, g, v, rfl, hs⟩ kn2 hkn2
        rw [List.getElem?_map] at ei
        cases en : ((span lo hi).reverse)[i]? with
        | none => rw [en] at ei; cases ei
        | some x =>
          rw [en] at ei
          cases ei
          walk_at "x"
          rcases hs with ⟨rfl, rfl, hno⟩ | ⟨rfl, hS, hk'⟩
          · walk_at "x"
            refine ⟨lo, hi, fe, ma, u, d, n, fr, to, cs, x, rfl, hk, hc, hcl, List.mem_reverse.mp (List.mem_of_getElem? en), fun b hb => ?_⟩
            have hb : b = true ↔ S x := by rw [eS]; exact hb
            walk_at "x"
            refine kIfS_of (fun e => ?_) fun e => ?_
            · subst e
              walk_at "x"
              rw [show ixN 2 (1 : Nat) = some 1 from rfl]
              walk_at "x"
              refine hkn2 _ _ ⟨rfl, _, true, x, rfl, .inr ⟨rfl, hb.mp rfl, i, en, hno⟩⟩
            · subst e
              walk_at "x"
              refine hkn2 _ _ ⟨rfl, _, false, 0, rfl, .inl ⟨rfl, rfl, fun z hz => ?_⟩⟩
              rw [List.take_add_one, en] at hz
              rcases List.mem_append.mp hz with hz | hz
              · exact hno z hz
              · simp only [Option.toList_some, List.mem_singleton] at hz
                subst hz
                exact fun z => by have := hb.mpr z; cases this
          · walk_at "x"
            exact hkn2 _ _ ⟨rfl, _, true, v, rfl, .inr ⟨rfl, hS, hk'⟩⟩
      · rintro env τ3 ⟨rfl, x6, g, v, rfl, hs⟩
        rw [List.length_map, Seek, List.take_length] at hs
        refine hkn _ _ ⟨rfl, _, _, _, _, l, v, rfl, fun e => by omega, fun e => by omega, fun _ => hl, fun _ => ?_⟩
        rcases hs with ⟨_, rfl, hno⟩ | ⟨_, hS, k, ek, hno⟩
        · refine .inl ⟨fun r hr' => ?_, rfl⟩
          cases r with
          | nil => rfl
          | cons a r =>
            have := hin _ hr' a List.mem_cons_self
            exact (hno a (List.mem_reverse.mpr this.1) this.2).elim
        · refine .inr ⟨by rw [eS] at hS; exact hS, fun r hr' x hx => ?_⟩
          have := hin r hr' x hx
          rcases first_of (R := fun a b => b < a) (List.pairwise_reverse.mpr (span_lt lo hi)) ek (List.mem_reverse.mpr this.1) (fun z => hno x z this.2) with e | e
          · omega
          · omega
  · rintro env τ' ⟨rfl, x3, x4, x5, x6, l, h', rfl, p1, p2, p3, p4⟩
    walk_at "x"
    exact h l h' (p3 (by show 1 ≤ 2; decide)) (p4 (by show 2 ≤ 2; decide))
theorem ok_narrowed {f : Addr} {fd : FuncData} (T : Txt K mg ca) (F : Fun K "narrowed" "narrowed" s_narrowed f fd) (k_counts_of : Known P w K mg base (theT (Ts ca)) "counts_of" ["kind"] 4 (FF_counts_of)) (k_has_pair : Known P w K mg base (theT (Ts ca)) "has_pair" ["kind", "counts", "is_alike"] 6 (FF_has_pair)) (k_ends_of : Known P w K mg base (theT (Ts ca)) "ends_of" ["kind", "counts"] 7 (FF_ends_of)) (k_greatest_sum : Known P w K mg base (theT (Ts ca)) "greatest_sum" ["bits"] 1 (FF_greatest_sum)) (k_least_sum : Known P w K mg base (theT (Ts ca)) "least_sum" ["bits"] 1 (FF_least_sum)) :
    FnOk P w K mg base CX0 8 f fd ["kind"] (spD (theT (Ts ca)) K (FF_narrowed)) := by
  refine okP F sc_narrowed (by walk_at "v") (by decide) fun cdv A outer s H E G Fp hr => ⟨_, (dss_cons (ds_set (i := 1) sc_narrowed.nd rfl (by first | exact .inl rfl | exact .inr rfl) (de_callK rfl k_counts_of (hr.mono (by decide)) (by rfl) (da_cons (de_var (pv 0)) da_nil)))
      (dss_cons (ds_frz (i := 1) (ds_if (dt_cmp (op_eqA hr.units) (od_eq rfl) (de_var (pv 1)) (de_lst da_nil) (nomark _))
        (dss_one (ds_ret (de_gdat rfl (by rfl) T.c_NOTHING)))
        dss_nil))
      (dss_cons (ds_set (i := 2) sc_narrowed.nd rfl (by first | exact .inl rfl | exact .inr rfl) de_int)
      (dss_cons (ds_for PassesOwn.never rfl (di_seq rfl (de_var (pv 1))) (dg_tp rfl rfl (dg_cons (dg_nm (i := 3) sc_narrowed.nd rfl (by first | exact .inl rfl | exact .inr rfl)) (dg_cons (dg_nm (i := 4) sc_narrowed.nd rfl (by first | exact .inl rfl | exact .inr rfl)) dg_nil)))
        (dss_one (ds_set (i := 2) sc_narrowed.nd rfl (by first | exact .inl rfl | exact .inr rfl) (de_op op_or od_I0 (de_var (pv 2)) (de_var (pv 4))))))
      (dss_cons (ds_set (i := 5) sc_narrowed.nd rfl (by first | exact .inl rfl | exact .inr rfl) (de_not rfl (de_callK rfl k_has_pair (hr.mono (by decide)) (by rfl) (da_cons (de_var (pv 0)) (da_cons (de_var (pv 1)) (da_cons de_bl da_nil))))))
      (dss_cons (ds_set (i := 6) sc_narrowed.nd rfl (by first | exact .inl rfl | exact .inr rfl) (de_or rfl (de_ix ix_A (od_ix rfl) (de_var (pv 0)) de_int (fun _ _ => rfl)) (de_one (de_not rfl (de_callK rfl k_has_pair (hr.mono (by decide)) (by rfl) (da_cons (de_var (pv 0)) (da_cons (de_var (pv 1)) (da_cons de_bl da_nil))))))))
      (dss_cons (ds_set (i := 7) sc_narrowed.nd rfl (by first | exact .inl rfl | exact .inr rfl) (de_tup (da_cons (de_or rfl (de_ix ix_A (od_ix rfl) (de_var (pv 0)) de_int (fun _ _ => rfl)) (de_one (de_var (pv 5)))) (da_cons (de_or rfl (de_ix ix_A (od_ix rfl) (de_var (pv 0)) de_int (fun _ _ => rfl)) (de_one (de_var (pv 5)))) (da_cons (de_var (pv 6)) da_nil)))))
      (dss_one (ds_ret (de_op op_addA (od_add rfl) (de_op op_addA (od_add rfl) (de_op op_addA (od_add rfl) (de_callK rfl k_ends_of (hr.mono (by decide)) (by rfl) (da_cons (de_var (pv 0)) (da_cons (de_var (pv 1)) da_nil))) (de_tup (da_cons (de_ix ix_A (od_ix rfl) (de_ix ix_A (od_ix rfl) (de_var (pv 1)) de_int (fun _ _ => rfl)) de_int (fun _ _ => rfl)) (da_cons (de_ix ix_A (od_ix rfl) (de_ix ix_A (od_ix rfl) (de_var (pv 1)) (de_neg de_int) (fun _ _ => rfl)) de_int (fun _ _ => rfl)) da_nil)))) (de_var (pv 7))) (de_tup (da_cons (de_callK rfl k_least_sum (hr.mono (by decide)) (by rfl) (da_cons (de_var (pv 2)) da_nil)) (da_cons (de_callK rfl k_greatest_sum (hr.mono (by decide)) (by rfl) (da_cons (de_var (pv 2)) da_nil)) da_nil))))))))))))), ?_⟩
  dsimp only [Bk.T, theT]
  rintro rs τ Q ⟨lo, hi, fe, ma, u, d, n, fr, to, rfl, hk, h⟩
  have hr := kind_rng hk
  walk_at "x"
  refine ⟨lo, hi, fe, ma, u, d, n, fr, to, rfl, hk, fun cs hc hcl => ?_⟩
  walk_at "x"
  refine ⟨eqOk_cD cs, ?_⟩
  cases cs with
  | nil =>
    rw [show (PyData.list (cD [])).eqv (.list []) = true from rfl]
    walk_at "x"
    refine h _ (.inl ⟨fun r hr' => ?_, rfl⟩) (by decide +kernel)
    obtain ⟨c, hc', _⟩ := cs_at hc hr'
    cases hc'
  | cons c0 ct =>
    rw [show (PyData.list (cD (c0 :: ct))).eqv (.list []) = false from rfl]
    obtain ⟨ci, cl, ei⟩ := snoc_of (l := c0 :: ct) (by simp)
    obtain ⟨cs, ecs⟩ : ∃ cs, cs = c0 :: ct := ⟨_, rfl⟩
    rw [← ecs] at hc hcl ei ⊢
    walk_at "x"
    refine for_inv (fun j env τ' => τ' = τ ∧ ∃ b : Int, ∃ x3 x4, env = [.d (kD lo hi fe ma u d n fr to), .d (.list (cD cs)), .d (.int b), x3, x4, .no, .no, .no] ∧ BitsOf b (fun s => ∃ c ∈ cs.take j, hasS c.2 s)) _ _ _ ⟨rfl, 0, _, _, rfl, Int.le_refl _, fun s => ⟨fun z => ?_, fun z => ?_⟩⟩ ?_ ?_
    · have := z.2.2
      simp at this
    · obtain ⟨c, hc', _⟩ := z
      simp at hc'
    · rintro j y env τ' ej ⟨rfl, b, x3, x4, rfl, hb⟩ kn hkn
      unfold cD at ej
      rw [List.getElem?_map] at ej
      cases ep : cs[j]? with
      | none => rw [ep] at ej; cases ej
      | some c =>
        rw [ep] at ej
        cases ej
        have hcm := List.mem_of_getElem? ep
        obtain ⟨k1, k2, k3⟩ := hc.ok c hcm
        have k0 : 0 ≤ c.2 := by omega
        walk_at "x"
        refine hkn _ _ ⟨rfl, _, _, _, rfl, bitOr_nn0 hb.1 k0, fun s => ?_⟩
        rw [or_has hb.1 k0, hb.2, List.take_add_one, ep]
        constructor
        · rintro (⟨c', h1, h2⟩ | h2)
          · exact ⟨c', List.mem_append_left _ h1, h2⟩
          · exact ⟨c, by simp, h2⟩
        · rintro ⟨c', h1, h2⟩
          rcases List.mem_append.mp h1 with h1 | h1
          · exact .inl ⟨c', h1, h2⟩
          · simp only [Option.toList_some, List.mem_singleton] at h1
            subst h1
            exact .inr h2
    rintro env τ' ⟨rfl, b, x3, x4, rfl, hb⟩
    rw [cD, List.length_map, List.take_length] at hb
    have hbs : ∀ s, hasS b s ↔ ∃ r, RowOf lo hi fe ma u d n fr to r ∧ r.sum = s := fun s => by
      rw [hb.2]
      constructor
      · rintro ⟨c, h1, h2⟩
        obtain ⟨r, g1, _, g2⟩ := (cs_row hc).mp ⟨c, h1, rfl, h2⟩
        exact ⟨r, g1, g2⟩
      · rintro ⟨r, g1, rfl⟩
        obtain ⟨c, h1, _, h2⟩ := cs_at hc g1
        exact ⟨c, h1, h2⟩
    have hfirst := cs_first (c := c0) (t := ct) (by rw [← ecs]; exact hc)
    have hlast := cs_last (c := cl) (t := ci) (by rw [← ei]; exact hc)
    have hb0 : 0 < b := by
      obtain ⟨r, g1, _⟩ := hfirst.1
      have := (hbs r.sum).mpr ⟨r, g1, rfl⟩
      have h2 := (has_some hb.1).mpr ⟨_, this⟩
      have := hb.1
      omega
    have hne : cs ≠ [] := by rw [ecs]; simp
    walk_at "x"
    refine ⟨lo, hi, fe, ma, u, d, n, fr, to, cs, false, rfl, hk, hc, hcl, hne, fun b1 hb1 => ?_⟩
    walk_at "x"
    simp only [kD]
    walk_at "x"
    refine kAt_of (by decide) (by show (6 : Int) < 9; decide) fun z ez _ => ?_
    cases ez
    walk_at "x"
    refine ex_join (fun x τ'' => τ'' = τ' ∧ ∃ b2 : Bool, x = .d (.bool (n || !b2)) ∧ (b2 = true ↔ ∃ r, RowOf lo hi fe ma u d n fr to r ∧ Two true r)) (t := fun env τ Q => kOrB (dNot (dCall FF_has_pair (dCons (dVar 0) (dCons (dVar 1) (dCons (dC (.bool true)) dNil))))) env Q (.d (.bool n)) τ (some n)) (fun Q' q => ?_) ?_
    · have hd : ∃ b2 : Bool, b2 = true ↔ ∃ r, RowOf lo hi fe ma u d n fr to r ∧ Two true r := by
        by_cases hx : ∃ r, RowOf lo hi fe ma u d n fr to r ∧ Two true r
        · exact ⟨true, fun _ => hx, fun _ => rfl⟩
        · exact ⟨false, fun z => (by cases z), fun z => (hx z).elim⟩
      obtain ⟨b2, hb2⟩ := hd
      refine kOrV (c := !b2) (fun _ Q'' q'' => ?_) (q _ _ ⟨rfl, b2, rfl, hb2⟩)
      walk_at "x"
      refine ⟨lo, hi, fe, ma, u, d, n, fr, to, cs, true, rfl, hk, hc, hcl, hne, fun b3 hb3 => ?_⟩
      walk_at "x"
      rw [show b3 = b2 from Bool.eq_iff_iff.mpr (hb3.trans hb2.symm)]
      exact q''
    rintro x τ'' ⟨rfl, b2, rfl, hb2⟩
    walk_at "x"
    refine kAt_of (by decide) (by show (4 : Int) < 9; decide) fun z ez _ => ?_
    cases ez
    walk_at "x"
    refine kOrV (c := !b1) (fun _ Q' q => by walk_at "x"; exact q) ?_
    walk_at "x"
    refine kAt_of (by decide) (by show (5 : Int) < 9; decide) fun z ez _ => ?_
    cases ez
    walk_at "x"
    refine kOrV (c := !b1) (fun _ Q' q => by walk_at "x"; exact q) ?_
    walk_at "x"
    refine ⟨lo, hi, fe, ma, u, d, n, fr, to, cs, rfl, hk, hc, hcl, fun l' h' hl' hh' => ?_⟩
    walk_at "x"
    refine kAt_of (by decide) (by rw [ecs, cD, List.length_map, List.length_cons]; omega) fun z ez _ => ?_
    rw [ecs] at ez
    cases ez
    walk_at "x"
    refine kAt_of (by decide) (by show (0 : Int) < 2; decide) fun z ez _ => ?_
    cases ez
    walk_at "x"
    rw [show atI (cD cs) (-1) = some (.tuple [.int (cl.1 : Nat), .int cl.2]) by rw [ei, show cD (ci ++ [cl]) = cD ci ++ [.tuple [.int (cl.1 : Nat), .int cl.2]] by rw [cD, List.map_append]; rfl, atI_lst]]
    walk_at "x"
    refine kAt_of (by decide) (by show (0 : Int) < 2; decide) fun z ez _ => ?_
    cases ez
    walk_at "x"
    refine ⟨b, rfl, hb0, fun s1 hs1 hs1' => ?_⟩
    walk_at "x"
    refine ⟨b, rfl, hb0, fun s2 hs2 hs2' => ?_⟩
    walk_at "x"
    have hs1 := (hbs s1).mp hs1
    have hs2 := (hbs s2).mp hs2
    refine h _ (least_parts hb1 hb2 hl' hh' hfirst hlast ⟨hs1, fun r hr' => hs1' _ ((hbs _).mpr ⟨r, hr', rfl⟩)⟩ ⟨hs2, fun r hr' => hs2' _ ((hbs _).mpr ⟨r, hr', rfl⟩)⟩) ?_
    have kc : ∀ c ∈ cs, (0 : Int) ≤ (c.1 : Int) ∧ (c.1 : Int) ≤ 8 := fun c h1 => by
      have := (hc.ok c h1).2.1
      omega
    have ks : ∀ s, (∃ r, RowOf lo hi fe ma u d n fr to r ∧ r.sum = s) → -160 ≤ s ∧ s ≤ 160 := fun s hs => by
      obtain ⟨r, h1, rfl⟩ := hs
      have := h1.2.1
      omega
    have kn : ∀ x, (∃ r, RowOf lo hi fe ma u d n fr to r ∧ x ∈ r) → -20 ≤ x ∧ x ≤ 20 := fun x hs => by
      obtain ⟨r, h1, h2⟩ := hs
      have := h1.2.2.1 x h2
      omega
    refine kind_kD ?_ ?_ (kc c0 (by rw [ecs]; simp)) (kc cl (by rw [ei]; simp)) (ks _ hs1) (ks _ hs2)
    · rcases hl' with ⟨_, rfl⟩ | ⟨h1, _⟩
      · exact ⟨by decide, by decide⟩
      · exact kn _ h1
    · rcases hh' with ⟨_, rfl⟩ | ⟨h1, _⟩
      · exact ⟨by decide, by decide⟩
      · exact kn _ h1
theorem ok_narrow {f : Addr} {fd : FuncData} (T : Txt K mg ca) (F : Fun K "narrow" "narrow" s_narrow f fd) (k_need_kind : KnownX P w K mg base (theT (Ts ca)) "need_kind" ["thing"] 5 (FF_need_kind ca)) (k_narrowed : Known P w K mg base (theT (Ts ca)) "narrowed" ["kind"] 8 (FF_narrowed)) :
    FnOk P w K mg base (L2.CX P w) 9 f fd ["kind"] (spDX (theT (Ts ca)) K (FF_narrow ca)) := by
  refine okX F sc_narrow (by walk_at "u") (by decide) fun cdv A outer s H E G Fp Ed hr hE tk hx hpo => ⟨_, (dss_cons (ds_expr (de_callX rfl hE hx k_need_kind (hr.mono (by decide)) (by rfl) (da_cons (de_var (pv 0)) da_nil)))
      (dss_one (ds_ret (de_callK rfl k_narrowed (hr.mono (by decide)) (by rfl) (da_cons (de_var (pv 0)) da_nil))))), ?_⟩
  dsimp only [Bk.T, theT]
  rintro rs τ Q ⟨x, rfl, hx, h⟩
  walk_at "x"
  refine ⟨x, rfl, hx, ?_⟩
  by_cases e1 : isKindD x = true
  · rw [if_pos e1] at h ⊢
    walk_at "x"
    obtain ⟨lo, hi, fe, ma, u, d, n, fr, to, rfl, _⟩ := kind_inv e1
    refine ⟨lo, hi, fe, ma, u, d, n, fr, to, rfl, e1, fun k h1 h2 => ?_⟩
    walk_at "x"
    exact h _ _ _ _ _ _ _ _ _ rfl k h1 h2
  · rw [if_neg e1] at h ⊢
    exact h
theorem ok_law {f : Addr} {fd : FuncData} (T : Txt K mg ca) (F : Fun K "law" "law" s_law f fd) (k__law_begin : Known P w K mg base (theT (Ts ca)) "_law_begin" ["_law_script"] 1 (FF_begin)) (k__law_small : KnownG P w K mg base (theT (Ts ca)) "_law_small" ["_law_draw"] 3 (FF__law_small)) (k__law_all_rows : KnownG P w K mg base (theT (Ts ca)) "_law_all_rows" ["_law_numbers", "_law_most"] 2 (FF__law_all_rows)) (k__law_kind_by : KnownG P w K mg base (theT (Ts ca)) "_law_kind_by" ["_law_draw", "_law_numbers", "_law_most"] 3 (FF__law_kind_by)) (k__law_has : KnownG P w K mg base (theT (Ts ca)) "_law_has" ["_law_kind", "_law_row"] 1 (FF__law_has)) (k__law_least : KnownG P w K mg base (theT (Ts ca)) "_law_least" ["_law_rows"] 1 (FF__law_least)) (k_is_nothing : KnownX P w K mg base (theT (Ts ca)) "is_nothing" ["kind"] 6 (FF_is_nothing ca)) (k_narrow : KnownX P w K mg base (theT (Ts ca)) "narrow" ["kind"] 9 (FF_narrow ca)) (k__law_next : Known P w K mg base (theT (Ts ca)) "_law_next" ["_law_draw", "_law_many"] 2 (FF_next)) (k_least_kind : KnownX P w K mg base (theT (Ts ca)) "least_kind" ["rows"] 4 (FF_least_kind ca)) :
    FnG P w K mg base 10 f fd ["_law_script"] (spD (theT (Ts ca)) K (FF_lawT)) := by
  refine okG F sc_law (by walk_at "v") (by decide) fun cdv A outer s H E G Fp hcd hr => ⟨_, (dss_cons (ds_set (i := 1) sc_law.nd rfl (by first | exact .inl rfl | exact .inr rfl) (de_callK rfl k__law_begin (hr.r.mono (by decide)) (by rfl) (da_cons (de_var (pv 0)) da_nil)))
      (dss_cons (ds_for PassesOwn.never rfl (di_range1 (by rfl) T.b_range (da_cons de_int da_nil)) (dg_nm (i := 2) sc_law.nd rfl (by first | exact .inl rfl | exact .inr rfl))
        (dss_cons (ds_asg (de_callG rfl k__law_small (hr.mono (by decide)) (by rfl) (da_cons (de_var (pv 1)) da_nil)) (dg_tp rfl rfl (dg_cons (dg_nm (i := 3) sc_law.nd rfl (by first | exact .inl rfl | exact .inr rfl)) (dg_cons (dg_nm (i := 4) sc_law.nd rfl (by first | exact .inl rfl | exact .inr rfl)) dg_nil))))
        (dss_cons (ds_set (i := 5) sc_law.nd rfl (by first | exact .inl rfl | exact .inr rfl) (de_callG rfl k__law_all_rows (hr.mono (by decide)) (by rfl) (da_cons (de_var (pv 3)) (da_cons (de_var (pv 4)) da_nil))))
        (dss_one (ds_frz (i := 5) (ds_for PassesOwn.never rfl (di_range1 (by rfl) T.b_range (da_cons de_int da_nil)) (dg_nm (i := 6) sc_law.nd rfl (by first | exact .inl rfl | exact .inr rfl))
          (dss_cons (ds_set (i := 7) sc_law.nd rfl (by first | exact .inl rfl | exact .inr rfl) (de_callG rfl k__law_kind_by (hr.mono (by decide)) (by rfl) (da_cons (de_var (pv 1)) (da_cons (de_var (pv 3)) (da_cons (de_var (pv 4)) da_nil)))))
          (dss_cons (ds_setLc (i := 8) (own := [("_law_row", 12)]) rfl sc_law.nd rfl rfl (sw_true rfl rfl rfl (by decide +kernel)) (di_seq rfl (de_var (pv 5))) (blkOk_by (by kernel_rfl)) (by decide) (fun _ _ _ _ _ => (dg_nm (i := 12) sc_law.nd rfl (by first | exact .inl rfl | exact .inr rfl))) (fun _ _ _ _ _ => (dts_one (dt_tru rfl (de_callG rfl k__law_has (hr.mono (by decide)) (by rfl) (da_cons (de_var (pv 7)) (da_cons (de_var (pv 12)) da_nil)))))) (fun _ _ _ _ _ => (de_var (pv 12))))
          (dss_cons (ds_frz (i := 8) (ds_set (i := 9) sc_law.nd rfl (by first | exact .inl rfl | exact .inr rfl) (de_callG rfl k__law_least (hr.mono (by decide)) (by rfl) (da_cons (de_var (pv 8)) da_nil))))
          (dss_cons (ds_for PassesOwn.never rfl (di_range1 (by rfl) T.b_range (da_cons de_int da_nil)) (dg_nm (i := 10) sc_law.nd rfl (by first | exact .inl rfl | exact .inr rfl))
            (dss_one (ds_if (dt_w (dw_or (dt_cmp (op_neA hr.units) (od_ne rfl) (de_callB (cr_reprE hr.g hr.un) (cd_reprE rfl) (by rfl) T.b_repr (by decide +kernel) (da_cons (de_callN rfl k_narrow (hr.r.mono (by decide)) (by rfl) (da_cons (de_var (pv 7)) da_nil)) da_nil)) (de_callB (cr_reprE hr.g hr.un) (cd_reprE rfl) (by rfl) T.b_repr (by decide +kernel) (da_cons (de_var (pv 9)) da_nil)) (nomark _)) (dw_or1 (dt_cmp (op_neA hr.units) (od_ne rfl) (de_callB (cr_reprE hr.g hr.un) (cd_reprE rfl) (by rfl) T.b_repr (by decide +kernel) (da_cons (de_callN rfl k_is_nothing (hr.r.mono (by decide)) (by rfl) (da_cons (de_var (pv 7)) da_nil)) da_nil)) (de_callB (cr_reprE hr.g hr.un) (cd_reprE rfl) (by rfl) T.b_repr (by decide +kernel) (da_cons (de_cmp (op_eqA hr.units) (od_eq rfl) (de_var (pv 8)) (de_lst da_nil) (nomark _)) da_nil)) (nomark _)))))
              (dss_one (ds_ret de_bl))
              dss_nil)))
          (dss_cons (ds_if (dt_w (dw_or (dt_cmp (op_neA hr.units) (od_ne rfl) (de_callB (cr_reprE hr.g hr.un) (cd_reprE rfl) (by rfl) T.b_repr (by decide +kernel) (da_cons (de_callN rfl k_narrow (hr.r.mono (by decide)) (by rfl) (da_cons (de_var (pv 9)) da_nil)) da_nil)) (de_callB (cr_reprE hr.g hr.un) (cd_reprE rfl) (by rfl) T.b_repr (by decide +kernel) (da_cons (de_var (pv 9)) da_nil)) (nomark _)) (dw_or1 (dt_cmp (op_neA hr.units) (od_ne rfl) (de_lc (own := [("_law_row", 12)]) rfl sc_law.nd (di_seq rfl (de_var (pv 5))) (blkOk_by (by kernel_rfl)) (by decide) (fun _ _ _ _ _ => (dg_nm (i := 12) sc_law.nd rfl (by first | exact .inl rfl | exact .inr rfl))) (fun _ _ _ _ _ => (dts_one (dt_tru rfl (de_callG rfl k__law_has (hr.mono (by decide)) (by rfl) (da_cons (de_var (pv 9)) (da_cons (de_var (pv 12)) da_nil)))))) (fun _ _ _ _ _ => (de_var (pv 12)))) (de_var (pv 8)) (nomark _)))))
            (dss_one (ds_ret de_bl))
            dss_nil)
          (dss_cons (ds_set (i := 11) sc_law.nd rfl (by first | exact .inl rfl | exact .inr rfl) (de_slice rfl (de_lc (own := [("_law_row", 12)]) rfl sc_law.nd (di_seq rfl (de_var (pv 8))) (blkOk_by (by kernel_rfl)) (by decide) (fun _ _ _ _ _ => (dg_nm (i := 12) sc_law.nd rfl (by first | exact .inl rfl | exact .inr rfl))) (fun _ _ _ _ _ => (dts_one (dt_cmp (op_eqA hr.units) (od_eq rfl) (de_callK rfl k__law_next (hr.r.mono (by decide)) (by rfl) (da_cons (de_var (pv 1)) (da_cons de_int da_nil))) de_int (nomark _)))) (fun _ _ _ _ _ => (de_var (pv 12)))) do_none (do_some de_int)))
          (dss_one (ds_frz (i := 11) (ds_if (dt_cmp (op_neA hr.units) (od_ne rfl) (de_callB (cr_reprE hr.g hr.un) (cd_reprE rfl) (by rfl) T.b_repr (by decide +kernel) (da_cons (de_callN rfl k_least_kind (hr.r.mono (by decide)) (by rfl) (da_cons (de_var (pv 11)) da_nil)) da_nil)) (de_callB (cr_reprE hr.g hr.un) (cd_reprE rfl) (by rfl) T.b_repr (by decide +kernel) (da_cons (de_callG rfl k__law_least (hr.mono (by decide)) (by rfl) (da_cons (de_var (pv 11)) da_nil)) da_nil)) (nomark _))
            (dss_one (ds_ret de_bl))
            dss_nil)))))))))))))))
      (dss_one (ds_ret de_bl)))), ?_⟩
  dsimp only [Bk.T, theT]
  rintro rs τ Q ⟨ns, rfl, hns, rfl, h⟩
  walk_at "X"
  refine ⟨ns, [], rfl, hns, rfl, fun a => ?_⟩
  walk_at "X"
  refine ⟨by decide, ?_⟩
  refine for_inv (fun j env τ => (∃ x2 x3 x4 x5 x6 x7 x8 x9 x10 x11 x12, env = [SV.d (PyData.list (List.map PyData.int ns)), SV.raw (V.ref a), x2, x3, x4, x5, x6, x7, x8, x9, x10, x11, x12]) ∧ ∃ b', τ = ⟨.on a b', []⟩ ∧ 1152921504606846976 ≤ b' + 10000 * j) _ _ _ ⟨⟨_, _, _, _, _, _, _, _, _, _, _, rfl⟩, _, rfl, by omega⟩ ?_ ?_
  · rintro j x env τ ej ⟨⟨x2, x3, x4, x5, x6, x7, x8, x9, x10, x11, x12, rfl⟩, b', rfl, hb⟩ kn hkn
    have hj : j < 8 := (rgI_get ej).1
    obtain ⟨_, rfl⟩ := rgI_get ej
    walk_at "X"
    refine ⟨a, b', [], rfl, rfl, by omega, fun lo w m b2 hw1 hw2 hm1 hm2 hc hlo hlw hb2 => ?_⟩
    have sl : (spanN lo w).length = w := by rw [spanN, List.length_map, List.length_range]
    walk_at "X"
    refine ⟨spanN lo w, m, rfl, hm2, by omega, by rw [sl]; exact hc, fun rows hrows hfirst hrl => ?_⟩
    have hin : ∀ r, winR lo w m r → r ∈ rows := fun r hr => (hrows r).mpr ⟨hr.1, fun x hx => mem_spanN.mpr (hr.2 x hx)⟩
    have hrin : rowsIn rows := fun r hr => by
      obtain ⟨h1, h2⟩ := (hrows r).mp hr
      refine ⟨by omega, fun x hx => ?_⟩
      have := mem_spanN.mp (h2 x hx)
      omega
    have hl8 : ∀ r ∈ rows, r.length ≤ 1000 := fun r hr => by
      have := (hrin r hr).1
      omega
    walk_at "X"
    refine ⟨by decide, ?_⟩
    refine for_inv (fun i env τ => (∃ x6 x7 x8 x9 x10 x11 x12, env = [SV.d (PyData.list (List.map PyData.int ns)), SV.raw (V.ref a), .d (.int (0 + (j : Int))), .d (.list ((spanN lo w).map .int)), .d (.int (m : Nat)), .d (.list (rows.map tI)), x6, x7, x8, x9, x10, x11, x12]) ∧ ∃ b3, τ = ⟨.on a b3, []⟩ ∧ b2 ≤ b3 + 3000 * i) _ _ _ ⟨⟨_, _, _, _, _, _, _, rfl⟩, _, rfl, by omega⟩ ?_ ?_
    · rintro i y env τ ei ⟨⟨x6, x7, x8, x9, x10, x11, x12, rfl⟩, b3, rfl, hb3⟩ kn2 hkn2
      have hi : i < 3 := (rgI_get ei).1
      obtain ⟨_, rfl⟩ := rgI_get ei
      walk_at "X"
      refine ⟨a, b3, [], lo, w, m, rfl, rfl, by omega, hw1, by omega, hm2, hlo, hlw, fun l h' fe ma u d n fr to b4 h1 h2 h3 h4 h5 h6 h7 => ?_⟩
      obtain ⟨k, ek⟩ : ∃ k : Kd, k = ⟨l, h', fe, ma, u, d, n, fr, to⟩ := ⟨_, rfl⟩
      have kk : isKindD k.D = true := by
        rw [ek]
        exact kind_kD (by dsimp only; omega) (by dsimp only; omega) (by dsimp only; omega) (by dsimp only; omega) h5 h6
      have kw : ∀ r, k.R r → winR lo w m r := by
        rw [ek]
        exact kind_win (by dsimp only; omega) (by dsimp only; omega) (by dsimp only; omega)
      rw [show kD l h' fe ma u d n fr to = k.D by rw [ek]; rfl]
      clear ek h1 h2 h3 h4 h5 h6
      walk_at "X"
      refine lc_filt (τ := (⟨.on a b4, []⟩ : T2)) tI tI k.B rows (fun r hr kc k0 h1 h0 => ?_) (by rw [sizeLine_eq]; omega) ?_
      · walk_at "X"
        refine gLawHas (hl8 r hr) ?_
        walk_at "X"
        refine kTurn_of (fun z => ?_) fun z => ?_
        · walk_at "X"
          exact h1 z
        · exact h0 z
      have hown : ∀ r, r ∈ rows.filter k.B ↔ k.R r := fun r => by
        rw [List.mem_filter, Kd.rb]
        exact ⟨fun z => z.2, fun z => ⟨hin r (kw r z), z⟩⟩
      have hownin : rowsIn (rows.filter k.B) := fun r hr => hrin r (List.mem_filter.mp hr).1
      have hownl : (rows.filter k.B).length ≤ 1000 := Nat.le_trans (List.length_filter_le _ _) hrl
      have hB : ∀ g : Kd, FormOf k g → rows.filter g.B = rows.filter k.B := fun g hg => by rw [B_ext hg.rows]
      generalize rows.filter k.B = own at hown hownin hownl hB ⊢
      walk_at "X"
      refine ⟨own, rfl, by omega, hownin, fun due hd1 hd2 => ?_⟩
      have hf : FormOf k due := by
        obtain ⟨g, e, hg⟩ := form_of (hd1.congr hown) hd2
        cases Kd.inj e
        exact hg
      walk_at "X"
      refine ⟨by decide, ?_⟩
      refine for_inv (fun i2 env τ => (∃ x10, env = [SV.d (PyData.list (List.map PyData.int ns)), SV.raw (V.ref a), .d (.int (0 + (j : Int))), .d (.list ((spanN lo w).map .int)), .d (.int (m : Nat)), .d (.list (rows.map tI)), .d (.int (0 + (i : Int))), .d k.D, .d (.list (own.map tI)), .d due.D, x10, x11, x12]) ∧ τ = ⟨.on a b4, []⟩) _ _ _ ⟨⟨_, rfl⟩, rfl⟩ ?_ ?_
      · rintro i2 y env τ ei2 ⟨⟨x10, rfl⟩, rfl⟩ kn3 hkn3
        obtain ⟨_, rfl⟩ := rgI_get ei2
        walk_at "X"
        refine gNarrow kk fun g hg => ?_
        have eg : g = due := Kd.inj (hg.least.eq hf.least)
        subst eg
        walk_at "X"
        refine gRepr_fine (fine_kind hd2) ?_
        walk_at "X"
        refine gRepr_fine (fine_kind hd2) ?_
        generalize g.D.shown = T1
        walk_at "X"
        rw [str_eqv, decide_eq_true rfl]
        walk_at "X"
        refine ⟨k, rfl, kk, fun c hc => ?_⟩
        have ec : c = (own.map tI).isEmpty := by
          rw [Bool.eq_iff_iff, hc, List.isEmpty_iff, List.map_eq_nil_iff]
          constructor
          · intro z
            cases own with
            | nil => rfl
            | cons r t => exact (z r ((hown r).mp List.mem_cons_self)).elim
          · rintro z r hr
            have := (hown r).mpr hr
            rw [z] at this
            cases this
        subst ec
        walk_at "X"
        rw [eqv_nil]
        have ro : ∀ c : Bool, reprOk (.bool c) := fun c => by
          cases c
          · exact Rb.rep (m := 10) (w := 100) (Rb.dec (by decide +kernel)) (by decide) (by decide)
          · exact Rb.rep (m := 10) (w := 100) (Rb.dec (by decide +kernel)) (by decide) (by decide)
        refine ⟨ro _, eqOk_rows own [], ro _, ?_⟩
        generalize (PyData.bool (own.map tI).isEmpty).shown = T3
        rw [str_eqv, decide_eq_true rfl]
        walk_at "X"
        exact hkn3 _ _ ⟨⟨_, rfl⟩, rfl⟩
      · rintro env τ ⟨⟨x10, rfl⟩, rfl⟩
        walk_at "X"
        refine gNarrow hd2 fun g hg => ?_
        have eg : g = due := Kd.inj ((hg.least.congr hf.rows).eq hf.least)
        subst eg
        walk_at "X"
        refine gRepr_fine (fine_kind hd2) ?_
        walk_at "X"
        refine gRepr_fine (fine_kind hd2) ?_
        generalize g.D.shown = T1
        walk_at "X"
        rw [str_eqv, decide_eq_true rfl]
        walk_at "X"
        refine lc_filt (τ := (⟨.on a b4, []⟩ : T2)) tI tI g.B rows (fun r hr kc k0 h1 h0 => ?_) (by rw [sizeLine_eq]; omega) ?_
        · walk_at "X"
          refine gLawHas (hl8 r hr) ?_
          walk_at "X"
          refine kTurn_of (fun z => ?_) fun z => ?_
          · walk_at "X"
            exact h1 z
          · exact h0 z
        rw [hB g hf]
        walk_at "X"
        refine ⟨eqOk_rows own own, ?_⟩
        rw [eqv_rows, decide_eq_true rfl]
        walk_at "X"
        refine lc_inv (fun j acc τ => ∃ (b5 : Nat) (l : List (List Int)), τ = ⟨.on a b5, []⟩ ∧ b4 ≤ b5 + j ∧ acc = l.map tI ∧ ∀ r ∈ l, r ∈ own) _ _ ⟨b4, [], rfl, by omega, rfl, by simp⟩ ?_ (by rw [List.length_map, sizeLine_eq]; omega) ?_
        · rintro j2 y acc τ ey ⟨b5, l, rfl, p1, rfl, p2⟩ _ kc k0 r1 r0
          rw [List.getElem?_map] at ey
          cases en : own[j2]? with
          | none => rw [en] at ey; cases ey
          | some r =>
            rw [en] at ey
            cases ey
            have hj2 : j2 < own.length := (List.getElem?_eq_some_iff.mp en).1
            walk_at "X"
            refine nextT (by omega) (by decide) (by decide) fun z _ _ => ?_
            walk_at "X"
            refine kTurn_of (fun e => ?_) fun e => ?_
            · walk_at "X"
              refine r1 _ _ ⟨b5 - 1, l ++ [r], rfl, by omega, by rw [List.map_append]; rfl, fun q hq => ?_⟩
              rcases List.mem_append.mp hq with hq | hq
              · exact p2 q hq
              · rw [List.mem_singleton.mp hq]
                exact List.mem_of_getElem? en
            · exact r0 _ ⟨b5 - 1, l, rfl, by omega, rfl, p2⟩
        · rintro acc τ ⟨b5, l, rfl, p1, rfl, p2⟩
          rw [List.length_map] at p1
          walk_at "X"
          rw [show cutL (l.map tI) none (some 9) = (l.take 9).map tI from (cut_pre (l.map tI) 9).trans List.map_take.symm]
          have hs9 : ∀ r ∈ l.take 9, r ∈ own := fun r hr => p2 r (List.mem_of_mem_take hr)
          have hl9 : (l.take 9).length ≤ 9 := List.length_take_le 9 l
          generalize l.take 9 = som at hs9 hl9 ⊢
          walk_at "X"
          refine ⟨som, rfl, by omega, fun r hr => hownin r (hs9 r hr), fun k1 hk1 hk1' => ?_⟩
          walk_at "X"
          refine gRepr_fine (fine_kind hk1') ?_
          walk_at "X"
          refine ⟨som, rfl, by omega, fun r hr => hownin r (hs9 r hr), fun k2 hk2 hk2' => ?_⟩
          have e2 : k2 = k1 := Kd.inj (hk2.eq hk1)
          subst e2
          walk_at "X"
          refine gRepr_fine (fine_kind hk2') ?_
          generalize k2.D.shown = T2
          walk_at "X"
          rw [str_eqv, decide_eq_true rfl]
          walk_at "X"
          exact hkn2 _ _ ⟨⟨_, _, _, _, _, _, _, rfl⟩, _, rfl, by omega⟩
    · rintro env τ ⟨⟨x6, x7, x8, x9, x10, x11, x12, rfl⟩, b3, rfl, hb3⟩
      have hb3 : b2 ≤ b3 + 3000 * 3 := hb3
      walk_at "X"
      exact hkn _ _ ⟨⟨_, _, _, _, _, _, _, _, _, _, _, rfl⟩, _, rfl, by omega⟩
  · rintro env τ ⟨⟨x2, x3, x4, x5, x6, x7, x8, x9, x10, x11, x12, rfl⟩, b', rfl, hb⟩
    walk_at "X"
    exact h _
end
theorem all_mk {l : PySem.W.OpenLaw} {w : World} {K : PySem.W.Frag} {h : Heap} {mg : Str → Option Value} {fa f0 f1 f2 f3 f4 f5 f6 f7 f8 f9 f10 f11 f12 f13 f14 f15 f16 f17 f18 f19 f20 f21 f22 f23 f24 f25 f26 f27 f28 f29 f30 f31 f32 f33 f34 f35 f36 f37 f38 f39 : Addr} (ca : Cas) (X : K.In h) (G : h.Ns mainGlobals mg) (hfa : mg "law" = some (.ref fa))
    {od0 an0 od1 an1 od2 an2 od3 an3 od4 an4 od5 an5 od6 an6 od7 an7 od8 an8 od9 an9 od10 an10 od11 an11 od12 an12 od13 an13 od14 an14 od15 an15 od16 an16 od17 an17 od18 an18 od19 an19 od20 an20 od21 an21 od22 an22 od23 an23 od24 an24 od25 an25 od26 an26 od27 an27 od28 an28 od29 an29 od30 an30 od31 an31 od32 an32 od33 an33 od34 an34 od35 an35 od36 an36 od37 an37 od38 an38 od39 an39 : Option Addr} {sl0 sl1 sl2 sl3 sl4 sl5 sl6 sl7 sl8 sl9 sl10 sl11 sl12 sl13 sl14 sl15 sl16 sl17 sl18 sl19 sl20 sl21 sl22 sl23 sl24 sl25 sl26 sl27 sl28 sl29 sl30 sl31 sl32 sl33 sl34 sl35 sl36 sl37 sl38 sl39 : Array (Option Value)}
    {oc0 kV0 dc0 pm0 ct0 cd0 oc1 kV1 dc1 pm1 ct1 cd1 oc2 kV2 dc2 pm2 ct2 cd2 oc3 kV3 dc3 pm3 ct3 cd3 oc4 kV4 dc4 pm4 ct4 cd4 oc5 kV5 dc5 pm5 ct5 cd5 oc6 kV6 dc6 pm6 ct6 cd6 oc7 kV7 dc7 pm7 ct7 cd7 oc8 kV8 dc8 pm8 ct8 cd8 oc9 kV9 dc9 pm9 ct9 cd9 oc10 kV10 dc10 pm10 ct10 cd10 oc11 kV11 dc11 pm11 ct11 cd11 oc12 kV12 dc12 pm12 ct12 cd12 oc13 kV13 dc13 pm13 ct13 cd13 oc14 kV14 dc14 pm14 ct14 cd14 oc15 kV15 dc15 pm15 ct15 cd15 oc16 kV16 dc16 pm16 ct16 cd16 oc17 kV17 dc17 pm17 ct17 cd17 oc18 kV18 dc18 pm18 ct18 cd18 oc19 kV19 dc19 pm19 ct19 cd19 oc20 kV20 dc20 pm20 ct20 cd20 oc21 kV21 dc21 pm21 ct21 cd21 oc22 kV22 dc22 pm22 ct22 cd22 oc23 kV23 dc23 pm23 ct23 cd23 oc24 kV24 dc24 pm24 ct24 cd24 oc25 kV25 dc25 pm25 ct25 cd25 oc26 kV26 dc26 pm26 ct26 cd26 oc27 kV27 dc27 pm27 ct27 cd27 oc28 kV28 dc28 pm28 ct28 cd28 oc29 kV29 dc29 pm29 ct29 cd29 oc30 kV30 dc30 pm30 ct30 cd30 oc31 kV31 dc31 pm31 ct31 cd31 oc32 kV32 dc32 pm32 ct32 cd32 oc33 kV33 dc33 pm33 ct33 cd33 oc34 kV34 dc34 pm34 ct34 cd34 oc35 kV35 dc35 pm35 ct35 cd35 oc36 kV36 dc36 pm36 ct36 cd36 oc37 kV37 dc37 pm37 ct37 cd37 oc38 kV38 dc38 pm38 ct38 cd38 oc39 kV39 dc39 pm39 ct39 cd39 : Value}
    (a0 : PySem.W.nsIn K mainGlobals "is_whole" = some (some (.ref f0))) (l0 : K.lookup f0 = some ⟨oc0, od0, .func (PySem.W.fnOf "is_whole" "is_whole" (defArgs s_is_whole) (defBody s_is_whole) (defScope s_is_whole) .none kV0 dc0 pm0 an0 cd0 ct0), sl0⟩) (c0 : PySem.W.codeIn K cd0 "is_whole" = true) (k0 : PySem.W.keepIn K (.ref f0) = true)
    (a1 : PySem.W.nsIn K mainGlobals "is_number" = some (some (.ref f1))) (l1 : K.lookup f1 = some ⟨oc1, od1, .func (PySem.W.fnOf "is_number" "is_number" (defArgs s_is_number) (defBody s_is_number) (defScope s_is_number) .none kV1 dc1 pm1 an1 cd1 ct1), sl1⟩) (c1 : PySem.W.codeIn K cd1 "is_number" = true) (k1 : PySem.W.keepIn K (.ref f1) = true)
    (a2 : PySem.W.nsIn K mainGlobals "is_row" = some (some (.ref f2))) (l2 : K.lookup f2 = some ⟨oc2, od2, .func (PySem.W.fnOf "is_row" "is_row" (defArgs s_is_row) (defBody s_is_row) (defScope s_is_row) .none kV2 dc2 pm2 an2 cd2 ct2), sl2⟩) (c2 : PySem.W.codeIn K cd2 "is_row" = true) (k2 : PySem.W.keepIn K (.ref f2) = true)
    (a3 : PySem.W.nsIn K mainGlobals "rises" = some (some (.ref f3))) (l3 : K.lookup f3 = some ⟨oc3, od3, .func (PySem.W.fnOf "rises" "rises" (defArgs s_rises) (defBody s_rises) (defScope s_rises) .none kV3 dc3 pm3 an3 cd3 ct3), sl3⟩) (c3 : PySem.W.codeIn K cd3 "rises" = true) (k3 : PySem.W.keepIn K (.ref f3) = true)
    (a4 : PySem.W.nsIn K mainGlobals "falls" = some (some (.ref f4))) (l4 : K.lookup f4 = some ⟨oc4, od4, .func (PySem.W.fnOf "falls" "falls" (defArgs s_falls) (defBody s_falls) (defScope s_falls) .none kV4 dc4 pm4 an4 cd4 ct4), sl4⟩) (c4 : PySem.W.codeIn K cd4 "falls" = true) (k4 : PySem.W.keepIn K (.ref f4) = true)
    (a5 : PySem.W.nsIn K mainGlobals "are_unlike" = some (some (.ref f5))) (l5 : K.lookup f5 = some ⟨oc5, od5, .func (PySem.W.fnOf "are_unlike" "are_unlike" (defArgs s_are_unlike) (defBody s_are_unlike) (defScope s_are_unlike) .none kV5 dc5 pm5 an5 cd5 ct5), sl5⟩) (c5 : PySem.W.codeIn K cd5 "are_unlike" = true) (k5 : PySem.W.keepIn K (.ref f5) = true)
    (a6 : PySem.W.nsIn K mainGlobals "is_part" = some (some (.ref f6))) (l6 : K.lookup f6 = some ⟨oc6, od6, .func (PySem.W.fnOf "is_part" "is_part" (defArgs s_is_part) (defBody s_is_part) (defScope s_is_part) .none kV6 dc6 pm6 an6 cd6 ct6), sl6⟩) (c6 : PySem.W.codeIn K cd6 "is_part" = true) (k6 : PySem.W.keepIn K (.ref f6) = true)
    (a7 : PySem.W.nsIn K mainGlobals "is_kind" = some (some (.ref f7))) (l7 : K.lookup f7 = some ⟨oc7, od7, .func (PySem.W.fnOf "is_kind" "is_kind" (defArgs s_is_kind) (defBody s_is_kind) (defScope s_is_kind) .none kV7 dc7 pm7 an7 cd7 ct7), sl7⟩) (c7 : PySem.W.codeIn K cd7 "is_kind" = true) (k7 : PySem.W.keepIn K (.ref f7) = true)
    (a8 : PySem.W.nsIn K mainGlobals "need_kind" = some (some (.ref f8))) (l8 : K.lookup f8 = some ⟨oc8, od8, .func (PySem.W.fnOf "need_kind" "need_kind" (defArgs s_need_kind) (defBody s_need_kind) (defScope s_need_kind) .none kV8 dc8 pm8 an8 cd8 ct8), sl8⟩) (c8 : PySem.W.codeIn K cd8 "need_kind" = true) (k8 : PySem.W.keepIn K (.ref f8) = true)
    (a9 : PySem.W.nsIn K mainGlobals "window" = some (some (.ref f9))) (l9 : K.lookup f9 = some ⟨oc9, od9, .func (PySem.W.fnOf "window" "window" (defArgs s_window) (defBody s_window) (defScope s_window) .none kV9 dc9 pm9 an9 cd9 ct9), sl9⟩) (c9 : PySem.W.codeIn K cd9 "window" = true) (k9 : PySem.W.keepIn K (.ref f9) = true)
    (a10 : PySem.W.nsIn K mainGlobals "moved" = some (some (.ref f10))) (l10 : K.lookup f10 = some ⟨oc10, od10, .func (PySem.W.fnOf "moved" "moved" (defArgs s_moved) (defBody s_moved) (defScope s_moved) .none kV10 dc10 pm10 an10 cd10 ct10), sl10⟩) (c10 : PySem.W.codeIn K cd10 "moved" = true) (k10 : PySem.W.keepIn K (.ref f10) = true)
    (a11 : PySem.W.nsIn K mainGlobals "level_sums" = some (some (.ref f11))) (l11 : K.lookup f11 = some ⟨oc11, od11, .func (PySem.W.fnOf "level_sums" "level_sums" (defArgs s_level_sums) (defBody s_level_sums) (defScope s_level_sums) .none kV11 dc11 pm11 an11 cd11 ct11), sl11⟩) (c11 : PySem.W.codeIn K cd11 "level_sums" = true) (k11 : PySem.W.keepIn K (.ref f11) = true)
    (a12 : PySem.W.nsIn K mainGlobals "all_sums" = some (some (.ref f12))) (l12 : K.lookup f12 = some ⟨oc12, od12, .func (PySem.W.fnOf "all_sums" "all_sums" (defArgs s_all_sums) (defBody s_all_sums) (defScope s_all_sums) .none kV12 dc12 pm12 an12 cd12 ct12), sl12⟩) (c12 : PySem.W.codeIn K cd12 "all_sums" = true) (k12 : PySem.W.keepIn K (.ref f12) = true)
    (a13 : PySem.W.nsIn K mainGlobals "sums_of" = some (some (.ref f13))) (l13 : K.lookup f13 = some ⟨oc13, od13, .func (PySem.W.fnOf "sums_of" "sums_of" (defArgs s_sums_of) (defBody s_sums_of) (defScope s_sums_of) .none kV13 dc13 pm13 an13 cd13 ct13), sl13⟩) (c13 : PySem.W.codeIn K cd13 "sums_of" = true) (k13 : PySem.W.keepIn K (.ref f13) = true)
    (a14 : PySem.W.nsIn K mainGlobals "without" = some (some (.ref f14))) (l14 : K.lookup f14 = some ⟨oc14, od14, .func (PySem.W.fnOf "without" "without" (defArgs s_without) (defBody s_without) (defScope s_without) .none kV14 dc14 pm14 an14 cd14 ct14), sl14⟩) (c14 : PySem.W.codeIn K cd14 "without" = true) (k14 : PySem.W.keepIn K (.ref f14) = true)
    (a15 : PySem.W.nsIn K mainGlobals "may_stand" = some (some (.ref f15))) (l15 : K.lookup f15 = some ⟨oc15, od15, .func (PySem.W.fnOf "may_stand" "may_stand" (defArgs s_may_stand) (defBody s_may_stand) (defScope s_may_stand) .none kV15 dc15 pm15 an15 cd15 ct15), sl15⟩) (c15 : PySem.W.codeIn K cd15 "may_stand" = true) (k15 : PySem.W.keepIn K (.ref f15) = true)
    (a16 : PySem.W.nsIn K mainGlobals "pairs_by" = some (some (.ref f16))) (l16 : K.lookup f16 = some ⟨oc16, od16, .func (PySem.W.fnOf "pairs_by" "pairs_by" (defArgs s_pairs_by) (defBody s_pairs_by) (defScope s_pairs_by) .none kV16 dc16 pm16 an16 cd16 ct16), sl16⟩) (c16 : PySem.W.codeIn K cd16 "pairs_by" = true) (k16 : PySem.W.keepIn K (.ref f16) = true)
    (a17 : PySem.W.nsIn K mainGlobals "pair_with" = some (some (.ref f17))) (l17 : K.lookup f17 = some ⟨oc17, od17, .func (PySem.W.fnOf "pair_with" "pair_with" (defArgs s_pair_with) (defBody s_pair_with) (defScope s_pair_with) .none kV17 dc17 pm17 an17 cd17 ct17), sl17⟩) (c17 : PySem.W.codeIn K cd17 "pair_with" = true) (k17 : PySem.W.keepIn K (.ref f17) = true)
    (a18 : PySem.W.nsIn K mainGlobals "numbers_of" = some (some (.ref f18))) (l18 : K.lookup f18 = some ⟨oc18, od18, .func (PySem.W.fnOf "numbers_of" "numbers_of" (defArgs s_numbers_of) (defBody s_numbers_of) (defScope s_numbers_of) .none kV18 dc18 pm18 an18 cd18 ct18), sl18⟩) (c18 : PySem.W.codeIn K cd18 "numbers_of" = true) (k18 : PySem.W.keepIn K (.ref f18) = true)
    (a19 : PySem.W.nsIn K mainGlobals "is_level" = some (some (.ref f19))) (l19 : K.lookup f19 = some ⟨oc19, od19, .func (PySem.W.fnOf "is_level" "is_level" (defArgs s_is_level) (defBody s_is_level) (defScope s_is_level) .none kV19 dc19 pm19 an19 cd19 ct19), sl19⟩) (c19 : PySem.W.codeIn K cd19 "is_level" = true) (k19 : PySem.W.keepIn K (.ref f19) = true)
    (a20 : PySem.W.nsIn K mainGlobals "least_sum" = some (some (.ref f20))) (l20 : K.lookup f20 = some ⟨oc20, od20, .func (PySem.W.fnOf "least_sum" "least_sum" (defArgs s_least_sum) (defBody s_least_sum) (defScope s_least_sum) .none kV20 dc20 pm20 an20 cd20 ct20), sl20⟩) (c20 : PySem.W.codeIn K cd20 "least_sum" = true) (k20 : PySem.W.keepIn K (.ref f20) = true)
    (a21 : PySem.W.nsIn K mainGlobals "greatest_sum" = some (some (.ref f21))) (l21 : K.lookup f21 = some ⟨oc21, od21, .func (PySem.W.fnOf "greatest_sum" "greatest_sum" (defArgs s_greatest_sum) (defBody s_greatest_sum) (defScope s_greatest_sum) .none kV21 dc21 pm21 an21 cd21 ct21), sl21⟩) (c21 : PySem.W.codeIn K cd21 "greatest_sum" = true) (k21 : PySem.W.keepIn K (.ref f21) = true)
    (a22 : PySem.W.nsIn K mainGlobals "counts_of" = some (some (.ref f22))) (l22 : K.lookup f22 = some ⟨oc22, od22, .func (PySem.W.fnOf "counts_of" "counts_of" (defArgs s_counts_of) (defBody s_counts_of) (defScope s_counts_of) .none kV22 dc22 pm22 an22 cd22 ct22), sl22⟩) (c22 : PySem.W.codeIn K cd22 "counts_of" = true) (k22 : PySem.W.keepIn K (.ref f22) = true)
    (a23 : PySem.W.nsIn K mainGlobals "stands" = some (some (.ref f23))) (l23 : K.lookup f23 = some ⟨oc23, od23, .func (PySem.W.fnOf "stands" "stands" (defArgs s_stands) (defBody s_stands) (defScope s_stands) .none kV23 dc23 pm23 an23 cd23 ct23), sl23⟩) (c23 : PySem.W.codeIn K cd23 "stands" = true) (k23 : PySem.W.keepIn K (.ref f23) = true)
    (a24 : PySem.W.nsIn K mainGlobals "ends_of" = some (some (.ref f24))) (l24 : K.lookup f24 = some ⟨oc24, od24, .func (PySem.W.fnOf "ends_of" "ends_of" (defArgs s_ends_of) (defBody s_ends_of) (defScope s_ends_of) .none kV24 dc24 pm24 an24 cd24 ct24), sl24⟩) (c24 : PySem.W.codeIn K cd24 "ends_of" = true) (k24 : PySem.W.keepIn K (.ref f24) = true)
    (a25 : PySem.W.nsIn K mainGlobals "has_pair" = some (some (.ref f25))) (l25 : K.lookup f25 = some ⟨oc25, od25, .func (PySem.W.fnOf "has_pair" "has_pair" (defArgs s_has_pair) (defBody s_has_pair) (defScope s_has_pair) .none kV25 dc25 pm25 an25 cd25 ct25), sl25⟩) (c25 : PySem.W.codeIn K cd25 "has_pair" = true) (k25 : PySem.W.keepIn K (.ref f25) = true)
    (a26 : PySem.W.nsIn K mainGlobals "narrowed" = some (some (.ref f26))) (l26 : K.lookup f26 = some ⟨oc26, od26, .func (PySem.W.fnOf "narrowed" "narrowed" (defArgs s_narrowed) (defBody s_narrowed) (defScope s_narrowed) .none kV26 dc26 pm26 an26 cd26 ct26), sl26⟩) (c26 : PySem.W.codeIn K cd26 "narrowed" = true) (k26 : PySem.W.keepIn K (.ref f26) = true)
    (a27 : PySem.W.nsIn K mainGlobals "narrow" = some (some (.ref f27))) (l27 : K.lookup f27 = some ⟨oc27, od27, .func (PySem.W.fnOf "narrow" "narrow" (defArgs s_narrow) (defBody s_narrow) (defScope s_narrow) .none kV27 dc27 pm27 an27 cd27 ct27), sl27⟩) (c27 : PySem.W.codeIn K cd27 "narrow" = true) (k27 : PySem.W.keepIn K (.ref f27) = true)
    (a28 : PySem.W.nsIn K mainGlobals "is_nothing" = some (some (.ref f28))) (l28 : K.lookup f28 = some ⟨oc28, od28, .func (PySem.W.fnOf "is_nothing" "is_nothing" (defArgs s_is_nothing) (defBody s_is_nothing) (defScope s_is_nothing) .none kV28 dc28 pm28 an28 cd28 ct28), sl28⟩) (c28 : PySem.W.codeIn K cd28 "is_nothing" = true) (k28 : PySem.W.keepIn K (.ref f28) = true)
    (a29 : PySem.W.nsIn K mainGlobals "least_kind" = some (some (.ref f29))) (l29 : K.lookup f29 = some ⟨oc29, od29, .func (PySem.W.fnOf "least_kind" "least_kind" (defArgs s_least_kind) (defBody s_least_kind) (defScope s_least_kind) .none kV29 dc29 pm29 an29 cd29 ct29), sl29⟩) (c29 : PySem.W.codeIn K cd29 "least_kind" = true) (k29 : PySem.W.keepIn K (.ref f29) = true)
    (a30 : PySem.W.nsIn K mainGlobals "_law_begin" = some (some (.ref f30))) (l30 : K.lookup f30 = some ⟨oc30, od30, .func (PySem.W.fnOf "_law_begin" "_law_begin" (defArgs s__law_begin) (defBody s__law_begin) (defScope s__law_begin) .none kV30 dc30 pm30 an30 cd30 ct30), sl30⟩) (c30 : PySem.W.codeIn K cd30 "_law_begin" = true) (k30 : PySem.W.keepIn K (.ref f30) = true)
    (a31 : PySem.W.nsIn K mainGlobals "_law_mixed" = some (some (.ref f31))) (l31 : K.lookup f31 = some ⟨oc31, od31, .func (PySem.W.fnOf "_law_mixed" "_law_mixed" (defArgs s__law_mixed) (defBody s__law_mixed) (defScope s__law_mixed) .none kV31 dc31 pm31 an31 cd31 ct31), sl31⟩) (c31 : PySem.W.codeIn K cd31 "_law_mixed" = true) (k31 : PySem.W.keepIn K (.ref f31) = true)
    (a32 : PySem.W.nsIn K mainGlobals "_law_next" = some (some (.ref f32))) (l32 : K.lookup f32 = some ⟨oc32, od32, .func (PySem.W.fnOf "_law_next" "_law_next" (defArgs s__law_next) (defBody s__law_next) (defScope s__law_next) .none kV32 dc32 pm32 an32 cd32 ct32), sl32⟩) (c32 : PySem.W.codeIn K cd32 "_law_next" = true) (k32 : PySem.W.keepIn K (.ref f32) = true)
    (a33 : PySem.W.nsIn K mainGlobals "_law_has" = some (some (.ref f33))) (l33 : K.lookup f33 = some ⟨oc33, od33, .func (PySem.W.fnOf "_law_has" "_law_has" (defArgs s__law_has) (defBody s__law_has) (defScope s__law_has) .none kV33 dc33 pm33 an33 cd33 ct33), sl33⟩) (c33 : PySem.W.codeIn K cd33 "_law_has" = true) (k33 : PySem.W.keepIn K (.ref f33) = true)
    (a34 : PySem.W.nsIn K mainGlobals "_law_least" = some (some (.ref f34))) (l34 : K.lookup f34 = some ⟨oc34, od34, .func (PySem.W.fnOf "_law_least" "_law_least" (defArgs s__law_least) (defBody s__law_least) (defScope s__law_least) .none kV34 dc34 pm34 an34 cd34 ct34), sl34⟩) (c34 : PySem.W.codeIn K cd34 "_law_least" = true) (k34 : PySem.W.keepIn K (.ref f34) = true)
    (a35 : PySem.W.nsIn K mainGlobals "_law_all_rows" = some (some (.ref f35))) (l35 : K.lookup f35 = some ⟨oc35, od35, .func (PySem.W.fnOf "_law_all_rows" "_law_all_rows" (defArgs s__law_all_rows) (defBody s__law_all_rows) (defScope s__law_all_rows) .none kV35 dc35 pm35 an35 cd35 ct35), sl35⟩) (c35 : PySem.W.codeIn K cd35 "_law_all_rows" = true) (k35 : PySem.W.keepIn K (.ref f35) = true)
    (a36 : PySem.W.nsIn K mainGlobals "_law_pairs" = some (some (.ref f36))) (l36 : K.lookup f36 = some ⟨oc36, od36, .func (PySem.W.fnOf "_law_pairs" "_law_pairs" (defArgs s__law_pairs) (defBody s__law_pairs) (defScope s__law_pairs) .none kV36 dc36 pm36 an36 cd36 ct36), sl36⟩) (c36 : PySem.W.codeIn K cd36 "_law_pairs" = true) (k36 : PySem.W.keepIn K (.ref f36) = true)
    (a37 : PySem.W.nsIn K mainGlobals "_law_small" = some (some (.ref f37))) (l37 : K.lookup f37 = some ⟨oc37, od37, .func (PySem.W.fnOf "_law_small" "_law_small" (defArgs s__law_small) (defBody s__law_small) (defScope s__law_small) .none kV37 dc37 pm37 an37 cd37 ct37), sl37⟩) (c37 : PySem.W.codeIn K cd37 "_law_small" = true) (k37 : PySem.W.keepIn K (.ref f37) = true)
    (a38 : PySem.W.nsIn K mainGlobals "_law_kind_by" = some (some (.ref f38))) (l38 : K.lookup f38 = some ⟨oc38, od38, .func (PySem.W.fnOf "_law_kind_by" "_law_kind_by" (defArgs s__law_kind_by) (defBody s__law_kind_by) (defScope s__law_kind_by) .none kV38 dc38 pm38 an38 cd38 ct38), sl38⟩) (c38 : PySem.W.codeIn K cd38 "_law_kind_by" = true) (k38 : PySem.W.keepIn K (.ref f38) = true)
    (a39 : PySem.W.nsIn K mainGlobals "law" = some (some (.ref f39))) (l39 : K.lookup f39 = some ⟨oc39, od39, .func (PySem.W.fnOf "law" "law" (defArgs s_law) (defBody s_law) (defScope s_law) .none kV39 dc39 pm39 an39 cd39 ct39), sl39⟩) (c39 : PySem.W.codeIn K cd39 "law" = true) (k39 : PySem.W.keepIn K (.ref f39) = true)
    (zb_isinstance : PySem.W.nsIn K mainGlobals "isinstance" = some none)
    (zb_bool : PySem.W.nsIn K mainGlobals "bool" = some none)
    (zb_int : PySem.W.nsIn K mainGlobals "int" = some none)
    (zb_all : PySem.W.nsIn K mainGlobals "all" = some none)
    (zb_len : PySem.W.nsIn K mainGlobals "len" = some none)
    (zb_tuple : PySem.W.nsIn K mainGlobals "tuple" = some none)
    (zb_zip : PySem.W.nsIn K mainGlobals "zip" = some none)
    (zb_set : PySem.W.nsIn K mainGlobals "set" = some none)
    (zb_enumerate : PySem.W.nsIn K mainGlobals "enumerate" = some none)
    (zb_min : PySem.W.nsIn K mainGlobals "min" = some none)
    (zb_max : PySem.W.nsIn K mainGlobals "max" = some none)
    (zb_range : PySem.W.nsIn K mainGlobals "range" = some none)
    (zb_any : PySem.W.nsIn K mainGlobals "any" = some none)
    (zb_list : PySem.W.nsIn K mainGlobals "list" = some none)
    (zb_sum : PySem.W.nsIn K mainGlobals "sum" = some none)
    (zb_dict : PySem.W.nsIn K mainGlobals "dict" = some none)
    (zb_sorted : PySem.W.nsIn K mainGlobals "sorted" = some none)
    (zb_repr : PySem.W.nsIn K mainGlobals "repr" = some none)
    {t_MOST_NUMBER : Tok} (zc_MOST_NUMBER : PySem.W.nsIn K mainGlobals "MOST_NUMBER" = some (some (.int (20) t_MOST_NUMBER)))
    {t_MOST_LONG : Tok} (zc_MOST_LONG : PySem.W.nsIn K mainGlobals "MOST_LONG" = some (some (.int (8) t_MOST_LONG)))
    {t_MOST_SUM : Tok} (zc_MOST_SUM : PySem.W.nsIn K mainGlobals "MOST_SUM" = some (some (.int (160) t_MOST_SUM)))
    {p_PARTS : Addr} {dd_PARTS : Option Addr} {n_PARTS : Nat} {sl_PARTS : Array (Option Value)} {t_PARTS_0 t_PARTS_1 t_PARTS_2 t_PARTS_3 t_PARTS_4 t_PARTS_5 t_PARTS_6 t_PARTS_7 t_PARTS_8 : Tok} (zc_PARTS : PySem.W.nsIn K mainGlobals "PARTS" = some (some (.ref p_PARTS))) (zl_PARTS : K.lookup p_PARTS = some ⟨.type "tuple", dd_PARTS, .seq (List.toArray [.str "low" t_PARTS_0, .str "high" t_PARTS_1, .str "few" t_PARTS_2, .str "many" t_PARTS_3, .str "up" t_PARTS_4, .str "down" t_PARTS_5, .str "unlike" t_PARTS_6, .str "from" t_PARTS_7, .str "to" t_PARTS_8]) n_PARTS, sl_PARTS⟩)
    {p_NOTHING : Addr} {dd_NOTHING : Option Addr} {n_NOTHING : Nat} {sl_NOTHING : Array (Option Value)} {t_NOTHING_0 t_NOTHING_1 t_NOTHING_2 t_NOTHING_3 t_NOTHING_7 t_NOTHING_8 : Tok} (zc_NOTHING : PySem.W.nsIn K mainGlobals "NOTHING" = some (some (.ref p_NOTHING))) (zl_NOTHING : K.lookup p_NOTHING = some ⟨.type "tuple", dd_NOTHING, .seq (List.toArray [.int (20) t_NOTHING_0, .int (-20) t_NOTHING_1, .int (8) t_NOTHING_2, .int (0) t_NOTHING_3, .bool true, .bool true, .bool true, .int (160) t_NOTHING_7, .int (-160) t_NOTHING_8]) n_NOTHING, sl_NOTHING⟩)
    (zg_BadRow : PySem.W.nsIn K mainGlobals "BadRow" = some (some (.ref ca.BadRow)))
    (zg_BadKind : PySem.W.nsIn K mainGlobals "BadKind" = some (some (.ref ca.BadKind)))
    (zf_rises : PySem.W.nsIn K mainGlobals "rises" = some (some (.ref ca.f_rises)))
    (zf_falls : PySem.W.nsIn K mainGlobals "falls" = some (some (.ref ca.f_falls)))
    (zf_are_unlike : PySem.W.nsIn K mainGlobals "are_unlike" = some (some (.ref ca.f_are_unlike)))
    (zn : PySem.W.specialIn K (.builtin "object.__class__") "__get__" = some (some (.builtin "getset_descriptor.__get__"))) (zt : PySem.W.takesIn K (.builtin "object.__class__") = some true)
    (yx_BadRow : PySem.W.excIn K ca.BadRow [.type "ValueError", .type "Exception", .type "BaseException", .type "object"] "ValueError.__new__" = true) (yk_BadRow : PySem.W.keepIn K (.ref ca.BadRow) = true) (yb_BadRow : PySem.W.subIn K (.ref ca.BadRow) (.type "BaseException") = some true) (yt_BadRow : PySem.W.typeIn K (.ref ca.BadRow) = some (.type "type")) (yc_BadRow : (PySem.W.clsIn K ca.BadRow).isSome = true) (yhg_BadRow : PySem.W.findIn K (.ref ca.BadRow) "__getattribute__" = some (some (.builtin "BaseException.__getattribute__"))) (yhk_BadRow : PySem.W.findIn K (.ref ca.BadRow) "__getattr__" = some none) (yha_BadRow : PySem.W.findIn K (.ref ca.BadRow) "__class__" = some (some (.builtin "object.__class__"))) (yhm_BadRow : PySem.W.mroIn K ca.BadRow (.type "object") = some true)
    (yx_BadKind : PySem.W.excIn K ca.BadKind [.type "ValueError", .type "Exception", .type "BaseException", .type "object"] "ValueError.__new__" = true) (yk_BadKind : PySem.W.keepIn K (.ref ca.BadKind) = true) (yb_BadKind : PySem.W.subIn K (.ref ca.BadKind) (.type "BaseException") = some true) (yt_BadKind : PySem.W.typeIn K (.ref ca.BadKind) = some (.type "type")) (yc_BadKind : (PySem.W.clsIn K ca.BadKind).isSome = true) (yhg_BadKind : PySem.W.findIn K (.ref ca.BadKind) "__getattribute__" = some (some (.builtin "BaseException.__getattribute__"))) (yhk_BadKind : PySem.W.findIn K (.ref ca.BadKind) "__getattr__" = some none) (yha_BadKind : PySem.W.findIn K (.ref ca.BadKind) "__class__" = some (some (.builtin "object.__class__"))) (yhm_BadKind : PySem.W.mroIn K ca.BadKind (.type "object") = some true)
    : ∃ fd : FuncData, (∀ (s : Shared) (v : Value), BindsTo s fd ⟨[v], []⟩ [("_law_script", v)]) ∧ ∀ base : Heap, K.In base → base.Ns mainGlobals mg → (∀ e ∈ tn ca, LamX.TabB base mg e.2.1 e.2.2) → FnG l.prog w K mg base 10 fa fd ["_law_script"] (spD (theT (tsOf (tn ca))) K FF_lawT) := by
  have e := hfa.symm.trans (PySem.W.mg_of X G a39)
  cases e
  have T : Txt K mg ca := ⟨trivial, PySem.W.mg_none_of X G zb_isinstance, PySem.W.mg_none_of X G zb_bool, PySem.W.mg_none_of X G zb_int, PySem.W.mg_none_of X G zb_all, PySem.W.mg_none_of X G zb_len, PySem.W.mg_none_of X G zb_tuple, PySem.W.mg_none_of X G zb_zip, PySem.W.mg_none_of X G zb_set, PySem.W.mg_none_of X G zb_enumerate, PySem.W.mg_none_of X G zb_min, PySem.W.mg_none_of X G zb_max, PySem.W.mg_none_of X G zb_range, PySem.W.mg_none_of X G zb_any, PySem.W.mg_none_of X G zb_list, PySem.W.mg_none_of X G zb_sum, PySem.W.mg_none_of X G zb_dict, PySem.W.mg_none_of X G zb_sorted, PySem.W.mg_none_of X G zb_repr, ⟨t_MOST_NUMBER, PySem.W.mg_of X G zc_MOST_NUMBER⟩, ⟨t_MOST_LONG, PySem.W.mg_of X G zc_MOST_LONG⟩, ⟨t_MOST_SUM, PySem.W.mg_of X G zc_MOST_SUM⟩, gdat_tup (PySem.W.mg_of X G zc_PARTS) zl_PARTS ((.cons (.str _ _) (.cons (.str _ _) (.cons (.str _ _) (.cons (.str _ _) (.cons (.str _ _) (.cons (.str _ _) (.cons (.str _ _) (.cons (.str _ _) (.cons (.str _ _) .nil)))))))))) (by decide), gdat_tup (PySem.W.mg_of X G zc_NOTHING) zl_NOTHING ((.cons (.int _ _) (.cons (.int _ _) (.cons (.int _ _) (.cons (.int _ _) (.cons (.bl _) (.cons (.bl _) (.cons (.bl _) (.cons (.int _ _) (.cons (.int _ _) .nil)))))))))) (by decide), PySem.W.mg_of X G zg_BadRow, PySem.W.mg_of X G zg_BadKind, PySem.W.mg_of X G zf_rises, PySem.W.mg_of X G zf_falls, PySem.W.mg_of X G zf_are_unlike, ⟨PySem.W.mg_of X G zg_BadRow, yx_BadRow, yk_BadRow, yb_BadRow, yt_BadRow⟩, ⟨yc_BadRow, yhg_BadRow, yhk_BadRow, yb_BadRow, yha_BadRow, zn, zt, yhm_BadRow⟩, ⟨PySem.W.mg_of X G zg_BadKind, yx_BadKind, yk_BadKind, yb_BadKind, yt_BadKind⟩, ⟨yc_BadKind, yhg_BadKind, yhk_BadKind, yb_BadKind, yha_BadKind, zn, zt, yhm_BadKind⟩⟩
  have F0 := fun_mk (st := s_is_whole) l0 c0 k0
  have b0 := F0.binds (ps := ["thing", "least", "most"]) fun _ _ _ _ _ _ us hl => match us, hl with | [_, _, _], _ => rfl
  have F1 := fun_mk (st := s_is_number) l1 c1 k1
  have b1 := F1.binds (ps := ["thing"]) fun _ _ _ _ _ _ us hl => match us, hl with | [_], _ => rfl
  have F2 := fun_mk (st := s_is_row) l2 c2 k2
  have b2 := F2.binds (ps := ["thing"]) fun _ _ _ _ _ _ us hl => match us, hl with | [_], _ => rfl
  have F3 := fun_mk (st := s_rises) l3 c3 k3
  have b3 := F3.binds (ps := ["row"]) fun _ _ _ _ _ _ us hl => match us, hl with | [_], _ => rfl
  have F4 := fun_mk (st := s_falls) l4 c4 k4
  have b4 := F4.binds (ps := ["row"]) fun _ _ _ _ _ _ us hl => match us, hl with | [_], _ => rfl
  have F5 := fun_mk (st := s_are_unlike) l5 c5 k5
  have b5 := F5.binds (ps := ["row"]) fun _ _ _ _ _ _ us hl => match us, hl with | [_], _ => rfl
  have F6 := fun_mk (st := s_is_part) l6 c6 k6
  have b6 := F6.binds (ps := ["at", "thing"]) fun _ _ _ _ _ _ us hl => match us, hl with | [_, _], _ => rfl
  have F7 := fun_mk (st := s_is_kind) l7 c7 k7
  have b7 := F7.binds (ps := ["thing"]) fun _ _ _ _ _ _ us hl => match us, hl with | [_], _ => rfl
  have F8 := fun_mk (st := s_need_kind) l8 c8 k8
  have b8 := F8.binds (ps := ["thing"]) fun _ _ _ _ _ _ us hl => match us, hl with | [_], _ => rfl
  have F9 := fun_mk (st := s_window) l9 c9 k9
  have b9 := F9.binds (ps := ["least", "most"]) fun _ _ _ _ _ _ us hl => match us, hl with | [_, _], _ => rfl
  have F10 := fun_mk (st := s_moved) l10 c10 k10
  have b10 := F10.binds (ps := ["bits", "number"]) fun _ _ _ _ _ _ us hl => match us, hl with | [_, _], _ => rfl
  have F11 := fun_mk (st := s_level_sums) l11 c11 k11
  have b11 := F11.binds (ps := ["numbers", "most", "is_unlike"]) fun _ _ _ _ _ _ us hl => match us, hl with | [_, _, _], _ => rfl
  have F12 := fun_mk (st := s_all_sums) l12 c12 k12
  have b12 := F12.binds (ps := ["numbers", "most", "is_level", "is_unlike"]) fun _ _ _ _ _ _ us hl => match us, hl with | [_, _, _, _], _ => rfl
  have F13 := fun_mk (st := s_sums_of) l13 c13 k13
  have b13 := F13.binds (ps := ["numbers", "many", "is_level", "is_unlike"]) fun _ _ _ _ _ _ us hl => match us, hl with | [_, _, _, _], _ => rfl
  have F14 := fun_mk (st := s_without) l14 c14 k14
  have b14 := F14.binds (ps := ["numbers", "number", "is_unlike"]) fun _ _ _ _ _ _ us hl => match us, hl with | [_, _, _], _ => rfl
  have F15 := fun_mk (st := s_may_stand) l15 c15 k15
  have b15 := F15.binds (ps := ["numbers", "number", "many", "is_level", "is_unlike", "bits"]) fun _ _ _ _ _ _ us hl => match us, hl with | [_, _, _, _, _, _], _ => rfl
  have F16 := fun_mk (st := s_pairs_by) l16 c16 k16
  have b16 := F16.binds (ps := ["numbers", "is_alike"]) fun _ _ _ _ _ _ us hl => match us, hl with | [_, _], _ => rfl
  have F17 := fun_mk (st := s_pair_with) l17 c17 k17
  have b17 := F17.binds (ps := ["numbers", "many", "bits", "is_alike"]) fun _ _ _ _ _ _ us hl => match us, hl with | [_, _, _, _], _ => rfl
  have F18 := fun_mk (st := s_numbers_of) l18 c18 k18
  have b18 := F18.binds (ps := ["kind"]) fun _ _ _ _ _ _ us hl => match us, hl with | [_], _ => rfl
  have F19 := fun_mk (st := s_is_level) l19 c19 k19
  have b19 := F19.binds (ps := ["kind"]) fun _ _ _ _ _ _ us hl => match us, hl with | [_], _ => rfl
  have F20 := fun_mk (st := s_least_sum) l20 c20 k20
  have b20 := F20.binds (ps := ["bits"]) fun _ _ _ _ _ _ us hl => match us, hl with | [_], _ => rfl
  have F21 := fun_mk (st := s_greatest_sum) l21 c21 k21
  have b21 := F21.binds (ps := ["bits"]) fun _ _ _ _ _ _ us hl => match us, hl with | [_], _ => rfl
  have F22 := fun_mk (st := s_counts_of) l22 c22 k22
  have b22 := F22.binds (ps := ["kind"]) fun _ _ _ _ _ _ us hl => match us, hl with | [_], _ => rfl
  have F23 := fun_mk (st := s_stands) l23 c23 k23
  have b23 := F23.binds (ps := ["kind", "counts", "number"]) fun _ _ _ _ _ _ us hl => match us, hl with | [_, _, _], _ => rfl
  have F24 := fun_mk (st := s_ends_of) l24 c24 k24
  have b24 := F24.binds (ps := ["kind", "counts"]) fun _ _ _ _ _ _ us hl => match us, hl with | [_, _], _ => rfl
  have F25 := fun_mk (st := s_has_pair) l25 c25 k25
  have b25 := F25.binds (ps := ["kind", "counts", "is_alike"]) fun _ _ _ _ _ _ us hl => match us, hl with | [_, _, _], _ => rfl
  have F26 := fun_mk (st := s_narrowed) l26 c26 k26
  have b26 := F26.binds (ps := ["kind"]) fun _ _ _ _ _ _ us hl => match us, hl with | [_], _ => rfl
  have F27 := fun_mk (st := s_narrow) l27 c27 k27
  have b27 := F27.binds (ps := ["kind"]) fun _ _ _ _ _ _ us hl => match us, hl with | [_], _ => rfl
  have F28 := fun_mk (st := s_is_nothing) l28 c28 k28
  have b28 := F28.binds (ps := ["kind"]) fun _ _ _ _ _ _ us hl => match us, hl with | [_], _ => rfl
  have F29 := fun_mk (st := s_least_kind) l29 c29 k29
  have b29 := F29.binds (ps := ["rows"]) fun _ _ _ _ _ _ us hl => match us, hl with | [_], _ => rfl
  have F30 := fun_mk (st := s__law_begin) l30 c30 k30
  have b30 := F30.binds (ps := ["_law_script"]) fun _ _ _ _ _ _ us hl => match us, hl with | [_], _ => rfl
  have F31 := fun_mk (st := s__law_mixed) l31 c31 k31
  have b31 := F31.binds (ps := ["_law_cell", "_law_k"]) fun _ _ _ _ _ _ us hl => match us, hl with | [_, _], _ => rfl
  have F32 := fun_mk (st := s__law_next) l32 c32 k32
  have b32 := F32.binds (ps := ["_law_draw", "_law_many"]) fun _ _ _ _ _ _ us hl => match us, hl with | [_, _], _ => rfl
  have F33 := fun_mk (st := s__law_has) l33 c33 k33
  have b33 := F33.binds (ps := ["_law_kind", "_law_row"]) fun _ _ _ _ _ _ us hl => match us, hl with | [_, _], _ => rfl
  have F34 := fun_mk (st := s__law_least) l34 c34 k34
  have b34 := F34.binds (ps := ["_law_rows"]) fun _ _ _ _ _ _ us hl => match us, hl with | [_], _ => rfl
  have F35 := fun_mk (st := s__law_all_rows) l35 c35 k35
  have b35 := F35.binds (ps := ["_law_numbers", "_law_most"]) fun _ _ _ _ _ _ us hl => match us, hl with | [_, _], _ => rfl
  have F36 := fun_mk (st := s__law_pairs) l36 c36 k36
  have b36 := F36.binds (ps := ["_law_some", "_law_others"]) fun _ _ _ _ _ _ us hl => match us, hl with | [_, _], _ => rfl
  have F37 := fun_mk (st := s__law_small) l37 c37 k37
  have b37 := F37.binds (ps := ["_law_draw"]) fun _ _ _ _ _ _ us hl => match us, hl with | [_], _ => rfl
  have F38 := fun_mk (st := s__law_kind_by) l38 c38 k38
  have b38 := F38.binds (ps := ["_law_draw", "_law_numbers", "_law_most"]) fun _ _ _ _ _ _ us hl => match us, hl with | [_, _, _], _ => rfl
  have F39 := fun_mk (st := s_law) l39 c39 k39
  have b39 := F39.binds (ps := ["_law_script"]) fun _ _ _ _ _ _ us hl => match us, hl with | [_], _ => rfl
  refine ⟨PySem.W.fnOf "law" "law" (defArgs s_law) (defBody s_law) (defScope s_law) .none kV39 dc39 pm39 an39 cd39 ct39, fun s v => .of_eq rfl, fun base _ _ tb => ?_⟩
  have q0 : Known l.prog w K mg base (theT (Ts ca)) "is_whole" ["thing", "least", "most"] 1 (FF_is_whole) := ⟨f0, _, ok_is_whole T F0 , PySem.W.mg_of X G a0, k0, b0⟩
  have q3 : Known l.prog w K mg base (theT (Ts ca)) "rises" ["row"] 1 (FF_rises) := ⟨f3, _, ok_rises T F3 , PySem.W.mg_of X G a3, k3, b3⟩
  have q4 : Known l.prog w K mg base (theT (Ts ca)) "falls" ["row"] 1 (FF_falls) := ⟨f4, _, ok_falls T F4 , PySem.W.mg_of X G a4, k4, b4⟩
  have q5 : Known l.prog w K mg base (theT (Ts ca)) "are_unlike" ["row"] 1 (FF_are_unlike) := ⟨f5, _, ok_are_unlike T F5 , PySem.W.mg_of X G a5, k5, b5⟩
  have q9 : Known l.prog w K mg base (theT (Ts ca)) "window" ["least", "most"] 1 (FF_window) := ⟨f9, _, ok_window T F9 , PySem.W.mg_of X G a9, k9, b9⟩
  have q10 : Known l.prog w K mg base (theT (Ts ca)) "moved" ["bits", "number"] 1 (FF_moved) := ⟨f10, _, ok_moved T F10 , PySem.W.mg_of X G a10, k10, b10⟩
  have q14 : Known l.prog w K mg base (theT (Ts ca)) "without" ["numbers", "number", "is_unlike"] 1 (FF_without) := ⟨f14, _, ok_without T F14 , PySem.W.mg_of X G a14, k14, b14⟩
  have q16 : Known l.prog w K mg base (theT (Ts ca)) "pairs_by" ["numbers", "is_alike"] 1 (FF_pairs_by) := ⟨f16, _, ok_pairs_by T F16 , PySem.W.mg_of X G a16, k16, b16⟩
  have q18 : Known l.prog w K mg base (theT (Ts ca)) "numbers_of" ["kind"] 1 (FF_numbers_of) := ⟨f18, _, ok_numbers_of T F18 , PySem.W.mg_of X G a18, k18, b18⟩
  have q19 : Known l.prog w K mg base (theT (Ts ca)) "is_level" ["kind"] 1 (FF_is_level) := ⟨f19, _, ok_is_level T F19 , PySem.W.mg_of X G a19, k19, b19⟩
  have q20 : Known l.prog w K mg base (theT (Ts ca)) "least_sum" ["bits"] 1 (FF_least_sum) := ⟨f20, _, ok_least_sum T F20 , PySem.W.mg_of X G a20, k20, b20⟩
  have q21 : Known l.prog w K mg base (theT (Ts ca)) "greatest_sum" ["bits"] 1 (FF_greatest_sum) := ⟨f21, _, ok_greatest_sum T F21 , PySem.W.mg_of X G a21, k21, b21⟩
  have q30 : Known l.prog w K mg base (theT (Ts ca)) "_law_begin" ["_law_script"] 1 (FF_begin) := ⟨f30, _, imp_fr (Ts := Ts ca) (ok__law_begin T F30) begin_fr, PySem.W.mg_of X G a30, k30, b30⟩
  have p31 : Known l.prog w K mg base (theS ((Ts ca).map (·.1))) "_law_mixed" ["_law_cell", "_law_k"] 1 FF__law_mixed := ⟨f31, _, ok__law_mixed T F31, PySem.W.mg_of X G a31, k31, b31⟩
  have q33 : KnownG l.prog w K mg base (theT (Ts ca)) "_law_has" ["_law_kind", "_law_row"] 1 (FF__law_has) := ⟨f33, _, ok__law_has T F33 , PySem.W.mg_of X G a33, k33, b33⟩
  have q34 : KnownG l.prog w K mg base (theT (Ts ca)) "_law_least" ["_law_rows"] 1 (FF__law_least) := ⟨f34, _, ok__law_least T F34 , PySem.W.mg_of X G a34, k34, b34⟩
  have q36 : KnownG l.prog w K mg base (theT (Ts ca)) "_law_pairs" ["_law_some", "_law_others"] 1 (FF__law_pairs) := ⟨f36, _, ok__law_pairs T F36 , PySem.W.mg_of X G a36, k36, b36⟩
  have q1 : Known l.prog w K mg base (theT (Ts ca)) "is_number" ["thing"] 2 (FF_is_number) := ⟨f1, _, ok_is_number T F1 q0, PySem.W.mg_of X G a1, k1, b1⟩
  have q11 : Known l.prog w K mg base (theT (Ts ca)) "level_sums" ["numbers", "most", "is_unlike"] 2 (FF_level_sums) := ⟨f11, _, ok_level_sums T F11 q9, PySem.W.mg_of X G a11, k11, b11⟩
  have q32 : Known l.prog w K mg base (theT (Ts ca)) "_law_next" ["_law_draw", "_law_many"] 2 (FF_next) := ⟨f32, _, imp_fr (Ts := Ts ca) (ok__law_next T F32 p31) next_fr, PySem.W.mg_of X G a32, k32, b32⟩
  have q35 : KnownG l.prog w K mg base (theT (Ts ca)) "_law_all_rows" ["_law_numbers", "_law_most"] 2 (FF__law_all_rows) := ⟨f35, _, ok__law_all_rows T F35 q36, PySem.W.mg_of X G a35, k35, b35⟩
  have q2 : Known l.prog w K mg base (theT (Ts ca)) "is_row" ["thing"] 3 (FF_is_row) := ⟨f2, _, ok_is_row T F2 q1, PySem.W.mg_of X G a2, k2, b2⟩
  have q6 : Known l.prog w K mg base (theT (Ts ca)) "is_part" ["at", "thing"] 3 (FF_is_part) := ⟨f6, _, ok_is_part T F6 q1 q0, PySem.W.mg_of X G a6, k6, b6⟩
  have q12 : Known l.prog w K mg base (theT (Ts ca)) "all_sums" ["numbers", "most", "is_level", "is_unlike"] 3 (FF_all_sums) := ⟨f12, _, ok_all_sums T F12 q11 q9 q10, PySem.W.mg_of X G a12, k12, b12⟩
  have q37 : KnownG l.prog w K mg base (theT (Ts ca)) "_law_small" ["_law_draw"] 3 (FF__law_small) := ⟨f37, _, ok__law_small T F37 q32, PySem.W.mg_of X G a37, k37, b37⟩
  have q38 : KnownG l.prog w K mg base (theT (Ts ca)) "_law_kind_by" ["_law_draw", "_law_numbers", "_law_most"] 3 (FF__law_kind_by) := ⟨f38, _, ok__law_kind_by T F38 q32, PySem.W.mg_of X G a38, k38, b38⟩
  have q7 : Known l.prog w K mg base (theT (Ts ca)) "is_kind" ["thing"] 4 (FF_is_kind) := ⟨f7, _, ok_is_kind T F7 q6, PySem.W.mg_of X G a7, k7, b7⟩
  have q13 : Known l.prog w K mg base (theT (Ts ca)) "sums_of" ["numbers", "many", "is_level", "is_unlike"] 4 (FF_sums_of) := ⟨f13, _, ok_sums_of T F13 q12, PySem.W.mg_of X G a13, k13, b13⟩
  have q22 : Known l.prog w K mg base (theT (Ts ca)) "counts_of" ["kind"] 4 (FF_counts_of) := ⟨f22, _, ok_counts_of T F22 q9 q12 q19 q18, PySem.W.mg_of X G a22, k22, b22⟩
  have q29 : KnownX l.prog w K mg base (theT (Ts ca)) "least_kind" ["rows"] 4 (FF_least_kind ca) := ⟨f29, _, ok_least_kind T F29 q2 q3 q4 q5, PySem.W.mg_of X G a29, k29, b29⟩
  have q8 : KnownX l.prog w K mg base (theT (Ts ca)) "need_kind" ["thing"] 5 (FF_need_kind ca) := ⟨f8, _, ok_need_kind T F8 q7, PySem.W.mg_of X G a8, k8, b8⟩
  have q15 : Known l.prog w K mg base (theT (Ts ca)) "may_stand" ["numbers", "number", "many", "is_level", "is_unlike", "bits"] 5 (FF_may_stand) := ⟨f15, _, ok_may_stand T F15 q13 q14 q10, PySem.W.mg_of X G a15, k15, b15⟩
  have q17 : Known l.prog w K mg base (theT (Ts ca)) "pair_with" ["numbers", "many", "bits", "is_alike"] 5 (FF_pair_with) := ⟨f17, _, ok_pair_with T F17 q13 q16 q10, PySem.W.mg_of X G a17, k17, b17⟩
  have q23 : Known l.prog w K mg base (theT (Ts ca)) "stands" ["kind", "counts", "number"] 6 (FF_stands) := ⟨f23, _, ok_stands T F23 q18 q15 q19, PySem.W.mg_of X G a23, k23, b23⟩
  have q25 : Known l.prog w K mg base (theT (Ts ca)) "has_pair" ["kind", "counts", "is_alike"] 6 (FF_has_pair) := ⟨f25, _, ok_has_pair T F25 q19 q17 q18, PySem.W.mg_of X G a25, k25, b25⟩
  have q28 : KnownX l.prog w K mg base (theT (Ts ca)) "is_nothing" ["kind"] 6 (FF_is_nothing ca) := ⟨f28, _, ok_is_nothing T F28 q8 q22, PySem.W.mg_of X G a28, k28, b28⟩
  have q24 : Known l.prog w K mg base (theT (Ts ca)) "ends_of" ["kind", "counts"] 7 (FF_ends_of) := ⟨f24, _, ok_ends_of T F24 q18 q23, PySem.W.mg_of X G a24, k24, b24⟩
  have q26 : Known l.prog w K mg base (theT (Ts ca)) "narrowed" ["kind"] 8 (FF_narrowed) := ⟨f26, _, ok_narrowed T F26 q22 q25 q24 q21 q20, PySem.W.mg_of X G a26, k26, b26⟩
  have q27 : KnownX l.prog w K mg base (theT (Ts ca)) "narrow" ["kind"] 9 (FF_narrow ca) := ⟨f27, _, ok_narrow T F27 q8 q26, PySem.W.mg_of X G a27, k27, b27⟩
  exact ok_law T F39 q30 q37 q35 q38 q33 q34 q28 q27 q32 q29
theorem walk_ca {l : PySem.W.OpenLaw} {k : Nat} {q : Program} {loose : List Str} {XP : (Str → Option Value) → Heap → Prop} {YP : World → Heap → Prop} {d : DefRec} {K : Params → PySem.W.Frag} {x : Str} {cc0 cc1 cc2 cc3 cc4 : Addr}
    (hn : l.most = some 63) (hdf : d.params.defaults = []) (hr : Room k callerA)
    (hY : ∀ (w : World) (h : Heap), YP w h → (K w.params).In h) (hTn : ∀ (w : World), ∀ e ∈ tn ⟨(), cc0, cc1, cc2, cc3, cc4⟩, TabK (K w.params) e) (hTab : ∀ (w : World) (h : Heap), YP w h → ∀ e ∈ tn ⟨(), cc0, cc1, cc2, cc3, cc4⟩, h.get? e.2.2 = some (PySem.W.tabObj #[]))
    (F : ∀ (w : World) (mg : Str → Option Value) (fa : Addr) (h : Heap), (K w.params).In h → h.Ns mainGlobals mg → mg d.name = some (.ref fa) →
      ∃ fd : FuncData, (∀ (s : Shared) (u : Value), BindsTo s fd ⟨[u], []⟩ [(x, u)]) ∧
        ∀ base : Heap, (K w.params).In base → base.Ns mainGlobals mg → (∀ e ∈ tn ⟨(), cc0, cc1, cc2, cc3, cc4⟩, LamX.TabB base mg e.2.1 e.2.2) → FnG l.prog w (K w.params) mg base k fa fd [x] (spD (theT (tsOf (tn ⟨(), cc0, cc1, cc2, cc3, cc4⟩))) (K w.params) FF_lawT))
    : PySem.W.WalkO q loose XP YP l.row.toRowW d [] (fun f vs => PySem.call f vs) :=
  walk_ofT (Tn := tn ⟨(), cc0, cc1, cc2, cc3, cc4⟩) hn hdf hr hY hTn hTab F


end Z
open PySem PySem.W PyProof.Rows
set_option maxHeartbeats 0 in
theorem PySem.Challenge.cw_rowkinds_k08_narrow_by_all_rows_holds : PySem.Challenge.rw_rowkinds_k08_narrow_by_all_rows.Holds := by
  w_on; o_law; k_head; (case hw => w_witness2)
  k_fill
  refine' Z.walk_ca (l := PySem.Challenge.rw_rowkinds_k08_narrow_by_all_rows) (k := 10) (x := "_law_script") rfl rfl ⟨rfl, by decide, by decide⟩ (fun w h Y => by first | exact PySem.W.kIn_of Y | exact PySem.W.km_in_of Y) ?T ?Y ?F
  case Y =>
    intro w h Y e he
    simp only [Z.tn, List.mem_cons, List.not_mem_nil, or_false] at he
    all_goals cases he
  case F =>
    intro w mg fa h KX G hmg
    refine' Z.all_mk (ca := _) KX G hmg ?a0 ?l0 ?c0 ?k0 ?a1 ?l1 ?c1 ?k1 ?a2 ?l2 ?c2 ?k2 ?a3 ?l3 ?c3 ?k3 ?a4 ?l4 ?c4 ?k4 ?a5 ?l5 ?c5 ?k5 ?a6 ?l6 ?c6 ?k6 ?a7 ?l7 ?c7 ?k7 ?a8 ?l8 ?c8 ?k8 ?a9 ?l9 ?c9 ?k9 ?a10 ?l10 ?c10 ?k10 ?a11 ?l11 ?c11 ?k11 ?a12 ?l12 ?c12 ?k12 ?a13 ?l13 ?c13 ?k13 ?a14 ?l14 ?c14 ?k14 ?a15 ?l15 ?c15 ?k15 ?a16 ?l16 ?c16 ?k16 ?a17 ?l17 ?c17 ?k17 ?a18 ?l18 ?c18 ?k18 ?a19 ?l19 ?c19 ?k19 ?a20 ?l20 ?c20 ?k20 ?a21 ?l21 ?c21 ?k21 ?a22 ?l22 ?c22 ?k22 ?a23 ?l23 ?c23 ?k23 ?a24 ?l24 ?c24 ?k24 ?a25 ?l25 ?c25 ?k25 ?a26 ?l26 ?c26 ?k26 ?a27 ?l27 ?c27 ?k27 ?a28 ?l28 ?c28 ?k28 ?a29 ?l29 ?c29 ?k29 ?a30 ?l30 ?c30 ?k30 ?a31 ?l31 ?c31 ?k31 ?a32 ?l32 ?c32 ?k32 ?a33 ?l33 ?c33 ?k33 ?a34 ?l34 ?c34 ?k34 ?a35 ?l35 ?c35 ?k35 ?a36 ?l36 ?c36 ?k36 ?a37 ?l37 ?c37 ?k37 ?a38 ?l38 ?c38 ?k38 ?a39 ?l39 ?c39 ?k39 ?zb_isinstance ?zb_bool ?zb_int ?zb_all ?zb_len ?zb_tuple ?zb_zip ?zb_set ?zb_enumerate ?zb_min ?zb_max ?zb_range ?zb_any ?zb_list ?zb_sum ?zb_dict ?zb_sorted ?zb_repr ?zc_MOST_NUMBER ?zc_MOST_LONG ?zc_MOST_SUM ?zc_PARTS ?zl_PARTS ?zc_NOTHING ?zl_NOTHING ?zg_BadRow ?zg_BadKind ?zf_rises ?zf_falls ?zf_are_unlike ?zn ?zt ?yx_BadRow ?yk_BadRow ?yb_BadRow ?yt_BadRow ?yc_BadRow ?yhg_BadRow ?yhk_BadRow ?yha_BadRow ?yhm_BadRow ?yx_BadKind ?yk_BadKind ?yb_BadKind ?yt_BadKind ?yc_BadKind ?yhg_BadKind ?yhk_BadKind ?yha_BadKind ?yhm_BadKind
    (case a0 => k_is)
    (case l0 => k_is)
    (case c0 => k_is)
    (case k0 => k_is)
    (case a1 => k_is)
    (case l1 => k_is)
    (case c1 => k_is)
    (case k1 => k_is)
    (case a2 => k_is)
    (case l2 => k_is)
    (case c2 => k_is)
    (case k2 => k_is)
    (case a3 => k_is)
    (case l3 => k_is)
    (case c3 => k_is)
    (case k3 => k_is)
    (case a4 => k_is)
    (case l4 => k_is)
    (case c4 => k_is)
    (case k4 => k_is)
    (case a5 => k_is)
    (case l5 => k_is)
    (case c5 => k_is)
    (case k5 => k_is)
    (case a6 => k_is)
    (case l6 => k_is)
    (case c6 => k_is)
    (case k6 => k_is)
    (case a7 => k_is)
    (case l7 => k_is)
    (case c7 => k_is)
    (case k7 => k_is)
    (case a8 => k_is)
    (case l8 => k_is)
    (case c8 => k_is)
    (case k8 => k_is)
    (case a9 => k_is)
    (case l9 => k_is)
    (case c9 => k_is)
    (case k9 => k_is)
    (case a10 => k_is)
    (case l10 => k_is)
    (case c10 => k_is)
    (case k10 => k_is)
    (case a11 => k_is)
    (case l11 => k_is)
    (case c11 => k_is)
    (case k11 => k_is)
    (case a12 => k_is)
    (case l12 => k_is)
    (case c12 => k_is)
    (case k12 => k_is)
    (case a13 => k_is)
    (case l13 => k_is)
    (case c13 => k_is)
    (case k13 => k_is)
    (case a14 => k_is)
    (case l14 => k_is)
    (case c14 => k_is)
    (case k14 => k_is)
    (case a15 => k_is)
    (case l15 => k_is)
    (case c15 => k_is)
    (case k15 => k_is)
    (case a16 => k_is)
    (case l16 => k_is)
    (case c16 => k_is)
    (case k16 => k_is)
    (case a17 => k_is)
    (case l17 => k_is)
    (case c17 => k_is)
    (case k17 => k_is)
    (case a18 => k_is)
    (case l18 => k_is)
    (case c18 => k_is)
    (case k18 => k_is)
    (case a19 => k_is)
    (case l19 => k_is)
    (case c19 => k_is)
    (case k19 => k_is)
    (case a20 => k_is)
    (case l20 => k_is)
    (case c20 => k_is)
    (case k20 => k_is)
    (case a21 => k_is)
    (case l21 => k_is)
    (case c21 => k_is)
    (case k21 => k_is)
    (case a22 => k_is)
    (case l22 => k_is)
    (case c22 => k_is)
    (case k22 => k_is)
    (case a23 => k_is)
    (case l23 => k_is)
    (case c23 => k_is)
    (case k23 => k_is)
    (case a24 => k_is)
    (case l24 => k_is)
    (case c24 => k_is)
    (case k24 => k_is)
    (case a25 => k_is)
    (case l25 => k_is)
    (case c25 => k_is)
    (case k25 => k_is)
    (case a26 => k_is)
    (case l26 => k_is)
    (case c26 => k_is)
    (case k26 => k_is)
    (case a27 => k_is)
    (case l27 => k_is)
    (case c27 => k_is)
    (case k27 => k_is)
    (case a28 => k_is)
    (case l28 => k_is)
    (case c28 => k_is)
    (case k28 => k_is)
    (case a29 => k_is)
    (case l29 => k_is)
    (case c29 => k_is)
    (case k29 => k_is)
    (case a30 => k_is)
    (case l30 => k_is)
    (case c30 => k_is)
    (case k30 => k_is)
    (case a31 => k_is)
    (case l31 => k_is)
    (case c31 => k_is)
    (case k31 => k_is)
    (case a32 => k_is)
    (case l32 => k_is)
    (case c32 => k_is)
    (case k32 => k_is)
    (case a33 => k_is)
    (case l33 => k_is)
    (case c33 => k_is)
    (case k33 => k_is)
    (case a34 => k_is)
    (case l34 => k_is)
    (case c34 => k_is)
    (case k34 => k_is)
    (case a35 => k_is)
    (case l35 => k_is)
    (case c35 => k_is)
    (case k35 => k_is)
    (case a36 => k_is)
    (case l36 => k_is)
    (case c36 => k_is)
    (case k36 => k_is)
    (case a37 => k_is)
    (case l37 => k_is)
    (case c37 => k_is)
    (case k37 => k_is)
    (case a38 => k_is)
    (case l38 => k_is)
    (case c38 => k_is)
    (case k38 => k_is)
    (case a39 => k_is)
    (case l39 => k_is)
    (case c39 => k_is)
    (case k39 => k_is)
    (case zb_isinstance => k_is)
    (case zb_bool => k_is)
    (case zb_int => k_is)
    (case zb_all => k_is)
    (case zb_len => k_is)
    (case zb_tuple => k_is)
    (case zb_zip => k_is)
    (case zb_set => k_is)
    (case zb_enumerate => k_is)
    (case zb_min => k_is)
    (case zb_max => k_is)
    (case zb_range => k_is)
    (case zb_any => k_is)
    (case zb_list => k_is)
    (case zb_sum => k_is)
    (case zb_dict => k_is)
    (case zb_sorted => k_is)
    (case zb_repr => k_is)
    (case zc_MOST_NUMBER => k_is)
    (case zc_MOST_LONG => k_is)
    (case zc_MOST_SUM => k_is)
    (case zc_PARTS => k_is)
    (case zl_PARTS => k_is)
    (case zc_NOTHING => k_is)
    (case zl_NOTHING => k_is)
    (case zg_BadRow => k_is)
    (case zg_BadKind => k_is)
    (case zf_rises => k_is)
    (case zf_falls => k_is)
    (case zf_are_unlike => k_is)
    (case zn => k_is)
    (case zt => k_is)
    (case yx_BadRow => kernel_rfl)
    (case yk_BadRow => k_is)
    (case yb_BadRow => k_is)
    (case yt_BadRow => k_is)
    (case yc_BadRow => kernel_rfl)
    (case yhg_BadRow => k_is)
    (case yhk_BadRow => k_is)
    (case yha_BadRow => k_is)
    (case yhm_BadRow => k_is)
    (case yx_BadKind => kernel_rfl)
    (case yk_BadKind => k_is)
    (case yb_BadKind => k_is)
    (case yt_BadKind => k_is)
    (case yc_BadKind => kernel_rfl)
    (case yhg_BadKind => k_is)
    (case yhk_BadKind => k_is)
    (case yha_BadKind => k_is)
    (case yhm_BadKind => k_is)
  case T =>
    intro w e he
    simp only [Z.tn, List.mem_cons, List.not_mem_nil, or_false] at he
    all_goals cases he

