import PyProof.Rows.All
import Wide.All
import OpenK.AllK
import Wide.FinOn
import HandS.ForMost
import HandS.ForExc
import HandS.Defaults
import HandS.Flow
import HandS.IsInst
import HandS.Walk
import HandS.Deep
import HandS.TupAny
import HandS.TupMul
import HandS.Conv
import HandS.HeadHook1
import HandS.CallSlots
import KE.GoesMore
import KE.GoesZip
import KE.GoesEnum
import HandS.ExcIs
import HandS.ExcField
import KE.DataFind
import KE.SortData
import HandS.Text
import HandS.FStr
import HandS.Head0
import HandS.Head1
import HandS.Head2
import HandS.HeadEnd
import HandS.HeadHook2
import HandS.Set
import HandS.Strs
import HandS.SetBool
import HandS.SetFor
import HandS.Style
import HandS.Dict
import KE.KDictKeyed
import KE.KDictSum
import HandS.TryMany
import HandS.Replace
import HandS.ExcInit
import PySem.Challenge.RW_openhall_k23_refusals_stand_apart
set_option Elab.async false
set_option linter.all false
set_option maxRecDepth 100000
set_option maxHeartbeats 0
namespace L2
open PySem PySem.Spec PyProof.Rows
def SqF (K : PySem.W.Frag) (H : Hp) (a : Addr) (xs : List V) : Prop :=
  (∃ o, H a = some (.frz o (.lst xs))) ∨
    ∃ (o : Obj) (its : Array Value) (n : Nat), K.lookup a = some o ∧ o.cls = .type "list" ∧ o.dict = none ∧ o.data = .seq its n ∧ its.size ≤ sizeLine ∧ Vals xs its.toList
theorem SqF.l {K : PySem.W.Frag} {H : Hp} {a : Addr} {xs : List V} (h : SqF K H a xs) : SqL K H a xs := h.imp (fun h => .inr h) id
mutual
inductive Rp (K : PySem.W.Frag) (H : Hp) : V → PyData → Prop
  | non : Rp K H .non .none
  | bl (b : Bool) : Rp K H (.bl b) (.bool b)
  | int (i : Int) : Rp K H (.int i) (.int i)
  | str (x : Str) : Rp K H (.str x) (.str x)
  | lst {a : Addr} {xs : List V} {ds : List PyData} : Rd H a (.lst xs) → RpAll K H xs ds → Rp K H (.ref a) (.list ds)
  | tup {a : Addr} {xs : List V} {ds : List PyData} : SqT K H a xs → RpAll K H xs ds → Rp K H (.ref a) (.tuple ds)
  | scr {a : Addr} {ns : List Int} : SqF K H a (ns.map V.int) → Rp K H (.ref a) (.dict (ns.map fun n => (.int n, .none)))
inductive RpAll (K : PySem.W.Frag) (H : Hp) : List V → List PyData → Prop
  | nil : RpAll K H [] []
  | cons {v : V} {vs : List V} {d : PyData} {ds : List PyData} : Rp K H v d → RpAll K H vs ds → RpAll K H (v :: vs) (d :: ds)
end
theorem Rd.mono {H H' : Hp} {a : Addr} {u : HO} (s : Same H H') (h : Rd H a u) : Rd H' a u := by
  rcases h with h | ⟨o, h⟩
  · exact .inl (s _ _ h)
  · exact .inr ⟨o, s _ _ h⟩
theorem SqT.mono {K : PySem.W.Frag} {H H' : Hp} {a : Addr} {xs : List V} (s : Same H H') (h : SqT K H a xs) : SqT K H' a xs := by
  rcases h with (h | ⟨o, h⟩) | h
  · exact .inl (.inl (s _ _ h))
  · exact .inl (.inr ⟨o, s _ _ h⟩)
  · exact .inr h
mutual
theorem Rp.mono {K : PySem.W.Frag} {H H' : Hp} (s : Same H H') : ∀ {v : V} {d : PyData}, Rp K H v d → Rp K H' v d
  | _, _, .non => .non
  | _, _, .bl b => .bl b
  | _, _, .int i => .int i
  | _, _, .str x => .str x
  | _, _, .lst h ha => .lst (Rd.mono s h) (RpAll.mono s ha)
  | _, _, .tup h ha => .tup (SqT.mono s h) (RpAll.mono s ha)
  | _, _, .scr h => .scr (h.imp (fun ⟨o, e⟩ => ⟨o, s _ _ e⟩) id)
theorem RpAll.mono {K : PySem.W.Frag} {H H' : Hp} (s : Same H H') : ∀ {vs : List V} {ds : List PyData}, RpAll K H vs ds → RpAll K H' vs ds
  | _, _, .nil => .nil
  | _, _, .cons h t => .cons (Rp.mono s h) (RpAll.mono s t)
end
section
variable {K : PySem.W.Frag} {H : Hp}
theorem RpAll.length : ∀ {vs : List V} {ds : List PyData}, RpAll K H vs ds → vs.length = ds.length
  | _, _, .nil => rfl
  | _, _, .cons _ t => by simp [RpAll.length t]
theorem RpAll.get : ∀ {vs : List V} {ds : List PyData} {i : Nat} {v : V}, RpAll K H vs ds → vs[i]? = some v → ∃ d, ds[i]? = some d ∧ Rp K H v d
  | _, _, 0, _, .cons h _, e => by simp at e; subst e; exact ⟨_, rfl, h⟩
  | _, _, i + 1, v, .cons _ t, e => by simpa using RpAll.get (i := i) (v := v) t (by simpa using e)
theorem RpAll.getD : ∀ {vs : List V} {ds : List PyData} {i : Nat} {d : PyData}, RpAll K H vs ds → ds[i]? = some d → ∃ v, vs[i]? = some v ∧ Rp K H v d
  | _, _, 0, _, .cons h _, e => by simp at e; subst e; exact ⟨_, rfl, h⟩
  | _, _, i + 1, d, .cons _ t, e => by simpa using RpAll.getD (i := i) (d := d) t (by simpa using e)
theorem RpAll.split : ∀ {ds es : List PyData} {vs : List V}, RpAll K H vs (ds ++ es) → ∃ us ws, vs = us ++ ws ∧ RpAll K H us ds ∧ RpAll K H ws es
  | [], _, _, h => ⟨[], _, rfl, .nil, h⟩
  | d :: ds, es, _, .cons h t => by
    obtain ⟨us, ws, rfl, a, b⟩ := RpAll.split (ds := ds) (es := es) t
    exact ⟨_ :: us, ws, rfl, .cons h a, b⟩
end
end L2
namespace DL
open PySem PySem.Spec L2
abbrev D := PyData
open Classical in
noncomputable def off (p : Addr → Prop) (H : Hp) : Hp := fun a => if p a then none else H a
theorem off_pos {p : Addr → Prop} {H : Hp} {a : Addr} (h : p a) : off p H a = none := by unfold off; rw [if_pos h]
theorem off_neg {p : Addr → Prop} {H : Hp} {a : Addr} (h : ¬ p a) : off p H a = H a := by unfold off; rw [if_neg h]
theorem off_some {p : Addr → Prop} {H : Hp} {a : Addr} {o : HO} (h : off p H a = some o) : ¬ p a ∧ H a = some o := by
  by_cases hp : p a
  · rw [off_pos hp] at h; cases h
  · rw [off_neg hp] at h; exact ⟨hp, h⟩
theorem off_mono {p q : Addr → Prop} {H H' : Hp} (hq : ∀ a o, H a = some o → q a → p a) (h : ∀ a o, ¬ p a → H a = some o → H' a = some o) : Same (off p H) (off q H') := fun a o e => by
  obtain ⟨n, e⟩ := off_some e
  rw [off_neg (fun z => n (hq a o e z))]
  exact h a o n e
def Fix : HO → Prop
  | .tup _ => True
  | .frz _ _ => True
  | _ => False
structure Wd where
  foot : Addr → Prop
  J : Hp → Prop
  exa : Addr
  there : ∀ H a, J H → foot a → H a ≠ none
  stable : ∀ H H', J H → (∀ a u, Fix u → H a = some u → H' a = some u) → (∀ a o, foot a → H a = some o → H' a = some o) → J H'
def Wd.nil : Wd := ⟨fun _ => False, fun _ => True, 0, fun _ _ _ h => h.elim, fun _ _ _ _ _ => trivial⟩
def Wd.add (W : Wd) (q : Addr → Prop) (F : Hp) (hq : ∀ a, q a → F a ≠ none) : Wd where
  foot := fun a => W.foot a ∨ q a
  J := fun H => W.J H ∧ ∀ a, q a → H a = F a
  exa := W.exa
  there := fun H a ⟨j, h⟩ e => by
    rcases e with e | e
    · exact W.there H a j e
    · rw [h a e]; exact hq a e
  stable := fun H H' ⟨j, h⟩ ht hf => ⟨W.stable H H' j ht fun a o e => hf a o (.inl e), fun a e => by
    have z := h a e
    cases q' : F a with
    | none => exact absurd q' (hq a e)
    | some o => rw [q'] at z; exact hf a o (.inr e) z⟩
def Rw (W : Wd) (H H' : Hp) : Prop := ∀ a o, ¬ W.foot a → H a = some o → H' a = some o
theorem Rw.of {W : Wd} {H H' : Hp} (s : Same H H') : Rw W H H' := fun a o _ e => s a o e
inductive Cel where
  | un
  | sh (d : D)
  | ow (ds : List D)
  | op (v : V)
  | exn
abbrev Ro := List Cel
def isOw (σ : St) (ρ : Ro) (a : Addr) : Prop := ∃ (i : Nat) (ds : List D), ρ[i]? = some (.ow ds) ∧ σ[i]? = some (some (.ref a))
noncomputable def vw (W : Wd) (σ : St) (ρ : Ro) (H : Hp) : Hp := off (fun a => W.foot a ∨ isOw σ ρ a) H
structure SD (K : PySem.W.Frag) (W : Wd) (σ : St) (ρ : Ro) (H : Hp) : Prop where
  j : W.J H
  sh : ∀ (i : Nat) d, ρ[i]? = some (.sh d) → ∃ v, σ[i]? = some (some v) ∧ Rp K (vw W σ ρ H) v d
  ow : ∀ (i : Nat) ds, ρ[i]? = some (.ow ds) → ∃ a xs, σ[i]? = some (some (.ref a)) ∧ H a = some (.lst xs) ∧ RpAll K (vw W σ ρ H) xs ds ∧ ¬ W.foot a
  inj : ∀ (i j : Nat) ds es a, ρ[i]? = some (.ow ds) → ρ[j]? = some (.ow es) → σ[i]? = some (some (.ref a)) → σ[j]? = some (some (.ref a)) → i = j
  op : ∀ (i : Nat) v, ρ[i]? = some (.op v) → σ[i]? = some (some v)
  exn : ∀ (i : Nat), ρ[i]? = some .exn → σ[i]? = some (some (.ref W.exa))
  len : ρ.length = σ.length
def Wd.exc (W : Wd) (a : Addr) : Wd := { W with exa := a }
def CN (W : Wd) : Prop := ∀ H b u, W.J H → W.foot b → H b = some u → ¬ Fix u
structure CtxOk (C : Wd → Prop) : Prop where
  nf : ∀ W, C W → CN W
  add : ∀ W q F hq, C W → (∀ a, q a → ¬ W.foot a) → (∀ a u, q a → F a = some u → ¬ Fix u) → C (W.add q F hq)
structure CtxEx (C : Wd → Prop) : Prop where
  ok : CtxOk C
  exc : ∀ W a, C W → C (W.exc a)
theorem CtxOk.all : CtxOk CN := ⟨fun _ c => c, fun W q F hq c hn ht H b u hj hb e => hb.elim (fun z => c H b u hj.1 z e) fun z => ht b u z (by rw [← hj.2 b z]; exact e)⟩
theorem CtxEx.all : CtxEx CN := ⟨.all, fun _ _ c => c⟩
section
variable {X : Cx} {C : Wd → Prop} {a b : Expr} {f f' : Ro → Option D} {g : D → D → Option D} {pos : Pos}
theorem OpR.imp {F : Value → Value → Sem Value} {r r' : R2} (h : OpR X F r) (hi : ∀ x y H Q, r' x y H Q → r x y H Q) : OpR X F r' := fun pins s σ H x y v u Q I rx ry q => h pins s σ H x y v u Q I rx ry (hi _ _ _ _ q)
end
end DL
namespace DL
open PySem PySem.Spec L2
section
variable {X : Cx} {C : Wd → Prop} {a b c e : Expr} {f g f' : Ro → Option D} {t u : Ro → Option Bool} {pos : Pos} {rest : List Expr}
theorem IxR.imp {r r' : R2} (h : IxR X r) (hi : ∀ x y H Q, r' x y H Q → r x y H Q) : IxR X r' := fun value slice pins s σ H x y v u Q I rx ry q hs => h value slice pins s σ H x y v u Q I rx ry (hi _ _ _ _ q) hs
end
end DL
namespace DL
open PySem PySem.Spec L2
section
variable {X : Cx} {C : Wd → Prop} {a b c e : Expr} {f g f' : Ro → Option D} {pos p2 : Pos}
theorem CallR.imp {f : Value} {r r' : List V → Hp → VK → Prop} (h : CallR X f r) (hi : ∀ xs H Q, r' xs H Q → r xs H Q) : CallR X f r' := fun pins s σ H xs us Q I rs q => h pins s σ H xs us Q I rs (hi _ _ _ q)
def un (g : D → Option D) (f : Ro → Option D) : Ro → Option D := fun ρ => (f ρ).bind g
end
end DL
namespace DL
open PySem PySem.Spec L2
section
variable {X : Cx} {C : Wd → Prop} {a b c e : Expr} {f g f' : Ro → Option D} {pos p p2 : Pos}
structure Exn where
  cls : Str
  line : Option D := none
inductive Res where
  | ok (d : D)
  | exc (x : Exn)
def ExcAt (K : PySem.W.Frag) (W : Wd) (x : Exn) (H : Hp) (E : XK) : Prop := match x.line with
  | none => E (.ref (He.ga K x.cls)) none H
  | some d => ∀ dx v, H dx = some (.xd [("line", v)]) → ¬ W.foot dx → Rp K (off W.foot H) v d → E (.ref (He.ga K x.cls)) (some dx) H
def spD (K : PySem.W.Frag) (C : Wd → Prop) (F : List D → Option Res) : Sp := fun vs H Q E => ∃ W ds r, C W ∧ W.J H ∧ RpAll K (off W.foot H) vs ds ∧ F ds = some r ∧ match r with
  | .ok d => ∀ v H', W.J H' → Rw W H H' → Rp K (off W.foot H') v d → Q v H'
  | .exc x => ∀ H', W.J H' → Rw W H H' → ExcAt K W x H' E
theorem Rw.add {W : Wd} {q : Addr → Prop} {H H' : Hp} {hq : ∀ a, q a → H a ≠ none} (r : Rw (W.add q H hq) H H') (j : (W.add q H hq).J H') : Rw W H H' := fun a o n e => by
  by_cases h : q a
  · rw [j.2 a h]; exact e
  · exact r a o (fun z => z.elim n h) e
theorem spD.mono {K : PySem.W.Frag} {C C' : Wd → Prop} {F : List D → Option Res} (h : ∀ W, C' W → C W) {vs : List V} {H : Hp} {Q : VK} {E : XK} (s : spD K C' F vs H Q E) : spD K C F vs H Q E := by
  obtain ⟨W, ds, r, c, j, a, e, m⟩ := s
  exact ⟨W, ds, r, h W c, j, a, e, m⟩
end
end DL
namespace L2
open PySem PySem.Spec PyProof.Rows
inductive SkW where
  | lst
  | tup
def SkW.at (k : SkW) (K : PySem.W.Frag) (H : Hp) (a : Addr) (xs : List V) : Prop := match k with
  | .lst => SqL K H a xs
  | .tup => SqT K H a xs
def SkW.seq (k : SkW) (h : Heap) (a : Addr) (its : Array Value) : Prop := match k with
  | .lst => h.IsList a its
  | .tup => h.IsTuple a its
def SkW.obj (k : SkW) (a : Addr) : Obj := match k with
  | .lst => { cls := .type "list_iterator", data := .fields #[.ref a, .int 0 0] }
  | .tup => { cls := .type "tuple_iterator", data := .fields #[.ref a, .int 0 0] }
section
variable {X : Cx} {pins : List (Addr × Obj)} {σ : St} {H : Hp} {s : Shared} {a : Addr} {xs ys : List V} {k : SkW}
theorem Inv.sk_inj (I : Inv X pins σ H s) (h : k.at X.K H a xs) (h' : k.at X.K H a ys) : xs = ys := by
  cases k with
  | lst => exact I.list_inj h h'
  | tup => exact I.tuple_inj h h'
end
end L2
namespace DL
open PySem PySem.Spec L2
inductive Out where
  | nx (ρ : Ro)
  | rt (d : D)
  | bk (ρ : Ro)
  | ct (ρ : Ro)
  | ex (x : Exn) (ρ : Ro)
section
variable {X : Cx} {C : Wd → Prop} {Ew : WX} {st : Stmt} {sts : List Stmt} {g h : Ro → Option Out} {e a b c : Expr} {f : Ro → Option D} {pos : Pos}
theorem getSet_ne {α : Type} {l : List α} {i j : Nat} {x : α} (h : i ≠ j) : (l.set i x)[j]? = l[j]? := List.getElem?_set_ne h
theorem set_out {α : Type} {l : List α} {i : Nat} {x : α} (h : ¬ i < l.length) : l.set i x = l := List.set_eq_of_length_le (by omega)
theorem isOw_set {σ : L2.St} {ρ : Ro} {i : Nat} {v : V} {cl : Cel} {a : Addr} (hl : ρ.length = σ.length) (hc : ∀ ds, cl ≠ .ow ds) (h : isOw (σ.set i (some v)) (ρ.set i cl) a) : isOw σ ρ a := by
  obtain ⟨j, ds, h1, h2⟩ := h
  by_cases hi : i < ρ.length
  · by_cases hj : i = j
    · subst hj
      rw [List.getElem?_set_self hi] at h1
      exact absurd (Option.some.inj h1) (hc ds)
    · rw [getSet_ne hj] at h1 h2
      exact ⟨j, ds, h1, h2⟩
  · rw [set_out hi] at h1
    rw [set_out (by omega)] at h2
    exact ⟨j, ds, h1, h2⟩
theorem SD.set {K : PySem.W.Frag} {W : Wd} {σ : L2.St} {ρ : Ro} {H : Hp} {i : Nat} {v : V} {cl : Cel} (s : SD K W σ ρ H) (hc : ∀ ds, cl ≠ .ow ds) (hsh : ∀ d, cl = .sh d → Rp K (vw W σ ρ H) v d) (hop : ∀ u, cl = .op u → u = v) (hex : cl = .exn → v = .ref W.exa := by intro z; cases z) :
    SD K W (σ.set i (some v)) (ρ.set i cl) H ∧ Same (vw W σ ρ H) (vw W (σ.set i (some v)) (ρ.set i cl) H) := by
  have hv : Same (vw W σ ρ H) (vw W (σ.set i (some v)) (ρ.set i cl) H) := off_mono (fun a o _ z => z.elim .inl fun z => .inr (isOw_set s.len hc z)) fun _ _ _ e => e
  refine ⟨?_, hv⟩
  by_cases hi : i < ρ.length
  · have hi' : i < σ.length := by rw [← s.len]; exact hi
    refine ⟨s.j, fun j d e => ?_, fun j ds e => ?_, fun j l ds es a h1 h2 h3 h4 => ?_, fun j u e => ?_, fun j e => ?_, by simp [s.len]⟩
    · by_cases hj : i = j
      · subst hj
        rw [List.getElem?_set_self hi] at e
        exact ⟨v, by rw [List.getElem?_set_self hi'], (hsh d (Option.some.inj e)).mono hv⟩
      · rw [getSet_ne hj] at e ⊢
        obtain ⟨u, h1, h2⟩ := s.sh j d e
        exact ⟨u, h1, h2.mono hv⟩
    · by_cases hj : i = j
      · subst hj
        rw [List.getElem?_set_self hi] at e
        exact absurd (Option.some.inj e) (hc ds)
      · rw [getSet_ne hj] at e ⊢
        obtain ⟨a, xs, h1, h2, h3, h4⟩ := s.ow j ds e
        exact ⟨a, xs, h1, h2, h3.mono hv, h4⟩
    · have n1 : i ≠ j := fun z => by
        subst z
        rw [List.getElem?_set_self hi] at h1
        exact hc ds (Option.some.inj h1)
      have n2 : i ≠ l := fun z => by
        subst z
        rw [List.getElem?_set_self hi] at h2
        exact hc es (Option.some.inj h2)
      rw [getSet_ne n1] at h1 h3
      rw [getSet_ne n2] at h2 h4
      exact s.inj j l ds es a h1 h2 h3 h4
    · by_cases hj : i = j
      · subst hj
        rw [List.getElem?_set_self hi] at e
        rw [List.getElem?_set_self hi', hop u (Option.some.inj e)]
      · rw [getSet_ne hj] at e ⊢
        exact s.op j u e
    · by_cases hj : i = j
      · subst hj
        rw [List.getElem?_set_self hi] at e
        rw [List.getElem?_set_self hi', hex (Option.some.inj e)]
      · rw [getSet_ne hj] at e ⊢
        exact s.exn j e
  · rw [set_out hi, set_out (by rw [← s.len]; exact hi)]
    exact s
end
end DL
namespace DL
open PySem PySem.Spec L2
section
variable {X : Cx} {C : Wd → Prop} {Ew : WX} {e : Expr} {pos p : Pos}
theorem ExcAt.add {K : PySem.W.Frag} {W : Wd} {q : Addr → Prop} {F : Hp} {hq : ∀ a, q a → F a ≠ none} {x : Exn} {H : Hp} {E : XK} (h : ExcAt K W x H E) : ExcAt K (W.add q F hq) x H E := by
  unfold ExcAt at h ⊢
  split
  · rename_i e; rw [e] at h; exact h
  · rename_i d e
    rw [e] at h
    intro dx v h1 h2 h3
    exact h dx v h1 (fun z => h2 (.inl z)) (h3.mono (off_mono (fun _ _ _ z => .inl z) fun _ _ _ e => e))
def isX : Cel → Bool
  | .exn => true
  | _ => false
def noX (ρ : Ro) : Bool := !ρ.any isX
theorem noX_get {ρ : Ro} (h : noX ρ = true) (i : Nat) : ρ[i]? ≠ some Cel.exn := fun e => by
  unfold noX at h
  have m : ρ.any isX = true := List.any_eq_true.mpr ⟨_, List.mem_of_getElem? e, rfl⟩
  rw [m] at h
  cases h
theorem SD.exc {K : PySem.W.Frag} {W : Wd} {σ : L2.St} {ρ : Ro} {H : Hp} (s : SD K W σ ρ H) (a : Addr) (hn : noX ρ = true) : SD K (Wd.exc W a) σ ρ H := ⟨s.j, s.sh, s.ow, s.inj, s.op, fun i e => absurd e (noX_get hn i), s.len⟩
def LineOk (K : PySem.W.Frag) (W : Wd) (d : Option Addr) (x : Exn) : Prop := match x.line with
  | none => d = none
  | some z => ∃ dx v, d = some dx ∧ (∀ H, W.J H → H dx = some (.xd [("line", v)])) ∧ ∀ H, Rp K H v z
def CS (C : Wd → Prop) (K : PySem.W.Frag) (a : Addr) (d : Option Addr) (x : Exn) (W : Wd) : Prop := C W ∧ W.exa = a ∧ LineOk K W d x
theorem CS.ok {C : Wd → Prop} {K : PySem.W.Frag} {a : Addr} {d : Option Addr} {x : Exn} (h : CtxOk C) : CtxOk (CS C K a d x) := ⟨fun W c => h.nf W c.1, fun W q F hq ⟨c, e, l⟩ hn ht => ⟨h.add W q F hq c hn ht, e, by
  unfold LineOk at l ⊢
  split
  · rename_i z; rw [z] at l; exact l
  · rename_i y z
    rw [z] at l
    obtain ⟨dx, v, h1, h2, h3⟩ := l
    exact ⟨dx, v, h1, fun H j => h2 H j.1, h3⟩⟩⟩
end
end DL
namespace DL
open PySem PySem.Spec L2
section
variable {X : Cx} {C : Wd → Prop} {Ew : WX} {a b c e : Expr} {f g : Ro → Option D} {pos p apos cpos : Pos}
theorem MtR.imp {id : String} {r r' : V → List V → Hp → VK → Prop} (h : MtR X id r) (hi : ∀ x xs H Q, r' x xs H Q → r x xs H Q) : MtR X id r' := fun pins s σ H x xs v us Q I rx rs q => h pins s σ H x xs v us Q I rx rs (hi _ _ _ _ q)
structure HasFn (P : Program) (w : World) (K : PySem.W.Frag) (mg : Str → Option Value) (base : Heap) (k : Nat) (x : Str) (CC : Wd → Prop) (F : List D → Option Res) : Prop where
  ex : ∃ fa fd ps, FnOk P w K mg base (L2.CX P w) k fa fd ps (spD K CC F) ∧ mg x = some (.ref fa) ∧ PySem.W.keepIn K (.ref fa) = true ∧ Binds K fd ps []
theorem HasFn.mono {P : Program} {w : World} {K : PySem.W.Frag} {mg : Str → Option Value} {base : Heap} {k l : Nat} {x : Str} {CC : Wd → Prop} {F : List D → Option Res} (h : HasFn P w K mg base k x CC F) (hl : k ≤ l) : HasFn P w K mg base l x CC F := by
  obtain ⟨fa, fd, ps, h1, h2⟩ := h.ex
  exact ⟨fa, fd, ps, h1.mono hl, h2⟩
end
end DL
namespace DL
open PySem PySem.Spec L2
abbrev AlY : Type := He.AlD × Bool
def eqF (a b : Option (Option Value)) : Bool := decide (a = b)
def excCB (K : PySem.W.Frag) (D : Addr) : Bool :=
  eqF (PySem.W.findIn K (.ref D) "__getattribute__") (some (some (.builtin "BaseException.__getattribute__"))) && (eqF (PySem.W.findIn K (.ref D) "__getattr__") (some none) && (decide (PySem.W.subIn K (.ref D) (.type "BaseException") = some true) && (PySem.W.hasDictIn K D &&
    (eqF (PySem.W.findIn K (.ref D) "__class__") (some (some (.builtin "object.__class__"))) && (eqF (PySem.W.specialIn K (.builtin "object.__class__") "__get__") (some (some (.builtin "getset_descriptor.__get__"))) && (decide (PySem.W.takesIn K (.builtin "object.__class__") = some true) &&
      decide (PySem.W.mroIn K D (.type "object") = some true)))))))
def xsB (cs : List Str) (sub : Str → Str → Bool) (K : PySem.W.Frag) : Bool :=
  cs.all fun x => excCB K (He.ga K x) && (He.Fa.exc x).ok K && (He.Fa.glo x).ok K && cs.all fun y => decide (PySem.W.exmOne K (.ref (He.ga K x)) (.ref (He.ga K y)) = some (sub x y)) && decide (PySem.W.kitOne K (.ref (He.ga K x)) (.ref (He.ga K y)) = some (sub x y))
def tupB (K : PySem.W.Frag) (a : Addr) (xs : List V) : Bool := match K.lookup a with
  | some ⟨.type c, _, .seq its _, _⟩ => decide (c = "tuple") && (decide (its.size ≤ 1000) && decide (its.toList.map absV = xs.map some))
  | _ => false
end DL
namespace DL
open PySem PySem.Spec L2
def T {α : Type} (f : α → D) (xs : List α) : D := .tuple (xs.map f)
def Ls {α : Type} (f : α → D) (xs : List α) : D := .list (xs.map f)
structure Gd {α : Type} [DecidableEq α] (f : α → D) (n : Nat) : Prop where
  lay : ∀ a, (f a).canLay0 = true
  dep : ∀ a, (f a).depth ≤ n
  eq : ∀ a b, PyData.eqv (f a) (f b) = decide (a = b)
theorem layAll {α : Type} {f : α → D} (h : ∀ a, (f a).canLay0 = true) : ∀ xs : List α, PyData.canLayAll0 (xs.map f) = true
  | [] => rfl
  | x :: xs => by simp only [List.map_cons, PyData.canLayAll0, h, layAll h xs, Bool.and_self]
theorem depAll {α : Type} {f : α → D} {n : Nat} (h : ∀ a, (f a).depth ≤ n) : ∀ xs : List α, PyData.depthAll (xs.map f) ≤ n
  | [] => by simp [PyData.depthAll]
  | x :: xs => by
    have := h x
    have := depAll h xs
    simp only [List.map_cons, PyData.depthAll]
    omega
theorem eqAll {α : Type} [DecidableEq α] {f : α → D} (h : ∀ a b, PyData.eqv (f a) (f b) = decide (a = b)) : ∀ xs ys : List α, PyData.eqvAll (xs.map f) (ys.map f) = decide (xs = ys)
  | [], [] => rfl
  | [], _ :: _ => rfl
  | _ :: _, [] => rfl
  | x :: xs, y :: ys => by
    simp only [List.map_cons, PyData.eqvAll, h, eqAll h xs ys, List.cons.injEq, Bool.decide_and]
theorem beq_dec {α : Type} [DecidableEq α] (a b : α) : (a == b) = decide (a = b) := by rw [Bool.eq_iff_iff, beq_iff_eq, decide_eq_true_eq]
theorem Gd.int : Gd (PyData.int) 0 := ⟨fun _ => rfl, fun _ => Nat.le_refl _, fun a b => by simp only [PyData.eqv]; exact beq_dec a b⟩
theorem Gd.bool : Gd (PyData.bool) 0 := ⟨fun _ => rfl, fun _ => Nat.le_refl _, fun a b => by simp only [PyData.eqv]; exact beq_dec a b⟩
section
variable {α : Type} [DecidableEq α] {f : α → D} {n : Nat}
theorem Gd.tup (h : Gd f n) : Gd (T f) (n + 1) := ⟨fun a => by simp only [T, PyData.canLay0]; exact layAll h.lay a, fun a => by have := depAll h.dep a; simp only [T, PyData.depth]; omega, fun a b => by simp only [T, PyData.eqv]; exact eqAll h.eq a b⟩
theorem Gd.lst (h : Gd f n) : Gd (Ls f) (n + 1) := ⟨fun a => by simp only [Ls, PyData.canLay0]; exact layAll h.lay a, fun a => by have := depAll h.dep a; simp only [Ls, PyData.depth]; omega, fun a b => by simp only [Ls, PyData.eqv]; exact eqAll h.eq a b⟩
end
theorem layAll_of : ∀ {ds : List D}, (∀ x ∈ ds, x.canLay0 = true) → PyData.canLayAll0 ds = true
  | [], _ => rfl
  | d :: ds, h => by simp only [PyData.canLayAll0, h d List.mem_cons_self, layAll_of fun x hx => h x (List.mem_cons_of_mem _ hx), Bool.and_self]
theorem depAll_of : ∀ {ds : List D} {n : Nat}, (∀ x ∈ ds, x.depth ≤ n) → PyData.depthAll ds ≤ n
  | [], _, _ => by simp [PyData.depthAll]
  | d :: ds, n, h => by
    have := h d List.mem_cons_self
    have := depAll_of fun x hx => h x (List.mem_cons_of_mem _ hx)
    simp only [PyData.depthAll]
    omega
def Sh (n : Nat) (d : D) : Prop := d.canLay0 = true ∧ d.depth ≤ n
theorem Sh.mono {n m : Nat} {d : D} (h : Sh n d) (hn : n ≤ m := by decide) : Sh m d := ⟨h.1, Nat.le_trans h.2 hn⟩
theorem Sh.int {i : Int} {n : Nat} : Sh n (.int i) := ⟨rfl, Nat.zero_le _⟩
theorem Sh.bool {i : Bool} {n : Nat} : Sh n (.bool i) := ⟨rfl, Nat.zero_le _⟩
theorem Sh.none {n : Nat} : Sh n .none := ⟨rfl, Nat.zero_le _⟩
theorem Sh.tup {n : Nat} {ds : List D} (h : ∀ x ∈ ds, Sh n x) : Sh (n + 1) (.tuple ds) := ⟨by simp only [PyData.canLay0]; exact layAll_of fun x hx => (h x hx).1, by have := depAll_of fun x hx => (h x hx).2; simp only [PyData.depth]; omega⟩
theorem Sh.lst {n : Nat} {ds : List D} (h : ∀ x ∈ ds, Sh n x) : Sh (n + 1) (.list ds) := ⟨by simp only [PyData.canLay0]; exact layAll_of fun x hx => (h x hx).1, by have := depAll_of fun x hx => (h x hx).2; simp only [PyData.depth]; omega⟩
theorem Sh.T {α : Type} {f : α → D} {n : Nat} (h : ∀ a, Sh n (f a)) (xs : List α) : Sh (n + 1) (T f xs) := Sh.tup fun x hx => by
  obtain ⟨a, _, rfl⟩ := List.mem_map.mp hx
  exact h a
theorem Sh.Ls {α : Type} {f : α → D} {n : Nat} (h : ∀ a, Sh n (f a)) (xs : List α) : Sh (n + 1) (Ls f xs) := Sh.lst fun x hx => by
  obtain ⟨a, _, rfl⟩ := List.mem_map.mp hx
  exact h a
end DL
namespace DL
open PySem PySem.Spec L2
def frz (i : Nat) : Ro → Option Out := fun ρ => match ρ[i]? with
  | some (.ow ds) => some (.nx (ρ.set i (.sh (.list ds))))
  | _ => none
end DL
namespace DL
open PySem PySem.Spec L2
theorem ExcAt.imp {K : PySem.W.Frag} {W : Wd} {x : Exn} {H : Hp} {P Q : XK} (h : ∀ d, P (.ref (He.ga K x.cls)) d H → Q (.ref (He.ga K x.cls)) d H) (e : ExcAt K W x H P) : ExcAt K W x H Q := by
  unfold ExcAt at e ⊢
  split
  · rename_i hl
    rw [hl] at e
    exact h _ e
  · rename_i z hl
    rw [hl] at e
    exact fun dx v a1 a2 a3 => h _ (e dx v a1 a2 a3)
end DL
namespace L2
open PySem PySem.Spec PyProof.Rows
mutual
def nkD : PyData → Option NestedKey
  | .none => some .none
  | .int i => some (.num i)
  | .str x => some (.text x)
  | .tuple ds => (match nkAll ds with
    | some ks => some (.tup ks)
    | Option.none => Option.none)
  | _ => Option.none
def nkAll : List PyData → Option (List NestedKey)
  | [] => some []
  | d :: ds => (match nkD d, nkAll ds with
    | some k, some ks => some (k :: ks)
    | _, _ => Option.none)
end
abbrev NEnt := NestedKey × Addr × Value
def NdP (P : Program) (w : World) (d : Addr) (xs : List NEnt) : Heap → Prop := fun h => (d == sysModules) = false ∧ ∃ o es ep, h.get? d = some o ∧ o.ExactDict ∧ o.data = .dict es ep ∧ es.toList = xs.map (entryOfKey (nestedKind P w)) ∧ (xs.map (·.1)).Nodup
def NdO (P : Program) (w : World) (d : Addr) (xs : List NEnt) : HO := .ext (NdP P w d xs)
end L2
namespace DL
open PySem PySem.Spec L2
def tp (H : Hp) : Hp := fun a => match H a with
  | some (.tup xs) => some (.tup xs)
  | some (.frz o u) => some (.frz o u)
  | _ => none
theorem tp_some {H : Hp} {a : Addr} {u : HO} (h : tp H a = some u) : H a = some u ∧ Fix u := by
  unfold tp at h
  split at h
  · rename_i e; cases h; exact ⟨e, trivial⟩
  · rename_i e; cases h; exact ⟨e, trivial⟩
  · cases h
theorem tp_of {H : Hp} {a : Addr} {u : HO} (f : Fix u) (h : H a = some u) : tp H a = some u := by
  unfold tp
  rw [h]
  cases u <;> first | rfl | exact f.elim
theorem tp_mono {H H' : Hp} (k : ∀ a u, Fix u → H a = some u → H' a = some u) : Same (tp H) (tp H') := fun a u e => let ⟨h, f⟩ := tp_some e; tp_of f (k a u f h)
def subs : List Int → List (List Int)
  | [] => [[]]
  | x :: xs => (subs xs).map (x :: ·) ++ subs xs
def subs8 : List (List Int) := subs [0, 1, 2, 3, 4, 5, 6, 7]
def okKey (rest : List Int) (many : Int) : Bool := decide (rest ∈ subs8) && decide (0 ≤ many ∧ many ≤ 8)
def skD (rest : List Int) (many : Int) : D := .tuple [.tuple (rest.map .int), .int many]
def skKey (rest : List Int) (many : Int) : NestedKey := .tup [.tup (rest.map .num), .num many]
theorem nums_inj : ∀ {xs ys : List Int}, xs.map NestedKey.num = ys.map NestedKey.num → xs = ys
  | [], [], _ => rfl
  | [], _ :: _, h => by cases h
  | _ :: _, [], h => by cases h
  | x :: xs, y :: ys, h => by
    simp only [List.map_cons, List.cons.injEq, NestedKey.num.injEq] at h
    rw [h.1, nums_inj h.2]
theorem sk_inj {rest rest' : List Int} {many many' : Int} (h : skKey rest many = skKey rest' many') : rest = rest' ∧ many = many' := by
  simp only [skKey, NestedKey.tup.injEq, List.cons.injEq, NestedKey.num.injEq, and_true] at h
  exact ⟨nums_inj h.1, h.2⟩
def SkGood (K : PySem.W.Frag) (R : List Int → Int → Option D) (H : Hp) (xs : List NEnt) : Prop :=
  (xs.map (·.1)).Nodup ∧ ∀ x ∈ xs, ∃ (rest : List Int) (many : Int) (vv : V) (dr : D), okKey rest many = true ∧ x.1 = skKey rest many ∧ Rp K H (.ref x.2.1) (skD rest many) ∧ RelV vv x.2.2 ∧ Rp K H vv dr ∧ R rest many = some dr
theorem SkGood.mono {K : PySem.W.Frag} {R : List Int → Int → Option D} {H H' : Hp} {xs : List NEnt} (g : SkGood K R H xs) (s : Same H H') : SkGood K R H' xs := ⟨g.1, fun x hx => by
  obtain ⟨rest, many, vv, dr, h1, h2, h3, h4, h5, h6⟩ := g.2 x hx
  exact ⟨rest, many, vv, dr, h1, h2, h3.mono s, h4, h5.mono s, h6⟩⟩
theorem atKey_mem {xs : List NEnt} {k : NestedKey} {p : Addr × Value} (h : atKey xs k = some p) : (k, p) ∈ xs := by
  unfold atKey at h
  obtain ⟨x, hx, e⟩ := Option.map_eq_some_iff.mp h
  have h1 := List.mem_of_find?_eq_some hx
  have h2 := List.find?_some hx
  rw [decide_eq_true_eq] at h2
  rw [← h2, ← e]
  exact h1
theorem SkGood.at {K : PySem.W.Frag} {R : List Int → Int → Option D} {H : Hp} {xs : List NEnt} (g : SkGood K R H xs) {rest : List Int} {many : Int} {p : Addr × Value} {dr : D} (h : atKey xs (skKey rest many) = some p) (hR : R rest many = some dr) : ∃ vv, RelV vv p.2 ∧ Rp K H vv dr := by
  obtain ⟨rest', many', vv, dr', h1, h2, h3, h4, h5, h6⟩ := g.2 _ (atKey_mem h)
  obtain ⟨e1, e2⟩ := sk_inj h2
  subst e1 e2
  rw [hR] at h6
  cases h6
  exact ⟨vv, h4, h5⟩
end DL
namespace DL
open PySem PySem.Spec L2
def Sk (K : PySem.W.Frag) (P : Program) (w : World) (C : Addr) (R : List Int → Int → Option D) (h a : D) (W : Wd) : Prop :=
  ∃ (dx d : Addr) (vh va : V), W.foot W.exa ∧ W.foot d ∧
    (∀ H, W.J H → H W.exa = some (.ins C dx [("hall", vh), ("aim", va), ("known", .ref d)]) ∧ Rp K (tp H) vh h ∧ Rp K (tp H) va a ∧ ∃ xs, H d = some (NdO P w d xs) ∧ SkGood K R (tp H) xs) ∧
    (∀ H b u, W.J H → W.foot b → H b = some u → ¬ Fix u) ∧ (∀ H xs, W.J H → SkGood K R (tp H) xs → W.J (upd H d (NdO P w d xs)))
section
variable {K : PySem.W.Frag} {P : Program} {w : World} {Cc : Addr} {R : List Int → Int → Option D} {h a : D}
theorem Sk.ok : CtxOk (Sk K P w Cc R h a) := ⟨fun W ⟨dx, d, vh, va, f1, f2, j, nf, up⟩ => nf, fun W q F hq ⟨dx, d, vh, va, f1, f2, j, nf, up⟩ hn ht => ⟨dx, d, vh, va, .inl f1, .inl f2, fun H hj => j H hj.1,
  fun H b u hj hb e => hb.elim (fun z => nf H b u hj.1 z e) fun z => ht b u z (by rw [← hj.2 b z]; exact e),
  fun H xs hj g => ⟨up H xs hj.1 g, fun b z => by rw [upd_ne (fun z2 => hn b z (by rw [z2]; exact f2))]; exact hj.2 b z⟩⟩⟩
end
def spM (K : PySem.W.Frag) (C : Wd → Prop) (F : List D → Option Res) : Sp := fun vs H Q _ => ∃ W vs' ds d, C W ∧ W.J H ∧ vs = .ref W.exa :: vs' ∧ RpAll K (off W.foot H) vs' ds ∧ F ds = some (.ok d) ∧ ∀ v H', W.J H' → Rw W H H' → Rp K (off W.foot H') v d → Q v H'
structure HasM (P : Program) (w : World) (K : PySem.W.Frag) (mg : Str → Option Value) (base : Heap) (k : Nat) (Cc : Addr) (m : Str) (C : Wd → Prop) (F : List D → Option Res) : Prop where
  ex : ∃ fa fd ps, FnOk P w K mg base (L2.CX P w) k fa fd ps (spM K C F) ∧ Meth K Cc m fa ∧ Binds K fd ps []
theorem isOw_cons {v : Option V} {σ : L2.St} {ρ : Ro} {b : Addr} : isOw (v :: σ) (.exn :: ρ) b ↔ isOw σ ρ b := by
  constructor
  · rintro ⟨i, ds, e1, e2⟩
    cases i with
    | zero => cases e1
    | succ i => exact ⟨i, ds, e1, e2⟩
  · rintro ⟨i, ds, e1, e2⟩
    exact ⟨i + 1, ds, e1, e2⟩
theorem vw_cons {W : Wd} {v : Option V} {σ : L2.St} {ρ : Ro} {H : Hp} : vw W (v :: σ) (.exn :: ρ) H = vw W σ ρ H := by
  unfold vw
  congr 1
  funext b
  rw [isOw_cons]
theorem SD.cons {K : PySem.W.Frag} {W : Wd} {σ : L2.St} {ρ : Ro} {H : Hp} (s : SD K W σ ρ H) : SD K W (some (.ref W.exa) :: σ) (.exn :: ρ) H where
  j := s.j
  sh := fun i d e => by
    rw [vw_cons]
    cases i with
    | zero => cases e
    | succ i => exact s.sh i d e
  ow := fun i ds e => by
    rw [vw_cons]
    cases i with
    | zero => cases e
    | succ i => exact s.ow i ds e
  inj := fun i j ds es b e1 e2 e3 e4 => by
    cases i with
    | zero => cases e1
    | succ i =>
      cases j with
      | zero => cases e2
      | succ j => rw [s.inj i j ds es b e1 e2 e3 e4]
  op := fun i v e => by
    cases i with
    | zero => cases e
    | succ i => exact s.op i v e
  exn := fun i e => by
    cases i with
    | zero => rfl
    | succ i => exact s.exn i e
  len := by simp [s.len]
end DL
namespace DL
open PySem PySem.Spec L2
theorem RpAll.set {K : PySem.W.Frag} {H : Hp} : ∀ {vs : List V} {ds : List D} {v : V} {d : D} (n : Nat), RpAll K H vs ds → Rp K H v d → RpAll K H (vs.set n v) (ds.set n d)
  | _, _, _, _, _, .nil, _ => .nil
  | _, _, _, _, 0, .cons _ t, h => .cons h t
  | _, _, _, _, n + 1, .cons a t, h => .cons a (RpAll.set n t h)
end DL
namespace DL
open PySem PySem.Spec L2
structure Fw (S : Type) where
  w : S → Wd
  foot : Addr → Prop
  hf : ∀ s, (w s).foot = foot
inductive Ou (S : Type) where
  | nx (ρ : Ro) (s : S)
  | rt (d : D) (s : S)
  | bk (ρ : Ro) (s : S)
  | ct (ρ : Ro) (s : S)
  | ex (x : Exn) (ρ : Ro) (s : S)
section
variable {S : Type}
def up (f : Ro → Option Out) : Ro → S → Option (Ou S) := fun ρ s => match f ρ with
  | some (.nx ρ') => some (.nx ρ' s)
  | some (.rt d) => some (.rt d s)
  | some (.bk ρ') => some (.bk ρ' s)
  | some (.ct ρ') => some (.ct ρ' s)
  | some (.ex x ρ') => some (.ex x ρ' s)
  | none => none
variable {X : Cx} {C : Fw S → Prop} {C' : Wd → Prop} {Ew : WX} {st : Stmt} {sts : List Stmt} {pos : Pos}
end
end DL
namespace DL
open PySem PySem.Spec L2
abbrev Kv := List (D × D)
def lookK (kvs : Kv) (k : NestedKey) : Option D := (kvs.find? fun kv => decide (nkD kv.1 = some k)).map (·.2)
inductive DkP (K : PySem.W.Frag) (H : Hp) : List NEnt → Kv → Prop
  | nil : DkP K H [] []
  | cons {x : NEnt} {kd vd : D} {vv : V} {xs : List NEnt} {kvs : Kv} : nkD kd = some x.1 → x.1.depth ≤ 8 → Rp K H (.ref x.2.1) kd → RelV vv x.2.2 → Rp K H vv vd → DkP K H xs kvs → DkP K H (x :: xs) ((kd, vd) :: kvs)
section
variable {K : PySem.W.Frag} {H H' : Hp}
theorem DkP.mono (s : Same H H') : ∀ {xs : List NEnt} {kvs : Kv}, DkP K H xs kvs → DkP K H' xs kvs
  | _, _, .nil => .nil
  | _, _, .cons h1 h2 h3 h4 h5 t => .cons h1 h2 (h3.mono s) h4 (h5.mono s) (DkP.mono s t)
theorem DkP.len : ∀ {xs : List NEnt} {kvs : Kv}, DkP K H xs kvs → xs.length = kvs.length
  | _, _, .nil => rfl
  | _, _, .cons _ _ _ _ _ t => by rw [List.length_cons, List.length_cons, t.len]
theorem DkP.at : ∀ {xs : List NEnt} {kvs : Kv} (k : NestedKey), DkP K H xs kvs → (atKey xs k = none ∧ lookK kvs k = none) ∨ ∃ p vd vv, atKey xs k = some p ∧ lookK kvs k = some vd ∧ RelV vv p.2 ∧ Rp K H vv vd
  | _, _, _, .nil => .inl ⟨rfl, rfl⟩
  | x :: xs, (kd, vd) :: kvs, k, .cons h1 h2 h3 h4 h5 t => by
    by_cases hk : x.1 = k
    · refine .inr ⟨x.2, vd, _, ?_, ?_, h4, h5⟩
      · simp [atKey, hk]
      · simp [lookK, h1, hk]
    · have hk2 : ¬ (nkD kd = some k) := fun z => hk (by rw [h1] at z; exact Option.some.inj z)
      have e1 : atKey (x :: xs) k = atKey xs k := by simp [atKey, hk]
      have e2 : lookK ((kd, vd) :: kvs) k = lookK kvs k := by
        unfold lookK
        rw [List.find?_cons_of_neg (by simpa using hk2)]
      rw [e1, e2]
      exact t.at k
end
structure Rdr (K : PySem.W.Frag) (P : Program) (w : World) (C : Wd → Prop) (i : Nat) (ok : Ro → Bool) (kvs : Kv) : Prop where
  nf : ∀ W, C W → CN W
  rd : ∀ W σ ρ H, C W → SD K W σ ρ H → ok ρ = true → ∃ a xs, σ[i]? = some (some (.ref a)) ∧ Rd H a (NdO P w a xs) ∧ DkP K (tp H) xs kvs
structure Rdz (K : PySem.W.Frag) (P : Program) (w : World) (C : Wd → Prop) (i : Nat) (ok : Ro → Bool) (kvs : Kv) : Prop where
  nf : ∀ W, C W → CN W
  rd : ∀ W σ ρ H, C W → SD K W σ ρ H → ok ρ = true → ∃ a o xs, σ[i]? = some (some (.ref a)) ∧ H a = some (.frz o (NdO P w a xs)) ∧ DkP K (tp H) xs kvs
theorem Rdz.r {K : PySem.W.Frag} {P : Program} {w : World} {C : Wd → Prop} {i : Nat} {ok : Ro → Bool} {kvs : Kv} (R : Rdz K P w C i ok kvs) : Rdr K P w C i ok kvs := ⟨R.nf, fun W σ ρ H c s h => by
  obtain ⟨a, o, xs, h1, h2, h3⟩ := R.rd W σ ρ H c s h
  exact ⟨a, xs, h1, .inr ⟨o, h2⟩, h3⟩⟩
def Dz (K : PySem.W.Frag) (P : Program) (w : World) (kvs : Kv) (W : Wd) : Prop := CN W ∧ ∀ H, W.J H → ∃ o xs, H W.exa = some (.frz o (NdO P w W.exa xs)) ∧ DkP K (tp H) xs kvs
section
variable {K : PySem.W.Frag} {P : Program} {w : World} {kvs : Kv}
theorem Dz.ok : CtxOk (Dz K P w kvs) := ⟨fun W c => c.1, fun W q F hq c hn ht => ⟨CtxOk.all.add W q F hq c.1 hn ht, fun H j => c.2 H j.1⟩⟩
end
def Dm (K : PySem.W.Frag) (P : Program) (w : World) (kvs : Kv) (W : Wd) : Prop := CN W ∧ ∀ H, W.J H → ∃ xs, H W.exa = some (NdO P w W.exa xs) ∧ DkP K (tp H) xs kvs
section
variable {K : PySem.W.Frag} {P : Program} {w : World} {kvs : Kv}
theorem Dm.ok : CtxOk (Dm K P w kvs) := ⟨fun W c => c.1, fun W q F hq c hn ht => ⟨CtxOk.all.add W q F hq c.1 hn ht, fun H j => c.2 H j.1⟩⟩
end
end DL
namespace DL
open PySem PySem.Spec L2
inductive RpO (K : PySem.W.Frag) (a : Addr) (H : Hp) : List V → List (Option D) → Prop
  | nil : RpO K a H [] []
  | dat {v : V} {d : D} {vs : List V} {ds : List (Option D)} : Rp K H v d → RpO K a H vs ds → RpO K a H (v :: vs) (some d :: ds)
  | obj {vs : List V} {ds : List (Option D)} : RpO K a H vs ds → RpO K a H (.ref a :: vs) (none :: ds)
section
variable {K : PySem.W.Frag} {a : Addr} {H H' : Hp}
theorem RpO.mono (s : Same H H') : ∀ {vs : List V} {ds : List (Option D)}, RpO K a H vs ds → RpO K a H' vs ds
  | _, _, .nil => .nil
  | _, _, .dat h t => .dat (h.mono s) (t.mono s)
  | _, _, .obj t => .obj (t.mono s)
theorem RpO.length : ∀ {vs : List V} {ds : List (Option D)}, RpO K a H vs ds → vs.length = ds.length
  | _, _, .nil => rfl
  | _, _, .dat _ t => by rw [List.length_cons, List.length_cons, t.length]
  | _, _, .obj t => by rw [List.length_cons, List.length_cons, t.length]
theorem RpO.getD : ∀ {vs : List V} {ds : List (Option D)} {i : Nat} {d : D}, RpO K a H vs ds → ds[i]? = some (some d) → ∃ v, vs[i]? = some v ∧ Rp K H v d
  | _, _, 0, _, .dat h _, e => by simp at e; subst e; exact ⟨_, rfl, h⟩
  | _, _, 0, _, .obj _, e => by simp at e
  | _, _, i + 1, _, .dat _ t, e => by
    obtain ⟨v, h1, h2⟩ := RpO.getD (i := i) t (by simpa using e)
    exact ⟨v, by simpa using h1, h2⟩
  | _, _, i + 1, _, .obj t, e => by
    obtain ⟨v, h1, h2⟩ := RpO.getD (i := i) t (by simpa using e)
    exact ⟨v, by simpa using h1, h2⟩
end
end DL
namespace DL
open PySem PySem.Spec L2
structure HasMM (P : Program) (w : World) (K : PySem.W.Frag) (mg : Str → Option Value) (base : Heap) (k : Nat) (Cc : Addr) (m : Str) (C : D → D → Wd → Prop) (F : D → D → List D → Option Res) : Prop where
  ex : ∃ fa fd ps, (∀ h a, FnOk P w K mg base (L2.CX P w) k fa fd ps (spM K (C h a) (F h a))) ∧ Meth K Cc m fa ∧ Binds K fd ps []
theorem HasMM.at {P : Program} {w : World} {K : PySem.W.Frag} {mg : Str → Option Value} {base : Heap} {k : Nat} {Cc : Addr} {m : Str} {C : D → D → Wd → Prop} {F : D → D → List D → Option Res} (h : HasMM P w K mg base k Cc m C F) (hh aa : D) : HasM P w K mg base k Cc m (C hh aa) (F hh aa) := by
  obtain ⟨fa, fd, ps, h1, h2, h3⟩ := h.ex
  exact ⟨fa, fd, ps, h1 hh aa, h2, h3⟩
end DL
namespace DL
open PySem PySem.Spec L2
theorem ExcAt.any {K : PySem.W.Frag} {W : Wd} {x : Exn} {H : Hp} {P : XK} (h : ∀ d, P (.ref (He.ga K x.cls)) d H) : ExcAt K W x H P := by
  unfold ExcAt
  split
  · exact h _
  · intros
    exact h _
section
variable {S : Type}
def Fw.add (F : Fw S) (q : Addr → Prop) (H0 : Hp) (hq : ∀ a, q a → H0 a ≠ none) : Fw S := ⟨fun s => (F.w s).add q H0 hq, fun a => F.foot a ∨ q a, fun s => by
  show (fun a => (F.w s).foot a ∨ q a) = _
  rw [F.hf]⟩
structure CtxS (C : Fw S → Prop) : Prop where
  nf : ∀ F, C F → ∀ s, CN (F.w s)
  ex : ∀ F, C F → ∀ s s', (F.w s).exa = (F.w s').exa
  add : ∀ F q H0 hq, C F → (∀ a, q a → ¬ F.foot a) → (∀ a u, q a → H0 a = some u → ¬ Fix u) → C (F.add q H0 hq)
end
end DL
namespace DL
open PySem PySem.Spec L2 TL
def oexB (K : PySem.W.Frag) (C : Addr) : Bool := match K.lookup C with
  | some ⟨.type "type", _, .cls cd, sl⟩ => (match cd.mro, sl.toList with
    | .ref C' :: bm, [_, _, _, _, some (.builtin n), _] => decide (C' = C) && (decide (n = "ValueError.__new__") && (!cd.hasDel && (cd.hasDict && PySem.HandSPX.refsVE bm)))
    | _, _ => false)
  | _ => false
def btB (K : PySem.W.Frag) : Bool :=
  let B := He.ga K "BadText"
  let Hh := He.ga K "HallError"
  oexB K B && (eqF (PySem.W.findIn K (.ref B) "__setattr__") (some (some (.builtin "object.__setattr__"))) && (decide (PySem.W.subIn K (.ref B) (.type "BaseException") = some true) && (decide (PySem.W.typeIn K (.ref B) = some (.type "type")) && (PySem.W.keepIn K (.ref B) &&
    (xfB K B && (eqF (PySem.W.findIn K (.ref B) "line") (some none) && (eqF (PySem.W.findIn K (.ref B) "__init__") (some (some (.ref (He.ma K B "__init__")))) && (decide (PySem.W.typeIn K (.ref (He.ma K B "__init__")) = some (.type "function")) &&
      (PySem.W.readsIn K Hh (.type "type") && (eqF (PySem.W.specialIn K (.ref Hh) "__getattribute__") (some (some (.builtin "type.__getattribute__"))) && (match PySem.W.findCls K (.ref Hh) (.type "type") "__init__" with
        | some (.val (.builtin n)) => decide (n = "ValueError.__init__")
        | _ => false)))))))))))
def obsZ (n : Nat) (fa : List He.Fa) (fn : List He.DefD) (ex : PySem.W.Frag → Bool) (g : Addr → Option Obj) : AlY := (fun K => (He.obsD fa fn K, ex K)) (He.frG g (cStatics :: He.asD g n))
def hookZ (n : Nat) (fa : List He.Fa) (fn : List He.DefD) (ex : PySem.W.Frag → Bool) : PySem.W.Hook where
  α := AlY
  obs := fun s => obsZ n fa fn ex s.heap.get?
  val := fun _ => (He.valD fn, true)
  says := fun _ h => ∃ K : PySem.W.Frag, K.In h ∧ He.SaysD fa fn K ∧ ex K = true
  of := fun _ _ e => ⟨_, He.frG_in, congrArg (fun z : AlY => z.1) e, congrArg (fun z : AlY => z.2) e⟩
  keeps := fun _ _ _ ⟨K, hK, c⟩ k => ⟨K, PySem.W.Frag.In.keeps hK k, c⟩
def xlB (cs : List Str) (sub : Str → Str → Bool) (K : PySem.W.Frag) : Bool :=
  cs.all fun x => excCB K (He.ga K x) && eqF (PySem.W.findIn K (.ref (He.ga K x)) "line") (some none) && (He.Fa.glo x).ok K && cs.all fun y => decide (PySem.W.exmOne K (.ref (He.ga K x)) (.ref (He.ga K y)) = some (sub x y)) && decide (PySem.W.kitOne K (.ref (He.ga K x)) (.ref (He.ga K y)) = some (sub x y))
end DL
namespace DL
open PySem PySem.Spec L2
structure OF {S : Type} (K : PySem.W.Frag) (Cc : Addr) (al ns : List Str) (fl : S → List D) (up : S → List D → S) (Fa : Fw S) : Prop where
  cn : ∀ s, CN (Fa.w s)
  ex : ∀ s s', (Fa.w s).exa = (Fa.w s').exa
  ft : ∀ s, Fa.foot (Fa.w s).exa
  get : ∀ s H, (Fa.w s).J H → ∃ dx fs, H (Fa.w s).exa = some (.ins Cc dx fs) ∧ fs.map (·.1) = al ∧ ∀ (k : Nat) (n : Str) (d : D), ns[k]? = some n → (fl s)[k]? = some d → ∃ v, fs.lookup n = some v ∧ Rp K (tp H) v d
  set : ∀ (s : S) (H : Hp) (k : Nat) (n : Str) (v : V) (d : D) (dx : Addr) (fs : List (Str × V)), (Fa.w s).J H → H (Fa.w s).exa = some (.ins Cc dx fs) → ns[k]? = some n → k < (fl s).length → Rp K (tp H) v d → (Fa.w (up s ((fl s).set k d))).J (upd H (Fa.w s).exa (.ins Cc dx (putF n v fs)))
section
variable {S : Type} {K : PySem.W.Frag} {Cc : Addr} {al ns : List Str} {fl : S → List D} {up : S → List D → S}
theorem OF.ctx : CtxS (OF K Cc al ns fl up) where
  nf := fun F c s => c.cn s
  ex := fun F c s s' => c.ex s s'
  add := fun F q H0 hq c hn ht => {
    cn := fun s H b u hj hb e => hb.elim (fun z => c.cn s H b u hj.1 z e) fun z => ht b u z (by rw [← hj.2 b z]; exact e)
    ex := fun s s' => c.ex s s'
    ft := fun s => .inl (c.ft s)
    get := fun s H j => c.get s H j.1
    set := fun s H k n v d dx fs j e hk hl r => ⟨c.set s H k n v d dx fs j.1 e hk hl r, fun b z => by
      rw [upd_ne (fun z2 => hn b z (by rw [z2]; exact c.ft s))]
      exact j.2 b z⟩ }
def OS (K : PySem.W.Frag) (Cc : Addr) (al ns : List Str) (fl : S → List D) (up : S → List D → S) (s : S) (W : Wd) : Prop := ∃ Fa, OF K Cc al ns fl up Fa ∧ W = Fa.w s
theorem OS.ok {s : S} : CtxOk (OS K Cc al ns fl up s) := ⟨fun W ⟨Fa, c, e⟩ => by rw [e]; exact c.cn s, fun W q F hq ⟨Fa, c, e⟩ hn ht => by
  subst e
  exact ⟨Fa.add q F hq, OF.ctx.add Fa q F hq c (fun a z => by have := hn a z; rw [Fa.hf] at this; exact this) ht, rfl⟩⟩
theorem OF.foot {Fa : Fw S} (c : OF K Cc al ns fl up Fa) (s : S) : (Fa.w s).foot (Fa.w s).exa := by rw [Fa.hf]; exact c.ft s
end
section
variable {S : Type} {X : Cx} {Cc : Addr} {al ns : List Str} {fl : S → List D} {up : S → List D → S} {Ew : WX} {i : Nat} {x m : Str} {p pos apos : Pos} {e : Expr} {es : List Expr} {F : List (Option D) → S → Option (Res × S)} {k : Nat}
theorem lookup_none_of {al : List Str} {m : Str} (h : m ∉ al) : ∀ {fs : List (Str × V)}, fs.map (·.1) = al → fs.lookup m = none := fun {fs} e => by
  induction fs generalizing al with
  | nil => rfl
  | cons q fs ih =>
    obtain ⟨n, v⟩ := q
    rw [← e, List.map_cons, List.mem_cons, not_or] at h
    rw [L2.lookup_put, if_neg h.1]
    exact ih h.2 rfl
end
end DL
namespace DL
open PySem PySem.Spec L2
def Wd.ob (W : Wd) (K : PySem.W.Frag) (Cc : Addr) (ns : List Str) (x dx : Addr) (s : List D) : Wd where
  foot := fun b => W.foot b ∨ b = x
  J := fun H => W.J H ∧ ∃ vs, H x = some (.ins Cc dx (ns.zip vs)) ∧ vs.length = ns.length ∧ RpAll K (tp H) vs s
  exa := x
  there := fun H b ⟨j, vs, h1, h2, h3⟩ z => by
    rcases z with z | z
    · exact W.there H b j z
    · rw [z, h1]; exact fun w => by cases w
  stable := fun H H' ⟨j, vs, h1, h2, h3⟩ hfx hft => ⟨W.stable H H' j hfx fun b o e => hft b o (.inl e), vs, hft x _ (.inr rfl) h1, h2, h3.mono (tp_mono hfx)⟩
def Fob (W : Wd) (K : PySem.W.Frag) (Cc : Addr) (ns : List Str) (x dx : Addr) : Fw (List D) := ⟨fun s => W.ob K Cc ns x dx s, fun b => W.foot b ∨ b = x, fun _ => rfl⟩
theorem zip_fst : ∀ {ns : List Str} {vs : List V}, vs.length = ns.length → (ns.zip vs).map (·.1) = ns
  | [], _, _ => rfl
  | n :: ns, [], h => by cases h
  | n :: ns, v :: vs, h => by
    rw [List.zip_cons_cons, List.map_cons, zip_fst (by simpa using h)]
theorem zip_lookup : ∀ {ns : List Str} {vs : List V} {k : Nat} {n : Str} {v : V}, ns.Nodup → ns[k]? = some n → vs[k]? = some v → (ns.zip vs).lookup n = some v
  | [], _, _, _, _, _, h, _ => by simp at h
  | m :: ns, [], _, _, _, _, _, h => by simp at h
  | m :: ns, u :: vs, 0, n, v, hn, h1, h2 => by
    simp at h1 h2
    subst h1 h2
    rw [List.zip_cons_cons, L2.lookup_put, if_pos rfl]
  | m :: ns, u :: vs, k + 1, n, v, hn, h1, h2 => by
    rw [List.zip_cons_cons, L2.lookup_put, if_neg ?_]
    · exact zip_lookup (List.nodup_cons.mp hn).2 (by simpa using h1) (by simpa using h2)
    · rintro rfl
      exact (List.nodup_cons.mp hn).1 (List.mem_of_getElem? (by simpa using h1))
theorem putF_zip : ∀ {ns : List Str} {vs : List V} {k : Nat} {n : Str} (v : V), ns.Nodup → vs.length = ns.length → ns[k]? = some n → putF n v (ns.zip vs) = ns.zip (vs.set k v)
  | [], _, _, _, _, _, _, h => by simp at h
  | m :: ns, [], _, _, _, _, h, _ => by cases h
  | m :: ns, u :: vs, 0, n, v, hn, hl, h => by
    simp at h
    subst h
    rw [List.zip_cons_cons, List.set_cons_zero, List.zip_cons_cons]
    unfold putF
    rw [if_pos rfl]
  | m :: ns, u :: vs, k + 1, n, v, hn, hl, h => by
    have hne : m ≠ n := by
      rintro rfl
      exact (List.nodup_cons.mp hn).1 (List.mem_of_getElem? (by simpa using h))
    rw [List.zip_cons_cons, List.set_cons_succ, List.zip_cons_cons]
    unfold putF
    rw [if_neg hne, putF_zip v (List.nodup_cons.mp hn).2 (by simpa using hl) (by simpa using h)]
theorem RpAll.setAt {K : PySem.W.Frag} {H : Hp} {v : V} {d : D} (h : Rp K H v d) : ∀ {vs : List V} {ds : List D} {k : Nat}, RpAll K H vs ds → RpAll K H (vs.set k v) (ds.set k d)
  | _, _, _, .nil => .nil
  | _, _, 0, .cons h1 h2 => .cons h h2
  | _, _, k + 1, .cons h1 h2 => .cons h1 (RpAll.setAt h h2)
theorem RpAll.getAt {K : PySem.W.Frag} {H : Hp} : ∀ {vs : List V} {ds : List D} {k : Nat} {d : D}, RpAll K H vs ds → ds[k]? = some d → ∃ v, vs[k]? = some v ∧ Rp K H v d
  | _, _, _, _, .nil, e => by simp at e
  | _, _, 0, _, .cons h1 h2, e => by simp at e; subst e; exact ⟨_, rfl, h1⟩
  | _, _, k + 1, _, .cons h1 h2, e => by
    obtain ⟨v, e1, e2⟩ := RpAll.getAt (k := k) h2 (by simpa using e)
    exact ⟨v, by simpa using e1, e2⟩
abbrev PF (K : PySem.W.Frag) (Cc : Addr) (ns : List Str) : Fw (List D) → Prop := OF K Cc ns ns (fun s => s) (fun _ s => s)
theorem Fob.ok {W : Wd} {K : PySem.W.Frag} {Cc : Addr} {ns : List Str} {x dx : Addr} (hnd : ns.Nodup) (c : CN W) (hx : ¬ W.foot x) : PF K Cc ns (Fob W K Cc ns x dx) where
  cn := fun s H b u ⟨j, vs, h1, h2, h3⟩ z e fx => by
    rcases z with z | z
    · exact c H b u j z e fx
    · rw [z, h1] at e; cases e; exact fx
  ex := fun _ _ => rfl
  ft := fun _ => .inr rfl
  get := fun s H ⟨j, vs, h1, h2, h3⟩ => ⟨dx, _, h1, zip_fst h2, fun k n d hk hd => by
    obtain ⟨v, e1, e2⟩ := RpAll.getAt h3 hd
    exact ⟨v, zip_lookup hnd hk e1, e2⟩⟩
  set := fun s H k n v d dx' fs ⟨j, vs, h1, h2, h3⟩ e hk hl r => by
    have e' : H x = some (.ins Cc dx' fs) := e
    rw [h1] at e'
    cases e'
    have kx : ∀ b u, Fix u → H b = some u → upd H x (.ins Cc dx (putF n v (ns.zip vs))) b = some u := fun b u fx e => by
      rw [upd_ne (fun z => by rw [z, h1] at e; cases e; exact fx)]
      exact e
    refine ⟨W.stable H _ j kx fun b o z e => ?_, vs.set k v, ?_, by rw [List.length_set]; exact h2, (DL.RpAll.setAt r h3).mono (tp_mono kx)⟩
    · show upd H x _ b = some o
      rw [upd_ne (fun z2 => hx (by rw [← z2]; exact z))]
      exact e
    · show upd H x _ x = _
      rw [upd_same, putF_zip v hnd h2 hk]
end DL
namespace DL
open PySem PySem.Spec L2
def StC {S : Type} (C : Fw S → Prop) (s : S) (W : Wd) : Prop := ∃ Fa, C Fa ∧ W = Fa.w s
theorem StC.ok {S : Type} {C : Fw S → Prop} (hC : CtxS C) {s : S} : CtxOk (StC C s) := ⟨fun W ⟨Fa, c, e⟩ => by rw [e]; exact hC.nf Fa c s, fun W q F hq ⟨Fa, c, e⟩ hn ht => by
  subst e
  exact ⟨Fa.add q F hq, hC.add Fa q F hq c (fun a z => by have := hn a z; rw [Fa.hf] at this; exact this) ht, rfl⟩⟩
end DL
namespace DL
open PySem PySem.Spec L2
abbrev SS := List D × List D
def sal : List Str := ["hall", "true", "here", "said", "before"]
def sns : List Str := ["hall", "true", "here", "said"]
def sfl : SS → List D := fun s => s.1
def sup : SS → List D → SS := fun s ds => (ds, s.2)
def bfL (b : Addr) : List (Str × V) := [("before", .ref b)]
def Wd.ses (W : Wd) (K : PySem.W.Frag) (Cc x dx b : Addr) (s : SS) : Wd where
  foot := fun a => W.foot a ∨ a = x ∨ a = b
  J := fun H => W.J H ∧ ∃ (vs bs : List V), H x = some (.ins Cc dx (sns.zip vs ++ bfL b)) ∧ vs.length = sns.length ∧ RpAll K (tp H) vs s.1 ∧ H b = some (.lst bs) ∧ RpAll K (tp H) bs s.2
  exa := x
  there := fun H a ⟨j, vs, bs, h1, h2, h3, h4, h5⟩ z => by
    rcases z with z | z | z
    · exact W.there H a j z
    · rw [z, h1]; exact fun w => by cases w
    · rw [z, h4]; exact fun w => by cases w
  stable := fun H H' ⟨j, vs, bs, h1, h2, h3, h4, h5⟩ hfx hft => ⟨W.stable H H' j hfx fun a o e => hft a o (.inl e), vs, bs, hft x _ (.inr (.inl rfl)) h1, h2, h3.mono (tp_mono hfx), hft b _ (.inr (.inr rfl)) h4, h5.mono (tp_mono hfx)⟩
def Fses (W : Wd) (K : PySem.W.Frag) (Cc x dx b : Addr) : Fw SS := ⟨fun s => W.ses K Cc x dx b s, fun a => W.foot a ∨ a = x ∨ a = b, fun _ => rfl⟩
structure SeF (K : PySem.W.Frag) (Cc : Addr) (Fa : Fw SS) : Prop where
  of : OF K Cc sal sns sfl sup Fa
  pb : ∃ b, Fa.foot b ∧ (∀ s, b ≠ (Fa.w s).exa) ∧
    (∀ s H, (Fa.w s).J H → (∃ dx fs, H (Fa.w s).exa = some (.ins Cc dx fs) ∧ fs.lookup ("before" : Str) = some (V.ref b)) ∧ ∃ bs, H b = some (.lst bs) ∧ RpAll K (tp H) bs s.2) ∧
    (∀ s H bs ds, (Fa.w s).J H → RpAll K (tp H) bs ds → (Fa.w (s.1, ds)).J (upd H b (.lst bs)))
theorem SeF.ctx {K : PySem.W.Frag} {Cc : Addr} : CtxS (SeF K Cc) where
  nf := fun F c s => c.of.cn s
  ex := fun F c s s' => c.of.ex s s'
  add := fun F q H0 hq c hn ht => ⟨OF.ctx.add F q H0 hq c.of hn ht, by
    obtain ⟨b, h1, h2, h3, h4⟩ := c.pb
    exact ⟨b, .inl h1, h2, fun s H j => h3 s H j.1, fun s H bs ds j r => ⟨h4 s H bs ds j.1 r, fun a z => by
      rw [upd_ne (fun z2 => hn a z (by rw [z2]; exact h1))]
      exact j.2 a z⟩⟩⟩
theorem SeF.o {K : PySem.W.Frag} {Cc : Addr} : ∀ F, SeF K Cc F → OF K Cc sal sns sfl sup F := fun F c => c.of
theorem sns_nd : sns.Nodup := by decide +kernel
theorem lookup_app {n : Str} {v : V} : ∀ {fs gs : List (Str × V)}, fs.lookup n = some v → (fs ++ gs).lookup n = some v
  | [], _, h => by cases h
  | (m, u) :: fs, gs, h => by
    rw [L2.lookup_put] at h
    rw [List.cons_append, L2.lookup_put]
    split
    · rename_i e; rw [if_pos e] at h; exact h
    · rename_i e; rw [if_neg e] at h; exact lookup_app h
theorem lookup_app2 {n : Str} : ∀ {fs gs : List (Str × V)}, fs.lookup n = none → (fs ++ gs).lookup n = gs.lookup n
  | [], _, _ => rfl
  | (m, u) :: fs, gs, h => by
    rw [L2.lookup_put] at h
    rw [List.cons_append, L2.lookup_put]
    split
    · rename_i e; rw [if_pos e] at h; cases h
    · rename_i e; rw [if_neg e] at h; exact lookup_app2 h
theorem putF_app {n : Str} {v : V} : ∀ {fs gs : List (Str × V)} {u : V}, fs.lookup n = some u → putF n v (fs ++ gs) = putF n v fs ++ gs
  | [], _, _, h => by cases h
  | (m, w) :: fs, gs, u, h => by
    rw [L2.lookup_put] at h
    rw [List.cons_append]
    unfold putF
    by_cases e : m = n
    · rw [if_pos e, if_pos e]; rfl
    · rw [if_neg e, if_neg e]
      rw [if_neg (fun z => e z.symm)] at h
      rw [putF_app h]
      rfl
theorem Fses.ok {W : Wd} {K : PySem.W.Frag} {Cc x dx b : Addr} (c : CN W) (hx : ¬ W.foot x) (hb : ¬ W.foot b) (hxb : b ≠ x) : SeF K Cc (Fses W K Cc x dx b) where
  of := {
    cn := fun s H a u ⟨j, vs, bs, h1, h2, h3, h4, h5⟩ z e fx => by
      rcases z with z | z | z
      · exact c H a u j z e fx
      · rw [z, h1] at e; cases e; exact fx
      · rw [z, h4] at e; cases e; exact fx
    ex := fun _ _ => rfl
    ft := fun _ => .inr (.inl rfl)
    get := fun s H ⟨j, vs, bs, h1, h2, h3, h4, h5⟩ => ⟨dx, _, h1, by rw [List.map_append, zip_fst h2]; rfl, fun k n d hk hd => by
      obtain ⟨v, e1, e2⟩ := RpAll.getAt h3 hd
      exact ⟨v, lookup_app (zip_lookup sns_nd hk e1), e2⟩⟩
    set := fun s H k n v d dx' fs ⟨j, vs, bs, h1, h2, h3, h4, h5⟩ e hk hl r => by
      have e' : H x = some (.ins Cc dx' fs) := e
      rw [h1] at e'
      cases e'
      have kx : ∀ a u, Fix u → H a = some u → upd H x (.ins Cc dx (putF n v (sns.zip vs ++ bfL b))) a = some u := fun a u fx e => by
        rw [upd_ne (fun z => by rw [z, h1] at e; cases e; exact fx)]
        exact e
      obtain ⟨hlt, _⟩ := List.getElem?_eq_some_iff.mp hk
      obtain ⟨u, hu⟩ : ∃ u, vs[k]? = some u := ⟨vs[k]'(by omega), List.getElem?_eq_getElem (by omega)⟩
      have ep : putF n v (sns.zip vs ++ bfL b) = sns.zip (vs.set k v) ++ (bfL b) := by
        rw [putF_app (zip_lookup sns_nd hk hu), putF_zip v sns_nd h2 hk]
      refine ⟨W.stable H _ j kx fun a o z e => ?_, vs.set k v, bs, ?_, by rw [List.length_set]; exact h2, (DL.RpAll.setAt r h3).mono (tp_mono kx), ?_, h5.mono (tp_mono kx)⟩
      · show upd H x _ a = some o
        rw [upd_ne (fun z2 => hx (by rw [← z2]; exact z))]
        exact e
      · show upd H x _ x = _
        rw [upd_same, ep]
      · show upd H x _ b = _
        rw [upd_ne hxb]
        exact h4 }
  pb := ⟨b, .inr (.inr rfl), fun _ => hxb, fun s H ⟨j, vs, bs, h1, h2, h3, h4, h5⟩ => ⟨⟨dx, _, h1, by
      have hn : (sns.zip vs).lookup ("before" : Str) = none := lookup_none_of (al := sns) (by decide +kernel) (zip_fst h2)
      rw [lookup_app2 hn]
      rfl⟩, bs, h4, h5⟩, fun s H bs' ds ⟨j, vs, bs, h1, h2, h3, h4, h5⟩ r => by
    have kx : ∀ a u, Fix u → H a = some u → upd H b (.lst bs') a = some u := fun a u fx e => by
      rw [upd_ne (fun z => by rw [z, h4] at e; cases e; exact fx)]
      exact e
    refine ⟨W.stable H _ j kx fun a o z e => ?_, vs, bs', ?_, h2, h3.mono (tp_mono kx), upd_same, r.mono (tp_mono kx)⟩
    · show upd H b _ a = some o
      rw [upd_ne (fun z2 => hb (by rw [← z2]; exact z))]
      exact e
    · show upd H b _ x = _
      rw [upd_ne hxb.symm]
      exact h1⟩
end DL
namespace DL
open PySem PySem.Spec L2
theorem Rw.ob {W : Wd} {K : PySem.W.Frag} {Cc x dx : Addr} {ns ns' : List Str} {s s' : List D} {H H' : Hp} (r : Rw (W.ob K Cc ns x dx s) H H') : Rw (W.ob K Cc ns' x dx s') H H' := r
end DL
namespace DL
open PySem PySem.Spec L2
theorem ExcAt.up {K : PySem.W.Frag} {W W' : Wd} {x : Exn} {H : Hp} {E : XK} (hfo : ∀ b, W.foot b → W'.foot b) (h : ExcAt K W x H E) : ExcAt K W' x H E := by
  unfold ExcAt at h ⊢
  split
  · rename_i e; rw [e] at h; exact h
  · rename_i d e
    rw [e] at h
    exact fun dx v h1 h2 h3 => h dx v h1 (fun z => h2 (hfo _ z)) (h3.mono (off_mono (fun b o _ z => hfo b z) fun _ _ _ e => e))
end DL
namespace K23
open PySem PySem.Spec L2 DL
def top (i : Nat) : Stmt := PySem.Challenge.pw_openhall_k23_refusals_stand_apart.main.body.getD i (.Pass ⟨0, 0, 0, 0⟩)
def xcs : List Str := ["HallError", "BadHall", "BadRest", "BadHand", "BadWord", "BadQuestion", "BadAim", "BadTalk", "BadWorld", "BadCount", "Kept", "Nothing"]
def xcl : List Str := ["HallError", "BadText", "BadHall", "BadRest", "BadHand", "BadWord", "BadQuestion", "BadAim", "BadTalk", "BadWorld", "BadCount", "Kept", "Nothing"]
def subc (x y : Str) : Bool := x == y || ([("BadText", "HallError"), ("BadHall", "HallError"), ("BadRest", "HallError"), ("BadHand", "HallError"), ("BadWord", "HallError"), ("BadQuestion", "HallError"), ("BadAim", "HallError"), ("BadTalk", "HallError"), ("BadWorld", "HallError"), ("BadCount", "HallError"), ("Kept", "HallError"), ("Nothing", "HallError")] : List (Str × Str)).contains (x, y)
noncomputable section
variable {P : Program} {w : World} {K : PySem.W.Frag} {mg : Str → Option Value} {base : Heap}
abbrev s_z_wall : Stmt := top 0
abbrev s_is_within : Stmt := top 19
abbrev s_are_marks : Stmt := top 20
abbrev s_is_hall : Stmt := top 21
abbrev s_look : Stmt := top 22
abbrev s_all_worlds : Stmt := top 23
abbrev s_is_rest : Stmt := top 24
abbrev s_look_rest : Stmt := top 25
abbrev s_look_hand : Stmt := top 26
abbrev s_cell_of : Stmt := top 27
abbrev s_cells_of : Stmt := top 28
abbrev s_cells : Stmt := top 29
abbrev s_thought_of : Stmt := top 31
abbrev s_look_question : Stmt := top 32
abbrev s_look_all : Stmt := top 33
abbrev s_thought : Stmt := top 34
abbrev s_known_in : Stmt := top 35
abbrev s_all_know : Stmt := top 36
abbrev s_all_knowing : Stmt := top 37
abbrev s_deep : Stmt := top 38
abbrev s_marks_at : Stmt := top 40
abbrev s_partings : Stmt := top 41
abbrev s_words_of : Stmt := top 42
abbrev s_is_word : Stmt := top 43
abbrev s_rest_of : Stmt := top 44
abbrev s_parts_of : Stmt := top 45
abbrev s_look_word : Stmt := top 46
abbrev s_parts : Stmt := top 47
abbrev s_is_wish : Stmt := top 53
abbrev s_is_aim_of : Stmt := top 54
abbrev s_look_aim : Stmt := top 55
abbrev s_is_kept : Stmt := top 56
abbrev s_broken_of : Stmt := top 57
abbrev s_lacking_of : Stmt := top 58
abbrev s_is_talk_at : Stmt := top 61
abbrev s_look_talk : Stmt := top 62
abbrev s_rests_of : Stmt := top 63
abbrev s_ends : Stmt := top 64
abbrev s_Seeker_init : Stmt := inClass (top 66) 0
abbrev s_Seeker_talk : Stmt := inClass (top 66) 1
abbrev s_Seeker_found : Stmt := inClass (top 66) 2
abbrev s_Seeker_behind : Stmt := inClass (top 66) 3
abbrev s_best : Stmt := top 67
abbrev s_look_count : Stmt := top 68
abbrev s_all_words : Stmt := top 70
abbrev s_reason : Stmt := top 71
abbrev s_paper_of : Stmt := top 72
abbrev s_paper : Stmt := top 73
abbrev s_marks_in : Stmt := top 76
abbrev s_BadText_init : Stmt := inClass (top 3) 0
abbrev s_read_hall : Stmt := top 77
abbrev s_shrunk : Stmt := top 79
abbrev s_z_law_cell : Stmt := top 81
abbrev s_Session_init : Stmt := inClass (top 49) 0
abbrev s_Session_back : Stmt := inClass (top 49) 9
abbrev s_z_law_refused_by : Stmt := top 82
abbrev s_law : Stmt := top 83
end
end K23
namespace K23
open PySem PySem.Spec L2 DL
def d_Seeker_init : He.DefD := ⟨("Seeker", some "__init__"), "__init__", "Seeker.__init__", defArgs s_Seeker_init, defBody s_Seeker_init, defScope s_Seeker_init, [], []⟩
def d_Seeker_talk : He.DefD := ⟨("Seeker", some "talk"), "talk", "Seeker.talk", defArgs s_Seeker_talk, defBody s_Seeker_talk, defScope s_Seeker_talk, [], []⟩
def d_Seeker_found : He.DefD := ⟨("Seeker", some "found"), "found", "Seeker.found", defArgs s_Seeker_found, defBody s_Seeker_found, defScope s_Seeker_found, [], []⟩
def d_Seeker_behind : He.DefD := ⟨("Seeker", some "behind"), "behind", "Seeker.behind", defArgs s_Seeker_behind, defBody s_Seeker_behind, defScope s_Seeker_behind, [], []⟩
def d_z_wall : He.DefD := ⟨("_wall", none), "_wall", "_wall", defArgs s_z_wall, defBody s_z_wall, defScope s_z_wall, [], []⟩
def d_is_within : He.DefD := ⟨("is_within", none), "is_within", "is_within", defArgs s_is_within, defBody s_is_within, defScope s_is_within, [], []⟩
def d_are_marks : He.DefD := ⟨("are_marks", none), "are_marks", "are_marks", defArgs s_are_marks, defBody s_are_marks, defScope s_are_marks, [], []⟩
def d_is_hall : He.DefD := ⟨("is_hall", none), "is_hall", "is_hall", defArgs s_is_hall, defBody s_is_hall, defScope s_is_hall, [], []⟩
def d_look : He.DefD := ⟨("look", none), "look", "look", defArgs s_look, defBody s_look, defScope s_look, [], []⟩
def d_all_worlds : He.DefD := ⟨("all_worlds", none), "all_worlds", "all_worlds", defArgs s_all_worlds, defBody s_all_worlds, defScope s_all_worlds, [], []⟩
def d_is_rest : He.DefD := ⟨("is_rest", none), "is_rest", "is_rest", defArgs s_is_rest, defBody s_is_rest, defScope s_is_rest, [], []⟩
def d_look_rest : He.DefD := ⟨("look_rest", none), "look_rest", "look_rest", defArgs s_look_rest, defBody s_look_rest, defScope s_look_rest, [], []⟩
def d_look_hand : He.DefD := ⟨("look_hand", none), "look_hand", "look_hand", defArgs s_look_hand, defBody s_look_hand, defScope s_look_hand, [], []⟩
def d_cell_of : He.DefD := ⟨("cell_of", none), "cell_of", "cell_of", defArgs s_cell_of, defBody s_cell_of, defScope s_cell_of, [], []⟩
def d_cells_of : He.DefD := ⟨("cells_of", none), "cells_of", "cells_of", defArgs s_cells_of, defBody s_cells_of, defScope s_cells_of, [], []⟩
def d_cells : He.DefD := ⟨("cells", none), "cells", "cells", defArgs s_cells, defBody s_cells, defScope s_cells, [], []⟩
def d_thought_of : He.DefD := ⟨("thought_of", none), "thought_of", "thought_of", defArgs s_thought_of, defBody s_thought_of, defScope s_thought_of, [], []⟩
def d_look_question : He.DefD := ⟨("look_question", none), "look_question", "look_question", defArgs s_look_question, defBody s_look_question, defScope s_look_question, [], []⟩
def d_look_all : He.DefD := ⟨("look_all", none), "look_all", "look_all", defArgs s_look_all, defBody s_look_all, defScope s_look_all, [], []⟩
def d_thought : He.DefD := ⟨("thought", none), "thought", "thought", defArgs s_thought, defBody s_thought, defScope s_thought, [], []⟩
def d_known_in : He.DefD := ⟨("known_in", none), "known_in", "known_in", defArgs s_known_in, defBody s_known_in, defScope s_known_in, [], []⟩
def d_all_know : He.DefD := ⟨("all_know", none), "all_know", "all_know", defArgs s_all_know, defBody s_all_know, defScope s_all_know, [], []⟩
def d_all_knowing : He.DefD := ⟨("all_knowing", none), "all_knowing", "all_knowing", defArgs s_all_knowing, defBody s_all_knowing, defScope s_all_knowing, [], []⟩
def d_deep : He.DefD := ⟨("deep", none), "deep", "deep", defArgs s_deep, defBody s_deep, defScope s_deep, [], []⟩
def d_marks_at : He.DefD := ⟨("marks_at", none), "marks_at", "marks_at", defArgs s_marks_at, defBody s_marks_at, defScope s_marks_at, [], []⟩
def d_partings : He.DefD := ⟨("partings", none), "partings", "partings", defArgs s_partings, defBody s_partings, defScope s_partings, [], []⟩
def d_words_of : He.DefD := ⟨("words_of", none), "words_of", "words_of", defArgs s_words_of, defBody s_words_of, defScope s_words_of, [], []⟩
def d_is_word : He.DefD := ⟨("is_word", none), "is_word", "is_word", defArgs s_is_word, defBody s_is_word, defScope s_is_word, [], []⟩
def d_rest_of : He.DefD := ⟨("rest_of", none), "rest_of", "rest_of", defArgs s_rest_of, defBody s_rest_of, defScope s_rest_of, [], []⟩
def d_parts_of : He.DefD := ⟨("parts_of", none), "parts_of", "parts_of", defArgs s_parts_of, defBody s_parts_of, defScope s_parts_of, [], []⟩
def d_look_word : He.DefD := ⟨("look_word", none), "look_word", "look_word", defArgs s_look_word, defBody s_look_word, defScope s_look_word, [], []⟩
def d_parts : He.DefD := ⟨("parts", none), "parts", "parts", defArgs s_parts, defBody s_parts, defScope s_parts, [], []⟩
def d_is_wish : He.DefD := ⟨("is_wish", none), "is_wish", "is_wish", defArgs s_is_wish, defBody s_is_wish, defScope s_is_wish, [], []⟩
def d_is_aim_of : He.DefD := ⟨("is_aim_of", none), "is_aim_of", "is_aim_of", defArgs s_is_aim_of, defBody s_is_aim_of, defScope s_is_aim_of, [], []⟩
def d_look_aim : He.DefD := ⟨("look_aim", none), "look_aim", "look_aim", defArgs s_look_aim, defBody s_look_aim, defScope s_look_aim, [], []⟩
def d_is_kept : He.DefD := ⟨("is_kept", none), "is_kept", "is_kept", defArgs s_is_kept, defBody s_is_kept, defScope s_is_kept, [], []⟩
def d_broken_of : He.DefD := ⟨("broken_of", none), "broken_of", "broken_of", defArgs s_broken_of, defBody s_broken_of, defScope s_broken_of, [], []⟩
def d_lacking_of : He.DefD := ⟨("lacking_of", none), "lacking_of", "lacking_of", defArgs s_lacking_of, defBody s_lacking_of, defScope s_lacking_of, [], []⟩
def d_is_talk_at : He.DefD := ⟨("is_talk_at", none), "is_talk_at", "is_talk_at", defArgs s_is_talk_at, defBody s_is_talk_at, defScope s_is_talk_at, [], []⟩
def d_look_talk : He.DefD := ⟨("look_talk", none), "look_talk", "look_talk", defArgs s_look_talk, defBody s_look_talk, defScope s_look_talk, [], []⟩
def d_rests_of : He.DefD := ⟨("rests_of", none), "rests_of", "rests_of", defArgs s_rests_of, defBody s_rests_of, defScope s_rests_of, [], []⟩
def d_ends : He.DefD := ⟨("ends", none), "ends", "ends", defArgs s_ends, defBody s_ends, defScope s_ends, [], []⟩
def d_best : He.DefD := ⟨("best", none), "best", "best", defArgs s_best, defBody s_best, defScope s_best, [], []⟩
def d_look_count : He.DefD := ⟨("look_count", none), "look_count", "look_count", defArgs s_look_count, defBody s_look_count, defScope s_look_count, [], []⟩
def d_all_words : He.DefD := ⟨("all_words", none), "all_words", "all_words", defArgs s_all_words, defBody s_all_words, defScope s_all_words, [], []⟩
def d_reason : He.DefD := ⟨("reason", none), "reason", "reason", defArgs s_reason, defBody s_reason, defScope s_reason, [], []⟩
def d_paper_of : He.DefD := ⟨("paper_of", none), "paper_of", "paper_of", defArgs s_paper_of, defBody s_paper_of, defScope s_paper_of, [], []⟩
def d_paper : He.DefD := ⟨("paper", none), "paper", "paper", defArgs s_paper, defBody s_paper, defScope s_paper, [], []⟩
def d_marks_in : He.DefD := ⟨("marks_in", none), "marks_in", "marks_in", defArgs s_marks_in, defBody s_marks_in, defScope s_marks_in, [], []⟩
def d_read_hall : He.DefD := ⟨("read_hall", none), "read_hall", "read_hall", defArgs s_read_hall, defBody s_read_hall, defScope s_read_hall, [], []⟩
def d_shrunk : He.DefD := ⟨("shrunk", none), "shrunk", "shrunk", defArgs s_shrunk, defBody s_shrunk, defScope s_shrunk, [], []⟩
def d_z_law_cell : He.DefD := ⟨("_law_cell", none), "_law_cell", "_law_cell", defArgs s_z_law_cell, defBody s_z_law_cell, defScope s_z_law_cell, [], []⟩
def d_z_law_refused_by : He.DefD := ⟨("_law_refused_by", none), "_law_refused_by", "_law_refused_by", defArgs s_z_law_refused_by, defBody s_z_law_refused_by, defScope s_z_law_refused_by, [], []⟩
def d_law : He.DefD := ⟨("law", none), "law", "law", defArgs s_law, defBody s_law, defScope s_law, [], []⟩
def d_Session_init : He.DefD := ⟨("Session", some "__init__"), "__init__", "Session.__init__", defArgs s_Session_init, defBody s_Session_init, defScope s_Session_init, [], []⟩
def d_Session_back : He.DefD := ⟨("Session", some "back"), "back", "Session.back", defArgs s_Session_back, defBody s_Session_back, defScope s_Session_back, [], []⟩
def d_BadText_init : He.DefD := ⟨("BadText", some "__init__"), "__init__", "BadText.__init__", defArgs s_BadText_init, defBody s_BadText_init, defScope s_BadText_init, [], []⟩
def fnl : List He.DefD := [d_z_wall, d_is_within, d_are_marks, d_is_hall, d_look, d_all_worlds, d_is_rest, d_look_rest, d_look_hand, d_cell_of, d_cells_of, d_cells, d_thought_of, d_look_question, d_look_all, d_thought, d_known_in, d_all_know, d_all_knowing, d_deep, d_marks_at, d_partings, d_words_of, d_is_word, d_rest_of, d_parts_of, d_look_word, d_parts, d_is_wish, d_is_aim_of, d_look_aim, d_is_kept, d_broken_of, d_lacking_of, d_is_talk_at, d_look_talk, d_rests_of, d_ends, d_best, d_look_count, d_all_words, d_reason, d_paper_of, d_paper, d_marks_in, d_read_hall, d_shrunk, d_z_law_cell, d_z_law_refused_by, d_law, d_Seeker_init, d_Seeker_talk, d_Seeker_found, d_Seeker_behind, d_BadText_init, d_Session_init, d_Session_back]
def fal : List He.Fa := [.glo "_wall", .glo "is_within", .glo "are_marks", .glo "is_hall", .glo "look", .glo "all_worlds", .glo "is_rest", .glo "look_rest", .glo "look_hand", .glo "cell_of", .glo "cells_of", .glo "cells", .glo "thought_of", .glo "look_question", .glo "look_all", .glo "thought", .glo "known_in", .glo "all_know", .glo "all_knowing", .glo "deep", .glo "marks_at", .glo "partings", .glo "words_of", .glo "is_word", .glo "rest_of", .glo "parts_of", .glo "look_word", .glo "parts", .glo "is_wish", .glo "is_aim_of", .glo "look_aim", .glo "is_kept", .glo "broken_of", .glo "lacking_of", .glo "is_talk_at", .glo "look_talk", .glo "rests_of", .glo "ends", .glo "best", .glo "look_count", .glo "all_words", .glo "reason", .glo "paper_of", .glo "paper", .glo "marks_in", .glo "read_hall", .glo "shrunk", .glo "_law_cell", .glo "_law_refused_by", .glo "law", .free "ValueError", .free "bool", .free "dict", .free "enumerate", .free "int", .free "isinstance", .free "len", .free "list", .free "max", .free "min", .free "range", .free "set", .free "sorted", .free "str", .free "sum", .free "tuple", .free "zip", .glo "Session", .cls "Session", .noat "Session" "hall", .noat "Session" "true", .noat "Session" "here", .noat "Session" "said", .noat "Session" "before", .mkr "Session", .meth "Session" "back", .glo "Seeker", .cls "Seeker", .noat "Seeker" "hall", .noat "Seeker" "aim", .noat "Seeker" "known", .mkr "Seeker", .meth "Seeker" "talk", .meth "Seeker" "found", .meth "Seeker" "behind", .int "MOST_WORLDS" 8, .int "MOST_HANDS" 4, .int "MOST_MARK" 3, .glo "WISHES", .int "MOST_WISHES" 4, .glo "END", .str "MARKS" "0123"]
def exl (K : PySem.W.Frag) : Bool := xsB xcs subc K && xlB xcl subc K && btB K && (xcl.all fun x => decide (PySem.W.kitOne K (.ref (He.ga K x)) (.type "ValueError") = some true)) && tupB K (He.ga K "WISHES") [V.str "learn", V.str "hide", V.str "dark"] && tupB K (He.ga K "END") [V.str "end"]
abbrev R : PySem.W.OpenRow := PySem.W.OpenLaw.row PySem.Challenge.rw_openhall_k23_refusals_stand_apart
abbrev hk : PySem.W.Hook := hookZ 4 fal fnl exl
def ob (s : PySem.W.SharedT) : AlY := obsZ 4 fal fnl exl (HandSHeadRun.getT s)
def loose0 : List Str := ["_wall", "HallError", "BadText", "BadHall", "BadRest", "BadHand", "BadWord", "BadQuestion", "BadAim", "BadTalk", "BadWorld", "BadCount", "Kept", "Nothing", "MOST_WORLDS", "MOST_HANDS", "MOST_MARK", "is_within", "are_marks", "is_hall", "look", "all_worlds", "is_rest", "look_rest", "look_hand", "cell_of", "cells_of", "cells", "thought_of", "look_question"]
def loose1 : List Str := ["look_all", "thought", "known_in", "all_know", "all_knowing", "deep", "marks_at", "partings", "words_of", "is_word", "rest_of", "parts_of", "look_word", "parts", "Session", "WISHES", "MOST_WISHES", "is_wish", "is_aim_of", "look_aim", "is_kept", "broken_of", "lacking_of", "END", "is_talk_at", "look_talk", "rests_of", "ends", "Seeker", "best"]
def loose2 : List Str := ["look_count", "all_words", "reason", "paper_of", "paper", "MARKS", "marks_in", "read_hall", "shrunk", "_law_cell", "_law_refused_by"]
def loose : List Str := loose0 ++ loose1 ++ loose2
theorem run (w : World) : HandSHeadRun.RunEq R (PySem.W.view R.prog [83]) hk ob 60000 loose w := by
  intro os
  kernel_rfl
end K23
namespace L2
open PySem PySem.Spec PyProof.Rows
mutual
theorem Rp.dp {K : PySem.W.Frag} {H : Hp} : ∀ {v : V} {d : PyData}, Rp K H v d → d.canLay0 = true → Dp K H v d
  | _, _, .non, _ => .non
  | _, _, .bl b, _ => .bl b
  | _, _, .int i, _ => .int i
  | _, _, .str x, _ => .str x
  | _, _, .lst h ha, c => .lst (.inl h) (RpAll.dp ha (by simpa [PyData.canLay0] using c))
  | _, _, .tup h ha, c => .tup h (RpAll.dp ha (by simpa [PyData.canLay0] using c))
  | _, _, .scr _, c => by simp [PyData.canLay0] at c
theorem RpAll.dp {K : PySem.W.Frag} {H : Hp} : ∀ {vs : List V} {ds : List PyData}, RpAll K H vs ds → PyData.canLayAll0 ds = true → DpAll K H vs ds
  | _, _, .nil, _ => .nil
  | _, _, .cons h t, c => by
    have c' := Bool.and_eq_true_iff.mp (by simpa [PyData.canLayAll0] using c)
    exact .cons (h.dp c'.1) (RpAll.dp t c'.2)
end
section
variable {K : PySem.W.Frag} {H : Hp}
theorem RpAll.append : ∀ {vs ws : List V} {ds es : List PyData}, RpAll K H vs ds → RpAll K H ws es → RpAll K H (vs ++ ws) (ds ++ es)
  | _, _, _, _, .nil, s => s
  | _, _, _, _, .cons h t, s => .cons h (RpAll.append t s)
theorem RpAll.take : ∀ {vs : List V} {ds : List PyData} (n : Nat), RpAll K H vs ds → RpAll K H (vs.take n) (ds.take n)
  | _, _, 0, _ => .nil
  | _, _, _ + 1, .nil => .nil
  | _, _, n + 1, .cons h t => .cons h (RpAll.take n t)
theorem RpAll.drop : ∀ {vs : List V} {ds : List PyData} (n : Nat), RpAll K H vs ds → RpAll K H (vs.drop n) (ds.drop n)
  | _, _, 0, r => r
  | _, _, _ + 1, .nil => .nil
  | _, _, n + 1, .cons _ t => RpAll.drop n t
end
def atom : PyData → Bool
  | .none => true
  | .bool _ => true
  | .int _ => true
  | .str _ => true
  | _ => false
theorem Rp.atom {K : PySem.W.Frag} {H H' : Hp} {v : V} {d : PyData} (h : Rp K H v d) (ha : atom d = true) : Rp K H' v d := by
  cases h with
  | non => exact .non
  | bl b => exact .bl b
  | int i => exact .int i
  | str x => exact .str x
  | lst _ _ => cases ha
  | tup _ _ => cases ha
  | scr _ => cases ha
end L2
namespace DL
open PySem PySem.Spec L2
theorem off_sub {p : Addr → Prop} {H : Hp} : Same (off p H) H := fun _ _ h => (off_some h).2
theorem Wd.same (W : Wd) {H H' : Hp} (j : W.J H) (s : Same H H') : W.J H' := W.stable H H' j (fun a u _ e => s a _ e) fun a o _ e => s a o e
theorem Rw.refl (W : Wd) (H : Hp) : Rw W H H := fun _ _ _ e => e
theorem Rw.trans {W : Wd} {H H1 H2 : Hp} (a : Rw W H H1) (b : Rw W H1 H2) : Rw W H H2 := fun c o n e => b c o n (a c o n e)
theorem same_upd {H : Hp} {p : Addr} {o : HO} (h : H p = none) : Same H (upd H p o) := fun b u e => by rw [upd_ne (ne_of_none e h)]; exact e
theorem vw_mono {W : Wd} {σ : St} {ρ : Ro} {H H' : Hp} (r : Rw W H H') : Same (vw W σ ρ H) (vw W σ ρ H') :=
  off_mono (fun _ _ _ h => h) fun a o n e => r a o (fun z => n (.inl z)) e
theorem vw_sub {W : Wd} {σ : St} {ρ : Ro} {H : Hp} : Same (vw W σ ρ H) (off W.foot H) := off_mono (fun _ _ _ h => .inl h) fun _ _ _ e => e
theorem SD.next {K : PySem.W.Frag} {W : Wd} {σ : St} {ρ : Ro} {H H' : Hp} (s : SD K W σ ρ H) (r : Rw W H H') (j : W.J H') : SD K W σ ρ H' where
  j := j
  sh := fun i d e => by
    obtain ⟨v, h1, h2⟩ := s.sh i d e
    exact ⟨v, h1, h2.mono (vw_mono r)⟩
  ow := fun i ds e => by
    obtain ⟨a, xs, h1, h2, h3, h4⟩ := s.ow i ds e
    exact ⟨a, xs, h1, r a _ h4 h2, h3.mono (vw_mono r), h4⟩
  inj := s.inj
  op := s.op
  exn := s.exn
  len := s.len
theorem SD.excl {K : PySem.W.Frag} {W : Wd} {σ : St} {ρ : Ro} {H : Hp} (s : SD K W σ ρ H) {a : Addr} (h : W.foot a ∨ isOw σ ρ a) : H a ≠ none := by
  rcases h with h | ⟨i, ds, e1, e2⟩
  · exact W.there H a s.j h
  · obtain ⟨b, xs, h1, h2, _⟩ := s.ow i ds e1
    rw [e2] at h1
    have e : a = b := by simpa using h1
    subst e
    rw [h2]
    exact fun z => by cases z
theorem SD.new {K : PySem.W.Frag} {W : Wd} {σ : St} {ρ : Ro} {H : Hp} (s : SD K W σ ρ H) {a : Addr} (h : H a = none) : ¬ (W.foot a ∨ isOw σ ρ a) := fun z => s.excl z h
theorem SD.newF {K : PySem.W.Frag} {W : Wd} {σ : St} {ρ : Ro} {H : Hp} (s : SD K W σ ρ H) {a : Addr} (h : H a = none) : ¬ W.foot a := fun z => s.new h (.inl z)
theorem SD.own {K : PySem.W.Frag} {W : Wd} {σ : St} {ρ : Ro} {H : Hp} (s : SD K W σ ρ H) : ∀ a, isOw σ ρ a → H a ≠ none := fun _ h => s.excl (.inr h)
def tD (K : PySem.W.Frag) (C : Wd → Prop) (f : Ro → Option D) : TE := fun σ H Q => ∃ W ρ d, C W ∧ SD K W σ ρ H ∧ f ρ = some d ∧ ∀ v H', Rw W H H' → W.J H' → Rp K (vw W σ ρ H') v d → Q v H'
def tN (K : PySem.W.Frag) (C : Wd → Prop) (f : Ro → Option D) : TE := fun σ H Q => ∃ W ρ d, C W ∧ SD K W σ ρ H ∧ f ρ = some d ∧ ∀ v H', Rw W H H' → W.J H' → Rp K (off W.foot H') v d → Q v H'
def SqV (K : PySem.W.Frag) (H : Hp) (v : V) (xs : List V) : Prop := ∃ a, v = .ref a ∧ (Rd H a (.lst xs) ∨ SqT K H a xs)
def tL (K : PySem.W.Frag) (C : Wd → Prop) (f : Ro → Option (List D)) : TE := fun σ H Q => ∃ W ρ ds, C W ∧ SD K W σ ρ H ∧ f ρ = some ds ∧ ∀ v xs H', Rw W H H' → W.J H' → SqV K (off W.foot H') v xs → RpAll K (vw W σ ρ H') xs ds → Q v H'
def tF (K : PySem.W.Frag) (C : Wd → Prop) (f : Ro → Option (List D)) : TE := fun σ H Q => ∃ W ρ ds, C W ∧ SD K W σ ρ H ∧ f ρ = some ds ∧ ∀ a xs H', Rw W H H' → W.J H' → H a = none → ¬ W.foot a → H' a = some (.lst xs) → RpAll K (off (fun b => (W.foot b ∨ isOw σ ρ b) ∨ b = a) H') xs ds → Q (.ref a) H'
def tT (K : PySem.W.Frag) (C : Wd → Prop) (f : Ro → Option Bool) : TT := fun σ H Q => ∃ W ρ b, C W ∧ SD K W σ ρ H ∧ f ρ = some b ∧ ∀ H', Rw W H H' → W.J H' → Q b H'
def tAs (K : PySem.W.Frag) (C : Wd → Prop) (f : Ro → Option (List D)) : TA := fun σ H Q => ∃ W ρ ds, C W ∧ SD K W σ ρ H ∧ f ρ = some ds ∧ ∀ vs H', Rw W H H' → W.J H' → RpAll K (vw W σ ρ H') vs ds → Q vs H'
abbrev DE (X : Cx) (C : Wd → Prop) (e : Expr) (f : Ro → Option D) : Prop := PE X e (tD X.K C f)
abbrev DN (X : Cx) (C : Wd → Prop) (e : Expr) (f : Ro → Option D) : Prop := PE X e (tN X.K C f)
abbrev DLi (X : Cx) (C : Wd → Prop) (e : Expr) (f : Ro → Option (List D)) : Prop := PE X e (tL X.K C f)
abbrev DF (X : Cx) (C : Wd → Prop) (e : Expr) (f : Ro → Option (List D)) : Prop := PE X e (tF X.K C f)
abbrev DT (X : Cx) (C : Wd → Prop) (e : Expr) (f : Ro → Option Bool) : Prop := PT X e (tT X.K C f)
abbrev DA (X : Cx) (C : Wd → Prop) (es : List Expr) (f : Ro → Option (List D)) : Prop := PA X es (tAs X.K C f)
theorem pe_imp {X : Cx} {e : Expr} {t t' : TE} (h : PE X e t) (hi : ∀ σ H Q, t' σ H Q → t σ H Q) : PE X e t' := ⟨fun pins s σ H Q I q => h.run pins s σ H Q I (hi σ H Q q)⟩
theorem pt_imp {X : Cx} {e : Expr} {t t' : TT} (h : PT X e t) (hi : ∀ σ H Q, t' σ H Q → t σ H Q) : PT X e t' := ⟨fun pins s σ H Q I q => h.run pins s σ H Q I (hi σ H Q q)⟩
theorem pw_imp {X : Cx} {e : Expr} {t t' : TT} (h : PW X e t) (hi : ∀ σ H Q, t' σ H Q → t σ H Q) : PW X e t' := ⟨fun wh pins s σ H Q I q => h.run wh pins s σ H Q I (hi σ H Q q)⟩
theorem pa_imp {X : Cx} {e : List Expr} {t t' : TA} (h : PA X e t) (hi : ∀ σ H Q, t' σ H Q → t σ H Q) : PA X e t' := ⟨fun pos pins s σ H Q I q => h.run pos pins s σ H Q I (hi σ H Q q)⟩
theorem ps_imp {X : Cx} {e : Stmt} {t t' : TS} (h : PS X e t) (hi : ∀ D σ H, t' D σ H → t D σ H) : PS X e t' := ⟨fun pins s σ H D I q => h.run pins s σ H D I (hi D σ H q)⟩
theorem pss_imp {X : Cx} {e : List Stmt} {t t' : TS} (h : PSs X e t) (hi : ∀ D σ H, t' D σ H → t D σ H) : PSs X e t' := ⟨fun pins s σ H D I q => h.run pins s σ H D I (hi D σ H q)⟩
section
variable {X : Cx} {C : Wd → Prop} {e a b : Expr} {f g : Ro → Option D} {pos : Pos}
theorem de_n (h : DE X C e f) : DN X C e f := pe_imp h fun σ H Q ⟨W, ρ, d, c, s, hf, q⟩ => ⟨W, ρ, d, c, s, hf, fun v H' r j dp => q v H' r j (dp.mono vw_sub)⟩
theorem dn_atom (h : DN X C e f) (ha : ∀ ρ d, f ρ = some d → atom d = true) : DE X C e f := pe_imp h fun σ H Q ⟨W, ρ, d, c, s, hf, q⟩ => ⟨W, ρ, d, c, s, hf, fun v H' r j dp => q v H' r j (dp.atom (ha ρ d hf))⟩
def rdS (i : Nat) : Ro → Option D := fun ρ => match ρ[i]? with
  | some (.sh d) => some d
  | _ => none
def rdO (i : Nat) : Ro → Option (List D) := fun ρ => match ρ[i]? with
  | some (.ow d) => some d
  | _ => none
theorem rdS_some {i : Nat} {ρ : Ro} {d : D} (h : rdS i ρ = some d) : ρ[i]? = some (.sh d) := by
  unfold rdS at h
  split at h
  · cases h; assumption
  · cases h
theorem rdO_some {i : Nat} {ρ : Ro} {d : List D} (h : rdO i ρ = some d) : ρ[i]? = some (.ow d) := by
  unfold rdO at h
  split at h
  · cases h; assumption
  · cases h
theorem dv (i : Nat) {x : Str} {pos : Pos} (hN : X.N[i]? = some x := by rfl) (hv : Vis X.env.scope x := by first | exact Or.inl rfl | exact Or.inr (Or.inl rfl) | exact Or.inr (Or.inr rfl)) (hd : (x == ("__debug__" : Str)) = false := by decide)
    (hcd : (x == ("__classdict__" : Str)) = false := by decide) : DE X C (.Name x pos) (rdS i) :=
  pe_imp (pe_var (i := i) hN hv hd hcd) fun σ H Q ⟨W, ρ, d, c, s, hf, q⟩ => by
    obtain ⟨v, h1, h2⟩ := s.sh i d (rdS_some hf)
    exact ⟨v, h1, q v H (Rw.refl _ _) s.j h2⟩
theorem dvL (i : Nat) {x : Str} {pos : Pos} (hN : X.N[i]? = some x := by rfl) (hv : Vis X.env.scope x := by first | exact Or.inl rfl | exact Or.inr (Or.inl rfl) | exact Or.inr (Or.inr rfl)) (hd : (x == ("__debug__" : Str)) = false := by decide)
    (hcd : (x == ("__classdict__" : Str)) = false := by decide) : DLi X C (.Name x pos) (rdO i) :=
  pe_imp (pe_var (i := i) hN hv hd hcd) fun σ H Q ⟨W, ρ, d, c, s, hf, q⟩ => by
    obtain ⟨a, xs, h1, h2, h3, h4⟩ := s.ow i d (rdO_some hf)
    exact ⟨_, h1, q _ xs H (Rw.refl _ _) s.j ⟨a, rfl, .inl (Rd.of (by rw [off_neg h4]; exact h2))⟩ h3⟩
def asL (f : Ro → Option (List D)) : Ro → Option D := fun ρ => (f ρ).map .list
theorem dvO (i : Nat) {x : Str} {pos : Pos} (hN : X.N[i]? = some x := by rfl) (hv : Vis X.env.scope x := by first | exact Or.inl rfl | exact Or.inr (Or.inl rfl) | exact Or.inr (Or.inr rfl)) (hd : (x == ("__debug__" : Str)) = false := by decide)
    (hcd : (x == ("__classdict__" : Str)) = false := by decide) : DN X C (.Name x pos) (asL (rdO i)) :=
  pe_imp (pe_var (i := i) hN hv hd hcd) fun σ H Q ⟨W, ρ, d, c, s, hf, q⟩ => by
    unfold asL at hf
    cases hr : rdO i ρ with
    | none => rw [hr] at hf; cases hf
    | some ds =>
      rw [hr] at hf
      cases hf
      obtain ⟨a, xs, h1, h2, h3, h4⟩ := s.ow i ds (rdO_some hr)
      exact ⟨_, h1, q _ H (Rw.refl _ _) s.j (.lst (Rd.of (by rw [off_neg h4]; exact h2)) (h3.mono vw_sub))⟩
def itemsOf : D → Option (List D)
  | .list ds => some ds
  | .tuple ds => some ds
  | _ => none
def asItems (f : Ro → Option D) : Ro → Option (List D) := fun ρ => (f ρ).bind itemsOf
theorem de_items (h : DE X C e f) : DLi X C e (asItems f) := pe_imp h fun σ H Q ⟨W, ρ, ds, c, s, hf, q⟩ => by
  unfold asItems at hf
  cases hr : f ρ with
  | none => rw [hr] at hf; cases hf
  | some d =>
    rw [hr] at hf
    refine ⟨W, ρ, d, c, s, hr, fun v H' r j dp => ?_⟩
    cases dp with
    | lst hl ha => cases hf; exact q _ _ H' r j ⟨_, rfl, .inl (Rd.mono vw_sub hl)⟩ ha
    | tup hl ha => cases hf; exact q _ _ H' r j ⟨_, rfl, .inr (SqT.mono vw_sub hl)⟩ ha
    | _ => cases hf
theorem tC_de {v : V} {d : D} (h : PE X e (tC v)) (hd : ∀ H, Rp X.K H v d) : DE X C e (fun _ => some d) := pe_imp h fun σ H Q ⟨W, ρ, d', c, s, hf, q⟩ => by
  cases hf
  exact q v H (Rw.refl _ _) s.j (hd _)
theorem de_int {i j pos} : DE X C (.Constant (.int i) j pos) (fun _ => some (.int i)) := tC_de pe_int fun _ => .int i
theorem de_bl {i j pos} : DE X C (.Constant (.bool i) j pos) (fun _ => some (.bool i)) := tC_de pe_bl fun _ => .bl i
theorem de_non {j pos} : DE X C (.Constant .none j pos) (fun _ => some .none) := tC_de pe_non fun _ => .non
theorem de_str {x j pos} : DE X C (.Constant (.str x) j pos) (fun _ => some (.str x)) := tC_de pe_str fun _ => .str x
theorem de_gint {x : Str} {i : Int} {t : Tok} {pos : Pos} (hg : Gl X x) (hm : X.mg x = some (.int i t)) (hd : (x == ("__debug__" : Str)) = false := by decide) : DE X C (.Name x pos) (fun _ => some (.int i)) := tC_de (pe_glob (v := .int i) hg hm ⟨t, rfl⟩ hd) fun _ => .int i
theorem de_gstr {x i : Str} {t : Tok} {pos : Pos} (hg : Gl X x) (hm : X.mg x = some (.str i t)) (hd : (x == ("__debug__" : Str)) = false := by decide) : DE X C (.Name x pos) (fun _ => some (.str i)) := tC_de (pe_glob (v := .str i) hg hm ⟨t, rfl⟩ hd) fun _ => .str i
theorem de_gdat {x : Str} {v : V} {u : Value} {d : D} {pos : Pos} (hg : Gl X x) (hm : X.mg x = some u) (r : RelV v u) (hd' : Rp X.K (fun _ => none) v d) (hd : (x == ("__debug__" : Str)) = false := by decide) : DE X C (.Name x pos) (fun _ => some d) :=
  tC_de (pe_glob hg hm r hd) fun _ => hd'.mono fun _ _ z => by cases z
end
def rDD (K : PySem.W.Frag) (g : D → D → Option D) : R2 := fun x y H Q => ∃ (p : Addr → Prop) (d e z : D), (∀ a, p a → H a ≠ none) ∧ Rp K (off p H) x d ∧ Rp K (off p H) y e ∧ g d e = some z ∧ ∀ v H', Same H H' → Rp K (off p H') v z → Q v H'
def bi (g : D → D → Option D) (f f' : Ro → Option D) : Ro → Option D := fun ρ => match f ρ, f' ρ with
  | some x, some y => g x y
  | _, _ => none
theorem bi_some {g : D → D → Option D} {f f' : Ro → Option D} {ρ : Ro} {z : D} (h : bi g f f' ρ = some z) : ∃ x y, f ρ = some x ∧ f' ρ = some y ∧ g x y = some z := by
  unfold bi at h
  split at h
  · exact ⟨_, _, by assumption, by assumption, h⟩
  · cases h
section
variable {X : Cx} {C : Wd → Prop} {a b : Expr} {f f' : Ro → Option D} {g : D → D → Option D} {pos : Pos}
theorem t2_D (hr : ∀ x y H Q, rDD X.K g x y H Q → r x y H Q) : ∀ σ H Q, tD X.K C (bi g f f') σ H Q → tOp r (tD X.K C f) (tD X.K C f') σ H Q := by
  rintro σ H Q ⟨W, ρ, z, c, s, hf, q⟩
  obtain ⟨x, y, hx, hy, hz⟩ := bi_some hf
  refine ⟨W, ρ, x, c, s, hx, fun v H1 r1 j1 d1 => ⟨W, ρ, y, c, s.next r1 j1, hy, fun u H2 r2 j2 d2 => hr _ _ _ _ ?_⟩⟩
  refine ⟨fun a => W.foot a ∨ isOw σ ρ a, x, y, z, fun a h => ((s.next r1 j1).next r2 j2).excl h, d1.mono (vw_mono r2), d2, hz, fun w H3 sm dz => ?_⟩
  exact q w H3 ((r1.trans r2).trans (Rw.of sm)) (W.same j2 sm) dz
theorem t2_N (hr : ∀ x y H Q, rDD X.K g x y H Q → r x y H Q) : ∀ σ H Q, tN X.K C (bi g f f') σ H Q → tOp r (tN X.K C f) (tN X.K C f') σ H Q := by
  rintro σ H Q ⟨W, ρ, z, c, s, hf, q⟩
  obtain ⟨x, y, hx, hy, hz⟩ := bi_some hf
  refine ⟨W, ρ, x, c, s, hx, fun v H1 r1 j1 d1 => ⟨W, ρ, y, c, s.next r1 j1, hy, fun u H2 r2 j2 d2 => hr _ _ _ _ ?_⟩⟩
  refine ⟨W.foot, x, y, z, fun a h => ((s.next r1 j1).next r2 j2).excl (.inl h), d1.mono (off_mono (fun _ _ _ h => h) fun a o n e => r2 a o n e), d2, hz, fun w H3 sm dz => ?_⟩
  exact q w H3 ((r1.trans r2).trans (Rw.of sm)) (W.same j2 sm) dz
theorem de_op {op : Operator} (ho : OpR X (binaryOp op) (rDD X.K g)) (ha : DE X C a f) (hb : DE X C b f') : DE X C (.BinOp a op b pos) (bi g f f') := pe_imp (pe_op ho ha hb) (t2_D fun _ _ _ _ h => h)
theorem de_cmp {op : CmpOp} (ho : OpR X (compareOp op) (rDD X.K g)) (ha : DE X C a f) (hb : DE X C b f') (hm : behindInMarks op b = false) : DE X C (.Compare a [op] [b] pos) (bi g f f') := pe_imp (pe_cmpR ho ha hb hm) (t2_D fun _ _ _ _ h => h)
end
end DL
namespace L2
open PySem PySem.Spec PyProof.Rows
section
variable {X : Cx} {pins : List (Addr × Obj)} {σ : St} {H : Hp} {s : Shared}
theorem Inv.lstR {l : Addr} {xs : List V} (I : Inv X pins σ H s) (h : Rd H l (.lst xs)) : xs.length ≤ sizeLine ∧ ∃ (its : List Value) (n : Nat), Vals xs its ∧ xs.length = its.length ∧ s.heap.get? l = some { cls := .type "list", data := .seq its.toArray n } := by
  obtain ⟨z, its, n, r, e⟩ := h.ok I.hok
  exact ⟨z, its, n, r, r.length, e⟩
def rCatR : R2 := fun x y H Q => ∃ l b xs zs, x = .ref l ∧ y = .ref b ∧ Rd H l (.lst xs) ∧ Rd H b (.lst zs) ∧ xs.length + zs.length ≤ sizeLine ∧ ∀ p, H p = none → Q (.ref p) (upd H p (.lst (xs ++ zs)))
theorem op_catR : OpR X (binaryOp .Add) rCatR := by
  intro pins s σ H x y v u Q I rx ry h
  obtain ⟨l, b, xs, zs, rfl, rfl, hH, hB, hz, q⟩ := h
  cases rx
  cases ry
  obtain ⟨z, its, n, r, hl, e⟩ := I.lstR hH
  obtain ⟨z2, its2, n2, r2, hl2, e2⟩ := I.lstR hB
  refine PySem.P.add_list e e2 ?_ (by rw [List.size_toArray, List.size_toArray]; omega)
  have ea : its.toArray ++ its2.toArray = (its ++ its2).toArray := by simp
  rw [ea]
  exact ⟨.ref _, _, I.lnew (t' := s.toks) (r.append r2) (by rw [List.length_append]; omega), rfl, q _ I.fresh⟩
end
theorem Rp.int_inv {K : PySem.W.Frag} {H : Hp} {v : V} {i : Int} (h : Rp K H v (.int i)) : v = .int i := by cases h; rfl
theorem Rp.bl_inv {K : PySem.W.Frag} {H : Hp} {v : V} {i : Bool} (h : Rp K H v (.bool i)) : v = .bl i := by cases h; rfl
theorem Rp.str_inv {K : PySem.W.Frag} {H : Hp} {v : V} {i : Str} (h : Rp K H v (.str i)) : v = .str i := by cases h; rfl
theorem Rp.lst_inv {K : PySem.W.Frag} {H : Hp} {v : V} {ds : List PyData} (h : Rp K H v (.list ds)) : ∃ a xs, v = .ref a ∧ Rd H a (.lst xs) ∧ RpAll K H xs ds := by cases h; exact ⟨_, _, rfl, by assumption, by assumption⟩
theorem Rp.tup_inv {K : PySem.W.Frag} {H : Hp} {v : V} {ds : List PyData} (h : Rp K H v (.tuple ds)) : ∃ a xs, v = .ref a ∧ SqT K H a xs ∧ RpAll K H xs ds := by cases h; exact ⟨_, _, rfl, by assumption, by assumption⟩
end L2
namespace DL
open PySem PySem.Spec L2
def Bd (K : PySem.W.Frag) (H : Hp) : Prop := ∀ a xs, Rd H a (.lst xs) ∨ SqT K H a xs → xs.length ≤ sizeLine
theorem bd_of {X : Cx} {pins : List (Addr × Obj)} {σ : L2.St} {H : Hp} {s : Shared} (I : Inv X pins σ H s) : Bd X.K H := fun a xs h => by
  rcases h with h | h
  · exact (I.lstR h).1
  · obtain ⟨_, _, _, z⟩ := I.tuple h
    exact z
theorem pi_bd {X : Cx} {tg e : Expr} {t : TI} (h : PI X tg e t) : PI X tg e (fun σ H R => t σ H fun J H1 => Bd X.K H1 → R J H1) := ⟨fun pins s σ H R I q =>
  thn (h.run pins s σ H _ I q) fun v s1 h1 => thn h1 fun u s2 ⟨it, fp, tn, J, H', e, I', T, st, f, r⟩ => ⟨it, fp, tn, J, H', e, I', T, st, f, r (bd_of I')⟩⟩
theorem off_upd {p : Addr → Prop} {H : Hp} {a : Addr} {o : HO} (hp : ∀ b, p b → H b ≠ none) (h : H a = none) : Same (off p H) (off p (upd H a o)) :=
  off_mono (fun _ _ _ z => z) fun b u _ e => same_upd h b u e
theorem off_new {p : Addr → Prop} {H : Hp} {a : Addr} {o : HO} (hp : ∀ b, p b → H b ≠ none) (h : H a = none) : off p (upd H a o) a = some o := by
  rw [off_neg fun z => hp a z h, upd_same]
def dAdd : D → D → Option D
  | .int i, .int j => some (.int (i + j))
  | .str x, .str y => if x.length + y.length ≤ sizeLine then some (.str (x ++ y)) else none
  | .list xs, .list ys => if xs.length + ys.length ≤ sizeLine then some (.list (xs ++ ys)) else none
  | .tuple xs, .tuple ys => if xs.length + ys.length ≤ sizeLine then some (.tuple (xs ++ ys)) else none
  | _, _ => none
def dSub : D → D → Option D
  | .int i, .int j => some (.int (i - j))
  | _, _ => none
def dMod : D → D → Option D
  | .int i, .int j => if 0 < j then some (.int (i % j)) else none
  | _, _ => none
section
variable {X : Cx}
theorem rp_app {K : PySem.W.Frag} {H H' : Hp} {xs ys : List V} {ds es : List D} (s : Same H H') (h1 : RpAll K H xs ds) (h2 : RpAll K H ys es) : RpAll K H' (xs ++ ys) (ds ++ es) := (h1.mono s).append (h2.mono s)
theorem op_addD : OpR X (binaryOp .Add) (rDD X.K dAdd) := by
  refine OpR.imp (op_add.or (op_add_str.or (op_catR.or op_catA))) ?_
  rintro x y H Q ⟨p, d, e, z, hp, h1, h2, hg, q⟩
  unfold dAdd at hg
  split at hg
  · cases hg
    cases h1; cases h2
    exact .inl ⟨_, _, rfl, rfl, q _ _ (Same.refl _) (.int _)⟩
  · split at hg
    · cases hg
      cases h1; cases h2
      exact .inr (.inl ⟨_, _, rfl, rfl, by assumption, q _ _ (Same.refl _) (.str _)⟩)
    · cases hg
  · split at hg
    · cases hg
      rename_i hz
      obtain ⟨a, us, rfl, ha, hu⟩ := h1.lst_inv
      obtain ⟨b, ws, rfl, hb, hw⟩ := h2.lst_inv
      refine .inr (.inr (.inl ⟨a, b, us, ws, rfl, rfl, ha.mono off_sub, hb.mono off_sub, by rw [hu.length, hw.length]; exact hz, fun l hl => ?_⟩))
      exact q _ _ (same_upd hl) (.lst (Rd.of (off_new hp hl)) (rp_app (off_upd hp hl) hu hw))
    · cases hg
  · split at hg
    · cases hg
      rename_i hz
      obtain ⟨a, us, rfl, ha, hu⟩ := h1.tup_inv
      obtain ⟨b, ws, rfl, hb, hw⟩ := h2.tup_inv
      refine .inr (.inr (.inr ⟨a, b, us, ws, rfl, rfl, ha.mono off_sub, hb.mono off_sub, by rw [hu.length, hw.length]; exact hz, fun e => ?_, fun _ e => ?_, fun _ _ l hl => ?_⟩))
      · subst e
        cases hu
        exact q _ _ (Same.refl _) (.tup hb hw)
      · subst e
        cases hw
        rw [List.append_nil] at q
        exact q _ _ (Same.refl _) (.tup ha hu)
      · exact q _ _ (same_upd hl) (.tup (SqT.of (off_new hp hl)) (rp_app (off_upd hp hl) hu hw))
    · cases hg
  · cases hg
theorem opI {F : Value → Value → Sem Value} {C : Int → Int → Prop} {g : Int → Int → Int} {G : D → D → Option D} (h : OpR X F (rI C fun i j => .int (g i j))) (hG : ∀ d e z, G d e = some z → ∃ i j, d = .int i ∧ e = .int j ∧ C i j ∧ z = .int (g i j)) : OpR X F (rDD X.K G) :=
  OpR.imp h fun x y H Q ⟨p, d, e, z, hp, h1, h2, hg, q⟩ => by
    obtain ⟨i, j, rfl, rfl, c, rfl⟩ := hG d e z hg
    cases h1; cases h2
    exact ⟨i, j, rfl, rfl, c, q _ _ (Same.refl _) (.int _)⟩
theorem opI0 {F : Value → Value → Sem Value} {g : Int → Int → Int} {G : D → D → Option D} (h : OpR X F (rI0 fun i j => .int (g i j))) (hG : ∀ d e z, G d e = some z → ∃ i j, d = .int i ∧ e = .int j ∧ z = .int (g i j)) : OpR X F (rDD X.K G) :=
  OpR.imp h fun x y H Q ⟨p, d, e, z, hp, h1, h2, hg, q⟩ => by
    obtain ⟨i, j, rfl, rfl, rfl⟩ := hG d e z hg
    cases h1; cases h2
    exact ⟨i, j, rfl, rfl, q _ _ (Same.refl _) (.int _)⟩
theorem opB0 {F : Value → Value → Sem Value} {g : Int → Int → Bool} {G : D → D → Option D} (h : OpR X F (rI0 fun i j => .bl (g i j))) (hG : ∀ d e z, G d e = some z → ∃ i j, d = .int i ∧ e = .int j ∧ z = .bool (g i j)) : OpR X F (rDD X.K G) :=
  OpR.imp h fun x y H Q ⟨p, d, e, z, hp, h1, h2, hg, q⟩ => by
    obtain ⟨i, j, rfl, rfl, rfl⟩ := hG d e z hg
    cases h1; cases h2
    exact ⟨i, j, rfl, rfl, q _ _ (Same.refl _) (.bl _)⟩
theorem op_subD : OpR X (binaryOp .Sub) (rDD X.K dSub) := opI0 op_sub fun d e z h => by
  unfold dSub at h; split at h
  · cases h; exact ⟨_, _, rfl, rfl, rfl⟩
  · cases h
theorem op_modD : OpR X (binaryOp .Mod) (rDD X.K dMod) := opI op_mod fun d e z h => by
  unfold dMod at h; split at h
  · split at h
    · cases h; exact ⟨_, _, rfl, rfl, by assumption, rfl⟩
    · cases h
  · cases h
end
def dLt : D → D → Option D
  | .int i, .int j => some (.bool (decide (i < j)))
  | _, _ => none
def dLe : D → D → Option D
  | .int i, .int j => some (.bool (decide (i ≤ j)))
  | _, _ => none
def dGt : D → D → Option D
  | .int i, .int j => some (.bool (decide (j < i)))
  | _, _ => none
def dGe : D → D → Option D
  | .int i, .int j => some (.bool (decide (j ≤ i)))
  | _, _ => none
def dEq (d e : D) : Option D := if SeqAt.shaped d = true ∧ SeqAt.shaped e = true then some (.bool (PyData.eqv d e)) else none
def dNe (d e : D) : Option D := if SeqAt.shaped d = true ∧ SeqAt.shaped e = true then some (.bool (!PyData.eqv d e)) else none
section
variable {X : Cx}
theorem op_ltD : OpR X (compareOp .Lt) (rDD X.K dLt) := opB0 op_lt fun d e z h => by
  unfold dLt at h; split at h
  · cases h; exact ⟨_, _, rfl, rfl, rfl⟩
  · cases h
theorem op_leD : OpR X (compareOp .LtE) (rDD X.K dLe) := opB0 op_le fun d e z h => by
  unfold dLe at h; split at h
  · cases h; exact ⟨_, _, rfl, rfl, rfl⟩
  · cases h
theorem op_gtD : OpR X (compareOp .Gt) (rDD X.K dGt) := opB0 op_gt fun d e z h => by
  unfold dGt at h; split at h
  · cases h; exact ⟨_, _, rfl, rfl, rfl⟩
  · cases h
theorem op_geD : OpR X (compareOp .GtE) (rDD X.K dGe) := opB0 op_ge fun d e z h => by
  unfold dGe at h; split at h
  · cases h; exact ⟨_, _, rfl, rfl, rfl⟩
  · cases h
theorem op_eqDD (hu : X.A.units + 64 < cLine) : OpR X (compareOp .Eq) (rDD X.K dEq) := OpR.imp (op_eqD hu) fun x y H Q ⟨p, d, e, z, hp, h1, h2, hg, q⟩ => by
  unfold dEq at hg; split at hg
  · cases hg
    rename_i hs
    exact ⟨d, e, (h1.mono off_sub).dp (SeqAt.canLay_of_shaped hs.1), (h2.mono off_sub).dp (SeqAt.canLay_of_shaped hs.2), hs.1, hs.2, q _ _ (Same.refl _) (.bl _)⟩
  · cases hg
theorem op_neDD (hu : X.A.units + 64 < cLine) : OpR X (compareOp .NotEq) (rDD X.K dNe) := OpR.imp (op_neD hu) fun x y H Q ⟨p, d, e, z, hp, h1, h2, hg, q⟩ => by
  unfold dNe at hg; split at hg
  · cases hg
    rename_i hs
    exact ⟨d, e, (h1.mono off_sub).dp (SeqAt.canLay_of_shaped hs.1), (h2.mono off_sub).dp (SeqAt.canLay_of_shaped hs.2), hs.1, hs.2, q _ _ (Same.refl _) (.bl _)⟩
  · cases hg
end
end DL
namespace DL
open PySem PySem.Spec L2
def dInG (neg : Bool) (d : D) : D → Option D
  | .list ds => if SeqAt.shaped d = true ∧ SeqAt.shaped (.list ds) = true then some (.bool (ds.any (fun z => PyData.eqv z d) != neg)) else none
  | .tuple ds => if SeqAt.shaped d = true ∧ SeqAt.shaped (.tuple ds) = true then some (.bool (ds.any (fun z => PyData.eqv z d) != neg)) else none
  | .str y => match d with
    | .str x => some (.bool ((!(Builtin.Str.occurrences y x 0 y.length 1).isEmpty) != neg))
    | _ => none
  | _ => none
def dInc := dInG false
def dNin := dInG true
section
variable {X : Cx}
theorem op_inTD (hu : X.A.units + 65 < cLine) : OpR X (compareOp .In) (fun x y H Q => ∃ d ds, Dp X.K H x d ∧ Dp X.K H y (.tuple ds) ∧ SeqAt.shaped d = true ∧ SeqAt.shaped (.tuple ds) = true ∧ Q (.bl (ds.any fun z => PyData.eqv z d)) H) := by
  intro pins s σ H x y v u Q I rx ry h
  obtain ⟨d, ds, hd, he, sd, se, q⟩ := h
  obtain ⟨as, r1⟩ := Dp.reads I d x v hd rx
  obtain ⟨bs, r2⟩ := Dp.reads I (.tuple ds) y u he ry
  exact SeqAt.in_tuple_reads r2 r1 (SeqAt.canLay_of_shaped se) (SeqAt.canLay_of_shaped sd) (PyProof.Rows.room_in_shaped sd hu) ⟨.bl _, H, I, rfl, q⟩
theorem op_notInTD (hu : X.A.units + 65 < cLine) : OpR X (compareOp .NotIn) (fun x y H Q => ∃ d ds, Dp X.K H x d ∧ Dp X.K H y (.tuple ds) ∧ SeqAt.shaped d = true ∧ SeqAt.shaped (.tuple ds) = true ∧ Q (.bl (!ds.any fun z => PyData.eqv z d)) H) := by
  intro pins s σ H x y v u Q I rx ry h
  obtain ⟨d, ds, hd, he, sd, se, q⟩ := h
  obtain ⟨as, r1⟩ := Dp.reads I d x v hd rx
  obtain ⟨bs, r2⟩ := Dp.reads I (.tuple ds) y u he ry
  exact SeqAt.notIn_tuple_reads r2 r1 (SeqAt.canLay_of_shaped se) (SeqAt.canLay_of_shaped sd) (PyProof.Rows.room_in_shaped sd hu) ⟨.bl _, H, I, rfl, q⟩
theorem bne_false (b : Bool) : (b != false) = b := by cases b <;> rfl
theorem bne_true (b : Bool) : (b != true) = !b := by cases b <;> rfl
theorem hu65 {k : Nat} {A : Around} (hr : Room k A) : A.units + 65 < cLine := by have := hr.un; omega
theorem op_inDD (hu : X.A.units + 65 < cLine) : OpR X (compareOp .In) (rDD X.K dInc) := by
  refine OpR.imp ((op_inD hu).or ((op_inTD hu).or op_in_str)) ?_
  rintro x y H Q ⟨p, d, e, z, hp, h1, h2, hg, q⟩
  unfold dInc dInG at hg
  split at hg
  · split at hg
    · cases hg
      rename_i hs
      exact .inl ⟨d, _, (h1.mono off_sub).dp (SeqAt.canLay_of_shaped hs.1), (h2.mono off_sub).dp (SeqAt.canLay_of_shaped hs.2), hs.1, hs.2, by rw [bne_false] at q; exact q _ _ (Same.refl _) (.bl _)⟩
    · cases hg
  · split at hg
    · cases hg
      rename_i hs
      exact .inr (.inl ⟨d, _, (h1.mono off_sub).dp (SeqAt.canLay_of_shaped hs.1), (h2.mono off_sub).dp (SeqAt.canLay_of_shaped hs.2), hs.1, hs.2, by rw [bne_false] at q; exact q _ _ (Same.refl _) (.bl _)⟩)
    · cases hg
  · split at hg
    · cases hg
      cases h1; cases h2
      exact .inr (.inr ⟨_, _, rfl, rfl, by rw [bne_false] at q; exact q _ _ (Same.refl _) (.bl _)⟩)
    · cases hg
  · cases hg
theorem op_ninDD (hu : X.A.units + 65 < cLine) : OpR X (compareOp .NotIn) (rDD X.K dNin) := by
  refine OpR.imp ((op_notInD hu).or ((op_notInTD hu).or op_notin_str)) ?_
  rintro x y H Q ⟨p, d, e, z, hp, h1, h2, hg, q⟩
  unfold dNin dInG at hg
  split at hg
  · split at hg
    · cases hg
      rename_i hs
      exact .inl ⟨d, _, (h1.mono off_sub).dp (SeqAt.canLay_of_shaped hs.1), (h2.mono off_sub).dp (SeqAt.canLay_of_shaped hs.2), hs.1, hs.2, by rw [bne_true] at q; exact q _ _ (Same.refl _) (.bl _)⟩
    · cases hg
  · split at hg
    · cases hg
      rename_i hs
      exact .inr (.inl ⟨d, _, (h1.mono off_sub).dp (SeqAt.canLay_of_shaped hs.1), (h2.mono off_sub).dp (SeqAt.canLay_of_shaped hs.2), hs.1, hs.2, by rw [bne_true] at q; exact q _ _ (Same.refl _) (.bl _)⟩)
    · cases hg
  · split at hg
    · cases hg
      cases h1; cases h2
      exact .inr (.inr ⟨_, _, rfl, rfl, by rw [bne_true] at q; exact q _ _ (Same.refl _) (.bl _)⟩)
    · cases hg
  · cases hg
def isN : D → Bool
  | .none => true
  | _ => false
theorem Rp.isN {K : PySem.W.Frag} {H : Hp} {v : V} {d : D} (h : Rp K H v d) : decide (v = .non) = isN d := by
  cases h <;> first | rfl | exact decide_eq_false (fun z => nomatch z)
def dIsN (d e : D) : Option D := match e with
  | .none => some (.bool (isN d))
  | _ => none
def dNotN (d e : D) : Option D := match e with
  | .none => some (.bool (!isN d))
  | _ => none
theorem op_isND : OpR X (compareOp .Is) (rDD X.K dIsN) := OpR.imp op_isN fun x y H Q ⟨p, d, e, z, hp, h1, h2, hg, q⟩ => by
  unfold dIsN at hg
  split at hg
  · cases hg
    cases h2
    exact ⟨rfl, by rw [Rp.isN h1]; exact q _ _ (Same.refl _) (.bl _)⟩
  · cases hg
theorem op_notND : OpR X (compareOp .IsNot) (rDD X.K dNotN) := OpR.imp op_notN fun x y H Q ⟨p, d, e, z, hp, h1, h2, hg, q⟩ => by
  unfold dNotN at hg
  split at hg
  · cases hg
    cases h2
    exact ⟨rfl, by rw [Rp.isN h1]; exact q _ _ (Same.refl _) (.bl _)⟩
  · cases hg
end
def truth : D → Option Bool
  | .none => some false
  | .bool b => some b
  | .int i => some (i != 0)
  | .str y => if y.length ≤ sizeLine then some ((y.length : Int) != 0) else none
  | .list ds => some (!ds.isEmpty)
  | .tuple ds => some (!ds.isEmpty)
  | .dict _ => none
theorem RpAll.isEmpty {K : PySem.W.Frag} {H : Hp} {vs : List V} {ds : List D} (h : RpAll K H vs ds) : vs.isEmpty = ds.isEmpty := by
  cases h <;> rfl
theorem tru_of {K : PySem.W.Frag} {H H' : Hp} {v : V} {d : D} {b : Bool} (s : Same H H') (h : Rp K H v d) (ht : truth d = some b) : TruV K v H' b := by
  cases h with
  | non => cases ht; exact rfl
  | bl b => cases ht; exact rfl
  | int i => cases ht; exact rfl
  | str x =>
    simp only [truth] at ht
    split at ht
    · cases ht; exact ⟨by assumption, rfl⟩
    · cases ht
  | lst hl ha => cases ht; exact .inl ⟨_, .inl (hl.mono s), by rw [RpAll.isEmpty ha]⟩
  | tup hl ha => cases ht; exact .inr (.inl ⟨_, hl.mono s, by rw [RpAll.isEmpty ha]⟩)
  | scr _ => cases ht
def tru (f : Ro → Option D) : Ro → Option Bool := fun ρ => (f ρ).bind truth
theorem tru_some {f : Ro → Option D} {ρ : Ro} {b : Bool} (h : tru f ρ = some b) : ∃ d, f ρ = some d ∧ truth d = some b := by
  unfold tru at h
  cases hf : f ρ with
  | none => rw [hf] at h; cases h
  | some d => rw [hf] at h; exact ⟨d, rfl, h⟩
section
variable {X : Cx} {C : Wd → Prop} {a b c e : Expr} {f g f' : Ro → Option D} {t u : Ro → Option Bool} {pos : Pos} {rest : List Expr}
theorem dt_n (ha : DN X C a f) (he : ∀ whole, isTrue a X.env whole = (do let v ← whole; standAt a.pos; holding [v] (truthy v)) := by intro _; rfl) : DT X C a (tru f) :=
  pt_imp (pt_truth ha he) fun σ H Q ⟨W, ρ, b, c, s, hf, q⟩ => by
    obtain ⟨d, hd, ht⟩ := tru_some hf
    exact ⟨W, ρ, d, c, s, hd, fun v H' r j dp => ⟨b, tru_of off_sub dp ht, q H' r j⟩⟩
theorem dt (ha : DE X C a f) (he : ∀ whole, isTrue a X.env whole = (do let v ← whole; standAt a.pos; holding [v] (truthy v)) := by intro _; rfl) : DT X C a (tru f) := dt_n (de_n ha) he
def asB (f : Ro → Option D) : Ro → Option Bool := fun ρ => match f ρ with
  | some (.bool b) => some b
  | _ => none
theorem asB_some {f : Ro → Option D} {ρ : Ro} {b : Bool} (h : asB f ρ = some b) : f ρ = some (.bool b) := by
  unfold asB at h
  split at h
  · cases h; assumption
  · cases h
theorem dt_cmp {op : CmpOp} {G : D → D → Option D} (ho : OpR X (compareOp op) (rDD X.K G)) (ha : DE X C a f) (hb : DE X C b f') (hm : behindInMarks op b = false) : DT X C (.Compare a [op] [b] pos) (asB (bi G f f')) :=
  pt_imp (pt_cmpR ho ha hb hm) fun σ H Q ⟨W, ρ, k, c, s, hf, q⟩ => by
    refine t2_D (fun _ _ _ _ h => h) σ H _ ⟨W, ρ, _, c, s, asB_some hf, fun v H' r j dp => ?_⟩
    cases dp
    exact ⟨k, rfl, q H' r j⟩
theorem dtn_cmp {op : CmpOp} {G : D → D → Option D} (ho : OpR X (compareOp op) (rDD X.K G)) (ha : DN X C a f) (hb : DN X C b f') (hm : behindInMarks op b = false) : DT X C (.Compare a [op] [b] pos) (asB (bi G f f')) :=
  pt_imp (pt_cmpR ho ha hb hm) fun σ H Q ⟨W, ρ, k, c, s, hf, q⟩ => by
    refine t2_N (fun _ _ _ _ h => h) σ H _ ⟨W, ρ, _, c, s, asB_some hf, fun v H' r j dp => ?_⟩
    cases dp
    exact ⟨k, rfl, q H' r j⟩
def chn (G G' : D → D → Option D) (f g h : Ro → Option D) : Ro → Option D := fun ρ => match f ρ, g ρ with
  | some x, some y => (match G x y with
    | some (.bool true) => (match h ρ with
      | some z => G' y z
      | none => none)
    | some (.bool false) => some (.bool false)
    | _ => none)
  | _, _ => none
theorem t_chain {G G' : D → D → Option D} {h : Ro → Option D} : ∀ σ H Q, tN X.K C (chn G G' f g h) σ H Q → tChain (rDD X.K G) (rDD X.K G') (tN X.K C f) (tN X.K C g) (tN X.K C h) σ H Q := by
  rintro σ H Q ⟨W, ρ, z, c, s, hf, q⟩
  unfold chn at hf
  split at hf
  · rename_i x y hx hy
    refine ⟨W, ρ, x, c, s, hx, fun v H1 r1 j1 d1 => ⟨W, ρ, y, c, s.next r1 j1, hy, fun u H2 r2 j2 d2 => ?_⟩⟩
    have d1' := d1.mono (off_mono (p := W.foot) (fun _ _ _ h => h) fun a o n e => r2 a o n e)
    have ex := fun a h => ((s.next r1 j1).next r2 j2).excl (a := a) (.inl h)
    split at hf
    · rename_i hG
      split at hf
      · rename_i zz hz
        refine ⟨W.foot, x, y, _, ex, d1', d2, hG, fun w H3 sm dz => ?_⟩
        have hw := dz.bl_inv
        subst hw
        refine ⟨true, rfl, ?_⟩
        refine iteT ?_
        have r3 : Rw W H2 H3 := Rw.of sm
        have j3 := W.same j2 sm
        refine ⟨W, ρ, zz, c, ((s.next r1 j1).next r2 j2).next r3 j3, hz, fun w4 H4 r4 j4 d4 => ?_⟩
        refine ⟨W.foot, y, zz, z, fun a h => (((s.next r1 j1).next r2 j2).next r3 j3 |>.next r4 j4).excl (a := a) (.inl h), d2.mono (off_mono (p := W.foot) (fun _ _ _ h => h) fun a o n e => r4 a o n (r3 a o n e)), d4, hf, fun w5 H5 sm5 d5 => ?_⟩
        exact q w5 H5 ((((r1.trans r2).trans r3).trans r4).trans (Rw.of sm5)) (W.same j4 sm5) d5
      · cases hf
    · rename_i hG
      cases hf
      refine ⟨W.foot, x, y, _, ex, d1', d2, hG, fun w H3 sm dz => ?_⟩
      have hw := dz.bl_inv
      subst hw
      refine ⟨false, rfl, ?_⟩
      refine iteF ?_
      exact q _ H3 ((r1.trans r2).trans (Rw.of sm)) (W.same j2 sm) (.bl _)
    · cases hf
  · cases hf
theorem dn_chain {op op' : CmpOp} {G G' : D → D → Option D} {h : Ro → Option D} (ho : OpR X (compareOp op) (rDD X.K G)) (ho' : OpR X (compareOp op') (rDD X.K G')) (ha : DN X C a f) (hb : DN X C b g) (hc : DN X C c h)
    (hm : lastMarks [op, op'] [b, c] = false := by with_unfolding_all rfl) : DN X C (.Compare a [op, op'] [b, c] pos) (chn G G' f g h) := pe_imp (pe_chain ho ho' ha hb hc hm) t_chain
theorem dt_chain {op op' : CmpOp} {G G' : D → D → Option D} {h : Ro → Option D} (ho : OpR X (compareOp op) (rDD X.K G)) (ho' : OpR X (compareOp op') (rDD X.K G')) (ha : DE X C a f) (hb : DE X C b g) (hc : DE X C c h)
    (hm : lastMarks [op, op'] [b, c] = false := by with_unfolding_all rfl) : DT X C (.Compare a [op, op'] [b, c] pos) (asB (chn G G' f g h)) :=
  pt_imp (pt_chain ho ho' (de_n ha) (de_n hb) (de_n hc) hm) fun σ H Q ⟨W, ρ, k, c, s, hf, q⟩ => by
    refine t_chain σ H _ ⟨W, ρ, _, c, s, asB_some hf, fun v H' r j dp => ?_⟩
    cases dp
    exact ⟨k, rfl, q H' r j⟩
def tAndD (t u : Ro → Option Bool) : Ro → Option Bool := fun ρ => match t ρ with
  | some true => u ρ
  | some false => some false
  | none => none
def tOrD (t u : Ro → Option Bool) : Ro → Option Bool := fun ρ => match t ρ with
  | some true => some true
  | some false => u ρ
  | none => none
def tNotD (t : Ro → Option Bool) : Ro → Option Bool := fun ρ => (t ρ).map (!·)
abbrev DW (X : Cx) (C : Wd → Prop) (e : Expr) (f : Ro → Option Bool) : Prop := PW X e (tT X.K C f)
theorem dw_and1 (ha : DT X C a t) : DW X C (.BoolOp .And [a] pos) t := pw_and1 ha
theorem dw_or1 (ha : DT X C a t) : DW X C (.BoolOp .Or [a] pos) t := pw_or1 ha
theorem dw_and (ha : DT X C a t) (hb : DW X C (.BoolOp .And (b :: rest) pos) u) : DW X C (.BoolOp .And (a :: b :: rest) pos) (tAndD t u) :=
  pw_imp (pw_and ha hb) fun σ H Q ⟨W, ρ, k, c, s, hf, q⟩ => by
    unfold tAndD at hf
    split at hf
    · rename_i ht
      refine ⟨W, ρ, true, c, s, ht, fun H' r j => ?_⟩
      refine iteT ?_
      exact ⟨W, ρ, k, c, s.next r j, hf, fun H2 r2 j2 => q H2 (r.trans r2) j2⟩
    · rename_i ht
      cases hf
      refine ⟨W, ρ, false, c, s, ht, fun H' r j => ?_⟩
      refine iteF ?_
      exact q H' r j
    · cases hf
theorem dw_or (ha : DT X C a t) (hb : DW X C (.BoolOp .Or (b :: rest) pos) u) : DW X C (.BoolOp .Or (a :: b :: rest) pos) (tOrD t u) :=
  pw_imp (pw_or ha hb) fun σ H Q ⟨W, ρ, k, c, s, hf, q⟩ => by
    unfold tOrD at hf
    split at hf
    · rename_i ht
      cases hf
      refine ⟨W, ρ, true, c, s, ht, fun H' r j => ?_⟩
      refine iteT ?_
      exact q H' r j
    · rename_i ht
      refine ⟨W, ρ, false, c, s, ht, fun H' r j => ?_⟩
      refine iteF ?_
      exact ⟨W, ρ, k, c, s.next r j, hf, fun H2 r2 j2 => q H2 (r.trans r2) j2⟩
    · cases hf
theorem dt_not (ha : DT X C a t) : DT X C (.UnaryOp .Not a pos) (tNotD t) :=
  pt_imp (pt_not ha) fun σ H Q ⟨W, ρ, k, c, s, hf, q⟩ => by
    unfold tNotD at hf
    cases ht : t ρ with
    | none => rw [ht] at hf; cases hf
    | some b =>
      rw [ht] at hf
      cases hf
      exact ⟨W, ρ, b, c, s, ht, fun H' r j => q H' r j⟩
def vAndD (f g : Ro → Option D) : Ro → Option D := fun ρ => match f ρ with
  | some (.bool true) => g ρ
  | some (.bool false) => some (.bool false)
  | _ => none
def vOrD (f g : Ro → Option D) : Ro → Option D := fun ρ => match f ρ with
  | some (.bool true) => some (.bool true)
  | some (.bool false) => g ρ
  | _ => none
def vNotD (f : Ro → Option D) : Ro → Option D := fun ρ => (tru f ρ).map fun b => .bool (!b)
theorem de_and1 {op} (ha : DE X C a f) : DE X C (.BoolOp op [a] pos) f := pe_one ha
theorem de_and (ha : DE X C a f) (hb : DE X C (.BoolOp .And (b :: rest) pos) g) : DE X C (.BoolOp .And (a :: b :: rest) pos) (vAndD f g) :=
  pe_imp (pe_and ha hb) fun σ H Q ⟨W, ρ, k, c, s, hf, q⟩ => by
    unfold vAndD at hf
    split at hf
    · rename_i ht
      refine ⟨W, ρ, _, c, s, ht, fun v H' r j dp => ?_⟩
      cases dp
      refine ⟨true, rfl, ?_⟩
      refine iteT ?_
      exact ⟨W, ρ, k, c, s.next r j, hf, fun v H2 r2 j2 dp => q v H2 (r.trans r2) j2 dp⟩
    · rename_i ht
      cases hf
      refine ⟨W, ρ, _, c, s, ht, fun v H' r j dp => ?_⟩
      cases dp
      refine ⟨false, rfl, ?_⟩
      refine iteF ?_
      exact q _ H' r j (.bl _)
    · cases hf
theorem de_not (ha : DN X C a f) : DE X C (.UnaryOp .Not a pos) (vNotD f) :=
  pe_imp (pe_notT ha) fun σ H Q ⟨W, ρ, k, c, s, hf, q⟩ => by
    unfold vNotD at hf
    cases ht : tru f ρ with
    | none => rw [ht] at hf; cases hf
    | some b =>
      rw [ht] at hf
      cases hf
      obtain ⟨d, hd, ht⟩ := tru_some ht
      exact ⟨W, ρ, d, c, s, hd, fun v H' r j dp => ⟨b, tru_of off_sub dp ht, q _ H' r j (.bl _)⟩⟩
def vNeg (f : Ro → Option D) : Ro → Option D := fun ρ => match f ρ with
  | some (.int i) => some (.int (-i))
  | _ => none
theorem de_neg (ha : DE X C a f) : DE X C (.UnaryOp .USub a pos) (vNeg f) :=
  pe_imp (pe_un un_neg ha) fun σ H Q ⟨W, ρ, k, c, s, hf, q⟩ => by
    unfold vNeg at hf
    split at hf
    · rename_i ht
      cases hf
      refine ⟨W, ρ, _, c, s, ht, fun v H' r j dp => ?_⟩
      cases dp
      exact ⟨_, rfl, q _ H' r j (.int _)⟩
    · cases hf
def vIf {α : Type} (t : Ro → Option Bool) (f g : Ro → Option α) : Ro → Option α := fun ρ => match t ρ with
  | some true => f ρ
  | some false => g ρ
  | none => none
theorem de_ifExp (hc : DT X C c t) (ha : DE X C a f) (hb : DE X C b g) : DE X C (.IfExp c a b pos) (vIf t f g) :=
  pe_imp (pe_ifExp hc ha hb) fun σ H Q ⟨W, ρ, k, c, s, hf, q⟩ => by
    unfold vIf at hf
    split at hf
    · rename_i ht
      refine ⟨W, ρ, true, c, s, ht, fun H' r j => ?_⟩
      refine iteT ?_
      exact ⟨W, ρ, k, c, s.next r j, hf, fun v H2 r2 j2 dp => q v H2 (r.trans r2) j2 dp⟩
    · rename_i ht
      refine ⟨W, ρ, false, c, s, ht, fun H' r j => ?_⟩
      refine iteF ?_
      exact ⟨W, ρ, k, c, s.next r j, hf, fun v H2 r2 j2 dp => q v H2 (r.trans r2) j2 dp⟩
    · cases hf
def dIx : D → D → Option D
  | .list ds, .int i => atI ds i
  | .tuple ds, .int i => atI ds i
  | .str z, .int i => if z.length ≤ sizeLine then (atI z.cps.toList i).map fun c => .str ⟨#[c]⟩ else none
  | .dict kvs, .int i => (atI kvs i).map (·.1)
  | _, _ => none
theorem atI_map {α β : Type} (f : α → β) (xs : List α) (i : Int) : atI (xs.map f) i = (atI xs i).map f := by
  unfold atI
  rw [List.length_map]
  cases ixN xs.length i with
  | none => rfl
  | some j => simp [Option.bind]
theorem Rp.scr_inv {K : PySem.W.Frag} {H : Hp} {v : V} {kvs : List (D × D)} (h : Rp K H v (.dict kvs)) : ∃ (a : Addr) (ns : List Int), v = .ref a ∧ SqL K H a (ns.map V.int) ∧ kvs = ns.map fun n => (.int n, .none) := by
  generalize hd : PyData.dict kvs = d at h
  cases h with
  | scr hs => cases hd; exact ⟨_, _, rfl, hs.l, rfl⟩
  | _ => cases hd
theorem atI_rp {K : PySem.W.Frag} {H : Hp} {vs : List V} {ds : List D} {i : Int} {d : D} (h : RpAll K H vs ds) (e : atI ds i = some d) : ∃ v, atI vs i = some v ∧ Rp K H v d := by
  unfold atI at e ⊢
  rw [h.length]
  cases hj : ixN ds.length i with
  | none => rw [hj] at e; cases e
  | some j =>
    rw [hj] at e
    exact h.getD e
theorem ix_D : IxR X (rDD X.K dIx) := IxR.imp ix_seq fun x y H Q ⟨p, d, e, z, hp, h1, h2, hg, q⟩ => by
  unfold dIx at hg
  split at hg
  · obtain ⟨a, us, rfl, ha, hu⟩ := h1.lst_inv
    cases h2
    obtain ⟨v, hv, hd⟩ := atI_rp hu hg
    exact .inl ⟨a, us, _, v, rfl, rfl, .inl (ha.mono off_sub), hv, q v H (Same.refl _) hd⟩
  · obtain ⟨a, us, rfl, ha, hu⟩ := h1.tup_inv
    cases h2
    obtain ⟨v, hv, hd⟩ := atI_rp hu hg
    exact .inr (.inl ⟨a, us, _, v, rfl, rfl, ha.mono off_sub, hv, q v H (Same.refl _) hd⟩)
  · split at hg
    · rename_i _ _ _ zz i hz
      have e1 := h1.str_inv
      have e2 := h2.int_inv
      subst e1; subst e2
      cases hc : atI zz.cps.toList i with
      | none => rw [hc] at hg; cases hg
      | some cc =>
        rw [hc] at hg
        cases hg
        exact .inr (.inr ⟨zz, i, cc, rfl, rfl, hz, hc, q _ H (Same.refl _) (.str _)⟩)
    · cases hg
  · rename_i kvs i
    obtain ⟨a, ns, rfl, hs, rfl⟩ := Rp.scr_inv h1
    have e2 := h2.int_inv
    subst e2
    rw [atI_map] at hg
    cases hn : atI ns i with
    | none => rw [hn] at hg; cases hg
    | some n =>
      rw [hn] at hg
      cases hg
      exact .inl ⟨a, ns.map V.int, i, .int n, rfl, rfl, (off_sub (p := p)).seq hs, by rw [atI_map, hn]; rfl, q _ H (Same.refl _) (.int _)⟩
  · cases hg
theorem de_ix (ha : DE X C a f) (hb : DE X C b f') (hs : PlainIx b := by intro _ _; rfl) : DE X C (.Subscript a b pos) (bi dIx f f') := pe_imp (pe_ix ix_D ha hb hs) (t2_D fun _ _ _ _ h => h)
def ixL (f : Ro → Option (List D)) (g : Ro → Option D) : Ro → Option D := fun ρ => match f ρ, g ρ with
  | some ds, some (.int i) => atI ds i
  | _, _ => none
theorem de_ixL {f : Ro → Option (List D)} (ha : DLi X C a f) (hb : DE X C b f') (hs : PlainIx b := by intro _ _; rfl) : DE X C (.Subscript a b pos) (ixL f f') :=
  pe_imp (pe_ix ix_seq ha hb hs) fun σ H Q ⟨W, ρ, d, c, s, hf, q⟩ => by
    unfold ixL at hf
    split at hf
    · rename_i ds i h1 h2
      refine ⟨W, ρ, ds, c, s, h1, fun v xs H1 r1 j1 sv dp => ⟨W, ρ, _, c, s.next r1 j1, h2, fun u H2 r2 j2 di => ?_⟩⟩
      cases di
      obtain ⟨v', hv, hd⟩ := atI_rp (dp.mono (vw_mono r2)) hf
      obtain ⟨a, rfl, sv⟩ := sv
      have ss : Same (off W.foot H1) H2 := fun b o e => r2 b o (off_some e).1 (off_some e).2
      rcases sv with sv | sv
      · exact .inl ⟨a, xs, i, v', rfl, rfl, .inl (sv.mono ss), hv, q v' H2 (r1.trans r2) j2 hd⟩
      · exact .inr (.inl ⟨a, xs, i, v', rfl, rfl, sv.mono ss, hv, q v' H2 (r1.trans r2) j2 hd⟩)
    · cases hf
end
end DL
namespace DL
open PySem PySem.Spec L2
def cut {α : Type} (xs : List α) (lo hi : Option Int) : List α := (xs.drop (HT.sIx xs.length 0 lo)).take (HT.sIx xs.length xs.length hi - HT.sIx xs.length 0 lo)
theorem cut_rp {K : PySem.W.Frag} {H : Hp} {vs : List V} {ds : List D} (h : RpAll K H vs ds) (lo hi : Option Int) : RpAll K H (cutV vs lo hi) (cut ds lo hi) := by
  unfold cut cutV
  rw [h.length]
  exact (h.drop _).take _
theorem cut_whole {α : Type} {xs : List α} {lo hi : Option Int} (h : HT.sIx xs.length 0 lo = 0 ∧ HT.sIx xs.length xs.length hi = xs.length) : cut xs lo hi = xs := by
  unfold cut
  rw [h.1, h.2]
  simp
def dSl (d : D) (lo hi : Option Int) : Option D := match d with
  | .list ds => some (.list (cut ds lo hi))
  | .tuple ds => some (.tuple (cut ds lo hi))
  | .str z => if z.length ≤ sizeLine then some (.str (cutS z lo hi)) else none
  | _ => none
def tOD (K : PySem.W.Frag) (C : Wd → Prop) (f : Ro → Option (Option Int)) : TO := fun σ H Q => ∃ W ρ d, C W ∧ SD K W σ ρ H ∧ f ρ = some d ∧ ∀ H', Rw W H H' → W.J H' → Q d H'
abbrev DO (X : Cx) (C : Wd → Prop) (e : Option Expr) (f : Ro → Option (Option Int)) : Prop := PO X e (tOD X.K C f)
theorem po_imp {X : Cx} {e : Option Expr} {t t' : TO} (h : PO X e t) (hi : ∀ σ H Q, t' σ H Q → t σ H Q) : PO X e t' := ⟨fun pins s σ H Q I q => h.run pins s σ H Q I (hi σ H Q q)⟩
def asI (f : Ro → Option D) : Ro → Option (Option Int) := fun ρ => match f ρ with
  | some (.int i) => some (some i)
  | _ => none
section
variable {X : Cx} {C : Wd → Prop} {a b c e : Expr} {f g f' : Ro → Option D} {pos p2 : Pos}
theorem do_none : DO X C none (fun _ => some none) := po_imp po_none fun σ H Q ⟨W, ρ, d, c, s, hf, q⟩ => by
  cases hf
  exact q H (Rw.refl _ _) s.j
theorem do_some (h : DE X C e f) : DO X C (some e) (asI f) := po_imp (po_some h) fun σ H Q ⟨W, ρ, d, c, s, hf, q⟩ => by
  unfold asI at hf
  split at hf
  · rename_i hi
    cases hf
    refine ⟨W, ρ, _, c, s, hi, fun v H' r j dp => ?_⟩
    cases dp
    exact ⟨_, rfl, q H' r j⟩
  · cases hf
def slc (f : Ro → Option D) (lo hi : Ro → Option (Option Int)) : Ro → Option D := fun ρ => match f ρ, lo ρ, hi ρ with
  | some d, some l, some h => dSl d l h
  | _, _, _ => none
theorem sl_any : SlR X (fun x lo hi H Q => rSlL X.K x lo hi H Q ∨ rSlA X.K x lo hi H Q ∨ rSlS x lo hi H Q) := sl_list.or (sl_tupA.or sl_str)
theorem de_slice {lo hi : Option Expr} {l h : Ro → Option (Option Int)} (he : DE X C e f) (hl : DO X C lo l) (hu : DO X C hi h) : DE X C (.Subscript e (.Slice lo hi none p2) pos) (slc f l h) :=
  pe_imp (pe_slice sl_any he hl hu) fun σ H Q ⟨W, ρ, z, c, s, hf, q⟩ => by
    unfold slc at hf
    split at hf
    · rename_i d li ui h1 h2 h3
      refine ⟨W, ρ, d, c, s, h1, fun v H1 r1 j1 d1 => ⟨W, ρ, li, c, s.next r1 j1, h2, fun H2 r2 j2 => ⟨W, ρ, ui, c, (s.next r1 j1).next r2 j2, h3, fun H3 r3 j3 => ?_⟩⟩⟩
      have r := (r1.trans r2).trans r3
      have s3 := s.next r j3
      have d3 := d1.mono (vw_mono (r2.trans r3))
      unfold dSl at hf
      split at hf
      · cases hf
        obtain ⟨a, us, rfl, ha, hu⟩ := d3.lst_inv
        refine .inl ⟨a, us, rfl, .inl (ha.mono off_sub), fun p np => ?_⟩
        have ex : ∀ b, (W.foot b ∨ isOw σ ρ b) → H3 b ≠ none := fun b z => s3.excl z
        exact q _ _ (r.trans (Rw.of (same_upd np))) (W.same j3 (same_upd np)) (.lst (Rd.of (off_new ex np)) ((cut_rp hu _ _).mono (off_upd ex np)))
      · cases hf
        obtain ⟨a, us, rfl, ha, hu⟩ := d3.tup_inv
        have ex : ∀ b, (W.foot b ∨ isOw σ ρ b) → H3 b ≠ none := fun b z => s3.excl z
        refine .inr (.inl ⟨a, us, rfl, ha.mono off_sub, fun hw => ?_, fun _ p np => ?_⟩)
        · rw [hu.length] at hw
          rw [cut_whole hw] at q
          exact q _ _ r j3 (.tup ha hu)
        · exact q _ _ (r.trans (Rw.of (same_upd np))) (W.same j3 (same_upd np)) (.tup (SqT.of (off_new ex np)) ((cut_rp hu _ _).mono (off_upd ex np)))
      · split at hf
        · cases hf
          have e1 := d3.str_inv
          subst e1
          exact .inr (.inr ⟨_, rfl, by assumption, q _ _ r j3 (.str _)⟩)
        · cases hf
      · cases hf
    · cases hf
theorem da_nil : DA X C [] (fun _ => some []) := pa_imp pa_nil fun σ H Q ⟨W, ρ, d, c, s, hf, q⟩ => by
  cases hf
  exact q [] H (Rw.refl _ _) s.j .nil
def consD (f : Ro → Option D) (g : Ro → Option (List D)) : Ro → Option (List D) := fun ρ => match f ρ, g ρ with
  | some d, some ds => some (d :: ds)
  | _, _ => none
theorem consD_some {f : Ro → Option D} {g : Ro → Option (List D)} {ρ : Ro} {z : List D} (h : consD f g ρ = some z) : ∃ x xs, f ρ = some x ∧ g ρ = some xs ∧ z = x :: xs := by
  unfold consD at h
  split at h
  · cases h; exact ⟨_, _, by assumption, by assumption, rfl⟩
  · cases h
theorem da_cons {es : List Expr} {g : Ro → Option (List D)} (ha : DE X C e f) (hr : DA X C es g) (hs : starEach (e :: es) X.env = (false, eval e X.env) :: starEach es X.env := by rfl) : DA X C (e :: es) (consD f g) :=
  pa_imp (pa_cons ha hr hs) fun σ H Q ⟨W, ρ, z, c, s, hf, q⟩ => by
    obtain ⟨x, xs, h1, h2, rfl⟩ := consD_some hf
    refine ⟨W, ρ, x, c, s, h1, fun v H1 r1 j1 d1 => ⟨W, ρ, xs, c, s.next r1 j1, h2, fun vs H2 r2 j2 d2 => ?_⟩⟩
    exact q _ H2 (r1.trans r2) j2 (.cons (d1.mono (vw_mono r2)) d2)
def mkT (f : Ro → Option (List D)) : Ro → Option D := fun ρ => match f ρ with
  | some ds => if ds.length ≤ sizeLine then some (.tuple ds) else none
  | none => none
def mkL (f : Ro → Option (List D)) : Ro → Option (List D) := fun ρ => match f ρ with
  | some ds => if ds.length ≤ sizeLine then some ds else none
  | none => none
theorem mkL_some {f : Ro → Option (List D)} {ρ : Ro} {z : List D} (h : mkL f ρ = some z) : f ρ = some z ∧ z.length ≤ sizeLine := by
  unfold mkL at h
  split at h
  · split at h
    · cases h; exact ⟨by assumption, by assumption⟩
    · cases h
  · cases h
theorem mkT_some {f : Ro → Option (List D)} {ρ : Ro} {z : D} (h : mkT f ρ = some z) : ∃ ds, f ρ = some ds ∧ ds.length ≤ sizeLine ∧ z = .tuple ds := by
  unfold mkT at h
  split at h
  · split at h
    · cases h; exact ⟨_, by assumption, by assumption, rfl⟩
    · cases h
  · cases h
theorem de_tup {es : List Expr} {g : Ro → Option (List D)} {x1} (h : DA X C es g) : DE X C (.Tuple es x1 pos) (mkT g) :=
  pe_imp (pe_tup h) fun σ H Q ⟨W, ρ, z, c, s, hf, q⟩ => by
    obtain ⟨ds, h1, h2, rfl⟩ := mkT_some hf
    refine ⟨W, ρ, ds, c, s, h1, fun vs H1 r1 j1 d1 => ⟨by rw [d1.length]; exact h2, fun p np => ?_⟩⟩
    have ex : ∀ b, (W.foot b ∨ isOw σ ρ b) → H1 b ≠ none := fun b z => (s.next r1 j1).excl z
    exact q _ _ (r1.trans (Rw.of (same_upd np))) (W.same j1 (same_upd np)) (.tup (SqT.of (off_new ex np)) (d1.mono (off_upd ex np)))
theorem df_lst {es : List Expr} {g : Ro → Option (List D)} (h : DA X C es g) : DF X C (.List es pos) (mkL g) :=
  pe_imp (pe_lst h) fun σ H Q ⟨W, ρ, z, c, s, hf, q⟩ => by
    obtain ⟨h1, h2⟩ := mkL_some hf
    refine ⟨W, ρ, z, c, s, h1, fun vs H1 r1 j1 d1 => ⟨by rw [d1.length]; exact h2, fun p np => ?_⟩⟩
    have s1 := s.next r1 j1
    have ex : ∀ b, (W.foot b ∨ isOw σ ρ b) → H1 b ≠ none := fun b z => s1.excl z
    have hp : H p = none := by
      cases hh : H p with
      | none => rfl
      | some o =>
        by_cases hfp : W.foot p
        · exact absurd np (W.there H1 p j1 hfp)
        · rw [r1 p o hfp hh] at np; cases np
    refine q p vs _ (r1.trans (Rw.of (same_upd np))) (W.same j1 (same_upd np)) hp (s1.newF np) upd_same (d1.mono (off_mono (fun a o e z => ?_) fun b u _ e => same_upd np b u e))
    rcases z with z | z
    · exact z
    · subst z; rw [np] at e; cases e
theorem df_de {g : Ro → Option (List D)} (h : DF X C e g) : DE X C e (asL g) := pe_imp h fun σ H Q ⟨W, ρ, z, c, s, hf, q⟩ => by
  unfold asL at hf
  cases hr : g ρ with
  | none => rw [hr] at hf; cases hf
  | some ds =>
    rw [hr] at hf
    cases hf
    refine ⟨W, ρ, ds, c, s, hr, fun a xs H' r j hn hnf ha dp => ?_⟩
    exact q _ H' r j (.lst (Rd.of (by rw [show vw W σ ρ H' a = H' a from off_neg (fun z => s.new hn z)]; exact ha)) (dp.mono (off_mono (fun _ _ _ h => .inl h) fun _ _ _ e => e)))
theorem de_lst {es : List Expr} {g : Ro → Option (List D)} (h : DA X C es g) : DE X C (.List es pos) (asL (mkL g)) := df_de (df_lst h)
def rD1 (K : PySem.W.Frag) (g : D → Option D) : List V → Hp → VK → Prop := fun xs H Q => ∃ (p : Addr → Prop) (x : V) (d z : D), xs = [x] ∧ (∀ a, p a → H a ≠ none) ∧ Rp K (off p H) x d ∧ g d = some z ∧ ∀ v H', Same H H' → Rp K (off p H') v z → Q v H'
theorem un_some {g : D → Option D} {f : Ro → Option D} {ρ : Ro} {z : D} (h : un g f ρ = some z) : ∃ x, f ρ = some x ∧ g x = some z := by
  unfold un at h
  cases hf : f ρ with
  | none => rw [hf] at h; cases h
  | some d => rw [hf] at h; exact ⟨d, rfl, h⟩
theorem t1_D {G : D → Option D} : ∀ σ H Q, tD X.K C (un G f) σ H Q → tCB (rD1 X.K G) (tCons (tD X.K C f) tNil) σ H Q := by
  rintro σ H Q ⟨W, ρ, z, c, s, hf, q⟩
  obtain ⟨x, h1, h2⟩ := un_some hf
  refine ⟨W, ρ, x, c, s, h1, fun v H1 r1 j1 d1 => ?_⟩
  refine ⟨fun a => W.foot a ∨ isOw σ ρ a, v, x, z, rfl, fun a h => (s.next r1 j1).excl h, d1, h2, fun w H3 sm dz => ?_⟩
  exact q w H3 (r1.trans (Rw.of sm)) (W.same j1 sm) dz
theorem de_call1 {id : String} {x : Str} {p : Pos} {G : D → Option D} (hc : CallR X (.builtin id) (rD1 X.K G)) (hg : Gl X x) (hm : X.mg x = none) (hv : bootBuiltins x = some (.builtin id)) (ha : DE X C e f)
    (hn : x ≠ "__name__" := by decide) (hdb : (x == ("__debug__" : Str)) = false := by decide) (he : starEach [e] X.env = (false, eval e X.env) :: starEach [] X.env := by rfl) (hpl : (backTo pos (starEach [] X.env)).any (·.1) = false := by rfl) :
    DE X C (.Call (.Name x p) [e] [] pos) (un G f) := pe_imp (pe_callB hc hg hm hv (pa_cons ha pa_nil he) hn hdb he hpl) t1_D
def dLen : D → Option D
  | .str y => if y.length ≤ sizeLine then some (.int y.length) else none
  | .list ds => some (.int ds.length)
  | .tuple ds => some (.int ds.length)
  | .dict kvs => some (.int kvs.length)
  | _ => none
theorem call_lenD : CallR X (.builtin "len") (rD1 X.K dLen) := CallR.imp call_len fun xs H Q ⟨p, x, d, z, e, hp, h1, hg, q⟩ => by
  subst e
  unfold dLen at hg
  split at hg
  · split at hg
    · cases hg
      cases h1
      exact ⟨_, _, rfl, ⟨by assumption, rfl⟩, q _ _ (Same.refl _) (.int _)⟩
    · cases hg
  · cases hg
    obtain ⟨a, us, rfl, ha, hu⟩ := h1.lst_inv
    exact ⟨_, us.length, rfl, .inl ⟨us, .inl (ha.mono off_sub), rfl⟩, by rw [hu.length]; exact q _ _ (Same.refl _) (.int _)⟩
  · cases hg
    obtain ⟨a, us, rfl, ha, hu⟩ := h1.tup_inv
    exact ⟨_, us.length, rfl, .inr ⟨us, ha.mono off_sub, rfl⟩, by rw [hu.length]; exact q _ _ (Same.refl _) (.int _)⟩
  · cases hg
    obtain ⟨a, ns, rfl, hs, rfl⟩ := Rp.scr_inv h1
    rw [List.length_map] at q
    exact ⟨_, ns.length, rfl, .inl ⟨ns.map V.int, (off_sub (p := p)).seq hs, by rw [List.length_map]⟩, q _ _ (Same.refl _) (.int _)⟩
  · cases hg
theorem de_len {p : Pos} (hg : Gl X "len") (hm : X.mg "len" = none) (ha : DE X C e f) (he : starEach [e] X.env = (false, eval e X.env) :: starEach [] X.env := by rfl) : DE X C (.Call (.Name "len" p) [e] [] pos) (un dLen f) := de_call1 call_lenD hg hm PySem.boot_len ha (he := he)
def dInt : D → Option D
  | .int i => some (.int i)
  | .bool b => some (.int (if b then 1 else 0))
  | _ => none
def asT (f : Ro → Option (List D)) : Ro → Option D := fun ρ => (f ρ).map .tuple
theorem de_tuple {p : Pos} {g : Ro → Option (List D)} (hg : Gl X "tuple") (hm : X.mg "tuple" = none) (ha : DLi X C e g) (he : starEach [e] X.env = (false, eval e X.env) :: starEach [] X.env := by rfl) : DE X C (.Call (.Name "tuple" p) [e] [] pos) (asT g) :=
  pe_imp (pe_callTy call_tuple_of hg hm PyProof.Rows.boot_tuple (pa_cons ha pa_nil he) (by decide) (by decide) he rfl) fun σ H Q ⟨W, ρ, z, c, s, hf, q⟩ => by
    unfold asT at hf
    cases hr : g ρ with
    | none => rw [hr] at hf; cases hf
    | some ds =>
      rw [hr] at hf
      cases hf
      refine ⟨W, ρ, ds, c, s, hr, fun v xs H1 r1 j1 sv dp => ?_⟩
      obtain ⟨a, rfl, sv⟩ := sv
      have s1 := s.next r1 j1
      have ex : ∀ b, (W.foot b ∨ isOw σ ρ b) → H1 b ≠ none := fun b z => s1.excl z
      rcases sv with sv | sv
      · refine ⟨a, xs, rfl, .inl ⟨.inl (sv.mono off_sub), fun l nl => ?_⟩⟩
        exact q _ _ (r1.trans (Rw.of (same_upd nl))) (W.same j1 (same_upd nl)) (.tup (SqT.of (off_new ex nl)) (dp.mono (off_upd ex nl)))
      · refine ⟨a, xs, rfl, .inr ⟨sv.mono off_sub, ?_⟩⟩
        refine q _ _ r1 j1 (.tup ?_ dp)
        -- a tuple is no list of one's own
        rcases sv with sv | sv
        · have key : ∀ o, off W.foot H1 a = some o → (∀ ys, o ≠ .lst ys) → vw W σ ρ H1 a = some o := fun o ho hno => by
            obtain ⟨n1, h1⟩ := off_some ho
            rw [show vw W σ ρ H1 a = H1 a from off_neg ?_]
            · exact h1
            · rintro (z | ⟨i, es, z1, z2⟩)
              · exact n1 z
              · obtain ⟨b, ys, w1, w2, _⟩ := s1.ow i es z1
                rw [z2] at w1
                have e : a = b := by simpa using w1
                subst e
                rw [h1] at w2
                exact hno ys (Option.some.inj w2)
          rcases sv with sv | ⟨o, sv⟩
          · exact .inl (.inl (key _ sv fun ys z => by cases z))
          · exact .inl (.inr ⟨o, key _ sv fun ys z => by cases z⟩)
        · exact .inr sv
theorem df_list {p : Pos} {g : Ro → Option (List D)} (hg : Gl X "list") (hm : X.mg "list" = none) (ha : DLi X C e g) (he : starEach [e] X.env = (false, eval e X.env) :: starEach [] X.env := by rfl) : DF X C (.Call (.Name "list" p) [e] [] pos) g :=
  pe_imp (pe_callTy call_list_of hg hm PyProof.Rows.boot_list (pa_cons ha pa_nil he) (by decide) (by decide) he rfl) fun σ H Q ⟨W, ρ, ds, c, s, hf, q⟩ => by
      refine ⟨W, ρ, ds, c, s, hf, fun v xs H1 r1 j1 sv dp => ?_⟩
      obtain ⟨a, rfl, sv⟩ := sv
      have s1 := s.next r1 j1
      have ex : ∀ b, (W.foot b ∨ isOw σ ρ b) → H1 b ≠ none := fun b z => s1.excl z
      refine ⟨a, xs, rfl, ?_, fun l nl => ?_⟩
      · rcases sv with sv | sv
        · exact .inl (.inl (sv.mono off_sub))
        · exact .inr (sv.mono off_sub)
      · have hp : H l = none := by
          cases hh : H l with
          | none => rfl
          | some o =>
            by_cases hfp : W.foot l
            · exact absurd nl (W.there H1 l j1 hfp)
            · rw [r1 l o hfp hh] at nl; cases nl
        refine q l xs _ (r1.trans (Rw.of (same_upd nl))) (W.same j1 (same_upd nl)) hp (s1.newF nl) upd_same (dp.mono (off_mono (fun a o e z => ?_) fun b u _ e => same_upd nl b u e))
        rcases z with z | z
        · exact z
        · subst z; rw [nl] at e; cases e
end
end DL
namespace DL
open PySem PySem.Spec L2
def tyName : D → String
  | .none => "NoneType"
  | .bool _ => "bool"
  | .int _ => "int"
  | .str _ => "str"
  | .list _ => "list"
  | .tuple _ => "tuple"
  | .dict _ => "dict"
theorem tyX_of {K : PySem.W.Frag} {H : Hp} {v : V} {d : D} (h : Rp K H v d) (hd : ∀ kv, d ≠ .dict kv) : TyX K H v (.type (tyName d)) := by
  cases h with
  | non => exact .base .non
  | bl b => exact .base (.bl b)
  | int i => exact .base (.int i)
  | str x => exact .base (.str x)
  | lst hl ha =>
    rcases hl with h | ⟨o, h⟩
    · exact .base (.lst h)
    · exact .base (.frz h)
  | tup hl ha =>
    rcases hl with (h | ⟨o, h⟩) | ⟨o, its, n, hk, hc, _⟩
    · exact .base (.tup h)
    · exact .fTuple h
    · exact .kTuple hk hc
  | scr _ => exact absurd rfl (hd _)
def isI : D → Bool
  | .int _ => true
  | .bool _ => true
  | _ => false
def isB : D → Bool
  | .bool _ => true
  | _ => false
def isT : D → Bool
  | .tuple _ => true
  | _ => false
def isS : D → Bool
  | .str _ => true
  | _ => false
def isL : D → Bool
  | .list _ => true
  | _ => false
theorem kit_int (d : D) (h : ∀ kv, d ≠ .dict kv) : kitB (tyName d) "int" = some (isI d) := by
  cases d <;> first | (simp only [tyName, isI]; decide +kernel) | exact absurd rfl (h _)
theorem kit_bool (d : D) (h : ∀ kv, d ≠ .dict kv) : kitB (tyName d) "bool" = some (isB d) := by
  cases d <;> first | (simp only [tyName, isB]; decide +kernel) | exact absurd rfl (h _)
theorem kit_tuple (d : D) (h : ∀ kv, d ≠ .dict kv) : kitB (tyName d) "tuple" = some (isT d) := by
  cases d <;> first | (simp only [tyName, isT]; decide +kernel) | exact absurd rfl (h _)
theorem kit_str (d : D) (h : ∀ kv, d ≠ .dict kv) : kitB (tyName d) "str" = some (isS d) := by
  cases d <;> first | (simp only [tyName, isS]; decide +kernel) | exact absurd rfl (h _)
def isDct : D → Bool
  | .dict _ => true
  | _ => false
theorem nodict {d : D} (h : isDct d = false) : ∀ kv, d ≠ .dict kv := fun kv e => by subst e; cases h
def toB (G : D → Bool) (f : Ro → Option D) : Ro → Option D := fun ρ => match f ρ with
  | some d => if isDct d = false then some (.bool (G d)) else none
  | none => none
section
variable {X : Cx} {C : Wd → Prop} {a b c e : Expr} {f g f' : Ro → Option D} {pos p p2 : Pos}
theorem de_isi {T : Str} {N : String} {G : D → Bool} (hk : ∀ d : D, (∀ kv, d ≠ .dict kv) → kitB (tyName d) N = some (G d)) (hT : bootBuiltins T = some (.type N)) (hg : Gl X "isinstance") (hm : X.mg "isinstance" = none) (hg2 : Gl X T) (hm2 : X.mg T = none) (ha : DE X C e f)
    (hn : T ≠ "__name__" := by decide) (hdb : (T == ("__debug__" : Str)) = false := by decide)
    (he : starEach [e, .Name T p2] X.env = (false, eval e X.env) :: starEach [.Name T p2] X.env := by rfl) : DE X C (.Call (.Name "isinstance" p) [e, .Name T p2] [] pos) (toB G f) :=
  pe_imp (pe_callB call_isi hg hm (by decide +kernel) (pa_cons ha (pa_cons (pe_bltn (v := .ty N) hg2 hm2 hT rfl hn hdb) pa_nil rfl) he) (by decide) (by decide) he rfl) fun σ H Q ⟨W, ρ, z, c, s, hf, q⟩ => by
    unfold toB at hf
    split at hf
    · rename_i d hr
      split at hf
      · cases hf
        rename_i hd
        refine ⟨W, ρ, d, c, s, hr, fun v H1 r1 j1 d1 => ?_⟩
        exact ⟨v, .ty N, _, _, G d, rfl, .ty N, tyX_of (d1.mono off_sub) (nodict hd), kit_ty (hk d (nodict hd)), q _ H1 r1 j1 (.bl _)⟩
      · cases hf
    · cases hf
def callF (F : List D → Option Res) (g : Ro → Option (List D)) : Ro → Option D := fun ρ => match g ρ with
  | some ds => (match F ds with
    | some (.ok d) => some d
    | _ => none)
  | none => none
theorem callF_some {F : List D → Option Res} {g : Ro → Option (List D)} {ρ : Ro} {z : D} (h : callF F g ρ = some z) : ∃ ds, g ρ = some ds ∧ F ds = some (.ok z) := by
  unfold callF at h
  split at h
  · split at h
    · cases h; exact ⟨_, by assumption, by assumption⟩
    · cases h
  · cases h
theorem de_call {CC : Wd → Prop} {k : Nat} {fa : Addr} {fd : FuncData} {ps : List Str} {F : List D → Option Res} {x : Str} {es : List Expr} {g : Ro → Option (List D)} (FO : FnOk X.prog X.w X.K X.mg X.base (L2.CX X.prog X.w) k fa fd ps (spD X.K CC F)) (hC : CtxOk C) (hCC : ∀ W, C W → CC W) (hr : Room k X.A) (hg : Gl X x) (hm : X.mg x = some (.ref fa))
    (hk : PySem.W.keepIn X.K (.ref fa) = true) (hb : Binds X.K fd ps []) (ha : DA X C (e :: es) g) (hdb : (x == ("__debug__" : Str)) = false := by decide) (he : starEach (e :: es) X.env = (false, eval e X.env) :: starEach es X.env := by rfl)
    (hpl : (backTo pos (starEach es X.env)).any (·.1) = false := by rfl) : DE X C (.Call (.Name x p) (e :: es) [] pos) (callF F g) :=
  pe_imp (pe_call FO hr hg hm hk hb .nil passL ha hdb he hpl) fun σ H Q ⟨W, ρ, z, c, s, hf, q⟩ => by
    obtain ⟨ds, h1, h2⟩ := callF_some hf
    refine ⟨W, ρ, ds, c, s, h1, fun vs H1 r1 j1 d1 => ?_⟩
    have s1 := s.next r1 j1
    show spD X.K CC F (vs ++ []) H1 Q E0
    rw [List.append_nil]
    refine ⟨W.add (isOw σ ρ) H1 s1.own, ds, _, hCC _ (hC.add _ _ _ _ c (fun a ⟨i, es, z1, z2⟩ => ?_) fun a u ⟨i, es, z1, z2⟩ z3 fx => by
      obtain ⟨b, ys, w1, w2, _⟩ := s1.ow i es z1
      rw [z2] at w1
      have e : a = b := by simpa using w1
      rw [← e, z3] at w2
      cases w2
      exact fx), ⟨j1, fun _ _ => rfl⟩, d1, h2, fun v H' j r dp => ?_⟩
    · obtain ⟨b, ys, w1, w2, w3, w4⟩ := s1.ow i es z1
      rw [z2] at w1
      have e : a = b := by simpa using w1
      subst e
      exact w4
    · exact q v H' (r1.trans (Rw.add r j)) j.1 dp
end
end DL
namespace L2
open PySem PySem.Spec PyProof.Rows
def SkW.iter (k : SkW) (h : Heap) (it a : Addr) (i : Nat) : Prop := match k with
  | .lst => h.IsListIter it a i
  | .tup => h.IsTupleIter it a i
theorem SkW.begins (k : SkW) (a : Addr) (its : Array Value) : Begins (.ref a) (k.obj a) (fun h => k.seq h a its) := by
  cases k with
  | lst => exact begins_list a its
  | tup => exact begins_tuple a its
theorem SkW.draws (k : SkW) {prog : Program} {w : World} {A : Around} (hh : A.handled = none) (it a : Addr) (hne : a ≠ it) (its : Array Value) : Draws prog w A it [it, a] its.size (fun i v => its[i]? = some v) (fun i h => k.iter h it a i ∧ k.seq h a its) := by
  cases k with
  | lst => exact Draws.list hh it a hne its
  | tup => exact Draws.tuple hh it a hne its
theorem SkW.iter_obj {k : SkW} {h : Heap} {it a : Addr} (e : h.get? it = some (k.obj a)) : k.iter h it a 0 := by
  cases k with
  | lst => exact ⟨_, e, rfl, rfl⟩
  | tup => exact ⟨_, e, rfl, rfl⟩
theorem SkW.iter_at {k : SkW} {h h' : Heap} {it a : Addr} {i : Nat} (s : k.iter h it a i) (q : ∀ o, h.get? it = some o → h'.get? it = some o) : k.iter h' it a i := by
  cases k with
  | lst => exact Heap.IsListIter.at s q
  | tup => exact Heap.IsTupleIter.at s q
theorem SkW.iter_get {k : SkW} {h : Heap} {it a : Addr} {i : Nat} (s : k.iter h it a i) : ∃ o, h.get? it = some o ∧ ∀ v, o.data ≠ .cell v := by
  cases k with
  | lst =>
    obtain ⟨o, e, c, d⟩ := (show h.IsListIter it a i from s)
    exact ⟨o, e, fun v z => by rw [d] at z; cases z⟩
  | tup =>
    obtain ⟨o, e, c, d⟩ := (show h.IsTupleIter it a i from s)
    exact ⟨o, e, fun v z => by rw [d] at z; cases z⟩
section
variable {X : Cx} {pins : List (Addr × Obj)} {σ : St} {H : Hp} {s : Shared} {a : Addr} {xs ys : List V} {k : SkW}
theorem Inv.sk (I : Inv X pins σ H s) (h : k.at X.K H a xs) : ∃ its : List Value, Vals xs its ∧ k.seq s.heap a its.toArray ∧ xs.length ≤ sizeLine ∧ a < s.heap.objs.size := by
  cases k with
  | lst =>
    obtain ⟨its, r, p, z⟩ := I.list h
    exact ⟨its, r, p.isList, z, p.lt⟩
  | tup =>
    obtain ⟨its, r, p, z⟩ := I.tuple h
    exact ⟨its, r, p, z, p.lt⟩
end
def Iek (k : SkW) (K : PySem.W.Frag) (a : Addr) : It :=
  ⟨fun i H => ∃ (xs : List V) (x : V), k.at K H a xs ∧ xs[i]? = some x, fun i H v H' => ∃ T x, v = .ref T ∧ H T = none ∧ H' = upd H T (.tup [.int (i : Nat), x]) ∧ ∀ xs, k.at K H a xs → xs[i]? = some x, fun i H => ∃ xs : List V, k.at K H a xs ∧ xs.length = i⟩
theorem turn_enumK {P : Program} {w : World} {K : PySem.W.Frag} {elts : List Expr} {kk : Nat} {tpos : Pos} (k : SkW) (a e it : Addr) :
    Turn P w K (.Tuple elts kk tpos) (Iek k K a) [e, it] e (fun i h => (∃ old, IsEnum h e it ((i : Nat) : Int) old) ∧ k.iter h it a i ∧ e ≠ it ∧ a ≠ it ∧ e ≠ a) where
  mem := by simp
  obj := fun i h st b hb => by
    obtain ⟨⟨old, he⟩, hi, _⟩ := st
    have e' : b = e ∨ b = it := by simpa using hb
    rcases e' with z | z
    · rw [z]; exact ⟨_, he, fun v q => nomatch q⟩
    · rw [z]; exact SkW.iter_get hi
  keep := fun i h h' st kp => let ⟨⟨old, he⟩, hi, hne⟩ := st; ⟨⟨old, kp e (by simp) _ he⟩, SkW.iter_at hi fun o q => kp it (by simp) o q, hne⟩
  item := by
    intro X hP hw hK hc i pins s σ H E I hf st hg
    subst hP hw hK
    obtain ⟨⟨old, he⟩, hit, hne, hai, hea⟩ := st
    obtain ⟨xs, x, hq, hx⟩ := hg
    obtain ⟨its, rv, p, hz, _⟩ := I.sk hq
    obtain ⟨u, hu, ru⟩ := rv.get hx
    have hel : e < s.heap.objs.size := Heap.lt_size he
    have hil : it < s.heap.objs.size := by obtain ⟨_, q, _⟩ := SkW.iter_get hit; exact Heap.lt_size q
    have hlt : i < its.toArray.size := by
      have := (List.getElem?_eq_some_iff.mp hu).1
      simpa using this
    refine wpAny_pyNext_enum_itemD (SkW.draws k (prog := X.prog) (w := X.w) (A := X.A.in1) (I.ok.hd hc) it a hai its.toArray) he ⟨hit, p⟩ hlt hne (by simp [hne, hea]) fun y h' tk hy ho hst' hT hsz hk => ?_
    have ey : y = u := by
      have e1 : its.toArray[i]? = some u := by simpa using hu
      rw [e1] at hy
      exact (Option.some.inj hy).symm
    subst ey
    refine ⟨_, rfl, wpAny_letOwnedTupleGo_enum (s := { s with heap := h', toks := tk + 1 }) ho fun h'' he' sb => ?_⟩
    have hT2 : h''.get? s.heap.objs.size = some { cls := .type "tuple", data := .seq #[.int i tk, y] } := (sb.2 _ (Nat.ne_of_gt hel)).trans hT
    have new : ObjOk X.prog X.w (upd H s.heap.objs.size (.tup [.int (i : Nat), x])) h'' s.heap.objs.size (.tup [.int (i : Nat), x]) :=
      ⟨by show 2 ≤ sizeLine; decide, [.int i tk, y], .cons ⟨_, rfl⟩ (.cons ru .nil), ⟨_, hT2, rfl, _, rfl⟩⟩
    have I1 : Inv X pins σ (upd H s.heap.objs.size (.tup [.int (i : Nat), x])) { s with heap := h'', toks := tk + 1 } :=
      I.turnedNew (ch := [e, it]) (fun b ob hb q => (sb.2 b (fun z => hb (by simp [z]))).trans (hk b ob (fun z => hb (by simp [z])) (fun z => hb (by simp [z])) q)) hf (Nat.le_refl _) new
    refine ⟨.ref s.heap.objs.size, _, I1, rfl, ⟨_, x, rfl, I.hok.fresh (Nat.le_refl _), rfl, fun ys hy => by rw [I.sk_inj hy hq]; exact hx⟩, ⟨⟨y, ?_⟩, SkW.iter_at hst'.1 fun o q => (sb.2 it (Ne.symm hne)).trans q, hne, hai, hea⟩, fun b hb => ?_⟩
    · have e1 : ((i + 1 : Nat) : Int) = (i : Int) + 1 := by omega
      rw [e1]; exact he'
    · have hb' : b < s.heap.objs.size := by
        have e' : b = e ∨ b = it := by simpa using hb
        rcases e' with z | z
        · rw [z]; exact hel
        · rw [z]; exact hil
      rw [upd_ne (Nat.ne_of_lt hb')]
      exact (hf b hb).1
  done := by
    intro X hP hw hK hc i pins s σ H E I hf st hg
    subst hP hw hK
    obtain ⟨⟨old, he⟩, hit, hne, hai, hea⟩ := st
    obtain ⟨xs, hq, hx⟩ := hg
    obtain ⟨its, rv, p, hz, _⟩ := I.sk hq
    obtain ⟨f0, f1, f2, f3, f4, f5⟩ := hf it (by simp)
    have hl := rv.length
    have hn : its.toArray.size = i := by rw [List.size_toArray]; omega
    have D := SkW.draws k (prog := X.prog) (w := X.w) (A := X.A.in1) (I.ok.hd hc) it a hai its.toArray
    exact wpAny_pyNext_enum_endD D he (by rw [hn]; exact ⟨hit, p⟩) fun h' eb => ⟨rfl, I.turned (t' := s.toks) (fun b o hb q => eb b o hb q) f0 f1 f3 f4 f5⟩
  self := fun A i s Q E st h => let ⟨⟨_, he⟩, _⟩ := st; wpAny_pyIter_enum he h
set_option maxHeartbeats 1000000 in
theorem meets_enum1B {v : Value} {o : Obj} {H : Heap → Prop} (B : Begins v o H) :
    Meets (Builtin.«enumerate.__new__» ⟨[.type "enumerate", v], []⟩) (fun _ R s => H s.heap ∧
      R (.ok (.ret (.ref (s.heap.push o).objs.size))) { s with heap := (s.heap.push o).push { cls := .type "enumerate", data := .fields #[.none, .bool false, .ref s.heap.objs.size, rawInt 0, .none, .none] } }) :=
  .of_wp fun prog w A R s h => by
    obtain ⟨hp, g, d, tk, os⟩ := s; obtain ⟨h1, h⟩ := h
    have hsub := sub_enumerate
    have q1 : ∀ {A' : Around} {E : Value → Shared → Prop} {Q : Value → Shared → Prop}, Q (.ref hp.objs.size) ⟨hp.push o, g, d, tk, os⟩ → wpAny (model prog w) A' (pyIter v) Q E ⟨hp, g, d, tk, os⟩ :=
      fun q => B.iter prog w _ _ ⟨hp, g, d, tk, os⟩ _ h1 q
    wp_walk using q1
    refine wpAny_stack_any fun st => wpAny_pure ?_
    split
    · rename_i c _ _ _ _ _
      cases (c == Value.type "enumerate")
      · wp_walk using q1
        exact ⟨_, rfl, h⟩
      · wp_walk using q1
        exact ⟨_, rfl, h⟩
    · wp_walk using q1
      exact ⟨_, rfl, h⟩
theorem enum1_begins {prog : Program} {w : World} {A : Around} {E : Value → Shared → Prop} {s : Shared} {v : Value} {o : Obj} {H : Heap → Prop} {Q : Value → Shared → Prop} (B : Begins v o H) (h1 : H s.heap)
    (h : ∀ h', IsEnum h' (s.heap.objs.size + 1) s.heap.objs.size 0 .none → h'.get? s.heap.objs.size = some o → h'.objs.size = s.heap.objs.size + 2 →
      (∀ b o, s.heap.get? b = some o → h'.get? b = some o) → Q (.ref (s.heap.objs.size + 1)) { s with heap := h' }) :
    wpAny (model prog w) A (call (.type "enumerate") [v]) Q E s := by
  refine callType_new F.called_enumerate (by decide) (F.typeCall_enumerate_1 _) (F.newCall_enumerate_1 _) (fun obj => F.args_object_init_2 obj _) F.entry_enumerate_new
    (meets_enum1B B) ⟨h1, ?_⟩
  have hz : (s.heap.push o).objs.size = s.heap.objs.size + 1 := Heap.size_push ..
  show _ ∧ _
  rw [hz]
  have he : IsEnum ((s.heap.push o).push { cls := .type "enumerate", data := .fields #[.none, .bool false, .ref s.heap.objs.size, rawInt 0, .none, .none] }) (s.heap.objs.size + 1) s.heap.objs.size 0 .none := by
    have := Heap.get?_push_size (s.heap.push o) (o := { cls := .type "enumerate", data := .fields #[.none, .bool false, .ref s.heap.objs.size, rawInt 0, .none, .none] }) rfl
    rw [hz] at this; exact this
  refine ⟨⟨_, he, rfl⟩, h _ he (Heap.get?_push_of_some _ (Heap.get?_push_size _ B.free)) (by rw [Heap.size_push, hz]) fun b o x => Heap.get?_push_of_some _ (Heap.get?_push_of_some _ x)⟩
def iEnumK (K : PySem.W.Frag) (ta : TA) : TI := fun σ H R => ta σ H fun vs H1 => ∃ k a xs, vs = [.ref a] ∧ SkW.at k K H1 a xs ∧ R (Iek k K a) H1
theorem pi_enumK {X : Cx} {e : Expr} {ta : TA} {p pos tpos : Pos} {elts : List Expr} {kk : Nat} (hg : Gl X "enumerate") (hm : X.mg "enumerate" = none) (ha : PA X [e] ta) (hs : starEach [e] X.env = [(false, eval e X.env)] := by rfl) :
    PI X (.Tuple elts kk tpos) (.Call (.Name "enumerate" p) [e] [] pos) (iEnumK X.K ta) := by
  refine ⟨fun pins s σ H R I h => ?_⟩
  refine Call_ (ld_blt I hg hm boot_enumerate (PyProof.Rows.callWith_type1 (thn (ha.run pos pins s σ H _ I h) fun us s1 ⟨vs, H1, I1, r1, q1⟩ => ?_) hs rfl))
  obtain ⟨k, a, xs, ex, hq, q⟩ := q1
  subst ex
  cases r1 with
  | cons r rr =>
    cases rr
    cases r
    obtain ⟨its, rv, p', hz, hlt⟩ := I1.sk hq
    refine enum1_begins (k.begins a its.toArray) p' fun h' he hit hsz hk => wpAny_pyIter_enum he ?_
    have I2 : Inv X pins σ H1 { s1 with heap := h' } := I1.kept (t' := s1.toks) hk
    refine ⟨s1.heap.objs.size + 1, [s1.heap.objs.size + 1, s1.heap.objs.size], _, _, H1, rfl, I2, turn_enumK k a (s1.heap.objs.size + 1) s1.heap.objs.size, ⟨⟨.none, he⟩, SkW.iter_obj hit, Nat.succ_ne_self _, Nat.ne_of_lt hlt, Nat.ne_of_gt (Nat.lt_succ_of_lt hlt)⟩, fun b hb => ?_, q⟩
    have e' : b = s1.heap.objs.size + 1 ∨ b = s1.heap.objs.size := by simpa using hb
    have hle : s1.heap.objs.size ≤ b := by
      rcases e' with z | z
      · rw [z]; exact Nat.le_add_right _ _
      · rw [z]; exact Nat.le_refl _
    exact I1.fpOk hle (I1.hok.fresh hle)
def Izk (k l : SkW) (K : PySem.W.Frag) (a b : Addr) : It :=
  ⟨fun i H => ∃ (xs ys : List V) (x y : V), k.at K H a xs ∧ l.at K H b ys ∧ xs[i]? = some x ∧ ys[i]? = some y,
    fun i H v H' => ∃ T x y, v = .ref T ∧ H T = none ∧ H' = upd H T (.tup [x, y]) ∧ (∀ xs, k.at K H a xs → xs[i]? = some x) ∧ ∀ ys, l.at K H b ys → ys[i]? = some y,
    fun i H => ∃ xs ys : List V, k.at K H a xs ∧ l.at K H b ys ∧ i = min xs.length ys.length⟩
theorem turn_zipK {P : Program} {w : World} {K : PySem.W.Frag} {elts : List Expr} {kk : Nat} {tpos : Pos} (k l : SkW) {a b z TI TO i1 i2 : Addr} (D : ZipSep2 z TI TO i1 i2 [i1, a] [i2, b]) (h1a : a ≠ i1) (h2b : b ≠ i2) :
    Turn P w K (.Tuple elts kk tpos) (Izk k l K a b) [z, TI, TO, i1, i2] z (fun i h => IsZip h z TI TO .none ∧ IsTupOf2 h TI (.ref i1) (.ref i2) ∧ (∃ x y, IsTupOf2 h TO x y) ∧ k.iter h i1 a i ∧ l.iter h i2 b i) where
  mem := by simp
  obj := fun i h st c hc => by
    obtain ⟨hz, hTI, ⟨x, y, hTO⟩, h1, h2⟩ := st
    have e' : c = z ∨ c = TI ∨ c = TO ∨ c = i1 ∨ c = i2 := by simpa using hc
    rcases e' with q | q | q | q | q
    · rw [q]; exact ⟨_, hz, fun v q => nomatch q⟩
    · rw [q]; exact ⟨_, hTI, fun v q => nomatch q⟩
    · rw [q]; exact ⟨_, hTO, fun v q => nomatch q⟩
    · rw [q]; exact SkW.iter_get h1
    · rw [q]; exact SkW.iter_get h2
  keep := fun i h h' st kp => by
    obtain ⟨hz, hTI, ⟨x, y, hTO⟩, h1, h2⟩ := st
    exact ⟨kp z (by simp) _ hz, kp TI (by simp) _ hTI, ⟨x, y, kp TO (by simp) _ hTO⟩, SkW.iter_at h1 fun o q => kp i1 (by simp) o q, SkW.iter_at h2 fun o q => kp i2 (by simp) o q⟩
  item := by
    intro X hP hw hK hc i pins s σ H E I hf st hg
    subst hP hw hK
    obtain ⟨hz, hTI, ⟨x0, y0, hTO⟩, h1, h2⟩ := st
    obtain ⟨xs, ys, x, y, hqx, hqy, hx, hy⟩ := hg
    obtain ⟨its, rv, p, _, _⟩ := I.sk hqx
    obtain ⟨its2, rv2, p2, _, _⟩ := I.sk hqy
    obtain ⟨u, hu, ru⟩ := rv.get hx
    obtain ⟨u2, hu2, ru2⟩ := rv2.get hy
    have hzl : z < s.heap.objs.size := Heap.lt_size hz
    have hlt1 : i < its.toArray.size := by simpa using (List.getElem?_eq_some_iff.mp hu).1
    have hlt2 : i < its2.toArray.size := by simpa using (List.getElem?_eq_some_iff.mp hu2).1
    refine wpAny_pyNext_zipD2_item D (SkW.draws k (prog := X.prog) (w := X.w) (A := X.A.in1) (I.ok.hd hc) i1 a h1a its.toArray) (SkW.draws l (prog := X.prog) (w := X.w) (A := X.A.in1) (I.ok.hd hc) i2 b h2b its2.toArray) hz hTI hTO ⟨h1, p⟩ ⟨h2, p2⟩ hlt1 hlt2 fun y1 y2 h' tk hy1 hy2 z' TO' h1' h2' hT hsz hk => ?_
    have e1 : y1 = u := by
      have e : its.toArray[i]? = some u := by simpa using hu
      rw [e] at hy1; exact (Option.some.inj hy1).symm
    have e2 : y2 = u2 := by
      have e : its2.toArray[i]? = some u2 := by simpa using hu2
      rw [e] at hy2; exact (Option.some.inj hy2).symm
    subst e1; subst e2
    refine ⟨_, rfl, wpAny_letOwnedTupleGo_zip (s := { s with heap := h', toks := tk }) z' fun h'' z'' sb => ?_⟩
    have hT2 : h''.get? s.heap.objs.size = some { cls := .type "tuple", data := .seq #[y1, y2] } := (sb.2 _ (Nat.ne_of_gt hzl)).trans hT
    have new : ObjOk X.prog X.w (upd H s.heap.objs.size (.tup [x, y])) h'' s.heap.objs.size (.tup [x, y]) :=
      ⟨by show 2 ≤ sizeLine; decide, [y1, y2], .cons ru (.cons ru2 .nil), ⟨_, hT2, rfl, _, rfl⟩⟩
    have I1 : Inv X pins σ (upd H s.heap.objs.size (.tup [x, y])) { s with heap := h'', toks := tk } :=
      I.turnedNew (t' := tk) (ch := [z, TI, TO, i1, i2]) (fun c o hb q => (sb.2 c (fun q' => hb (by simp [q']))).trans (hk c o (fun q' => hb (by simp [q'])) (fun q' => hb (by simp [q'])) (fun q' => hb (by simp [q'])) (fun q' => hb (by simp [q'])) q)) hf (Nat.le_refl _) new
    refine ⟨.ref s.heap.objs.size, _, I1, rfl, ⟨_, x, y, rfl, I.hok.fresh (Nat.le_refl _), rfl, fun l' hl => by rw [I.sk_inj hl hqx]; exact hx, fun l' hl => by rw [I.sk_inj hl hqy]; exact hy⟩, ⟨z'', ?_, ⟨y1, y2, ?_⟩, ?_, ?_⟩, fun c hcm => ?_⟩
    · exact (sb.2 _ D.TIz).trans (hk _ _ D.TIz D.TITO D.TIi1 D.TIi2 hTI)
    · exact (sb.2 _ D.TOz).trans TO'
    · exact SkW.iter_at h1'.1 fun o q => (sb.2 _ (Ne.symm D.zi1)).trans q
    · exact SkW.iter_at h2'.1 fun o q => (sb.2 _ (Ne.symm D.zi2)).trans q
    · have hlt : c < s.heap.objs.size := by
        have e' : c = z ∨ c = TI ∨ c = TO ∨ c = i1 ∨ c = i2 := by simpa using hcm
        rcases e' with q | q | q | q | q
        · rw [q]; exact hzl
        · rw [q]; exact Heap.lt_size hTI
        · rw [q]; exact Heap.lt_size hTO
        · rw [q]; obtain ⟨_, e1, _⟩ := SkW.iter_get h1; exact Heap.lt_size e1
        · rw [q]; obtain ⟨_, e2, _⟩ := SkW.iter_get h2; exact Heap.lt_size e2
      rw [upd_ne (Nat.ne_of_lt hlt)]
      exact (hf c hcm).1
  done := by
    intro X hP hw hK hc i pins s σ H E I hf st hg
    subst hP hw hK
    obtain ⟨hz, hTI, ⟨x0, y0, hTO⟩, h1, h2⟩ := st
    obtain ⟨xs, ys, hqx, hqy, hend⟩ := hg
    obtain ⟨its, rv, p, _, _⟩ := I.sk hqx
    obtain ⟨its2, rv2, p2, _, _⟩ := I.sk hqy
    have l1 := rv.length
    have l2 := rv2.length
    refine wpAny_pyNext_zipD2_end D (SkW.draws k (prog := X.prog) (w := X.w) (A := X.A.in1) (I.ok.hd hc) i1 a h1a its.toArray) (SkW.draws l (prog := X.prog) (w := X.w) (A := X.A.in1) (I.ok.hd hc) i2 b h2b its2.toArray) hz hTI hTO ⟨h1, p⟩ ⟨h2, p2⟩ (by rw [List.size_toArray]; omega) (by rw [List.size_toArray]; omega) (by rw [List.size_toArray, List.size_toArray]; omega) fun h' tk hk => ⟨rfl, I.turnedL (t' := tk) (ch := [z, TI, TO, i1, i2]) (fun c o hb q =>
      hk c o (fun q' => hb (by simp [q'])) (fun q' => hb (by simp [q'])) (fun q' => hb (by simp [q'])) (fun q' => hb (by simp [q'])) q) hf⟩
  self := fun A i s Q E st h => wpAny_pyIter_zip st.1 h
def iZipK (K : PySem.W.Frag) (ta : TA) : TI := fun σ H R => ta σ H fun vs H1 => ∃ k l a b xs ys, vs = [.ref a, .ref b] ∧ SkW.at k K H1 a xs ∧ SkW.at l K H1 b ys ∧ R (Izk k l K a b) H1
theorem pi_zipK {X : Cx} {e e2 : Expr} {ta : TA} {p pos tpos : Pos} {elts : List Expr} {kk : Nat} (hg : Gl X "zip") (hm : X.mg "zip" = none) (ha : PA X [e, e2] ta)
    (hs : starEach [e, e2] X.env = (false, eval e X.env) :: starEach [e2] X.env := by rfl) (hpl : (backTo pos (starEach [e2] X.env)).any (·.1) = false := by rfl) :
    PI X (.Tuple elts kk tpos) (.Call (.Name "zip" p) [e, e2] [] pos) (iZipK X.K ta) := by
  refine ⟨fun pins s σ H R I h => ?_⟩
  refine Call_ (ld_blt I hg hm PyProof.Rows.boot_zip (PyProof.Rows.callWith_type1 (thn (ha.run pos pins s σ H _ I h) fun us s1 ⟨vs, H1, I1, r1, q1⟩ => ?_) hs hpl))
  obtain ⟨k, l, a, b, xs, ys, ex, hqx, hqy, q⟩ := q1
  subst ex
  cases r1 with
  | cons r rr =>
    cases rr with
    | cons r' rr =>
      cases rr
      cases r
      cases r'
      obtain ⟨its, rv, p1, _, la⟩ := I1.sk hqx
      obtain ⟨its2, rv2, p2, _, lb⟩ := I1.sk hqy
      refine zip_begins2 (k.begins a its.toArray) (l.begins b its2.toArray) p1 p2 fun h' hz hTI hTO h1 h2 hsz hk => wpAny_pyIter_zip hz ?_
      have I2 : Inv X pins σ H1 { s1 with heap := h' } := I1.kept (t' := s1.toks) hk
      have S := zip_sep2 (N := s1.heap.objs.size) (fp1 := [a]) (fp2 := [b]) (by simpa using la) (by simpa using lb)
      refine ⟨s1.heap.objs.size + 4, [s1.heap.objs.size + 4, s1.heap.objs.size + 2, s1.heap.objs.size + 3, s1.heap.objs.size, s1.heap.objs.size + 1], _, _, H1, rfl, I2, turn_zipK k l S (Nat.ne_of_lt la) (Nat.ne_of_lt (Nat.lt_succ_of_lt lb)), ⟨hz, hTI, ⟨_, _, hTO⟩, SkW.iter_obj h1, SkW.iter_obj h2⟩, fun c hcm => ?_, q⟩
      have e' : c = s1.heap.objs.size + 4 ∨ c = s1.heap.objs.size + 2 ∨ c = s1.heap.objs.size + 3 ∨ c = s1.heap.objs.size ∨ c = s1.heap.objs.size + 1 := by simpa using hcm
      have hle : s1.heap.objs.size ≤ c := by
        rcases e' with z | z | z | z | z
        · rw [z]; exact Nat.le_add_right _ _
        · rw [z]; exact Nat.le_add_right _ _
        · rw [z]; exact Nat.le_add_right _ _
        · rw [z]; exact Nat.le_refl _
        · rw [z]; exact Nat.le_add_right _ _
      exact I1.fpOk hle (I1.hok.fresh hle)
def iAny (K : PySem.W.Frag) (tl : TE) : TI := fun σ H R => tl σ H fun x H1 => (∃ a xs, x = .ref a ∧ SqL K H1 a xs ∧ R (Itl K a) H1) ∨ (∃ a xs, x = .ref a ∧ SqT K H1 a xs ∧ R (Itt K a) H1) ∨ (∃ z, x = .str z ∧ R (Its z) H1)
theorem pi_any {X : Cx} {tg l : Expr} {tl : TE} (hl : PE X l tl) : PI X tg l (iAny X.K tl) := by
  refine ⟨fun pins s σ H R I h => ?_⟩
  refine thn (hl.run pins s σ H _ I h) fun v s1 ⟨x, H1, I1, r1, q1⟩ => ?_
  rcases q1 with ⟨a, xs, e, hq, q⟩ | ⟨a, xs, e, hq, q⟩ | ⟨z, e, q⟩
  · subst e
    cases r1
    obtain ⟨its, rv, p, hz⟩ := I1.list hq
    refine wpAny_pyIter_list p.isList ?_
    refine ⟨s1.heap.objs.size, [s1.heap.objs.size], _, _, H1, rfl, I1.kept (t' := s1.toks) fun b o e => Heap.get?_push_of_some _ e, turn_list a _, ⟨_, Heap.get?_push_size _ rfl, rfl, rfl⟩, fun b hb => ?_, q⟩
    have e : b = s1.heap.objs.size := by simpa using hb
    subst e
    exact I1.fpOk (Nat.le_refl _) (I1.hok.fresh (Nat.le_refl _))
  · subst e
    cases r1
    obtain ⟨its, rv, p, hz⟩ := I1.tuple hq
    refine wpAny_pyIter_tuple (show s1.heap.IsTuple a its.toArray from p) ?_
    refine ⟨s1.heap.objs.size, [s1.heap.objs.size], _, _, H1, rfl, I1.kept (t' := s1.toks) fun b o e => Heap.get?_push_of_some _ e, turn_tuple a _, ⟨_, Heap.get?_push_size _ rfl, rfl, rfl⟩, fun b hb => ?_, q⟩
    have e : b = s1.heap.objs.size := by simpa using hb
    subst e
    exact I1.fpOk (Nat.le_refl _) (I1.hok.fresh (Nat.le_refl _))
  · subst e
    obtain ⟨t, rfl⟩ := r1
    cases ha : z.cps.all (· < 128)
    · exact wpAny_pyIter_wide ha (pi_one (tk := s1.toks) I1 _ (turn_str _ z t "str_iterator" (.inr rfl)) ⟨_, Heap.get?_push_size _ rfl, rfl, rfl⟩ q)
    · exact wpAny_pyIter_ascii ha (pi_one (tk := s1.toks) I1 _ (turn_str _ z t "str_ascii_iterator" (.inl rfl)) ⟨_, Heap.get?_push_size _ rfl, rfl, rfl⟩ q)
end L2
namespace DL
open PySem PySem.Spec L2
def EndOk (K : PySem.W.Frag) (W : Wd) (Ew : WX) (V0 : Hp) (E : Ends) : Out → Prop
  | .nx ρ' => ∀ σ' H', SD K W σ' ρ' H' → Same V0 (vw W σ' ρ' H') → E.nx σ' H'
  | .bk ρ' => ∀ σ' H', SD K W σ' ρ' H' → Same V0 (vw W σ' ρ' H') → E.bk σ' H'
  | .ct ρ' => ∀ σ' H', SD K W σ' ρ' H' → Same V0 (vw W σ' ρ' H') → E.ct σ' H'
  | .rt d => ∀ v H', W.J H' → Same V0 (off W.foot H') → Rp K (off W.foot H') v d → E.rt v H'
  | .ex x ρ' => ∀ σ' H', SD K W σ' ρ' H' → Same V0 (vw W σ' ρ' H') → ExcAt K W x H' (fun cls d H'' => Ew cls d σ' H'')
theorem EndOk.on {K : PySem.W.Frag} {W : Wd} {Ew : WX} {V0 V1 : Hp} {E : Ends} (s : Same V0 V1) : ∀ {o : Out}, EndOk K W Ew V0 E o → EndOk K W Ew V1 E o
  | .nx _, h => fun σ' H' a b => h σ' H' a (s.trans b)
  | .bk _, h => fun σ' H' a b => h σ' H' a (s.trans b)
  | .ct _, h => fun σ' H' a b => h σ' H' a (s.trans b)
  | .rt _, h => fun v H' j b r => h v H' j (s.trans b) r
  | .ex _ _, h => fun σ' H' a b => h σ' H' a (s.trans b)
def tS (K : PySem.W.Frag) (C : Wd → Prop) (Ew : WX) (g : Ro → Option Out) : TS := fun E σ H => ∃ W ρ o, C W ∧ SD K W σ ρ H ∧ g ρ = some o ∧ EndOk K W Ew (vw W σ ρ H) E o
abbrev DS (X : Cx) (C : Wd → Prop) (Ew : WX) (st : Stmt) (g : Ro → Option Out) : Prop := PS X st (tS X.K C Ew g)
abbrev DSs (X : Cx) (C : Wd → Prop) (Ew : WX) (st : List Stmt) (g : Ro → Option Out) : Prop := PSs X st (tS X.K C Ew g)
def nxt : Ro → Option Out := fun ρ => some (.nx ρ)
def sq (g h : Ro → Option Out) : Ro → Option Out := fun ρ => match g ρ with
  | some (.nx ρ') => h ρ'
  | r => r
section
variable {X : Cx} {C : Wd → Prop} {Ew : WX} {st : Stmt} {sts : List Stmt} {g h : Ro → Option Out} {e a b c : Expr} {f : Ro → Option D} {pos : Pos}
theorem dss_nil : DSs X C Ew [] nxt := pss_imp pss_nil fun E σ H ⟨W, ρ, o, c, s, hg, q⟩ => by
  cases hg
  exact q σ H s (Same.refl _)
theorem dss_cons (h1 : DS X C Ew st g) (h2 : DSs X C Ew sts h) : DSs X C Ew (st :: sts) (sq g h) := pss_imp (pss_cons h1 h2) fun E σ H ⟨W, ρ, o, c, s, hg, q⟩ => by
  unfold sq at hg
  split at hg
  · rename_i ρ' hx
    exact ⟨W, ρ, _, c, s, hx, fun σ' H' s' v => ⟨W, ρ', o, c, s', hg, q.on v⟩⟩
  · rename_i hn
    refine ⟨W, ρ, o, c, s, hg, ?_⟩
    cases o with
    | nx ρ' => exact absurd hg (hn ρ')
    | rt d => exact q
    | bk _ => exact q
    | ct _ => exact q
    | ex _ _ => exact q
theorem dss_one (h1 : DS X C Ew st g) : DSs X C Ew [st] g := pss_one h1
def ret (f : Ro → Option D) : Ro → Option Out := fun ρ => (f ρ).map .rt
theorem off_of_rw {W : Wd} {σ : L2.St} {ρ : Ro} {H H' : Hp} (r : Rw W H H') : Same (vw W σ ρ H) (off W.foot H') := (vw_mono r).trans vw_sub
theorem ds_retN (he : DN X C e f) : DS X C Ew (.Return (some e) pos) (ret f) := ps_imp (ps_ret he) fun E σ H ⟨W, ρ, o, c, s, hg, q⟩ => by
  unfold ret at hg
  cases hf : f ρ with
  | none => rw [hf] at hg; cases hg
  | some d =>
    rw [hf] at hg
    cases hg
    exact ⟨W, ρ, d, c, s, hf, fun v H' r j dp => q v H' j (off_of_rw r) dp⟩
def drp (f : Ro → Option D) : Ro → Option Out := fun ρ => (f ρ).map fun _ => .nx ρ
theorem ds_pass : DS X C Ew (.Pass pos) nxt := ps_imp ps_pass fun E σ H ⟨W, ρ, o, c, s, hg, q⟩ => by
  cases hg
  exact q σ H s (Same.refl _)
def ifS (t : Ro → Option Bool) (g h : Ro → Option Out) : Ro → Option Out := fun ρ => match t ρ with
  | some true => g ρ
  | some false => h ρ
  | none => none
theorem ds_if {t : Ro → Option Bool} {as bs : List Stmt} (hc : DT X C c t) (ha : DSs X C Ew as g) (hb : DSs X C Ew bs h) : DS X C Ew (.If c as bs pos) (ifS t g h) := ps_imp (ps_if hc ha hb) fun E σ H ⟨W, ρ, o, c, s, hg, q⟩ => by
  unfold ifS at hg
  split at hg
  · rename_i ht
    refine ⟨W, ρ, true, c, s, ht, fun H' r j => iteT ?_⟩
    exact ⟨W, ρ, o, c, s.next r j, hg, q.on (vw_mono r)⟩
  · rename_i ht
    refine ⟨W, ρ, false, c, s, ht, fun H' r j => iteF ?_⟩
    exact ⟨W, ρ, o, c, s.next r j, hg, q.on (vw_mono r)⟩
  · cases hg
theorem SD.own_set {K : PySem.W.Frag} {W : Wd} {σ : L2.St} {ρ : Ro} {H H' : Hp} {i : Nat} {a : Addr} {xs : List V} {ds : List D} (s : SD K W σ ρ H) (r : Rw W H H') (j : W.J H') (hn : H a = none) (hf : ¬ W.foot a) (ha : H' a = some (.lst xs))
    (dp : RpAll K (off (fun b => (W.foot b ∨ isOw σ ρ b) ∨ b = a) H') xs ds) : SD K W (σ.set i (some (.ref a))) (ρ.set i (.ow ds)) H' ∧ Same (vw W σ ρ H) (vw W (σ.set i (some (.ref a))) (ρ.set i (.ow ds)) H') := by
  have ow' : ∀ b, isOw (σ.set i (some (.ref a))) (ρ.set i (.ow ds)) b → isOw σ ρ b ∨ b = a := fun b ⟨l, es, h1, h2⟩ => by
    by_cases hi : i < ρ.length
    · by_cases hj : i = l
      · subst hj
        rw [List.getElem?_set_self (by rw [← s.len]; exact hi)] at h2
        refine .inr ?_
        have : V.ref a = V.ref b := Option.some.inj (Option.some.inj h2)
        exact (V.ref.inj this).symm
      · rw [getSet_ne hj] at h1 h2
        exact .inl ⟨l, es, h1, h2⟩
    · rw [set_out hi] at h1
      rw [set_out (by rw [← s.len]; exact hi)] at h2
      exact .inl ⟨l, es, h1, h2⟩
  have hv : Same (vw W σ ρ H) (vw W (σ.set i (some (.ref a))) (ρ.set i (.ow ds)) H') := off_mono (fun b o e z => z.elim .inl fun z => (ow' b z).elim .inr fun q => by subst q; rw [hn] at e; cases e) fun b o n e => r b o (fun z => n (.inl z)) e
  have hv2 : Same (off (fun b => (W.foot b ∨ isOw σ ρ b) ∨ b = a) H') (vw W (σ.set i (some (.ref a))) (ρ.set i (.ow ds)) H') := off_mono (fun b o e z => z.elim (fun z => .inl (.inl z)) fun z => (ow' b z).elim (fun z => .inl (.inr z)) .inr) fun b o n e => e
  refine ⟨?_, hv⟩
  by_cases hi : i < ρ.length
  · have hi' : i < σ.length := by rw [← s.len]; exact hi
    refine ⟨j, fun l d e => ?_, fun l es e => ?_, fun l m es fs b h1 h2 h3 h4 => ?_, fun l u e => ?_, fun l e => ?_, by simp [s.len]⟩
    · by_cases hj : i = l
      · subst hj
        rw [List.getElem?_set_self hi] at e
        cases Option.some.inj e
      · rw [getSet_ne hj] at e ⊢
        obtain ⟨u, h1, h2⟩ := s.sh l d e
        exact ⟨u, h1, h2.mono hv⟩
    · by_cases hj : i = l
      · subst hj
        rw [List.getElem?_set_self hi] at e
        cases Option.some.inj e
        exact ⟨a, xs, by rw [List.getElem?_set_self hi'], ha, dp.mono hv2, hf⟩
      · rw [getSet_ne hj] at e ⊢
        obtain ⟨b, ys, h1, h2, h3, h4⟩ := s.ow l es e
        exact ⟨b, ys, h1, r b _ h4 h2, h3.mono hv, h4⟩
    · by_cases hl : i = l
      · subst hl
        by_cases hm : i = m
        · exact hm
        · rw [List.getElem?_set_self hi'] at h3
          rw [getSet_ne hm] at h2 h4
          have : V.ref a = V.ref b := Option.some.inj (Option.some.inj h3)
          have e := V.ref.inj this
          subst e
          exact absurd hn (s.excl (.inr ⟨m, fs, h2, h4⟩))
      · by_cases hm : i = m
        · subst hm
          rw [List.getElem?_set_self hi'] at h4
          rw [getSet_ne hl] at h1 h3
          have : V.ref a = V.ref b := Option.some.inj (Option.some.inj h4)
          have e := V.ref.inj this
          subst e
          exact absurd hn (s.excl (.inr ⟨l, es, h1, h3⟩))
        · rw [getSet_ne hl] at h1 h3
          rw [getSet_ne hm] at h2 h4
          exact s.inj l m es fs b h1 h2 h3 h4
    · by_cases hj : i = l
      · subst hj
        rw [List.getElem?_set_self hi] at e
        cases Option.some.inj e
      · rw [getSet_ne hj] at e ⊢
        exact s.op l u e
    · by_cases hj : i = l
      · subst hj
        rw [List.getElem?_set_self hi] at e
        cases Option.some.inj e
      · rw [getSet_ne hj] at e ⊢
        exact s.exn l e
  · rw [set_out hi, set_out (by rw [← s.len]; exact hi)]
    exact s.next r j
def setS (i : Nat) (f : Ro → Option D) : Ro → Option Out := fun ρ => (f ρ).map fun d => .nx (ρ.set i (.sh d))
theorem ds_set {i : Nat} {x : Str} {pos' : Pos} (hN : X.N.Nodup) (hi : X.N[i]? = some x) (hx : Loc X.env.scope x) (he : DE X C e f) (hs : swapsWith e (some (.Name x pos')) pos.line X.env = pure false := by rfl)
    (hf : X.fn x = true ∨ X.env.scope.names.lookup x = some .local := by first | exact .inl rfl | exact .inr rfl | assumption) : DS X C Ew (.Assign [.Name x pos'] e pos) (setS i f) :=
  ps_imp (ps_set hN hi hx he hs hf) fun E σ H ⟨W, ρ, o, c, s, hg, q⟩ => by
    unfold setS at hg
    cases hf : f ρ with
    | none => rw [hf] at hg; cases hg
    | some d =>
      rw [hf] at hg
      cases hg
      refine ⟨W, ρ, d, c, s, hf, fun v H' r j dp => ?_⟩
      obtain ⟨s', vv⟩ := (s.next r j).set (i := i) (cl := .sh d) (v := v) (fun _ z => nomatch z) (fun d' z => by cases z; exact dp) (fun _ z => nomatch z)
      exact q _ _ s' ((vw_mono r).trans vv)
def setO (i : Nat) (f : Ro → Option (List D)) : Ro → Option Out := fun ρ => (f ρ).map fun d => .nx (ρ.set i (.ow d))
theorem ds_own {i : Nat} {x : Str} {pos' : Pos} {f : Ro → Option (List D)} (hN : X.N.Nodup) (hi : X.N[i]? = some x) (hx : Loc X.env.scope x) (he : DF X C e f) (hs : swapsWith e (some (.Name x pos')) pos.line X.env = pure false := by rfl)
    (hf : X.fn x = true ∨ X.env.scope.names.lookup x = some .local := by first | exact .inl rfl | exact .inr rfl | assumption) : DS X C Ew (.Assign [.Name x pos'] e pos) (setO i f) :=
  ps_imp (ps_set hN hi hx he hs hf) fun E σ H ⟨W, ρ, o, c, s, hg, q⟩ => by
    unfold setO at hg
    cases hf : f ρ with
    | none => rw [hf] at hg; cases hg
    | some ds =>
      rw [hf] at hg
      cases hg
      refine ⟨W, ρ, ds, c, s, hf, fun a xs H' r j hn hnf ha dp => ?_⟩
      obtain ⟨s', vv⟩ := s.own_set (i := i) r j hn hnf ha dp
      exact q _ _ s' vv
structure Tgt (K : PySem.W.Frag) (W : Wd) (vs : List Nat) (σ : L2.St) (ρ : Ro) (H : Hp) (σ' : L2.St) (ρ' : Ro) (H' : Hp) : Prop where
  sd : SD K W σ' ρ' H'
  vw : Same (vw W σ ρ H) (vw W σ' ρ' H')
  ow : ∀ a, isOw σ ρ a → isOw σ' ρ' a
  rw : Rw W H H'
  wp : ∀ us, (∀ i ∈ vs, i ∈ us) → wipe σ' us = wipe σ us
def tG (K : PySem.W.Frag) (C : Wd → Prop) (vs : List Nat) (b : D → Ro → Option Ro) : TG := fun v σ H Q => ∃ W ρ d ρ', C W ∧ SD K W σ ρ H ∧ Rp K (vw W σ ρ H) v d ∧ b d ρ = some ρ' ∧ ∀ σ' H', Tgt K W vs σ ρ H σ' ρ' H' → Q σ' H'
def tGs (K : PySem.W.Frag) (C : Wd → Prop) (vs : List Nat) (b : List D → Ro → Option Ro) : TGs := fun xs σ H Q => ∃ W ρ ds ρ', C W ∧ SD K W σ ρ H ∧ RpAll K (vw W σ ρ H) xs ds ∧ b ds ρ = some ρ' ∧ ∀ σ' H', Tgt K W vs σ ρ H σ' ρ' H' → Q σ' H'
abbrev DG (X : Cx) (C : Wd → Prop) (tg : Expr) (vs : List Nat) (b : D → Ro → Option Ro) : Prop := PG X tg (tG X.K C vs b)
abbrev DGs (X : Cx) (C : Wd → Prop) (tg : List Expr) (vs : List Nat) (b : List D → Ro → Option Ro) : Prop := PGs X tg (tGs X.K C vs b)
theorem pg_imp {e : Expr} {t t' : TG} (h : PG X e t) (hi : ∀ v σ H Q, t' v σ H Q → t v σ H Q) : PG X e t' := ⟨fun pins s σ H v u Q I r q => h.run pins s σ H v u Q I r (hi v σ H Q q)⟩
theorem pgs_imp {e : List Expr} {t t' : TGs} (h : PGs X e t) (hi : ∀ v σ H Q, t' v σ H Q → t v σ H Q) : PGs X e t' := ⟨fun pins s σ H v u Q I r q => h.run pins s σ H v u Q I r (hi v σ H Q q)⟩
theorem wipe_set {σ : L2.St} {i : Nat} {x : Option V} : ∀ {us : List Nat}, i ∈ us → wipe (σ.set i x) us = wipe σ us
  | [], h => by cases h
  | u :: us, h => by
    by_cases hu : i ∈ us
    · unfold wipe
      rw [wipe_set hu]
    · have e : i = u := by
        rcases List.mem_cons.mp h with z | z
        · exact z
        · exact absurd z hu
      subst e
      have key : ∀ (ws : List Nat) (τ : L2.St), i ∉ ws → wipe (τ.set i x) ws = (wipe τ ws).set i x := by
        intro ws
        induction ws with
        | nil => intro τ _; rfl
        | cons w ws ih =>
          intro τ hn
          unfold wipe
          rw [ih τ (fun z => hn (List.mem_cons_of_mem _ z))]
          exact List.set_comm _ _ (fun z => hn (by rw [z]; exact List.mem_cons_self))
      unfold wipe
      rw [key us σ hu, List.set_set]
def bN (i : Nat) : D → Ro → Option Ro := fun d ρ => match ρ[i]? with
  | some (.ow _) => none
  | _ => some (ρ.set i (.sh d))
theorem bN_some {i : Nat} {d : D} {ρ ρ' : Ro} (h : bN i d ρ = some ρ') : (∀ ds, ρ[i]? ≠ some (.ow ds)) ∧ ρ' = ρ.set i (.sh d) := by
  unfold bN at h
  split at h
  · cases h
  · cases h
    rename_i hn
    exact ⟨fun ds z => hn ds z, rfl⟩
theorem dg_name {i : Nat} {x : Str} (hN : X.N.Nodup) (hi : X.N[i]? = some x) (hx : Loc X.env.scope x) (hf : X.fn x = true ∨ X.env.scope.names.lookup x = some .local := by first | exact .inl rfl | exact .inr rfl | assumption) : DG X C (.Name x pos) [i] (bN i) :=
  pg_imp (pg_name hN hi hx hf) fun v σ H Q ⟨W, ρ, d, ρ', c, s, dp, hb, q⟩ => by
    obtain ⟨hno, rfl⟩ := bN_some hb
    obtain ⟨s', vv⟩ := s.set (i := i) (cl := .sh d) (v := v) (fun _ z => nomatch z) (fun d' z => by cases z; exact dp) (fun _ z => nomatch z)
    refine q _ _ ⟨s', vv, fun a ⟨j, ds, h1, h2⟩ => ⟨j, ds, ?_, ?_⟩, Rw.refl _ _, fun us hu => wipe_set (hu i (by simp))⟩
    · rw [getSet_ne (fun z => by subst z; exact hno ds h1)]; exact h1
    · rw [getSet_ne (fun z => by subst z; exact hno ds h1)]; exact h2
def bNil : List D → Ro → Option Ro
  | [], ρ => some ρ
  | _ :: _, _ => none
def bCons (b : D → Ro → Option Ro) (bs : List D → Ro → Option Ro) : List D → Ro → Option Ro
  | [], _ => none
  | d :: ds, ρ => match b d ρ with
    | some ρ' => bs ds ρ'
    | none => none
theorem dgs_nil : DGs X C [] [] bNil := pgs_imp pgs_nil fun vs σ H Q ⟨W, ρ, ds, ρ', c, s, dp, hb, q⟩ => by
  cases dp with
  | nil => cases hb; exact ⟨rfl, q _ _ ⟨s, Same.refl _, fun _ h => h, Rw.refl _ _, fun _ _ => rfl⟩⟩
  | cons _ _ => cases hb
theorem dgs_cons {es : List Expr} {vs ws : List Nat} {b : D → Ro → Option Ro} {bs : List D → Ro → Option Ro} (h1 : DG X C e vs b) (h2 : DGs X C es ws bs) (hs : (assignEach (e :: es) X.env).map (·.2) = assign e X.env :: (assignEach es X.env).map (·.2) := by rfl) : DGs X C (e :: es) (vs ++ ws) (bCons b bs) :=
  pgs_imp (pgs_cons h1 h2 hs) fun xs σ H Q ⟨W, ρ, ds, ρ', c, s, dp, hb, q⟩ => by
    cases dp with
    | nil => cases hb
    | cons d1 d2 =>
      unfold bCons at hb
      dsimp only at hb
      split at hb
      · rename_i ρ1 h1
        refine ⟨_, _, rfl, W, ρ, _, ρ1, c, s, d1, h1, fun σ1 H1 t1 => ?_⟩
        exact ⟨W, ρ1, _, ρ', c, t1.sd, d2.mono t1.vw, hb, fun σ2 H2 t2 => q _ _ ⟨t2.sd, t1.vw.trans t2.vw, fun a h => t2.ow a (t1.ow a h), t1.rw.trans t2.rw, fun us hu =>
          (t2.wp us fun i hi => hu i (List.mem_append_right _ hi)).trans (t1.wp us fun i hi => hu i (List.mem_append_left _ hi))⟩⟩
      · cases hb
def bT (n : Nat) (bs : List D → Ro → Option Ro) : D → Ro → Option Ro := fun d ρ => match d with
  | .tuple ds => if ds.length = n then bs ds ρ else none
  | _ => none
theorem dg_tup {es : List Expr} {vs : List Nat} {k n : Nat} {bs : List D → Ro → Option Ro} (hc : X.calm = true) (h : DGs X C es vs bs) (hn : (assignEach es X.env).length = n := by rfl) (hst : (assignEach es X.env).findIdx? (·.1) = none := by rfl) : DG X C (.Tuple es k pos) vs (bT n bs) :=
  pg_imp (pg_tup hc h hn hst) fun v σ H Q ⟨W, ρ, d, ρ', c, s, dp, hb, q⟩ => by
    unfold bT at hb
    split at hb
    · split at hb
      · rename_i hl
        obtain ⟨a, xs, rfl, ha, hx⟩ := dp.tup_inv
        exact ⟨a, xs, rfl, ha.mono off_sub, by rw [hx.length]; exact hl, W, ρ, _, ρ', c, s, hx, hb, q⟩
      · cases hb
    · cases hb
def setG (f : Ro → Option D) (b : D → Ro → Option Ro) : Ro → Option Out := fun ρ => match f ρ with
  | some d => (b d ρ).map .nx
  | none => none
theorem ds_asg {tg : Expr} {vs : List Nat} {b : D → Ro → Option Ro} (he : DE X C e f) (hg : DG X C tg vs b) (hs : swapsWithSole [tg] e pos.line X.env = pure false := by rfl) (hw : swappedStores [tg] e X.env = pure none := by rfl)
    (h1 : (assignEach [tg] X.env).map (·.2) = [assign tg X.env] := by rfl) : DS X C Ew (.Assign [tg] e pos) (setG f b) :=
  ps_imp (ps_asg he hg hs hw h1) fun E σ H ⟨W, ρ, o, c, s, hgo, q⟩ => by
    unfold setG at hgo
    split at hgo
    · rename_i d hd
      cases hb : b d ρ with
      | none => rw [hb] at hgo; cases hgo
      | some ρ' =>
        rw [hb] at hgo
        cases hgo
        refine ⟨W, ρ, d, c, s, hd, fun v H' r j dp => ⟨W, ρ, d, ρ', c, s.next r j, dp, hb, fun σ' H2 t => ?_⟩⟩
        exact q _ _ t.sd ((vw_mono r).trans t.vw)
    · cases hgo
end
end DL
namespace DL
open PySem PySem.Spec L2
theorem isOw_upd {σ : L2.St} {ρ : Ro} {i : Nat} {ds es : List D} {b : Addr} (hi : ρ[i]? = some (.ow ds)) : isOw σ (ρ.set i (.ow es)) b ↔ isOw σ ρ b := by
  have hl : i < ρ.length := (List.getElem?_eq_some_iff.mp hi).1
  constructor
  · rintro ⟨j, fs, h1, h2⟩
    by_cases hj : i = j
    · subst hj
      exact ⟨i, ds, hi, h2⟩
    · rw [getSet_ne hj] at h1
      exact ⟨j, fs, h1, h2⟩
  · rintro ⟨j, fs, h1, h2⟩
    by_cases hj : i = j
    · subst hj
      exact ⟨i, es, List.getElem?_set_self hl, h2⟩
    · exact ⟨j, fs, by rw [getSet_ne hj]; exact h1, h2⟩
theorem SD.own_upd {K : PySem.W.Frag} {W : Wd} {σ : L2.St} {ρ : Ro} {H : Hp} {i : Nat} {a : Addr} {xs ys : List V} {ds es : List D} (s : SD K W σ ρ H) (hi : ρ[i]? = some (.ow ds)) (hs : σ[i]? = some (some (.ref a))) (ha : H a = some (.lst xs)) (hf : ¬ W.foot a)
    (dp : RpAll K (vw W σ ρ H) ys es) : SD K W σ (ρ.set i (.ow es)) (upd H a (.lst ys)) ∧ Same (vw W σ ρ H) (vw W σ (ρ.set i (.ow es)) (upd H a (.lst ys))) := by
  have hl : i < ρ.length := (List.getElem?_eq_some_iff.mp hi).1
  have oa : isOw σ ρ a := ⟨i, ds, hi, hs⟩
  have hv : Same (vw W σ ρ H) (vw W σ (ρ.set i (.ow es)) (upd H a (.lst ys))) := off_mono (fun b o _ z => z.elim .inl fun z => .inr ((isOw_upd hi).mp z)) fun b o n e => by
    rw [upd_ne (fun z => n (.inr (by rw [z]; exact oa)))]
    exact e
  refine ⟨⟨W.stable H _ s.j (fun b zs fx e => ?_) (fun b o hb e => ?_), fun j d e => ?_, fun j fs e => ?_, fun j l fs gs b h1 h2 h3 h4 => ?_, fun j u e => ?_, fun j e => ?_, by simp [s.len]⟩, hv⟩
  · rw [upd_ne (fun z => by subst z; rw [ha] at e; cases e; exact fx)]; exact e
  · rw [upd_ne (fun z => hf (by rw [← z]; exact hb))]; exact e
  · by_cases hj : i = j
    · subst hj
      rw [List.getElem?_set_self hl] at e
      cases Option.some.inj e
    · rw [getSet_ne hj] at e
      obtain ⟨u, h1, h2⟩ := s.sh j d e
      exact ⟨u, h1, h2.mono hv⟩
  · by_cases hj : i = j
    · subst hj
      rw [List.getElem?_set_self hl] at e
      cases Option.some.inj e
      exact ⟨a, ys, hs, upd_same, dp.mono hv, hf⟩
    · rw [getSet_ne hj] at e
      obtain ⟨b, zs, h1, h2, h3, h4⟩ := s.ow j fs e
      refine ⟨b, zs, h1, ?_, h3.mono hv, h4⟩
      rw [upd_ne fun z => hj ?_]
      · exact h2
      · subst z
        exact s.inj i j ds fs b hi e hs h1
  · have k : ∀ (m : Nat) (fs : List D), (ρ.set i (.ow es))[m]? = some (.ow fs) → ∃ gs, ρ[m]? = some (.ow gs) := fun m fs h => by
      by_cases hj : i = m
      · subst hj; exact ⟨ds, hi⟩
      · rw [getSet_ne hj] at h; exact ⟨fs, h⟩
    obtain ⟨_, k1⟩ := k j fs h1
    obtain ⟨_, k2⟩ := k l gs h2
    exact s.inj j l _ _ b k1 k2 h3 h4
  · by_cases hj : i = j
    · subst hj
      rw [List.getElem?_set_self hl] at e
      cases Option.some.inj e
    · rw [getSet_ne hj] at e
      exact s.op j u e
  · by_cases hj : i = j
    · subst hj
      rw [List.getElem?_set_self hl] at e
      cases Option.some.inj e
    · rw [getSet_ne hj] at e
      exact s.exn j e
end DL
namespace L2
open PySem PySem.Spec PyProof.Rows
theorem list_extend_tupleX (l : Addr) (items : Array Value) (n : Nat) (b : Addr) (items2 : Array Value) (n2 : Nat) (od : Option Addr) (sl : Array (Option Value)) (hs0 : ¬(!items.isEmpty && Builtin.List.listTooLong (items.size + items2.size)) = true) (hs1 : items.size ≤ sizeLine) (hs2 : items.size + items2.size ≤ sizeLine + 1) :
    Meets (Builtin.«list.extend» ⟨[.ref l, .ref b], []⟩) (fun _ R s => s.heap.get? l = some { cls := .type "list", dict := none, data := .seq items n, slots := #[] } ∧ s.heap.get? b = some { cls := .type "tuple", dict := od, data := .seq items2 n2, slots := sl } ∧ R (.ok (.ret Value.none)) { s with heap := s.heap.update l (Obj.mapSeq fun x => x ++ items2), toks := s.toks }) :=
  .of_wp fun prog w A R s h => by
    obtain ⟨hp, g, d, tk, os⟩ := s; obtain ⟨hl, hb, h⟩ := h; have f1 := AutoSeq1.idx_int; have f2 := AutoSeq1.sub_tuple_tuple; have f3 := AutoSeq1.sub_list_list; have f4 := AutoSeq1.sub_tuple_list; have f5 := AutoSeq1.sub_list_tuple;
    have hz' : (items ++ items2).size ≤ sizeLine + 1 := by rw [Array.size_append]; exact hs2
    wp_walk using (wpAny_updateSeq hl rfl (hz := hs1) (_hz' := hz')), wpAny_loadPart' hl, wpAny_loadPart' hb; exact ⟨_, rfl, h⟩
section
variable {X : Cx}
def rExtK (K : PySem.W.Frag) : V → List V → Hp → VK → Prop := fun x vs H Q => ∃ l b xs zs, x = .ref l ∧ vs = [.ref b] ∧ H l = some (.lst xs) ∧ (Rd H b (.lst zs) ∨ SqT K H b zs) ∧ xs.length + zs.length ≤ sizeLine ∧ Q .non (upd H l (.lst (xs ++ zs)))
theorem mt_extK : MtM X "list.extend" (rExtK X.K) := by
  intro pins s σ H x vs v us Q I rx rv h
  obtain ⟨l, b, xs, zs, rfl, rfl, hH, hB, hz, q⟩ := h
  cases rx
  obtain ⟨u, rfl, ru⟩ := rv.one
  cases ru
  obtain ⟨z, its, n, r, hl, e⟩ := I.lstM hH
  rcases hB with hB | hB
  · obtain ⟨z2, its2, n2, r2, hl2, e2⟩ := I.lstR hB
    have hsz : its.toArray.size + its2.toArray.size ≤ sizeLine := by rw [List.size_toArray, List.size_toArray]; omega
    have hlong : ¬ (!its.toArray.isEmpty && Builtin.List.listTooLong (its.toArray.size + its2.toArray.size)) = true := by
      rw [notLongL hsz, Bool.and_false]
      exact Bool.false_ne_true
    refine call_meets F.slot_list_extend ⟨_, e, rfl⟩ F.entry_list_extend (F.args_list_extend_2 _ _)
      (AutoSeq1.list_extend_list_list_0 l its.toArray n b its2.toArray n2 hlong (by rw [List.size_toArray]; omega) (by omega)) ⟨e, e2, ?_⟩
    refine ⟨.non, _, I.lset (its' := its ++ its2) hH e (by simp) (r.append r2) ?_, rfl, q⟩
    rw [List.length_append]
    omega
  · obtain ⟨its2, r2, ⟨o2, e2, hc2, n2, hd2⟩, hz2⟩ := I.tuple hB
    have hl2 := r2.length
    have hsz : its.toArray.size + its2.toArray.size ≤ sizeLine := by rw [List.size_toArray, List.size_toArray]; omega
    have hlong : ¬ (!its.toArray.isEmpty && Builtin.List.listTooLong (its.toArray.size + its2.toArray.size)) = true := by
      rw [notLongL hsz, Bool.and_false]
      exact Bool.false_ne_true
    obtain ⟨oc, od, dt, sl⟩ := o2
    simp only at hc2 hd2
    subst hc2 hd2
    refine call_meets F.slot_list_extend ⟨_, e, rfl⟩ F.entry_list_extend (F.args_list_extend_2 _ _)
      (list_extend_tupleX l its.toArray n b its2.toArray n2 od sl hlong (by rw [List.size_toArray]; omega) (by omega)) ⟨e, e2, ?_⟩
    refine ⟨.non, _, I.lset (its' := its ++ its2) hH e (by simp) (r.append r2) ?_, rfl, q⟩
    rw [List.length_append]
    omega
end
end L2
namespace DL
open PySem PySem.Spec L2
section
variable {X : Cx} {C : Wd → Prop} {Ew : WX} {e a b c : Expr} {f : Ro → Option D} {pos apos cpos p : Pos}
def appS (i : Nat) (f : Ro → Option D) : Ro → Option Out := fun ρ => match rdO i ρ, f ρ with
  | some ds, some d => if ds.length < sizeLine then some (.nx (ρ.set i (.ow (ds ++ [d])))) else none
  | _, _ => none
theorem ds_append (i : Nat) {x : Str} (he : DE X C e f) (hN : X.N[i]? = some x := by rfl) (hv : Vis X.env.scope x := by first | exact Or.inl rfl | exact Or.inr (Or.inl rfl) | exact Or.inr (Or.inr rfl)) (hd : (x == ("__debug__" : Str)) = false := by decide)
    (hcd : (x == ("__classdict__" : Str)) = false := by decide) (hbase : attributeBase (.Name x p) "append" X.env (eval (.Name x p) X.env) = eval (.Name x p) X.env := by rfl)
    (hfew : ((backTo cpos (starEach [e] X.env)).all (fun x => !x.1) && (backToKw cpos (keywordEach [] X.env)).all (fun x => x.1.isSome)
      && decide ([e].length + ([] : List Keyword).length + (if ([] : List Keyword).isEmpty then 0 else 1) < 30)) = true := by rfl)
    (hline : (apos.endLine == cpos.line) = true := by rfl) (hs : starEach [e] X.env = (false, eval e X.env) :: starEach [] X.env := by rfl) (hplain : (backTo cpos (starEach [] X.env)).any (·.1) = false := by rfl)
    (hsw : swapsWith (.Call (.Attribute (.Name x p) "append" apos) [e] [] cpos) none pos.line X.env = pure false := by rfl) :
    DS X C Ew (.Expr (.Call (.Attribute (.Name x p) "append" apos) [e] [] cpos) pos) (appS i f) :=
  ps_imp (ps_expr (pe_bm PySem.F.plainAttrs_list PySem.F.slot_list_append PySem.F.type_list_append mt_append (pe_var (i := i) hN hv hd hcd) (pa_cons he pa_nil hs) hbase hfew hline hs hplain) hsw) fun E σ H ⟨W, ρ, o, c, s, hg, q⟩ => by
    unfold appS at hg
    split at hg
    · rename_i ds d h1 h2
      split at hg
      · cases hg
        rename_i hz
        obtain ⟨l, xs, w1, w2, w3, w4⟩ := s.ow i ds (rdO_some h1)
        refine ⟨_, w1, .inl ⟨rfl, xs, SqL.of w2⟩, W, ρ, d, c, s, h2, fun v H' r j dp => ?_⟩
        have s1 := s.next r j
        have w2' := r l _ w4 w2
        refine ⟨l, xs, v, rfl, rfl, w2', by rw [w3.length]; exact hz, ?_⟩
        obtain ⟨s', vv⟩ := s1.own_upd (rdO_some h1) w1 w2' w4 (ys := xs ++ [v]) (es := ds ++ [d]) ((w3.mono (vw_mono r)).append (.cons dp .nil))
        exact q _ _ s' ((vw_mono r).trans vv)
      · cases hg
    · cases hg
def extS (i : Nat) (f : Ro → Option D) : Ro → Option Out := fun ρ => match rdO i ρ, f ρ with
  | some ds, some d => (match itemsOf d with
    | some es => if ds.length + es.length ≤ sizeLine then some (.nx (ρ.set i (.ow (ds ++ es)))) else none
    | none => none)
  | _, _ => none
theorem ds_extend (i : Nat) {x : Str} (he : DE X C e f) (hN : X.N[i]? = some x := by rfl) (hv : Vis X.env.scope x := by first | exact Or.inl rfl | exact Or.inr (Or.inl rfl) | exact Or.inr (Or.inr rfl)) (hd : (x == ("__debug__" : Str)) = false := by decide)
    (hcd : (x == ("__classdict__" : Str)) = false := by decide) (hbase : attributeBase (.Name x p) "extend" X.env (eval (.Name x p) X.env) = eval (.Name x p) X.env := by rfl)
    (hfew : ((backTo cpos (starEach [e] X.env)).all (fun x => !x.1) && (backToKw cpos (keywordEach [] X.env)).all (fun x => x.1.isSome)
      && decide ([e].length + ([] : List Keyword).length + (if ([] : List Keyword).isEmpty then 0 else 1) < 30)) = true := by rfl)
    (hline : (apos.endLine == cpos.line) = true := by rfl) (hs : starEach [e] X.env = (false, eval e X.env) :: starEach [] X.env := by rfl) (hplain : (backTo cpos (starEach [] X.env)).any (·.1) = false := by rfl)
    (hsw : swapsWith (.Call (.Attribute (.Name x p) "extend" apos) [e] [] cpos) none pos.line X.env = pure false := by rfl) :
    DS X C Ew (.Expr (.Call (.Attribute (.Name x p) "extend" apos) [e] [] cpos) pos) (extS i f) :=
  ps_imp (ps_expr (pe_bm PySem.F.plainAttrs_list PySem.F.slot_list_extend PySem.F.type_list_extend mt_extK (pe_var (i := i) hN hv hd hcd) (pa_cons he pa_nil hs) hbase hfew hline hs hplain) hsw) fun E σ H ⟨W, ρ, o, c, s, hg, q⟩ => by
    unfold extS at hg
    split at hg
    · rename_i ds d h1 h2
      split at hg
      · rename_i es h3
        split at hg
        · cases hg
          rename_i hz
          obtain ⟨l, xs, w1, w2, w3, w4⟩ := s.ow i ds (rdO_some h1)
          refine ⟨_, w1, .inl ⟨rfl, xs, SqL.of w2⟩, W, ρ, d, c, s, h2, fun v H' r j dp => ?_⟩
          have s1 := s.next r j
          have w2' := r l _ w4 w2
          have fin : ∀ b zs, v = .ref b → (Rd H' b (.lst zs) ∨ SqT X.K H' b zs) → RpAll X.K (vw W σ ρ H') zs es → (fun xs_1 H2 => rExtK X.K (V.ref l) xs_1 H2 fun x H1 => E.nx σ H1) [v] H' := fun b zs ev hb hzs => by
            subst ev
            refine ⟨l, b, xs, zs, rfl, rfl, w2', hb, by rw [w3.length, hzs.length]; exact hz, ?_⟩
            obtain ⟨s', vv⟩ := s1.own_upd (rdO_some h1) w1 w2' w4 (ys := xs ++ zs) (es := ds ++ es) ((w3.mono (vw_mono r)).append hzs)
            exact q _ _ s' ((vw_mono r).trans vv)
          unfold itemsOf at h3
          split at h3
          · cases h3
            obtain ⟨b, zs, rfl, hb, hzs⟩ := dp.lst_inv
            exact fin b zs rfl (.inl (hb.mono off_sub)) hzs
          · cases h3
            obtain ⟨b, zs, rfl, hb, hzs⟩ := dp.tup_inv
            exact fin b zs rfl (.inr (hb.mono off_sub)) hzs
          · cases h3
        · cases hg
      · cases hg
    · cases hg
structure ItOk (K : PySem.W.Frag) (J : It) (ds : List D) (V1 : Hp) : Prop where
  go : ∀ i H', i < ds.length → Same V1 H' → J.go i H'
  stop : ∀ H', Same V1 H' → J.stop ds.length H'
  yld : ∀ i H' x H'', i < ds.length → Same V1 H' → J.yld i H' x H'' → Same H' H'' ∧ ∃ d, ds[i]? = some d ∧ ∀ q : Addr → Prop, (∀ b, q b → H' b ≠ none) → Same V1 (off q H') → Rp K (off q H'') x d
def tI (K : PySem.W.Frag) (C : Wd → Prop) (f : Ro → Option (List D)) : TI := fun σ H R => ∃ W ρ ds, C W ∧ SD K W σ ρ H ∧ f ρ = some ds ∧ ∀ J H1, Rw W H H1 → W.J H1 → ItOk K J ds (vw W σ ρ H1) → ds.length ≤ sizeLine → R J H1
abbrev DI (X : Cx) (C : Wd → Prop) (tg e : Expr) (f : Ro → Option (List D)) : Prop := PI X tg e (tI X.K C f)
theorem pi_imp {tg e : Expr} {t t' : TI} (h : PI X tg e t) (hi : ∀ σ H Q, t' σ H Q → t σ H Q) : PI X tg e t' := ⟨fun pins s σ H R I q => h.run pins s σ H R I (hi σ H R q)⟩
def itm : D → Option (List D)
  | .list ds => some ds
  | .tuple ds => some ds
  | .str z => if z.length ≤ sizeLine then some (z.cps.toList.map fun c => .str ⟨#[c]⟩) else none
  | _ => none
def asItm (f : Ro → Option D) : Ro → Option (List D) := fun ρ => (f ρ).bind itm
theorem asItm_some {f : Ro → Option D} {ρ : Ro} {z : List D} (h : asItm f ρ = some z) : ∃ d, f ρ = some d ∧ itm d = some z := by
  unfold asItm at h
  cases hf : f ρ with
  | none => rw [hf] at h; cases h
  | some d => rw [hf] at h; exact ⟨d, rfl, h⟩
theorem get_of_lt {α : Type} {l : List α} {i : Nat} (h : i < l.length) : ∃ x, l[i]? = some x := ⟨l[i], by simp [h]⟩
theorem di_any {tg : Expr} (he : DE X C e f) : DI X C tg e (asItm f) :=
  pi_imp (pi_bd (pi_any he)) fun σ H R ⟨W, ρ, ds, c, s, hf, q⟩ => by
    obtain ⟨d, h1, h2⟩ := asItm_some hf
    refine ⟨W, ρ, d, c, s, h1, fun v H1 r j dp => ?_⟩
    unfold itm at h2
    split at h2
    · cases h2
      obtain ⟨a, xs, rfl, ha, hx⟩ := dp.lst_inv
      refine .inl ⟨a, xs, rfl, .inl (ha.mono off_sub), fun bd => q _ _ r j ⟨fun i H' hi sm => ?_, fun H' sm => ⟨xs, .inl (ha.mono sm), by rw [hx.length]; exact Nat.le_refl _⟩, fun i H' x H'' hi sm y => ?_⟩ (by rw [← hx.length]; exact bd a xs (.inl (ha.mono off_sub)))⟩
      · obtain ⟨x, e⟩ := get_of_lt (l := xs) (i := i) (by rw [hx.length]; exact hi)
        exact ⟨xs, x, .inl (ha.mono sm), e⟩
      · obtain ⟨e, y⟩ := y
        subst e
        obtain ⟨d', h3, h4⟩ := hx.get (y xs (.inl (ha.mono sm)))
        exact ⟨Same.refl _, d', h3, fun qq hq sv => h4.mono sv⟩
    · cases h2
      obtain ⟨a, xs, rfl, ha, hx⟩ := dp.tup_inv
      refine .inr (.inl ⟨a, xs, rfl, ha.mono off_sub, fun bd => q _ _ r j ⟨fun i H' hi sm => ?_, fun H' sm => ⟨xs, ha.mono sm, by rw [hx.length]; exact Nat.le_refl _⟩, fun i H' x H'' hi sm y => ?_⟩ (by rw [← hx.length]; exact bd a xs (.inr (ha.mono off_sub)))⟩)
      · obtain ⟨x, e⟩ := get_of_lt (l := xs) (i := i) (by rw [hx.length]; exact hi)
        exact ⟨xs, x, ha.mono sm, e⟩
      · obtain ⟨e, y⟩ := y
        subst e
        obtain ⟨d', h3, h4⟩ := hx.get (y xs (ha.mono sm))
        exact ⟨Same.refl _, d', h3, fun qq hq sv => h4.mono sv⟩
    · rename_i z
      split at h2
      · cases h2
        rename_i hz
        have ev := dp.str_inv
        subst ev
        refine .inr (.inr ⟨z, rfl, fun bd => q _ _ r j ⟨fun i H' hi sm => ?_, fun H' sm => ?_, fun i H' x H'' hi sm y => ?_⟩ ?_⟩)
        · show i < z.cps.size
          simpa using hi
        · show z.cps.size ≤ _
          simp
        · obtain ⟨e, cc, h3, rfl⟩ := y
          subst e
          refine ⟨Same.refl _, .str ⟨#[cc]⟩, ?_, fun qq hq sv => .str _⟩
          rw [List.getElem?_map, Array.getElem?_toList, h3]
          rfl
        · rw [List.length_map, Array.length_toList]
          exact hz
      · cases h2
    · cases h2
def rgD (lo : Int) (n : Nat) : List D := (List.range n).map fun i => .int (lo + (i : Nat))
theorem rgD_length (lo : Int) (n : Nat) : (rgD lo n).length = n := by unfold rgD; rw [List.length_map, List.length_range]
theorem rgD_get {lo : Int} {n i : Nat} (h : i < n) : (rgD lo n)[i]? = some (.int (lo + (i : Nat))) := by
  unfold rgD
  rw [List.getElem?_map, List.getElem?_range h]
  rfl
def rng1 (f : Ro → Option D) : Ro → Option (List D) := fun ρ => match f ρ with
  | some (.int j) => if -(2 ^ 62) ≤ j ∧ j ≤ 16777216 then some (rgD 0 j.toNat) else none
  | _ => none
def rng2 (f g : Ro → Option D) : Ro → Option (List D) := fun ρ => match f ρ, g ρ with
  | some (.int i), some (.int j) => if (-(2 ^ 62) ≤ i ∧ i < 2 ^ 62 ∧ -(2 ^ 62) ≤ j ∧ j < 2 ^ 62) ∧ (j - i).toNat ≤ 16777216 then some (rgD i (j - i).toNat) else none
  | _, _ => none
theorem itok_range {K : PySem.W.Frag} {lo : Int} {n : Nat} {V1 : Hp} : ItOk K (Itr lo n) (rgD lo n) V1 := ⟨fun i H' hi _ => by rw [rgD_length] at hi; exact hi, fun H' _ => by rw [rgD_length]; exact Nat.le_refl _, fun i H' x H'' hi sm y => by
  rw [rgD_length] at hi
  obtain ⟨e, rfl⟩ := y
  subst e
  exact ⟨Same.refl _, _, rgD_get hi, fun _ _ _ => .int _⟩⟩
theorem di_range1 {tg : Expr} {p : Pos} (hg : Gl X "range") (hm : X.mg "range" = none) (ha : DE X C a f) (hs : starEach [a] X.env = [(false, eval a X.env)] := by rfl) : DI X C tg (.Call (.Name "range" p) [a] [] pos) (rng1 f) :=
  pi_imp (pi_range1 hg hm (pa_cons ha pa_nil hs) hs) fun σ H R ⟨W, ρ, ds, c, s, hf, q⟩ => by
    unfold rng1 at hf
    split at hf
    · rename_i j hj
      split at hf
      · cases hf
        rename_i hb
        refine ⟨W, ρ, _, c, s, hj, fun v H1 r j' dp => ?_⟩
        cases dp
        exact ⟨j, rfl, hb.1, by omega, q _ _ r j' itok_range (by rw [rgD_length, sizeLine_eq]; omega)⟩
      · cases hf
    · cases hf
def enumFrom (i : Nat) : List D → List D
  | [] => []
  | d :: ds => .tuple [.int i, d] :: enumFrom (i + 1) ds
theorem enumFrom_length : ∀ (ds : List D) (i : Nat), (enumFrom i ds).length = ds.length
  | [], _ => rfl
  | _ :: ds, i => by simp [enumFrom, enumFrom_length ds]
theorem enumFrom_get : ∀ (ds : List D) (k i : Nat) (d : D), ds[i]? = some d → (enumFrom k ds)[i]? = some (.tuple [.int ((k + i : Nat) : Int), d])
  | d :: ds, k, 0, d', h => by simp at h; subst h; rfl
  | d :: ds, k, i + 1, d', h => by
    have := enumFrom_get ds (k + 1) i d' (by simpa using h)
    rw [show k + (i + 1) = k + 1 + i by omega]
    simpa [enumFrom] using this
def enu (f : Ro → Option D) : Ro → Option (List D) := fun ρ => (f ρ).bind fun d => (itemsOf d).map (enumFrom 0)
theorem new_pair {K : PySem.W.Frag} {H' : Hp} {V1 : Hp} {T : Addr} {x y : V} {d e : D} (hT : H' T = none) (hx : Rp K V1 x d) (hy : Rp K V1 y e) (q : Addr → Prop) (hq : ∀ b, q b → H' b ≠ none) (sv : Same V1 (off q H')) : Rp K (off q (upd H' T (.tup [x, y]))) (.ref T) (.tuple [d, e]) :=
  .tup (SqT.of (off_new hq hT)) (.cons (hx.mono (sv.trans (off_upd hq hT))) (.cons (hy.mono (sv.trans (off_upd hq hT))) .nil))
theorem sk_of {K : PySem.W.Frag} {H : Hp} {v : V} {d : D} {ds : List D} (h : Rp K H v d) (hi : itemsOf d = some ds) : ∃ (k : SkW) (a : Addr) (xs : List V), v = .ref a ∧ RpAll K H xs ds ∧ (∀ H', Same H H' → k.at K H' a xs) ∧ (∀ H', Same H H' → Rd H' a (.lst xs) ∨ SqT K H' a xs) := by
  unfold itemsOf at hi
  split at hi
  · cases hi
    obtain ⟨a, xs, rfl, ha, hx⟩ := h.lst_inv
    exact ⟨.lst, a, xs, rfl, hx, fun H' sm => .inl (ha.mono sm), fun H' sm => .inl (ha.mono sm)⟩
  · cases hi
    obtain ⟨a, xs, rfl, ha, hx⟩ := h.tup_inv
    exact ⟨.tup, a, xs, rfl, hx, fun H' sm => ha.mono sm, fun H' sm => .inr (ha.mono sm)⟩
  · cases hi
theorem di_enum {p tpos : Pos} {elts : List Expr} {kk : Nat} (hg : Gl X "enumerate") (hm : X.mg "enumerate" = none) (ha : DE X C e f) (hs : starEach [e] X.env = [(false, eval e X.env)] := by rfl) : DI X C (.Tuple elts kk tpos) (.Call (.Name "enumerate" p) [e] [] pos) (enu f) :=
  pi_imp (pi_bd (pi_enumK hg hm (pa_cons ha pa_nil hs) hs)) fun σ H R ⟨W, ρ, ds, c, s, hf, q⟩ => by
    unfold enu at hf
    cases hd : f ρ with
    | none => rw [hd] at hf; cases hf
    | some d =>
      rw [hd] at hf
      cases hi : itemsOf d with
      | none =>
        have z : (itemsOf d).map (enumFrom 0) = some ds := hf
        rw [hi] at z; cases z
      | some es =>
        have z : (itemsOf d).map (enumFrom 0) = some ds := hf
        rw [hi] at z
        cases z
        refine ⟨W, ρ, d, c, s, hd, fun v H1 r j dp => ?_⟩
        obtain ⟨k, l, xs, rfl, hx, hk, hb⟩ := sk_of dp hi
        refine ⟨k, l, xs, rfl, hk _ off_sub, fun bd => q _ _ r j ⟨fun i H' hi sm => ?_, fun H' sm => ⟨xs, hk _ sm, by rw [hx.length, enumFrom_length]⟩, fun i H' x H'' hi sm y => ?_⟩ (by rw [enumFrom_length, ← hx.length]; exact bd l xs (hb _ off_sub))⟩
        · rw [enumFrom_length] at hi
          obtain ⟨x, e⟩ := get_of_lt (l := xs) (i := i) (by rw [hx.length]; exact hi)
          exact ⟨xs, x, hk _ sm, e⟩
        · obtain ⟨T, x', rfl, hT, rfl, hx'⟩ := y
          obtain ⟨d', h3, h4⟩ := hx.get (hx' xs (hk _ sm))
          refine ⟨same_upd hT, _, enumFrom_get es 0 i d' h3, fun qq hq sv => ?_⟩
          rw [Nat.zero_add]
          exact new_pair hT (.int _) h4 qq hq sv
def zipD : List D → List D → List D
  | d :: ds, e :: es => .tuple [d, e] :: zipD ds es
  | _, _ => []
theorem zipD_length : ∀ (ds es : List D), (zipD ds es).length = min ds.length es.length
  | [], _ => by simp [zipD]
  | _ :: _, [] => by simp [zipD]
  | d :: ds, e :: es => by simp only [zipD, List.length_cons, zipD_length ds es]; omega
theorem zipD_get : ∀ (ds es : List D) (i : Nat) (d e : D), ds[i]? = some d → es[i]? = some e → (zipD ds es)[i]? = some (.tuple [d, e])
  | d :: ds, e :: es, 0, d', e', h1, h2 => by simp at h1 h2; subst h1; subst h2; rfl
  | d :: ds, e :: es, i + 1, d', e', h1, h2 => by simpa [zipD] using zipD_get ds es i d' e' (by simpa using h1) (by simpa using h2)
  | [], _, i, d', e', h1, h2 => by simp at h1
  | _ :: _, [], i, d', e', h1, h2 => by simp at h2
def zp (f g : Ro → Option D) : Ro → Option (List D) := fun ρ => match f ρ, g ρ with
  | some x, some y => (match itemsOf x, itemsOf y with
    | some ds, some es => some (zipD ds es)
    | _, _ => none)
  | _, _ => none
theorem di_zip {p tpos : Pos} {elts : List Expr} {kk : Nat} {g : Ro → Option D} (hg : Gl X "zip") (hm : X.mg "zip" = none) (ha : DE X C a f) (hb : DE X C b g) (hs : starEach [a, b] X.env = (false, eval a X.env) :: starEach [b] X.env := by rfl)
    (hs2 : starEach [b] X.env = (false, eval b X.env) :: starEach [] X.env := by rfl) (hpl : (backTo pos (starEach [b] X.env)).any (·.1) = false := by rfl) : DI X C (.Tuple elts kk tpos) (.Call (.Name "zip" p) [a, b] [] pos) (zp f g) :=
  pi_imp (pi_bd (pi_zipK hg hm (pa_cons ha (pa_cons hb pa_nil hs2) hs) hs hpl)) fun σ H R ⟨W, ρ, ds, c, s, hf, q⟩ => by
    unfold zp at hf
    split at hf
    · rename_i x y hx hy
      split at hf
      · rename_i ds1 ds2 h1 h2
        cases hf
        refine ⟨W, ρ, x, c, s, hx, fun v H1 r1 j1 d1 => ⟨W, ρ, y, c, s.next r1 j1, hy, fun u H2 r2 j2 d2 => ?_⟩⟩
        obtain ⟨k, l, xs, rfl, hxs, hk, hb1⟩ := sk_of (d1.mono (vw_mono r2)) h1
        obtain ⟨k', l', ys, rfl, hys, hk', hb2⟩ := sk_of d2 h2
        refine ⟨k, k', l, l', xs, ys, rfl, hk _ off_sub, hk' _ off_sub, fun bd => q _ _ (r1.trans r2) j2 ⟨fun i H' hi sm => ?_, fun H' sm => ⟨xs, ys, hk _ sm, hk' _ sm, by rw [zipD_length, hxs.length, hys.length]⟩, fun i H' x H'' hi sm y => ?_⟩ ?_⟩
        · rw [zipD_length] at hi
          obtain ⟨x', e⟩ := get_of_lt (l := xs) (i := i) (by rw [hxs.length]; omega)
          obtain ⟨y', e'⟩ := get_of_lt (l := ys) (i := i) (by rw [hys.length]; omega)
          exact ⟨xs, ys, x', y', hk _ sm, hk' _ sm, e, e'⟩
        · obtain ⟨T, x', y', rfl, hT, rfl, hx', hy'⟩ := y
          obtain ⟨d', h3, h4⟩ := hxs.get (hx' xs (hk _ sm))
          obtain ⟨e', h5, h6⟩ := hys.get (hy' ys (hk' _ sm))
          exact ⟨same_upd hT, _, zipD_get _ _ i d' e' h3 h5, fun qq hq sv => new_pair hT h4 h6 qq hq sv⟩
        · have z := bd l xs (hb1 _ off_sub)
          rw [zipD_length]
          rw [hxs.length] at z
          omega
      · cases hf
    · cases hf
def forL (b : D → Ro → Option Ro) (g : Ro → Option Out) : List D → Ro → Option Out
  | [], ρ => some (.nx ρ)
  | d :: ds, ρ => match b d ρ with
    | none => none
    | some ρ1 => match g ρ1 with
      | some (.nx ρ2) => forL b g ds ρ2
      | some (.ct ρ2) => forL b g ds ρ2
      | some (.bk ρ2) => some (.nx ρ2)
      | some (.rt d) => some (.rt d)
      | some (.ex x ρ2) => some (.ex x ρ2)
      | none => none
def forS (f : Ro → Option (List D)) (b : D → Ro → Option Ro) (g : Ro → Option Out) : Ro → Option Out := fun ρ => match f ρ with
  | some ds => forL b g ds ρ
  | none => none
theorem ds_for {tg iter : Expr} {body : List Stmt} {vs : List Nat} {F : Ro → Option (List D)} {B : D → Ro → Option Ro} {g : Ro → Option Out} (hp : PassesOwn (model X.prog X.w) X.A X.env X.xe) (hc : X.calm = true) (hi : DI X C tg iter F) (hg : DG X C tg vs B) (hb : DSs X C Ew body g)
    (hs : ∀ x, foldedSetIterable iter X.env x = pure x := by intro _; rfl) : DS X C Ew (.For tg iter body [] pos) (forS F B g) :=
  ps_imp (ps_for hp hc hi hg hb hs) fun E σ H ⟨W, ρ, o, c, s, hgo, q⟩ => by
    unfold forS at hgo
    split at hgo
    · rename_i ds hds
      refine ⟨W, ρ, ds, c, s, hds, fun J H1 r j ok hz => ?_⟩
      have q1 := q.on (vw_mono r)
      refine ⟨fun i m σ' H' => ∃ ρ', SD X.K W σ' ρ' H' ∧ Same (vw W σ ρ H1) (vw W σ' ρ' H') ∧ forL B g (ds.drop i) ρ' = some o ∧ m = ds.length - i ∧ i ≤ ds.length, ⟨ds.length, ρ, s.next r j, Same.refl _, by simpa using hgo, by simp, Nat.zero_le _⟩, ?_⟩
      rintro i m σ' H' ⟨ρ', s', vv, hf, rfl, hle⟩
      have sm : Same (vw W σ ρ H1) H' := vv.trans off_sub
      by_cases hlt : i < ds.length
      · right
        refine ⟨ok.go i H' hlt sm, fun σ2 H2 => ∃ ρ2, SD X.K W σ2 ρ2 H2 ∧ Same (vw W σ ρ H1) (vw W σ2 ρ2 H2) ∧ forL B g (ds.drop (i + 1)) ρ2 = some o, fun σ2 H2 ⟨ρ2, a1, a2, a3⟩ => ⟨ds.length - (i + 1), by omega, ρ2, a1, a2, a3, rfl, hlt⟩, fun x H'' y => ?_⟩
        obtain ⟨sy, d, hd, hrp⟩ := ok.yld i H' x H'' hlt sm y
        have hdrop : ds.drop i = d :: ds.drop (i + 1) := by
          obtain ⟨h1, h2⟩ := List.getElem?_eq_some_iff.mp hd
          rw [List.drop_eq_getElem_cons h1, h2]
        rw [hdrop] at hf
        unfold forL at hf
        split at hf
        · cases hf
        · rename_i ρ1 hb1
          have s2 := s'.next (Rw.of sy) (W.same s'.j sy)
          have rp : Rp X.K (vw W σ' ρ' H'') x d := hrp _ (fun a h => s'.excl h) vv
          refine ⟨W, ρ', d, ρ1, c, s2, rp, hb1, fun σ2 H2 t => ?_⟩
          have v2 : Same (vw W σ ρ H1) (vw W σ2 ρ1 H2) := (vv.trans (vw_mono (Rw.of sy))).trans t.vw
          split at hf
          · rename_i ρ2 hg1
            exact ⟨W, ρ1, _, c, t.sd, hg1, fun σ3 H3 s3 v3 => ⟨ρ2, s3, v2.trans v3, hf⟩⟩
          · rename_i ρ2 hg1
            exact ⟨W, ρ1, _, c, t.sd, hg1, fun σ3 H3 s3 v3 => ⟨ρ2, s3, v2.trans v3, hf⟩⟩
          · rename_i ρ2 hg1
            cases hf
            exact ⟨W, ρ1, _, c, t.sd, hg1, fun σ3 H3 s3 v3 => q1 _ _ s3 (v2.trans v3)⟩
          · rename_i d2 hg1
            cases hf
            exact ⟨W, ρ1, _, c, t.sd, hg1, fun v H3 j3 v3 rp => q1 v H3 j3 (v2.trans v3) rp⟩
          · rename_i x2 ρ2 hg1
            cases hf
            exact ⟨W, ρ1, _, c, t.sd, hg1, fun σ3 H3 s3 v3 => q1 _ _ s3 (v2.trans v3)⟩
          · cases hf
      · left
        have e : i = ds.length := by omega
        subst e
        rw [List.drop_length] at hf
        cases hf
        exact ⟨ok.stop H' sm, q1 _ _ s' vv⟩
    · cases hgo
def whL (t : Ro → Option Bool) (g : Ro → Option Out) : Nat → Ro → Option Out
  | 0, _ => none
  | n + 1, ρ => match t ρ with
    | some false => some (.nx ρ)
    | some true => (match g ρ with
      | some (.nx ρ2) => whL t g n ρ2
      | some (.ct ρ2) => whL t g n ρ2
      | some (.bk ρ2) => some (.nx ρ2)
      | some (.rt d) => some (.rt d)
      | some (.ex x ρ2) => some (.ex x ρ2)
      | none => none)
    | none => none
theorem ds_while (n : Nat) {body : List Stmt} {t : Ro → Option Bool} {g : Ro → Option Out} (hp : PassesOwn (model X.prog X.w) X.A X.env X.xe) (hc : DT X C c t) (hb : DSs X C Ew body g) : DS X C Ew (.While c body [] pos) (whL t g n) :=
  ps_imp (ps_while hp hc hb) fun E σ H ⟨W, ρ, o, c, s, hgo, q⟩ => by
    refine ⟨fun m σ' H' => ∃ ρ', SD X.K W σ' ρ' H' ∧ Same (vw W σ ρ H) (vw W σ' ρ' H') ∧ whL t g m ρ' = some o, ⟨n, ρ, s, Same.refl _, hgo⟩, ?_⟩
    rintro m σ' H' ⟨ρ', s', vv, hf⟩
    cases m with
    | zero => cases hf
    | succ m =>
      unfold whL at hf
      split at hf
      · rename_i ht
        cases hf
        exact ⟨W, ρ', false, c, s', ht, fun H2 r j => iteF (q _ _ (s'.next r j) (vv.trans (vw_mono r)))⟩
      · rename_i ht
        refine ⟨W, ρ', true, c, s', ht, fun H2 r j => iteT ?_⟩
        have v2 := vv.trans (vw_mono r)
        refine ⟨fun σ2 H2 => ∃ ρ2, SD X.K W σ2 ρ2 H2 ∧ Same (vw W σ ρ H) (vw W σ2 ρ2 H2) ∧ whL t g m ρ2 = some o, fun σ2 H2 ⟨ρ2, a1, a2, a3⟩ => ⟨m, Nat.lt_succ_self _, ρ2, a1, a2, a3⟩, ?_⟩
        split at hf
        · rename_i ρ2 hg1
          exact ⟨W, ρ', _, c, s'.next r j, hg1, fun σ3 H3 s3 v3 => ⟨ρ2, s3, v2.trans v3, hf⟩⟩
        · rename_i ρ2 hg1
          exact ⟨W, ρ', _, c, s'.next r j, hg1, fun σ3 H3 s3 v3 => ⟨ρ2, s3, v2.trans v3, hf⟩⟩
        · rename_i ρ2 hg1
          cases hf
          exact ⟨W, ρ', _, c, s'.next r j, hg1, fun σ3 H3 s3 v3 => q _ _ s3 (v2.trans v3)⟩
        · rename_i d2 hg1
          cases hf
          exact ⟨W, ρ', _, c, s'.next r j, hg1, fun v H3 j3 v3 rp => q v H3 j3 (v2.trans v3) rp⟩
        · rename_i x2 ρ2 hg1
          cases hf
          exact ⟨W, ρ', _, c, s'.next r j, hg1, fun σ3 H3 s3 v3 => q _ _ s3 (v2.trans v3)⟩
        · cases hf
      · cases hf
end
end DL
namespace DL
open PySem PySem.Spec L2
def wipeR (ρ : Ro) : List Nat → Ro
  | [] => ρ
  | v :: vs => (wipeR ρ vs).set v .un
theorem wipeR_length (ρ : Ro) : ∀ vs : List Nat, (wipeR ρ vs).length = ρ.length
  | [] => rfl
  | v :: vs => by unfold wipeR; rw [List.length_set, wipeR_length ρ vs]
theorem wipeR_some {ρ : Ro} {i : Nat} {c : Cel} (hc : c ≠ .un) : ∀ {vs : List Nat}, (wipeR ρ vs)[i]? = some c → ρ[i]? = some c ∧ i ∉ vs
  | [], h => ⟨h, by simp⟩
  | v :: vs, h => by
    unfold wipeR at h
    by_cases hi : v = i
    · subst hi
      by_cases hv : v < (wipeR ρ vs).length
      · rw [List.getElem?_set_self hv] at h; exact absurd (Option.some.inj h).symm hc
      · rw [List.getElem?_eq_none (by simpa using hv)] at h; cases h
    · rw [List.getElem?_set_ne hi] at h
      obtain ⟨h1, h2⟩ := wipeR_some hc h
      exact ⟨h1, by simp only [List.mem_cons, not_or]; exact ⟨fun e => hi e.symm, h2⟩⟩
theorem wipe_wipe {σ : L2.St} : ∀ vs : List Nat, wipe (wipe σ vs) vs = wipe σ vs := fun vs => by
  have key : ∀ ws : List Nat, (∀ i ∈ ws, i ∈ vs) → wipe (wipe σ vs) ws = wipe σ vs := by
    intro ws
    induction ws with
    | nil => intro _; rfl
    | cons w ws ih =>
      intro h
      show (wipe (wipe σ vs) ws).set w none = wipe σ vs
      rw [ih fun i hi => h i (List.mem_cons_of_mem _ hi)]
      have hw := h w List.mem_cons_self
      have e : ∀ us : List Nat, w ∈ us → (wipe σ us).set w none = wipe σ us := by
        intro us
        induction us with
        | nil => intro z; cases z
        | cons u us ih2 =>
          intro z
          unfold wipe
          by_cases hu : w = u
          · subst hu; rw [List.set_set]
          · rw [List.set_comm _ _ (Ne.symm hu), ih2 ((List.mem_cons.mp z).resolve_left hu)]
      exact e vs hw
  exact key vs fun _ h => h
theorem isOw_wipe {σ : L2.St} {ρ : Ro} {vs : List Nat} {a : Addr} (h : isOw (wipe σ vs) (wipeR ρ vs) a) : isOw σ ρ a := by
  obtain ⟨i, ds, h1, h2⟩ := h
  obtain ⟨h1, hi⟩ := wipeR_some (by intro z; cases z) h1
  exact ⟨i, ds, h1, (wipe_some h2).1⟩
def lcL (b : D → Ro → Option Ro) (t : Ro → Option Bool) (e : Ro → Option D) : List D → Ro → Option (List D)
  | [], _ => some []
  | d :: ds, ρ => match b d ρ with
    | none => none
    | some ρ1 => match t ρ1 with
      | some true => (match e ρ1, lcL b t e ds ρ with
        | some y, some ys => some (y :: ys)
        | _, _ => none)
      | some false => lcL b t e ds ρ
      | none => none
def lc (vs : List Nat) (f : Ro → Option (List D)) (b : D → Ro → Option Ro) (t : Ro → Option Bool) (e : Ro → Option D) : Ro → Option (List D) := fun ρ => match f ρ with
  | some ds => lcL b t e ds (wipeR ρ vs)
  | none => none
abbrev DTs (X : Cx) (C : Wd → Prop) (ifs : List Expr) (t : Ro → Option Bool) : Prop := PTs X ifs (tT X.K C t)
def yes : Ro → Option Bool := fun _ => some true
theorem pts_imp {X : Cx} {ifs : List Expr} {t t' : TT} (h : PTs X ifs t) (hi : ∀ σ H Q, t' σ H Q → t σ H Q) : PTs X ifs t' := ⟨fun pins s σ H Q I q => h.run pins s σ H Q I (hi σ H Q q)⟩
theorem dts_nil {X : Cx} {C : Wd → Prop} : DTs X C [] yes := pts_imp pts_nil fun σ H Q ⟨W, ρ, b, c, s, hf, q⟩ => by
  cases hf
  exact q H (Rw.refl _ _) s.j
theorem dts_one {X : Cx} {C : Wd → Prop} {e : Expr} {t : Ro → Option Bool} (h : DT X C e t) : DTs X C [e] t := pts_one h
def lcQ (σ : L2.St) (ρ : Ro) (vs : List Nat) (D0 : Addr) (a : Addr) : Prop := a = D0 ∨ (isOw σ ρ a ∧ ¬ isOw (wipe σ vs) (wipeR ρ vs) a)
theorem SD.inner {K : PySem.W.Frag} {W : Wd} {σ : L2.St} {ρ : Ro} {H1 H2 : Hp} {vs : List Nat} {D0 : Addr} (s : SD K W σ ρ H1) (r : Rw W H1 H2) (j : W.J H2) (hD : H1 D0 = none) (hq : ∀ a, lcQ σ ρ vs D0 a → H2 a ≠ none) :
    SD K (W.add (lcQ σ ρ vs D0) H2 hq) (wipe σ vs) (wipeR ρ vs) H2 ∧ Same (vw W σ ρ H1) (vw (W.add (lcQ σ ρ vs D0) H2 hq) (wipe σ vs) (wipeR ρ vs) H2) := by
  have hv : Same (vw W σ ρ H1) (vw (W.add (lcQ σ ρ vs D0) H2 hq) (wipe σ vs) (wipeR ρ vs) H2) := off_mono (fun a o e z => by
    rcases z with (z | z | z) | z
    · exact .inl z
    · subst z; rw [hD] at e; cases e
    · exact .inr z.1
    · exact .inr (isOw_wipe z)) fun a o n e => r a o (fun z => n (.inl z)) e
  refine ⟨⟨⟨j, fun _ _ => rfl⟩, fun i d e => ?_, fun i ds e => ?_, fun i l ds es a h1 h2 h3 h4 => ?_, fun i v e => ?_, fun i e => ?_, by rw [wipeR_length, wipe_length]; exact s.len⟩, hv⟩
  · obtain ⟨e, hi⟩ := wipeR_some (by intro z; cases z) e
    obtain ⟨v, h1, h2⟩ := s.sh i d e
    exact ⟨v, by rw [wipe_out hi]; exact h1, h2.mono hv⟩
  · obtain ⟨e', hi⟩ := wipeR_some (by intro z; cases z) e
    obtain ⟨a, xs, h1, h2, h3, h4⟩ := s.ow i ds e'
    refine ⟨a, xs, by rw [wipe_out hi]; exact h1, r a _ h4 h2, h3.mono hv, ?_⟩
    rintro (z | z | z)
    · exact h4 z
    · subst z; rw [hD] at h2; cases h2
    · exact z.2 ⟨i, ds, e, by rw [wipe_out hi]; exact h1⟩
  · obtain ⟨h1, _⟩ := wipeR_some (by intro z; cases z) h1
    obtain ⟨h2, _⟩ := wipeR_some (by intro z; cases z) h2
    exact s.inj i l ds es a h1 h2 (wipe_some h3).1 (wipe_some h4).1
  · obtain ⟨e, hi⟩ := wipeR_some (by intro z; cases z) e
    rw [wipe_out hi]
    exact s.op i v e
  · obtain ⟨e, hi⟩ := wipeR_some (by intro z; cases z) e
    rw [wipe_out hi]
    exact s.exn i e
theorem free_back {W : Wd} {H H1 : Hp} {a : Addr} (r : Rw W H H1) (j : W.J H1) (h : H1 a = none) : H a = none := by
  cases hh : H a with
  | none => rfl
  | some o =>
    by_cases hf : W.foot a
    · exact absurd h (W.there H1 a j hf)
    · rw [r a o hf hh] at h; cases h
section
variable {X : Cx} {C : Wd → Prop} {Ew : WX} {pos : Pos}
theorem t_lc {K : PySem.W.Frag} {vs us : List Nat} {F : Ro → Option (List D)} {B : D → Ro → Option Ro} {T : Ro → Option Bool} {e : Ro → Option D} (hC : CtxOk C) (hsub : ∀ i ∈ us, i ∈ vs) : ∀ σ H Q, tF K C (lc vs F B T e) σ H Q → tLc (tI K C F) (tG K C us B) (tT K C T) (tD K C e) vs σ H Q := by
  rintro σ H Q ⟨W, ρ, total, c, s, hf, q⟩
  unfold lc at hf
  split at hf
  · rename_i ds hds
    refine ⟨W, ρ, ds, c, s, hds, fun J H1 r1 j1 ok hz D0 hD => ?_⟩
    have s1 := s.next r1 j1
    have hD0 : ¬ W.foot D0 := s1.newF hD
    refine ⟨fun i m H' => ∃ acc es rest, W.J H' ∧ Rw W H1 H' ∧ H' D0 = some (.lst acc) ∧ acc.length ≤ i ∧ RpAll K (off (fun b => (W.foot b ∨ isOw σ ρ b) ∨ b = D0) H') acc es ∧ lcL B T e (ds.drop i) (wipeR ρ vs) = some rest ∧ total = es ++ rest ∧ m = ds.length - i ∧ i ≤ ds.length,
      ⟨ds.length, [], [], total, W.same j1 (same_upd hD), Rw.of (same_upd hD), upd_same, Nat.le_refl _, .nil, by simpa using hf, rfl, by simp, Nat.zero_le _⟩, ?_⟩
    rintro i m H' ⟨acc, es, rest, j', r', hDl, hal, hacc, hrest, htot, rfl, hle⟩
    have v1 : Same (vw W σ ρ H1) H' := fun a o ea => by
      obtain ⟨n, e1⟩ := off_some ea
      exact r' a o (fun z => n (.inl z)) e1
    by_cases hlt : i < ds.length
    · right
      refine ⟨ok.go i H' hlt v1, fun H5 => ∃ acc es rest, W.J H5 ∧ Rw W H1 H5 ∧ H5 D0 = some (.lst acc) ∧ acc.length ≤ i + 1 ∧ RpAll K (off (fun b => (W.foot b ∨ isOw σ ρ b) ∨ b = D0) H5) acc es ∧ lcL B T e (ds.drop (i + 1)) (wipeR ρ vs) = some rest ∧ total = es ++ rest,
        fun H5 ⟨acc, es, rest, a1, a2, a3, a4, a5, a6, a7⟩ => ⟨ds.length - (i + 1), by omega, acc, es, rest, a1, a2, a3, a4, a5, a6, a7, rfl, hlt⟩, fun x H'' y => ?_⟩
      obtain ⟨sy, d, hd, hrp⟩ := ok.yld i H' x H'' hlt v1 y
      have hdrop : ds.drop i = d :: ds.drop (i + 1) := by
        obtain ⟨h1, h2⟩ := List.getElem?_eq_some_iff.mp hd
        rw [List.drop_eq_getElem_cons h1, h2]
      rw [hdrop] at hrest
      unfold lcL at hrest
      split at hrest
      · cases hrest
      · rename_i ρ1 hb1
        have r'' : Rw W H1 H'' := r'.trans (Rw.of sy)
        have j'' : W.J H'' := W.same j' sy
        have there' : ∀ a, lcQ σ ρ vs D0 a → H' a ≠ none := fun a z => by
          rcases z with z | z
          · rw [z, hDl]; exact fun w => by cases w
          · obtain ⟨l, fs, z1, z2⟩ := z.1
            obtain ⟨b, ys, w1, w2, _, w4⟩ := s1.ow l fs z1
            rw [z2] at w1
            have eab : a = b := by simpa using w1
            rw [eab, r' b _ w4 w2]
            exact fun w => by cases w
        have hq : ∀ a, lcQ σ ρ vs D0 a → H'' a ≠ none := fun a z => by
          cases hh : H' a with
          | none => exact absurd hh (there' a z)
          | some o => rw [sy a o hh]; exact fun w => by cases w
        obtain ⟨si, vi⟩ := s1.inner (vs := vs) r'' j'' hD hq
        generalize hW' : W.add (lcQ σ ρ vs D0) H'' hq = W' at si vi
        have foot' : ∀ a, W'.foot a ↔ (W.foot a ∨ lcQ σ ρ vs D0 a) := fun a => by rw [← hW']; exact Iff.rfl
        have J' : ∀ h, W'.J h ↔ (W.J h ∧ ∀ a, lcQ σ ρ vs D0 a → h a = H'' a) := fun h => by rw [← hW']; exact Iff.rfl
        have cW' : C W' := by
          rw [← hW']
          refine hC.add _ _ _ _ c (fun a z zf => ?_) fun a u z z3 fx => ?_
          rotate_left
          · rcases z with z | z
            · rw [z, sy _ _ hDl] at z3
              cases z3
              exact fx
            · obtain ⟨l, fs, z1, z2⟩ := z.1
              obtain ⟨b, ys, w1, w2, _, w4⟩ := s1.ow l fs z1
              rw [z2] at w1
              have eab : a = b := by simpa using w1
              rw [eab, r'' b _ w4 w2] at z3
              cases z3
              exact fx
          rcases z with z | z
          · exact hD0 (z ▸ zf)
          · obtain ⟨l, fs, z1, z2⟩ := z.1
            obtain ⟨b, ys, w1, _, _, w4⟩ := s1.ow l fs z1
            rw [z2] at w1
            have eab : a = b := by simpa using w1
            exact w4 (eab ▸ zf)
        have rp : Rp K (vw W' (wipe σ vs) (wipeR ρ vs) H'') x d := by
          refine hrp _ (fun a z => ?_) fun a o ea => ?_
          · rcases z with z | z
            · rcases (foot' a).mp z with z | z
              · exact W.there H' a j' z
              · exact there' a z
            · obtain ⟨l, fs, z1, z2⟩ := isOw_wipe z
              obtain ⟨b, ys, w1, w2, _, w4⟩ := s1.ow l fs z1
              rw [z2] at w1
              have eab : a = b := by simpa using w1
              rw [eab, r' b _ w4 w2]
              exact fun w => by cases w
          · obtain ⟨n1, _⟩ := off_some (vi a o ea)
            show off _ H' a = some o
            rw [off_neg n1]
            exact v1 a o ea
        refine ⟨W', wipeR ρ vs, d, ρ1, cW', si, rp, hb1, fun σ2 H2 t => ⟨by rw [t.wp vs hsub, wipe_wipe], ?_⟩⟩
        -- what stays from H'' on
        have q0 : ∀ a, lcQ σ ρ vs D0 a → ∀ h, W'.J h → h a = H'' a := fun a z h jh => ((J' h).mp jh).2 a z
        have keepV : ∀ H4, Rw W' H2 H4 → W'.J H4 → Rw W H1 H4 := fun H4 r4 j4 a o n e1 => by
          by_cases z : lcQ σ ρ vs D0 a
          · rw [q0 a z H4 j4]; exact r'' a o n e1
          · have n' : ¬ W'.foot a := fun w => ((foot' a).mp w).elim n z
            exact r4 a o n' (t.rw a o n' (r'' a o n e1))
        have keepA : ∀ H4, Rw W' H2 H4 → W'.J H4 → Same (off (fun b => (W.foot b ∨ isOw σ ρ b) ∨ b = D0) H') (off (fun b => (W.foot b ∨ isOw σ ρ b) ∨ b = D0) H4) := fun H4 r4 j4 => off_mono (fun _ _ _ h => h) fun a o n e1 => by
          have n' : ¬ W'.foot a := fun w => by
            rcases (foot' a).mp w with w | w
            · exact n (.inl (.inl w))
            · rcases w with w | w
              · exact n (.inr w)
              · exact n (.inl (.inr w.1))
          exact r4 a o n' (t.rw a o n' (sy a o e1))
        split at hrest
        · rename_i ht
          split at hrest
          · rename_i y' ys' he hr
            cases hrest
            refine ⟨W', ρ1, true, cW', t.sd, ht, fun H3 r3 j3 => iteT ?_⟩
            refine ⟨W', ρ1, y', cW', t.sd.next r3 j3, he, fun v H4 r4 j4 dp => ?_⟩
            have r24 := r3.trans r4
            have hD4 : H4 D0 = some (.lst acc) := by rw [q0 D0 (.inl rfl) H4 j4]; exact sy _ _ hDl
            refine ⟨acc, hD4, by omega, acc ++ [v], es ++ [y'], ys', ?_, ?_, upd_same, by simp; omega, ?_, hr, by rw [htot]; simp⟩
            · refine W.stable H4 _ ((J' H4).mp j4).1 (fun a zs fx e1 => ?_) fun a o hf e1 => ?_
              · rw [upd_ne (fun z => by subst z; rw [hD4] at e1; cases e1; exact fx)]; exact e1
              · rw [upd_ne (fun z => hD0 (by rw [← z]; exact hf))]; exact e1
            · intro a o n e1
              rw [upd_ne (ne_of_none e1 hD)]
              exact keepV H4 r24 j4 a o n e1
            · have u1 : Same (off (fun b => (W.foot b ∨ isOw σ ρ b) ∨ b = D0) H4) (off (fun b => (W.foot b ∨ isOw σ ρ b) ∨ b = D0) (upd H4 D0 (.lst (acc ++ [v])))) := off_mono (fun _ _ _ h => h) fun a o n e1 => by
                rw [upd_ne (fun z => n (.inr z))]; exact e1
              refine (hacc.mono ((keepA H4 r24 j4).trans u1)).append (.cons (dp.mono (Same.trans (off_mono (fun a o e1 z => ?_) fun a o n e1 => e1) u1)) .nil)
              rcases z with (z | z) | z
              · exact .inl ((foot' a).mpr (.inl z))
              · by_cases w : isOw (wipe σ vs) (wipeR ρ vs) a
                · exact .inr (t.ow a w)
                · exact .inl ((foot' a).mpr (.inr (.inr ⟨z, w⟩)))
              · exact .inl ((foot' a).mpr (.inr (.inl z)))
          · cases hrest
        · rename_i ht
          refine ⟨W', ρ1, false, cW', t.sd, ht, fun H3 r3 j3 => iteF ?_⟩
          exact ⟨acc, es, rest, ((J' H3).mp j3).1, keepV H3 r3 j3, by rw [q0 D0 (.inl rfl) H3 j3]; exact sy _ _ hDl, by omega, hacc.mono (keepA H3 r3 j3), hrest, htot⟩
        · cases hrest
    · left
      have ei : i = ds.length := by omega
      subst ei
      rw [List.drop_length] at hrest
      cases hrest
      rw [List.append_nil] at htot
      subst htot
      exact ⟨ok.stop H' v1, q D0 acc H' (r1.trans r') j' (free_back r1 j1 hD) hD0 hDl hacc⟩
  · cases hf
theorem df_lc {elt tg iter : Expr} {ifs : List Expr} {scope : Scope} {own : List (Str × Nat)} {us : List Nat} {F : Ro → Option (List D)} {B : D → Ro → Option Ro} {T : Ro → Option Bool} {e : Ro → Option D} (hC : CtxOk C) (hc : X.calm = true) (hN : X.N.Nodup) (hi : DI X C tg iter F)
    (ok : BlkOk X.N X.env.scope scope own) (hsub : ∀ i ∈ us, i ∈ own.map (·.2))
    (hg : ∀ (s : Shared) (H : Hp) (A : Addr) (cl : List (Str × Addr)) (fp : List Addr), DG (X.blk s H scope (compEnvC scope cl A X.env) fp) C tg us B)
    (ht : ∀ (s : Shared) (H : Hp) (A : Addr) (cl : List (Str × Addr)) (fp : List Addr), DTs (X.blk s H scope (compEnvC scope cl A X.env) fp) C ifs T)
    (he : ∀ (s : Shared) (H : Hp) (A : Addr) (cl : List (Str × Addr)) (fp : List Addr), DE (X.blk s H scope (compEnvC scope cl A X.env) fp) C elt e) (hs : ∀ x, foldedSetIterable iter X.env x = pure x := by intro _; rfl) :
    DF X C (.ListComp elt [⟨tg, iter, ifs, 0⟩] scope pos) (lc (own.map (·.2)) F B T e) :=
  pe_imp (pe_lc hc hN hi ok hg ht he hs) (t_lc hC hsub)
theorem ds_setLc {i : Nat} {y : Str} {py spos : Pos} {elt tg iter : Expr} {ifs : List Expr} {scope : Scope} {own : List (Str × Nat)} {us : List Nat} {F : Ro → Option (List D)} {B : D → Ro → Option Ro} {T : Ro → Option Bool} {e : Ro → Option D} (hC : CtxOk C) (hc : X.calm = true) (hN : X.N.Nodup) (hy : X.N[i]? = some y) (hyl : X.env.scope.names.lookup y = some .local)
    (hsw : swapsWith (.ListComp elt [⟨tg, iter, ifs, 0⟩] scope pos) (some (.Name y py)) spos.line X.env = pure true) (hi : DI X C tg iter F)
    (ok : BlkOk X.N X.env.scope scope own) (hsub : ∀ i ∈ us, i ∈ own.map (·.2))
    (hg : ∀ (s : Shared) (H : Hp) (A : Addr) (cl : List (Str × Addr)) (fp : List Addr), DG (X.blk s H scope (compEnvC scope cl A X.env) fp) C tg us B)
    (ht : ∀ (s : Shared) (H : Hp) (A : Addr) (cl : List (Str × Addr)) (fp : List Addr), DTs (X.blk s H scope (compEnvC scope cl A X.env) fp) C ifs T)
    (he : ∀ (s : Shared) (H : Hp) (A : Addr) (cl : List (Str × Addr)) (fp : List Addr), DE (X.blk s H scope (compEnvC scope cl A X.env) fp) C elt e) (hs : ∀ x, foldedSetIterable iter X.env x = pure x := by intro _; rfl) :
    DS X C Ew (.Assign [.Name y py] (.ListComp elt [⟨tg, iter, ifs, 0⟩] scope pos) spos) (setS i (asL (lc (own.map (·.2)) F B T e))) :=
  ps_imp (ps_setLc hc hN hy hyl hsw hi ok hg ht he hs) fun E σ H ⟨W, ρ, o, c, s, hg, q⟩ => by
    unfold setS asL at hg
    cases hf : lc (own.map (·.2)) F B T e ρ with
    | none => rw [hf] at hg; cases hg
    | some ds =>
      rw [hf] at hg
      cases hg
      refine t_lc hC hsub σ H _ ⟨W, ρ, ds, c, s, hf, fun a xs H' r j hn hnf ha dp => ?_⟩
      have rp : Rp X.K (vw W σ ρ H') (.ref a) (.list ds) := .lst (Rd.of (by rw [show vw W σ ρ H' a = H' a from off_neg (fun z => s.new hn z)]; exact ha)) (dp.mono (off_mono (fun _ _ _ h => .inl h) fun _ _ _ e => e))
      obtain ⟨s', vv⟩ := (s.next r j).set (i := i) (cl := .sh (.list ds)) (v := .ref a) (fun _ z => nomatch z) (fun d' z => by cases z; exact rp) (fun _ z => nomatch z)
      exact q _ _ s' ((vw_mono r).trans vv)
def ini (n : Nat) (ds : List D) : Ro := ds.map .sh ++ List.replicate (n - ds.length) .un
def fin : Option Out → Option Res
  | some (.nx _) => some (.ok .none)
  | some (.rt d) => some (.ok d)
  | some (.ex x _) => some (.exc x)
  | _ => none
def fnD (np n : Nat) (g : Ro → Option Out) : List D → Option Res := fun ds => if ds.length = np then fin (g (ini n ds)) else none
theorem sd_start {K : PySem.W.Frag} {W : Wd} {H : Hp} {N : List Str} {vs : List V} {ds : List D} (j : W.J H) (h : RpAll K (off W.foot H) vs ds) : SD K W (L2.start N vs) (ini N.length ds) H := by
  have noow : ∀ (i : Nat) es, (ini N.length ds)[i]? ≠ some (.ow es) := fun i es z => by
    unfold ini at z
    by_cases hi : i < ds.length
    · rw [List.getElem?_append_left (by simpa using hi), List.getElem?_map] at z
      cases e : ds[i]? with
      | none => rw [e] at z; cases z
      | some d => rw [e] at z; cases z
    · rw [List.getElem?_append_right (by simpa using hi), List.getElem?_replicate] at z
      split at z <;> cases z
  have hv : vw W (L2.start N vs) (ini N.length ds) H = off W.foot H := by
    funext a
    by_cases hf : W.foot a
    · rw [off_pos hf]; exact off_pos (.inl hf)
    · rw [off_neg hf]; exact off_neg fun z => z.elim hf fun ⟨i, es, z1, _⟩ => noow i es z1
  refine ⟨j, fun i d e => ?_, fun i es e => absurd e (noow i es), fun i _ es _ _ e _ _ _ => absurd e (noow i es), fun i v e => ?_, fun i e => ?_, ?_⟩
  · rw [hv]
    unfold ini at e
    by_cases hi : i < ds.length
    · rw [List.getElem?_append_left (by simpa using hi), List.getElem?_map] at e
      cases e2 : ds[i]? with
      | none => rw [e2] at e; cases e
      | some d' =>
        rw [e2] at e
        cases e
        obtain ⟨v, h1, h2⟩ := h.getD e2
        refine ⟨v, ?_, h2⟩
        unfold L2.start
        rw [List.getElem?_append_left (by rw [List.length_map, h.length]; exact hi), List.getElem?_map, h1]
        rfl
    · rw [List.getElem?_append_right (by simpa using hi), List.getElem?_replicate] at e
      split at e <;> cases e
  · unfold ini at e
    by_cases hi : i < ds.length
    · rw [List.getElem?_append_left (by simpa using hi), List.getElem?_map] at e
      cases e2 : ds[i]? with
      | none => rw [e2] at e; cases e
      | some d' => rw [e2] at e; cases e
    · rw [List.getElem?_append_right (by simpa using hi), List.getElem?_replicate] at e
      split at e <;> cases e
  · unfold ini at e
    by_cases hi : i < ds.length
    · rw [List.getElem?_append_left (by simpa using hi), List.getElem?_map] at e
      cases e2 : ds[i]? with
      | none => rw [e2] at e; cases e
      | some d' => rw [e2] at e; cases e
    · rw [List.getElem?_append_right (by simpa using hi), List.getElem?_replicate] at e
      split at e <;> cases e
  · unfold ini L2.start
    simp [h.length]
theorem fn_def {P : Program} {w : World} {K : PySem.W.Frag} {mg : Str → Option Value} {base : Heap} {x qual : Str} {params : Arguments} {body : List Stmt} {scope : Scope} {dvs : List V} {kws : List (Str × V)} {f : Addr} {fd : FuncData} {N ps : List Str} {k : Nat} {g : Ro → Option Out}
    (FF : FunD K x qual params body scope dvs kws f fd) (S : FnScope N ps scope)
    (hbody : ∀ (cdv : Value) (A : Around) (outer : List Env) (s : Shared) (H : Hp) (E : XK), Room k (A.deeper (PyProof.Rows.envOfC qual scope s.heap.objs.size f cdv)) →
      DSs (cxOf (L2.CX P w) P w K mg base N qual scope f cdv A outer s H E) C (fun cls d _ H => E cls d H) body g) : FnOk P w K mg base (L2.CX P w) (k + 1) f fd ps (spD K C (fnD ps.length N.length g)) := by
  refine FF.ok S (fun vs H Q E ⟨W, ds, r, c, j, a, e, m⟩ => ?_) fun cdv A outer s H vs Q E hr ⟨W, ds, r, c, j, a, e, m⟩ => ⟨_, hbody cdv A outer s H E hr, ?_⟩
  · unfold fnD at e
    split at e
    · rw [a.length]; assumption
    · cases e
  · unfold fnD at e
    split at e
    · have s0 := sd_start (N := N) j a
      have hv : Same (off W.foot H) (vw W (L2.start N vs) (ini N.length ds) H) := off_mono (fun a o _ z => z.elim id fun ⟨i, es, z1, _⟩ => by
        obtain ⟨b, ys, w1, w2, w3, w4⟩ := s0.ow i es z1
        unfold ini at z1
        by_cases hi : i < ds.length
        · rw [List.getElem?_append_left (by simpa using hi), List.getElem?_map] at z1
          cases e2 : ds[i]? with
          | none => rw [e2] at z1; cases z1
          | some d' => rw [e2] at z1; cases z1
        · rw [List.getElem?_append_right (by simpa using hi), List.getElem?_replicate] at z1
          split at z1 <;> cases z1) fun _ _ _ e => e
      have rwOf : ∀ H', Same (vw W (L2.start N vs) (ini N.length ds) H) (off W.foot H') → Rw W H H' := fun H' sm a o n e1 => (off_some (sm a o (hv a o (by rw [off_neg n]; exact e1)))).2
      cases hg : g (ini N.length ds) with
      | none => rw [hg] at e; cases e
      | some o =>
        rw [hg] at e
        refine ⟨W, ini N.length ds, o, c, s0, hg, ?_⟩
        cases o with
        | nx ρ' =>
          cases e
          intro σ' H' s' v'
          exact m .non H' s'.j (rwOf H' (v'.trans vw_sub)) .non
        | rt d =>
          cases e
          intro v H' j' v' rp
          exact m v H' j' (rwOf H' v') rp
        | bk _ => cases e
        | ct _ => cases e
        | ex x ρ' =>
          cases e
          intro σ' H' s' v'
          exact m H' s'.j (rwOf H' (v'.trans vw_sub))
    · cases e
end
end DL
namespace DL
open PySem PySem.Spec L2
section
variable {X : Cx} {C : Wd → Prop} {Ew : WX} {e : Expr} {pos p : Pos}
structure ExF (K : PySem.W.Frag) (mg : Str → Option Value) (x : Str) : Prop where
  g : mg x = some (.ref (He.ga K x))
  ex : PySem.W.excIn K (He.ga K x) He.veBase "ValueError.__new__" = true
  kp : PySem.W.keepIn K (.ref (He.ga K x)) = true
  sb : PySem.W.subIn K (.ref (He.ga K x)) (.type "BaseException") = some true
  ty : PySem.W.typeIn K (.ref (He.ga K x)) = some (.type "type")
def rai (x : Exn) : Ro → Option Out := fun ρ => some (.ex x ρ)
theorem ds_raise {x m : Str} {j : Nat} {p p2 pos' : Pos} (tk : Takes X Ew) (hc : X.calm = true) (F : ExF X.K X.mg x) (hg : Gl X x) (hdb : (x == ("__debug__" : Str)) = false := by decide) :
    DS X C Ew (.Raise (some (.Call (.Name x p) [.Constant (.str m) j p2] [] pos')) none pos) (rai ⟨x, none⟩) :=
  ps_imp (ps_raise hc tk (pmk_own PySem.F.excBase_ValueError F.ex F.g F.kp (raises_own F.sb F.ty) hg hdb)) fun E σ H ⟨W, ρ, o, c, s, hgo, q⟩ => by
    cases hgo
    exact q σ H s (Same.refl _)
def tX (K : PySem.W.Frag) (C : Wd → Prop) (Ew : WX) (f : Ro → Option Res) : TE := fun σ H Q => ∃ W ρ r, C W ∧ SD K W σ ρ H ∧ f ρ = some r ∧ match r with
  | .ok d => ∀ v H', Rw W H H' → W.J H' → Rp K (vw W σ ρ H') v d → Q v H'
  | .exc x => ∀ H', Rw W H H' → W.J H' → ExcAt K W x H' (fun cls d H'' => Ew cls d σ H'')
abbrev DX (X : Cx) (C : Wd → Prop) (Ew : WX) (e : Expr) (f : Ro → Option Res) : Prop := PE X e (tX X.K C Ew f)
def callX (F : List D → Option Res) (g : Ro → Option (List D)) : Ro → Option Res := fun ρ => (g ρ).bind F
theorem dx_call {CC : Wd → Prop} {k : Nat} {fa : Addr} {fd : FuncData} {ps : List Str} {F : List D → Option Res} {x : Str} {es : List Expr} {g : Ro → Option (List D)} (tk : Takes X Ew) (FO : FnOk X.prog X.w X.K X.mg X.base (L2.CX X.prog X.w) k fa fd ps (spD X.K CC F)) (hC : CtxOk C) (hCC : ∀ W, C W → CC W) (hr : Room k X.A) (hg : Gl X x) (hm : X.mg x = some (.ref fa))
    (hk : PySem.W.keepIn X.K (.ref fa) = true) (hb : Binds X.K fd ps []) (ha : DA X C (e :: es) g) (hdb : (x == ("__debug__" : Str)) = false := by decide) (he : starEach (e :: es) X.env = (false, eval e X.env) :: starEach es X.env := by rfl)
    (hpl : (backTo pos (starEach es X.env)).any (·.1) = false := by rfl) : DX X C Ew (.Call (.Name x p) (e :: es) [] pos) (callX F g) :=
  pe_imp (pe_callS FO hr hg hm hk hb (fun σ => passAt tk σ) ha hdb he hpl) fun σ H Q ⟨W, ρ, r, c, s, hf, q⟩ => by
    unfold callX at hf
    cases hg : g ρ with
    | none => rw [hg] at hf; cases hf
    | some ds =>
      rw [hg] at hf
      refine ⟨W, ρ, ds, c, s, hg, fun vs H1 r1 j1 d1 => ?_⟩
      have s1 := s.next r1 j1
      show spD X.K CC F vs H1 Q (WE Ew σ)
      refine ⟨W.add (isOw σ ρ) H1 s1.own, ds, r, hCC _ (hC.add _ _ _ _ c (fun a ⟨i, es, z1, z2⟩ => ?_) fun a u ⟨i, es, z1, z2⟩ z3 fx => by
      obtain ⟨b, ys, w1, w2, _⟩ := s1.ow i es z1
      rw [z2] at w1
      have e : a = b := by simpa using w1
      rw [← e, z3] at w2
      cases w2
      exact fx), ⟨j1, fun _ _ => rfl⟩, d1, hf, ?_⟩
      · obtain ⟨b, ys, w1, w2, w3, w4⟩ := s1.ow i es z1
        rw [z2] at w1
        have e : a = b := by simpa using w1
        subst e
        exact w4
      · cases r with
        | ok d => exact fun v H' j r' dp => q v H' (r1.trans (Rw.add r' j)) j.1 dp
        | exc y => exact fun H' j r' => (q H' (r1.trans (Rw.add r' j)) j.1).add
def exS (f : Ro → Option Res) (k : D → Ro → Option Out) : Ro → Option Out := fun ρ => match f ρ with
  | some (.ok d) => k d ρ
  | some (.exc x) => some (.ex x ρ)
  | none => none
theorem exc_end {K : PySem.W.Frag} {W : Wd} {σ : L2.St} {ρ : Ro} {H : Hp} {E : Ends} {x : Exn} (s : SD K W σ ρ H) (q : EndOk K W Ew (vw W σ ρ H) E (.ex x ρ)) : ∀ H', Rw W H H' → W.J H' → ExcAt K W x H' (fun cls d H'' => Ew cls d σ H'') := fun H' r j => q σ H' (s.next r j) (vw_mono r)
theorem dsx_expr {f : Ro → Option Res} (he : DX X C Ew e f) (hs : swapsWith e none pos.line X.env = pure false := by rfl) : DS X C Ew (.Expr e pos) (exS f fun _ ρ => some (.nx ρ)) := ps_imp (ps_expr he hs) fun E σ H ⟨W, ρ, o, c, s, hg, q⟩ => by
  unfold exS at hg
  split at hg
  · rename_i d hd
    cases hg
    exact ⟨W, ρ, _, c, s, hd, fun v H' r j dp => q σ H' (s.next r j) (vw_mono r)⟩
  · rename_i x hx
    cases hg
    exact ⟨W, ρ, _, c, s, hx, exc_end s q⟩
  · cases hg
theorem dsx_ret {f : Ro → Option Res} (he : DX X C Ew e f) : DS X C Ew (.Return (some e) pos) (exS f fun d _ => some (.rt d)) := ps_imp (ps_ret he) fun E σ H ⟨W, ρ, o, c, s, hg, q⟩ => by
  unfold exS at hg
  split at hg
  · rename_i d hd
    cases hg
    exact ⟨W, ρ, _, c, s, hd, fun v H' r j dp => q v H' j (off_of_rw r) (dp.mono vw_sub)⟩
  · rename_i x hx
    cases hg
    exact ⟨W, ρ, _, c, s, hx, exc_end s q⟩
  · cases hg
def chkL (x : Exn) : Bool := match x.line with
  | some z => atom z
  | none => true
def isUn (ρ : Ro) (i : Nat) : Bool := match ρ[i]? with
  | some .un => true
  | _ => false
def catchS (i : Nat) : Option Out → Option Out
  | some (.nx ρ2) => if noX (ρ2.set i .un) = true then some (.nx (ρ2.set i .un)) else none
  | some (.rt d) => some (.rt d)
  | _ => none
def tryS (known : Exn → Bool) (sub : Str → Bool) (i : Nat) (g : Ro → Option Out) (h : Exn → Ro → Option Out) : Ro → Option Out := fun ρ => match g ρ with
  | some (.ex x ρ1) => if known x = true then (if sub x.cls = true then (if chkL x = true ∧ noX ρ1 = true ∧ isUn ρ1 i = true then catchS i (h x (ρ1.set i .exn)) else none) else some (.ex x ρ1)) else none
  | r => r
theorem SD.unset {K : PySem.W.Frag} {W : Wd} {σ : L2.St} {ρ : Ro} {H : Hp} {i : Nat} (s : SD K W σ ρ H) : SD K W (σ.set i none) (ρ.set i .un) H ∧ Same (vw W σ ρ H) (vw W (σ.set i none) (ρ.set i .un) H) := by
  have gi : ∀ (j : Nat) (cl : Cel), cl ≠ .un → (ρ.set i .un)[j]? = some cl → i ≠ j ∧ ρ[j]? = some cl := fun j cl hc e => by
    by_cases hj : i = j
    · subst hj
      by_cases hl : i < ρ.length
      · rw [List.getElem?_set_self hl] at e; exact absurd (Option.some.inj e).symm hc
      · rw [List.getElem?_eq_none (by simpa using hl)] at e; cases e
    · rw [getSet_ne hj] at e; exact ⟨hj, e⟩
  have ow' : ∀ a, isOw (σ.set i none) (ρ.set i .un) a → isOw σ ρ a := fun a ⟨j, ds, h1, h2⟩ => by
    obtain ⟨hj, h1⟩ := gi j _ (by intro z; cases z) h1
    rw [getSet_ne hj] at h2
    exact ⟨j, ds, h1, h2⟩
  have hv : Same (vw W σ ρ H) (vw W (σ.set i none) (ρ.set i .un) H) := off_mono (fun a o _ z => z.elim .inl fun z => .inr (ow' a z)) fun _ _ _ e => e
  refine ⟨⟨s.j, fun j d e => ?_, fun j ds e => ?_, fun j l ds es a h1 h2 h3 h4 => ?_, fun j u e => ?_, fun j e => ?_, by simp [s.len]⟩, hv⟩
  · obtain ⟨hj, e⟩ := gi j _ (by intro z; cases z) e
    rw [getSet_ne hj]
    obtain ⟨u, h1, h2⟩ := s.sh j d e
    exact ⟨u, h1, h2.mono hv⟩
  · obtain ⟨hj, e⟩ := gi j _ (by intro z; cases z) e
    rw [getSet_ne hj]
    obtain ⟨a, xs, h1, h2, h3, h4⟩ := s.ow j ds e
    exact ⟨a, xs, h1, h2, h3.mono hv, h4⟩
  · obtain ⟨hj, h1⟩ := gi j _ (by intro z; cases z) h1
    obtain ⟨hl, h2⟩ := gi l _ (by intro z; cases z) h2
    rw [getSet_ne hj] at h3
    rw [getSet_ne hl] at h4
    exact s.inj j l ds es a h1 h2 h3 h4
  · obtain ⟨hj, e⟩ := gi j _ (by intro z; cases z) e
    rw [getSet_ne hj]
    exact s.op j u e
  · obtain ⟨hj, e⟩ := gi j _ (by intro z; cases z) e
    rw [getSet_ne hj]
    exact s.exn j e
theorem SD.unexc {K : PySem.W.Frag} {W : Wd} {σ : L2.St} {ρ : Ro} {H : Hp} {a : Addr} (s : SD K (Wd.exc W a) σ ρ H) (hn : noX ρ = true) : SD K W σ ρ H := ⟨s.j, s.sh, s.ow, s.inj, s.op, fun i e => absurd e (noX_get hn i), s.len⟩
mutual
theorem rp_skip {K : PySem.W.Frag} {H : Hp} {dx : Addr} {fs : List (Str × V)} (hd : H dx = some (.xd fs)) : ∀ {v : V} {d : D}, Rp K H v d → Rp K (off (fun b => b = dx) H) v d
  | _, _, .non => .non
  | _, _, .bl b => .bl b
  | _, _, .int i => .int i
  | _, _, .str x => .str x
  | _, _, .lst (a := a) h ha => .lst (by
      rcases h with h | ⟨o, h⟩
      · exact .inl (by rw [off_neg (fun z => by subst z; rw [hd] at h; cases h)]; exact h)
      · exact .inr ⟨o, by rw [off_neg (fun z => by subst z; rw [hd] at h; cases h)]; exact h⟩) (rpAll_skip hd ha)
  | _, _, .tup (a := a) h ha => .tup (by
      rcases h with (h | ⟨o, h⟩) | h
      · exact .inl (.inl (by rw [off_neg (fun z => by subst z; rw [hd] at h; cases h)]; exact h))
      · exact .inl (.inr ⟨o, by rw [off_neg (fun z => by subst z; rw [hd] at h; cases h)]; exact h⟩)
      · exact .inr h) (rpAll_skip hd ha)
  | _, _, .scr (a := a) h => .scr (by
      rcases h with ⟨o, h⟩ | h
      · exact .inl ⟨o, by rw [off_neg (fun z => by subst z; rw [hd] at h; cases h)]; exact h⟩
      · exact .inr h)
theorem rpAll_skip {K : PySem.W.Frag} {H : Hp} {dx : Addr} {fs : List (Str × V)} (hd : H dx = some (.xd fs)) : ∀ {vs : List V} {ds : List D}, RpAll K H vs ds → RpAll K (off (fun b => b = dx) H) vs ds
  | _, _, .nil => .nil
  | _, _, .cons h t => .cons (rp_skip hd h) (rpAll_skip hd t)
end
theorem SD.addx {K : PySem.W.Frag} {W : Wd} {σ : L2.St} {ρ : Ro} {H : Hp} {dx : Addr} {fs : List (Str × V)} {hq} (s : SD K W σ ρ H) (hd : H dx = some (.xd fs)) (hf : ¬ W.foot dx) : SD K (W.add (fun b => b = dx) H hq) σ ρ H := by
  have nod : ¬ isOw σ ρ dx := fun ⟨i, ds, h1, h2⟩ => by
    obtain ⟨a, xs, w1, w2, _⟩ := s.ow i ds h1
    rw [h2] at w1
    have e : dx = a := by simpa using w1
    rw [← e, hd] at w2
    cases w2
  have hd' : vw W σ ρ H dx = some (.xd fs) := by
    rw [show vw W σ ρ H dx = H dx from off_neg fun z => z.elim hf nod]
    exact hd
  have hv : Same (off (fun b => b = dx) (vw W σ ρ H)) (vw (W.add (fun b => b = dx) H hq) σ ρ H) := fun a o e => by
    obtain ⟨n1, e⟩ := off_some e
    obtain ⟨n2, e⟩ := off_some e
    rw [show vw (W.add (fun b => b = dx) H hq) σ ρ H a = H a from off_neg ?_]
    · exact e
    · rintro ((z | z) | z)
      · exact n2 (.inl z)
      · exact n1 z
      · exact n2 (.inr z)
  refine ⟨⟨s.j, fun _ _ => rfl⟩, fun j d e => ?_, fun j ds e => ?_, s.inj, s.op, s.exn, s.len⟩
  · obtain ⟨u, h1, h2⟩ := s.sh j d e
    exact ⟨u, h1, (rp_skip hd' h2).mono hv⟩
  · obtain ⟨a, xs, h1, h2, h3, h4⟩ := s.ow j ds e
    refine ⟨a, xs, h1, h2, (rpAll_skip hd' h3).mono hv, ?_⟩
    rintro (z | z)
    · exact h4 z
    · subst z; rw [hd] at h2; cases h2
theorem vw_unadd {W : Wd} {q : Addr → Prop} {F : Hp} {hq} {σ : L2.St} {ρ : Ro} {H : Hp} : Same (vw (W.add q F hq) σ ρ H) (vw W σ ρ H) := off_mono (fun a o _ z => z.elim (fun z => .inl (.inl z)) .inr) fun _ _ _ e => e
theorem SD.unadd {K : PySem.W.Frag} {W : Wd} {q : Addr → Prop} {F : Hp} {hq} {σ : L2.St} {ρ : Ro} {H : Hp} (s : SD K (W.add q F hq) σ ρ H) : SD K W σ ρ H :=
  ⟨s.j.1, fun j d e => let ⟨u, h1, h2⟩ := s.sh j d e; ⟨u, h1, h2.mono vw_unadd⟩, fun j ds e => let ⟨a, xs, h1, h2, h3, h4⟩ := s.ow j ds e; ⟨a, xs, h1, h2, h3.mono vw_unadd, fun z => h4 (.inl z)⟩, s.inj, s.op, s.exn, s.len⟩
def EF : WX := fun _ _ _ _ => False
theorem pss_ex {st : List Stmt} {α : Type} {P : α → Prop} {t : α → TS} (h : ∀ x, P x → PSs X st (t x)) : PSs X st (fun E σ H => ∃ x, P x ∧ t x E σ H) := ⟨fun pins s σ H E I ⟨x, p, q⟩ => (h x p).run pins s σ H E I q⟩
theorem ds_try {known : Exn → Bool} {sub : Str → Bool} {x n : Str} {i : Nat} {body suite : List Stmt} {b0 : Stmt} {np pos' : Pos} {g : Ro → Option Out} {h : Exn → Ro → Option Out} (hC : CtxEx C) (hs : X.stack = X.env :: X.outer) (hf : X.env.frame = some X.env.locals) (hN : X.N.Nodup) (hi : X.N[i]? = some n) (hln : X.env.kindOf n = some .local)
    (hc : Names X x (.ref (He.ga X.K x))) (tk : Takes X Ew) (hex : ∀ y : Exn, known y = true → PySem.W.exmOne X.K (.ref (He.ga X.K y.cls)) (.ref (He.ga X.K x)) = some (sub y.cls))
    (hb : ∀ (W : WX) (pn : List (Addr × Obj)) (xe : Value → Shared → Prop), Takes (X.tr pn xe) W → PassesOwn (model X.prog X.w) X.A X.env xe → DSs (X.tr pn xe) C W body g)
    (hsu : ∀ (a : Addr) (oe : Obj) (d : Option Addr) (y : Exn) (pn : List (Addr × Obj)), known y = true → Zc (.ref (He.ga X.K y.cls)) d oe → (∃ vs, oe.data = .fields vs) → DSs (X.suite a ((a, oe) :: pn)) (CS C X.K a d y) EF (b0 :: suite) (h y)) :
    DS X C Ew (.Try body [.ExceptHandler (some (.Name x np)) (some n) (b0 :: suite) pos'] [] [] pos) (tryS known sub i g h) := by
  refine ps_imp (ps_try_as (tb := fun W => tS X.K C W g) (ts := fun a cls d E σ H => ∃ y : Exn, (known y = true ∧ cls = .ref (He.ga X.K y.cls)) ∧ tS X.K (CS C X.K a d y) EF (h y) E σ H) hs hf hN hi hln hc tk hb fun a oe cls d pn hz hv => pss_ex fun y ⟨h1, h2⟩ => ?_) fun E σ H ⟨W, ρ, o, c, s, hgo, q⟩ => ?_
  · subst h2
    exact hsu a oe d y pn h1 hz hv
  · unfold tryS at hgo
    split at hgo
    · rename_i y ρ1 hg1
      split at hgo
      · rename_i hkn
        refine ⟨W, ρ, _, c, s, hg1, fun σ1 H1 s1 v1 => ?_⟩
        split at hgo
        · rename_i hsub
          split at hgo
          · rename_i hchk
            obtain ⟨hat, hnx, hun⟩ := hchk
            have core : ∀ (Wx : Wd) (a : Addr) (d : Option Addr), C Wx → LineOk X.K (Wx.exc a) d y → SD X.K Wx σ1 ρ1 H1 →
                (∀ σ2 ρ2 H2, SD X.K Wx σ2 ρ2 H2 → SD X.K W σ2 ρ2 H2 ∧ (Same (vw Wx σ1 ρ1 H1) (vw Wx σ2 ρ2 H2) → Same (vw W σ1 ρ1 H1) (vw W σ2 ρ2 H2))) →
                (∀ H2, Wx.J H2 → W.J H2 ∧ (Same (vw Wx σ1 ρ1 H1) (off Wx.foot H2) → Same (vw W σ1 ρ1 H1) (off W.foot H2)) ∧ Same (off Wx.foot H2) (off W.foot H2)) →
                tS X.K (CS C X.K a d y) EF (h y) { nx := fun σ' H' => E.nx (σ'.set i none) H', rt := E.rt, bk := fun σ' H' => E.bk (σ'.set i none) H', ct := fun σ' H' => E.ct (σ'.set i none) H' } (σ1.set i (some (.ref a))) H1 := by
              intro Wx a d cx lo sx un unR
              obtain ⟨sx2, vx2⟩ := (sx.exc a hnx).set (i := i) (cl := .exn) (v := .ref a) (fun _ z => nomatch z) (fun _ z => nomatch z) (fun _ z => nomatch z) (fun _ => rfl)
              have vx2' : Same (vw Wx σ1 ρ1 H1) (vw (Wx.exc a) (σ1.set i (some (.ref a))) (ρ1.set i .exn) H1) := vx2
              unfold catchS at hgo
              split at hgo
              · rename_i ρ2 hh
                split at hgo
                · rename_i hchk2
                  cases hgo
                  refine ⟨Wx.exc a, ρ1.set i .exn, _, ⟨hC.exc _ _ cx, rfl, lo⟩, sx2, hh, fun σ2 H2 s2 v2 => ?_⟩
                  obtain ⟨s3, v3⟩ := s2.unset (i := i)
                  have s4 := s3.unexc hchk2
                  obtain ⟨s5, v5⟩ := un _ _ _ s4
                  exact q _ _ s5 (v1.trans (v5 ((vx2'.trans v2).trans v3)))
                · cases hgo
              · rename_i dd hh
                cases hgo
                refine ⟨Wx.exc a, ρ1.set i .exn, _, ⟨hC.exc _ _ cx, rfl, lo⟩, sx2, hh, fun v H2 j2 v2 rp => ?_⟩
                obtain ⟨j3, v3, v4⟩ := unR H2 j2
                exact q v H2 j3 (v1.trans (v3 (vx2'.trans v2))) (rp.mono v4)
              · cases hgo
            unfold ExcAt
            split
            · rename_i hl
              refine ⟨true, by rw [hex y hkn, hsub], fun _ a na => ⟨y, ⟨hkn, rfl⟩, ?_⟩, fun z => Bool.noConfusion z⟩
              exact core W a none c (by unfold LineOk; rw [hl]) s1 (fun _ _ _ s2 => ⟨s2, fun z => z⟩) (fun _ j2 => ⟨j2, fun z => z, Same.refl _⟩)
            · rename_i z hl
              intro dx v a1 a2 a3
              refine ⟨true, by rw [hex y hkn, hsub], fun _ a na => ⟨y, ⟨hkn, rfl⟩, ?_⟩, fun z => Bool.noConfusion z⟩
              have hqx : ∀ b, b = dx → H1 b ≠ none := fun b e => by rw [e, a1]; exact fun w => by cases w
              have haz : atom z = true := by unfold chkL at hat; rw [hl] at hat; exact hat
              have lineAt : ∀ H2, (W.add (fun b => b = dx) H1 hqx).J H2 → H2 dx = some (.xd [("line", v)]) := fun H2 j2 => by rw [j2.2 dx rfl]; exact a1
              have nw : ∀ b, ¬ (W.foot b ∨ b = dx) ∨ b = dx ∨ W.foot b := fun b => by
                by_cases hb1 : b = dx
                · exact .inr (.inl hb1)
                · by_cases hb2 : W.foot b
                  · exact .inr (.inr hb2)
                  · exact .inl fun w => w.elim hb2 hb1
              refine core (W.add (fun b => b = dx) H1 hqx) a (some dx) (hC.ok.add _ _ _ _ c (fun b e => by rw [e]; exact a2) fun b u e z fx => by rw [e, a1] at z; cases z; exact fx) ?_ (s1.addx a1 a2) (fun σ2 ρ2 H2 s2 => ⟨s2.unadd, fun sm b o eb => ?_⟩) (fun H2 j2 => ⟨j2.1, fun sm b o eb => ?_, off_mono (fun b o _ w => .inl w) fun _ _ _ e => e⟩)
              · unfold LineOk
                rw [hl]
                exact ⟨dx, v, rfl, fun H2 j2 => lineAt H2 j2, fun H2 => a3.atom haz⟩
              · obtain ⟨n1, e1⟩ := off_some eb
                rcases nw b with w | w | w
                · refine vw_unadd b o (sm b o ?_)
                  rw [show vw (W.add (fun b => b = dx) H1 hqx) σ1 ρ1 H1 b = H1 b from off_neg fun w2 => w2.elim w fun w3 => n1 (.inr w3)]
                  exact e1
                · subst w
                  rw [a1] at e1
                  cases e1
                  have e2 := lineAt H2 s2.j
                  rw [show vw W σ2 ρ2 H2 b = H2 b from off_neg fun w2 => w2.elim a2 fun ⟨l, es, z1, z2⟩ => ?_]
                  · exact e2
                  · obtain ⟨b', ys, w1, w2, _⟩ := s2.ow l es z1
                    rw [z2] at w1
                    have eab : b = b' := by simpa using w1
                    rw [← eab, e2] at w2
                    cases w2
                · exact absurd (.inl w) n1
              · obtain ⟨n1, e1⟩ := off_some eb
                rcases nw b with w | w | w
                · refine off_mono (p := (W.add (fun b => b = dx) H1 hqx).foot) (fun b o _ w => .inl w) (fun _ _ _ e => e) b o (sm b o ?_)
                  rw [show vw (W.add (fun b => b = dx) H1 hqx) σ1 ρ1 H1 b = H1 b from off_neg fun w2 => w2.elim w fun w3 => n1 (.inr w3)]
                  exact e1
                · subst w
                  rw [a1] at e1
                  cases e1
                  rw [off_neg a2]
                  exact lineAt H2 j2
                · exact absurd (.inl w) n1
          · cases hgo
        · rename_i hsub
          cases hgo
          have hnsub : sub y.cls = false := by simpa using hsub
          have q1 := q σ1 H1 s1 v1
          unfold ExcAt at q1 ⊢
          split
          · rename_i hl
            rw [hl] at q1
            exact ⟨false, by rw [hex y hkn, hnsub], fun z => Bool.noConfusion z, fun _ => q1⟩
          · rename_i z hl
            rw [hl] at q1
            intro dx v a1 a2 a3
            exact ⟨false, by rw [hex y hkn, hnsub], fun z => Bool.noConfusion z, fun _ => q1 dx v a1 a2 a3⟩
      · cases hgo
    · rename_i hn
      refine ⟨W, ρ, o, c, s, hgo, ?_⟩
      cases o with
      | nx ρ' => exact q
      | rt d => exact q
      | bk _ => exact q
      | ct _ => exact q
      | ex x ρ' => exact absurd hgo (hn x ρ')
def isE (i : Nat) (b : Bool) : Ro → Option D := fun ρ => match ρ[i]? with
  | some .exn => some (.bool b)
  | _ => none
theorem isE_some {i : Nat} {b : Bool} {ρ : Ro} {d : D} (h : isE i b ρ = some d) : ρ[i]? = some .exn ∧ d = .bool b := by
  unfold isE at h
  split at h
  · cases h; exact ⟨by assumption, rfl⟩
  · cases h
end
end DL
namespace DL
open PySem PySem.Spec L2
section
variable {X : Cx} {C : Wd → Prop} {Ew : WX} {a b c e : Expr} {f g : Ro → Option D} {pos p apos cpos : Pos}
theorem rgV_rp {K : PySem.W.Frag} {H : Hp} (lo hi : Int) : RpAll K H (rgV lo hi) (rgD lo (hi - lo).toNat) := by
  unfold rgV rgD
  have key : ∀ l : List Nat, RpAll K H (l.map fun i => V.int (lo + (i : Nat))) (l.map fun i => PyData.int (lo + (i : Nat))) := by
    intro l
    induction l with
    | nil => exact .nil
    | cons x l ih => exact .cons (.int _) ih
  exact key _
def tRng1 (f : Ro → Option D) : Ro → Option D := fun ρ => (rng1 f ρ).map .tuple
theorem rng1_some {f : Ro → Option D} {ρ : Ro} {z : List D} (h : rng1 f ρ = some z) : ∃ j, f ρ = some (.int j) ∧ -(2 ^ 62) ≤ j ∧ j ≤ 16777216 ∧ z = rgD 0 j.toNat := by
  unfold rng1 at h
  split at h
  · split at h
    · cases h
      rename_i j hj hb
      exact ⟨j, hj, hb.1, hb.2, rfl⟩
    · cases h
  · cases h
theorem de_tupRange {p2 : Pos} (hc : X.calm = true) (hg : Gl X "tuple") (hm : X.mg "tuple" = none) (hg2 : Gl X "range") (hm2 : X.mg "range" = none) (ha : DE X C a f) (na : starEach [a] X.env = (false, eval a X.env) :: starEach [] X.env := by rfl)
    (nb : starEach [.Call (.Name "range" p2) [a] [] cpos] X.env = (false, eval (.Call (.Name "range" p2) [a] [] cpos) X.env) :: starEach [] X.env := by rfl) : DE X C (.Call (.Name "tuple" p) [.Call (.Name "range" p2) [a] [] cpos] [] pos) (tRng1 f) :=
  pe_imp (pe_tupRg hc hg hm (prg_1 hg2 hm2 ha na) nb) fun σ H Q ⟨W, ρ, z, c, s, hf, q⟩ => by
    unfold tRng1 at hf
    cases hr : rng1 f ρ with
    | none => rw [hr] at hf; cases hf
    | some ds =>
      rw [hr] at hf
      cases hf
      obtain ⟨j, h1, h2, h3, rfl⟩ := rng1_some hr
      refine ⟨W, ρ, _, c, s, h1, fun v H1 r1 j1 d1 => ?_⟩
      have ev := d1.int_inv
      subst ev
      refine ⟨j, rfl, ⟨by omega, by omega, by omega, by omega, by omega⟩, fun l nl => ?_⟩
      have ex : ∀ b, (W.foot b ∨ isOw σ ρ b) → H1 b ≠ none := fun b z => (s.next r1 j1).excl z
      refine q _ _ (r1.trans (Rw.of (same_upd nl))) (W.same j1 (same_upd nl)) (.tup (SqT.of (off_new ex nl)) ?_)
      have := rgV_rp (K := X.K) (H := off (fun a => W.foot a ∨ isOw σ ρ a) (upd H1 l (.tup (rgV 0 j)))) 0 j
      rw [Int.sub_zero] at this
      exact this
def rM1 (K : PySem.W.Frag) (g : D → D → Option D) : V → List V → Hp → VK → Prop := fun x xs H Q => ∃ (p : Addr → Prop) (y : V) (d e z : D), xs = [y] ∧ (∀ a, p a → H a ≠ none) ∧ Rp K (off p H) x d ∧ Rp K (off p H) y e ∧ g d e = some z ∧ ∀ v H', Same H H' → Rp K (off p H') v z → Q v H'
def cI (i : Int) : Ro → Option D := fun _ => some (.int i)
def cB (b : Bool) : Ro → Option D := fun _ => some (.bool b)
def cS (x : Str) : Ro → Option D := fun _ => some (.str x)
def cN : Ro → Option D := fun _ => some .none
def cD (d : D) : Ro → Option D := fun _ => some d
def eNil : Ro → Option (List D) := fun _ => some []
def oNone : Ro → Option (Option Int) := fun _ => some none
theorem kI {i j pos} : DE X C (.Constant (.int i) j pos) (cI i) := de_int
theorem kB {i j pos} : DE X C (.Constant (.bool i) j pos) (cB i) := de_bl
theorem kN {j pos} : DE X C (.Constant .none j pos) cN := de_non
theorem kS {x j pos} : DE X C (.Constant (.str x) j pos) (cS x) := de_str
theorem gI {x : Str} {i : Int} {t : Tok} {pos : Pos} (hm : X.mg x = some (.int i t)) (hg : Gl X x := by rfl) (hd : (x == ("__debug__" : Str)) = false := by decide) : DE X C (.Name x pos) (cI i) := de_gint hg hm hd
theorem gS {x i : Str} {t : Tok} {pos : Pos} (hm : X.mg x = some (.str i t)) (hg : Gl X x := by rfl) (hd : (x == ("__debug__" : Str)) = false := by decide) : DE X C (.Name x pos) (cS i) := de_gstr hg hm hd
theorem gD {x : Str} {v : V} {u : Value} {d : D} {pos : Pos} (hm : X.mg x = some u) (r : RelV v u) (hd' : Rp X.K (fun _ => none) v d) (hg : Gl X x := by rfl) (hd : (x == ("__debug__" : Str)) = false := by decide) : DE X C (.Name x pos) (cD d) := de_gdat hg hm r hd' hd
theorem aNil : DA X C [] eNil := da_nil
theorem oN : DO X C none oNone := do_none
theorem atom_le {x y z : D} (h : dLe x y = some z) : atom z = true := by unfold dLe at h; split at h <;> cases h; rfl
theorem de_chain {op op' : CmpOp} {G G' : D → D → Option D} {h : Ro → Option D} (ho : OpR X (compareOp op) (rDD X.K G)) (ho' : OpR X (compareOp op') (rDD X.K G')) (hG : ∀ {x y z : D}, G' x y = some z → atom z = true) (ha : DE X C a f) (hb : DE X C b g) (hc : DE X C c h)
    (hm : lastMarks [op, op'] [b, c] = false := by with_unfolding_all rfl) : DE X C (.Compare a [op, op'] [b, c] pos) (chn G G' f g h) :=
  dn_atom (dn_chain ho ho' (de_n ha) (de_n hb) (de_n hc) hm) fun ρ d hd => by
    unfold chn at hd
    split at hd
    · split at hd
      · split at hd
        · exact hG hd
        · cases hd
      · cases hd; rfl
      · cases hd
    · cases hd
def augA (i : Nat) (f : Ro → Option D) : Ro → Option Out := fun ρ => match rdS i ρ, f ρ with
  | some (.int x), some (.int y) => some (.nx (ρ.set i (.sh (.int (x + y)))))
  | _, _ => none
theorem ds_augA {i : Nat} {x : Str} {pos' : Pos} (hN : X.N.Nodup) (hi : X.N[i]? = some x) (hx : Loc X.env.scope x) (he : DE X C e f) (hf : X.fn x = true ∨ X.env.scope.names.lookup x = some .local := by first | exact .inl rfl | exact .inr rfl | assumption) : DS X C Ew (.AugAssign (.Name x pos') .Add e pos) (augA i f) :=
  ps_imp (ps_aug hN hi hx he ip_add hf) fun E σ H ⟨W, ρ, o, c, s, hg, q⟩ => by
    unfold augA at hg
    split at hg
    · rename_i x y h1 h2
      cases hg
      obtain ⟨v, w1, w2⟩ := s.sh i _ (rdS_some h1)
      have ev := w2.int_inv
      subst ev
      refine ⟨_, w1, W, ρ, _, c, s, h2, fun u H' r j dp => ?_⟩
      have eu := dp.int_inv
      subst eu
      refine ⟨x, y, rfl, rfl, ?_⟩
      obtain ⟨s', vv⟩ := (s.next r j).set (i := i) (cl := .sh (.int (x + y))) (v := .int (x + y)) (fun _ z => nomatch z) (fun d' z => by cases z; exact .int _) (fun _ z => nomatch z)
      exact q _ _ s' ((vw_mono r).trans vv)
    · cases hg
def parS (i j : Nat) (f g : Ro → Option D) : Ro → Option Out := fun ρ => match f ρ, g ρ with
  | some x, some y => some (.nx ((ρ.set i (.sh x)).set j (.sh y)))
  | _, _ => none
theorem ds_par {i j : Nat} {x y : Str} {px py pt : Pos} {kt k2 pt2} (hc : X.calm = true) (hN : X.N.Nodup) (hi : X.N[i]? = some x) (hj : X.N[j]? = some y) (hij : i ≠ j)
    (hx : X.env.scope.names.lookup x = some .local) (hy : X.env.scope.names.lookup y = some .local) (ha : DE X C a f) (hb : DE X C b g)
    (hw : swappedStores [.Tuple [.Name x px, .Name y py] kt pt] (.Tuple [a, b] k2 pt2) X.env = pure (some [x, y]))
    (hs : swapsWithSole [.Tuple [.Name x px, .Name y py] kt pt] (.Tuple [a, b] k2 pt2) pos.line X.env = pure false := by rfl)
    (h1 : starEach [a, b] X.env = (false, eval a X.env) :: starEach [b] X.env := by rfl) (h2 : starEach [b] X.env = (false, eval b X.env) :: starEach [] X.env := by rfl) :
    DS X C Ew (.Assign [.Tuple [.Name x px, .Name y py] kt pt] (.Tuple [a, b] k2 pt2) pos) (parS i j f g) :=
  ps_imp (ps_par hc hN hi hj hij hx hy (pa_cons ha (pa_cons hb pa_nil h2) h1) hw hs) fun E σ H ⟨W, ρ, o, c, s, hg, q⟩ => by
    unfold parS at hg
    split at hg
    · rename_i dx dy hx hy
      cases hg
      refine ⟨W, ρ, dx, c, s, hx, fun v H1 r1 j1 d1 => ⟨W, ρ, dy, c, s.next r1 j1, hy, fun u H2 r2 j2 d2 => ⟨v, u, rfl, ?_⟩⟩⟩
      obtain ⟨s1, v1⟩ := (s.next (r1.trans r2) j2).set (i := i) (cl := .sh dx) (v := v) (fun _ z => nomatch z) (fun d' z => by cases z; exact d1.mono (vw_mono r2)) (fun _ z => nomatch z)
      obtain ⟨s2, v2⟩ := s1.set (i := j) (cl := .sh dy) (v := u) (fun _ z => nomatch z) (fun d' z => by cases z; exact d2.mono v1) (fun _ z => nomatch z)
      exact q _ _ s2 (((vw_mono (r1.trans r2)).trans v1).trans v2)
    · cases hg
abbrev CT : Wd → Prop := CN
theorem de_callH {k : Nat} {F : List D → Option Res} {x : Str} {es : List Expr} {g : Ro → Option (List D)} (FO : HasFn X.prog X.w X.K X.mg X.base k x CT F) (hC : CtxOk C) (hr : Room k X.A) (ha : DA X C (e :: es) g) (hg : Gl X x := by rfl)
    (hdb : (x == ("__debug__" : Str)) = false := by decide) (he : starEach (e :: es) X.env = (false, eval e X.env) :: starEach es X.env := by rfl)
    (hpl : (backTo pos (starEach es X.env)).any (·.1) = false := by rfl) : DE X C (.Call (.Name x p) (e :: es) [] pos) (callF F g) := by
  obtain ⟨fa, fd, ps, h1, h2, h3, h4⟩ := FO.ex
  exact de_call h1 hC hC.nf hr hg h2 h3 h4 ha hdb he hpl
theorem dx_callH {k : Nat} {F : List D → Option Res} {x : Str} {es : List Expr} {g : Ro → Option (List D)} (tk : Takes X Ew) (FO : HasFn X.prog X.w X.K X.mg X.base k x CT F) (hC : CtxOk C) (hr : Room k X.A) (ha : DA X C (e :: es) g) (hg : Gl X x := by rfl)
    (hdb : (x == ("__debug__" : Str)) = false := by decide) (he : starEach (e :: es) X.env = (false, eval e X.env) :: starEach es X.env := by rfl)
    (hpl : (backTo pos (starEach es X.env)).any (·.1) = false := by rfl) : DX X C Ew (.Call (.Name x p) (e :: es) [] pos) (callX F g) := by
  obtain ⟨fa, fd, ps, h1, h2, h3, h4⟩ := FO.ex
  exact dx_call tk h1 hC hC.nf hr hg h2 h3 h4 ha hdb he hpl
def noF : List D → Option Res := fun _ => none
theorem has_none {P : Program} {w : World} {K : PySem.W.Frag} {mg : Str → Option Value} {base : Heap} {k : Nat} {x : Str} {fa : Addr} {fd : FuncData} {ps : List Str} (hm : mg x = some (.ref fa)) (hk : PySem.W.keepIn K (.ref fa) = true) (hb : Binds K fd ps []) : HasFn P w K mg base k x CT noF :=
  ⟨fa, fd, ps, ⟨fun vs H Q E ⟨W, ds, r, c, j, a, e, m⟩ => (by cases e), fun A outer s H args us vs Q E hr he hb hv ⟨W, ds, r, c, j, a, e, m⟩ => (by cases e)⟩, hm, hk, hb⟩
structure XF (K : PySem.W.Frag) (mg : Str → Option Value) (cs : List Str) (sub : Str → Str → Bool) : Prop where
  ex : ∀ x ∈ cs, ExF K mg x
  exm : ∀ x ∈ cs, ∀ y ∈ cs, PySem.W.exmOne K (.ref (He.ga K x)) (.ref (He.ga K y)) = some (sub x y)
  kit : ∀ x ∈ cs, ∀ y ∈ cs, PySem.W.kitOne K (.ref (He.ga K x)) (.ref (He.ga K y)) = some (sub x y)
  ec : ∀ x ∈ cs, ExcC K (He.ga K x)
end
end DL
namespace DL
open PySem PySem.Spec L2
theorem excCB_ok {K : PySem.W.Frag} {D : Addr} (h : excCB K D = true) : ExcC K D := by
  obtain ⟨h1, h⟩ := Bool.and_eq_true_iff.mp h
  obtain ⟨h2, h⟩ := Bool.and_eq_true_iff.mp h
  obtain ⟨h3, h⟩ := Bool.and_eq_true_iff.mp h
  obtain ⟨h4, h⟩ := Bool.and_eq_true_iff.mp h
  obtain ⟨h5, h⟩ := Bool.and_eq_true_iff.mp h
  obtain ⟨h6, h⟩ := Bool.and_eq_true_iff.mp h
  obtain ⟨h7, h8⟩ := Bool.and_eq_true_iff.mp h
  exact ⟨of_decide_eq_true h1, of_decide_eq_true h2, of_decide_eq_true h3, h4, of_decide_eq_true h5, of_decide_eq_true h6, of_decide_eq_true h7, of_decide_eq_true h8⟩
theorem xsB_ok {cs : List Str} {sub : Str → Str → Bool} {K : PySem.W.Frag} {h : Heap} {mg : Str → Option Value} (X : K.In h) (G : h.Ns mainGlobals mg) (c : xsB cs sub K = true) : XF K mg cs sub := by
  have a := List.all_eq_true.mp c
  have b := fun x hx => Bool.and_eq_true_iff.mp (a x hx)
  have b1 := fun x hx => Bool.and_eq_true_iff.mp (b x hx).1
  have b2 := fun x hx => Bool.and_eq_true_iff.mp (b1 x hx).1
  have p := fun x hx y hy => Bool.and_eq_true_iff.mp (List.all_eq_true.mp (b x hx).2 y hy)
  refine ⟨fun x hx => ?_, fun x hx y hy => of_decide_eq_true (p x hx y hy).1, fun x hx y hy => of_decide_eq_true (p x hx y hy).2, fun x hx => excCB_ok (b2 x hx).1⟩
  obtain ⟨e1, e2, e3, e4⟩ := He.exc_ok (b2 x hx).2
  exact ⟨He.glo_ok X G (b1 x hx).2, e1, e2, e3, e4⟩
theorem vals_abs : ∀ {us : List Value} {xs : List V}, us.map absV = xs.map some → Vals xs us
  | [], [], _ => .nil
  | [], _ :: _, h => by cases h
  | _ :: _, [], h => by cases h
  | u :: us, x :: xs, h => by
    simp only [List.map_cons, List.cons.injEq] at h
    refine .cons ?_ (vals_abs h.2)
    have h1 := h.1
    cases u <;> simp only [absV] at h1 <;> first | (cases h1; exact rfl) | (cases h1; exact ⟨_, rfl⟩) | cases h1
theorem tupB_ok {K : PySem.W.Frag} {a : Addr} {xs : List V} {H : Hp} (h : tupB K a xs = true) : SqT K H a xs := by
  unfold tupB at h
  split at h
  · rename_i c dd its n sl hk
    obtain ⟨h1, h2⟩ := Bool.and_eq_true_iff.mp h
    obtain ⟨h3, h4⟩ := Bool.and_eq_true_iff.mp h2
    refine .inr ⟨_, its, n, hk, congrArg Value.type (of_decide_eq_true h1), rfl, ?_, vals_abs (of_decide_eq_true h4)⟩
    have := of_decide_eq_true h3
    rw [sizeLine_eq]
    omega
  · cases h
theorem fnok0 {P : Program} {w : World} {K : PySem.W.Frag} {mg : Str → Option Value} {base : Heap} {k : Nat} {f : Addr} {fd : FuncData} {ps : List Str} {sp : Sp} (F : FnOk P w K mg base (L2.CX P w) k f fd ps sp) : FnOk P w K mg base CX0 k f fd ps (fun vs H Q _ => sp vs H Q E0) :=
  ⟨fun vs H Q E h => F.len vs H Q _ h, fun A outer s H args us vs Q E hr he hb hv hs => codeAny_mono (F.run A outer s H args us vs Q E0 hr he hb hv hs) fun r s' h => by
    cases r with
    | ok f => cases f <;> exact h
    | error e =>
      obtain ⟨_, _, _, _, _, _, _, _, _, _, _, _, z⟩ := h
      exact z.elim⟩
def scrD (ns : List Int) : D := .dict (ns.map fun n => (.int n, .none))
theorem law_sp {K : PySem.W.Frag} {F : List D → Option Res} {n : Nat} (hF : ∀ ns : List Int, ns.length ≤ n → F [scrD ns] = some (.ok (.bool true))) : ∀ (H : Hp) (a : Addr) (ns : List Int), ns.length ≤ n → Only H → SqL K H a (ns.map V.int) → (fun vs H Q (_ : XK) => spD K CT F vs H Q E0) [.ref a] H (fun v _ => v = .bl true) (fun _ _ _ => False) :=
  fun H a ns hl hO hS => ⟨Wd.nil, [scrD ns], _, (fun _ _ _ _ z => z.elim), trivial, .cons (.scr (by
    rcases hS with (h | ⟨o, h⟩) | h
    · rcases hO a with e | ⟨o, xs, e⟩
      · rw [e] at h; cases h
      · rw [e] at h; cases h
    · exact .inl ⟨o, by rw [off_neg (fun z => z)]; exact h⟩
    · exact .inr h)) .nil, hF ns hl, fun v H' _ _ r => r.bl_inv⟩
end DL
namespace DL
open PySem PySem.Spec L2
section
variable {α : Type} [DecidableEq α] {f : α → D} {n : Nat}
theorem Gd.shaped (h : Gd f n) (hn : n ≤ 64 := by decide) (a : α) : SeqAt.shaped (f a) = true := by
  have := h.dep a
  unfold SeqAt.shaped
  rw [h.lay, Bool.true_and, decide_eq_true_eq]
  omega
theorem dEq_gd (h : Gd f n) (hn : n ≤ 64 := by decide) (a b : α) : dEq (f a) (f b) = some (.bool (decide (a = b))) := by
  unfold dEq
  rw [if_pos ⟨h.shaped hn a, h.shaped hn b⟩, h.eq]
theorem dNe_gd (h : Gd f n) (hn : n ≤ 64 := by decide) (a b : α) : dNe (f a) (f b) = some (.bool (!decide (a = b))) := by
  unfold dNe
  rw [if_pos ⟨h.shaped hn a, h.shaped hn b⟩, h.eq]
end
theorem dEq_int (i j : Int) : dEq (.int i) (.int j) = some (.bool (decide (i = j))) := dEq_gd Gd.int (by decide) i j
theorem dNe_int (i j : Int) : dNe (.int i) (.int j) = some (.bool (!decide (i = j))) := dNe_gd Gd.int (by decide) i j
theorem dEq_bool (i j : Bool) : dEq (.bool i) (.bool j) = some (.bool (decide (i = j))) := dEq_gd Gd.bool (by decide) i j
theorem dNe_bool (i j : Bool) : dNe (.bool i) (.bool j) = some (.bool (!decide (i = j))) := dNe_gd Gd.bool (by decide) i j
def gi (xs : List Int) (i : Int) : Int := xs.getD i.toNat 0
theorem atI_get {α : Type} {xs : List α} {i : Int} (h0 : 0 ≤ i) (h1 : i < xs.length) (z : α) : atI xs i = some (xs.getD i.toNat z) := by
  unfold atI ixN
  rw [if_pos h0, if_pos h1]
  have : i.toNat < xs.length := by omega
  simp [List.getD, this]
mutual
def cln : D → Bool
  | .dict _ => false
  | .list xs => clnAll xs
  | .tuple xs => clnAll xs
  | _ => true
def clnAll : List D → Bool
  | [] => true
  | x :: xs => cln x && clnAll xs
end
mutual
theorem cln_lay : ∀ d : D, d.canLay0 = true → cln d = true
  | .none, _ => rfl
  | .bool _, _ => rfl
  | .int _, _ => rfl
  | .str _, _ => rfl
  | .list xs, h => by simp only [cln]; exact clnAll_lay xs (by simpa [PyData.canLay0] using h)
  | .tuple xs, h => by simp only [cln]; exact clnAll_lay xs (by simpa [PyData.canLay0] using h)
  | .dict _, h => by simp [PyData.canLay0] at h
theorem clnAll_lay : ∀ ds : List D, PyData.canLayAll0 ds = true → clnAll ds = true
  | [], _ => rfl
  | d :: ds, h => by
    have h' := Bool.and_eq_true_iff.mp (by simpa [PyData.canLayAll0] using h)
    simp only [clnAll, cln_lay d h'.1, clnAll_lay ds h'.2, Bool.and_self]
end
theorem layAll_mem : ∀ {ds : List D}, PyData.canLayAll0 ds = true → ∀ x ∈ ds, x.canLay0 = true
  | d :: ds, h, x, hx => by
    have h' := Bool.and_eq_true_iff.mp (by simpa [PyData.canLayAll0] using h)
    rcases List.mem_cons.mp hx with rfl | hx
    · exact h'.1
    · exact layAll_mem h'.2 x hx
theorem depAll_mem : ∀ {ds : List D} {n : Nat}, PyData.depthAll ds ≤ n → ∀ x ∈ ds, x.depth ≤ n
  | d :: ds, n, h, x, hx => by
    simp only [PyData.depthAll] at h
    rcases List.mem_cons.mp hx with rfl | hx
    · omega
    · exact depAll_mem (by omega) x hx
theorem Sh.shaped {n : Nat} {d : D} (h : Sh n d) (hn : n ≤ 64 := by decide) : SeqAt.shaped d = true := by
  unfold SeqAt.shaped
  rw [h.1, Bool.true_and, decide_eq_true_eq]
  exact Nat.le_trans h.2 hn
theorem Sh.cln {n : Nat} {d : D} (h : Sh n d) : cln d = true := cln_lay d h.1
theorem Sh.tup_inv {n : Nat} {ds : List D} (h : Sh (n + 1) (.tuple ds)) : ∀ x ∈ ds, Sh n x := fun x hx => ⟨layAll_mem (by simpa [PyData.canLay0] using h.1) x hx, depAll_mem (by have := h.2; simp only [PyData.depth] at this; omega) x hx⟩
theorem Sh.lst_inv {n : Nat} {ds : List D} (h : Sh (n + 1) (.list ds)) : ∀ x ∈ ds, Sh n x := fun x hx => ⟨layAll_mem (by simpa [PyData.canLay0] using h.1) x hx, depAll_mem (by have := h.2; simp only [PyData.depth] at this; omega) x hx⟩
theorem sq_nx {g h : Ro → Option Out} {ρ ρ' : Ro} (e : g ρ = some (.nx ρ')) : sq g h ρ = h ρ' := by simp only [sq, e]
theorem cast_lit (n : Nat) : ((no_index (OfNat.ofNat n) : Nat) : Int) = OfNat.ofNat n := rfl
section
variable {α : Type} (f : α → D) (xs : List α)
theorem T_len : dLen (T f xs) = some (.int xs.length) := by simp only [T, dLen, List.length_map]
theorem Ls_len : dLen (Ls f xs) = some (.int xs.length) := by simp only [Ls, dLen, List.length_map]
theorem T_items : itemsOf (T f xs) = some (xs.map f) := rfl
theorem Ls_items : itemsOf (Ls f xs) = some (xs.map f) := rfl
theorem T_itm : itm (T f xs) = some (xs.map f) := rfl
theorem Ls_itm : itm (Ls f xs) = some (xs.map f) := rfl
theorem T_truth : truth (T f xs) = some (!xs.isEmpty) := by simp only [T, truth, List.isEmpty_map]
theorem Ls_truth : truth (Ls f xs) = some (!xs.isEmpty) := by simp only [Ls, truth, List.isEmpty_map]
theorem T_dct : isDct (T f xs) = false := rfl
theorem Ls_dct : isDct (Ls f xs) = false := rfl
theorem T_isT : isT (T f xs) = true := rfl
theorem Ls_isT : isT (Ls f xs) = false := rfl
theorem T_isL : isL (T f xs) = false := rfl
theorem Ls_isL : isL (Ls f xs) = true := rfl
end
theorem isI_none : isI .none = false := rfl
theorem isI_bool (b : Bool) : isI (.bool b) = true := rfl
theorem isI_int (i : Int) : isI (.int i) = true := rfl
theorem isI_str (z : Str) : isI (.str z) = false := rfl
theorem isI_list (ds : List D) : isI (.list ds) = false := rfl
theorem isI_tuple (ds : List D) : isI (.tuple ds) = false := rfl
theorem isI_dict (kv : List (D × D)) : isI (.dict kv) = false := rfl
theorem isB_none : isB .none = false := rfl
theorem isB_bool (b : Bool) : isB (.bool b) = true := rfl
theorem isB_int (i : Int) : isB (.int i) = false := rfl
theorem isB_str (z : Str) : isB (.str z) = false := rfl
theorem isB_list (ds : List D) : isB (.list ds) = false := rfl
theorem isB_tuple (ds : List D) : isB (.tuple ds) = false := rfl
theorem isB_dict (kv : List (D × D)) : isB (.dict kv) = false := rfl
theorem isT_none : isT .none = false := rfl
theorem isT_bool (b : Bool) : isT (.bool b) = false := rfl
theorem isT_int (i : Int) : isT (.int i) = false := rfl
theorem isT_str (z : Str) : isT (.str z) = false := rfl
theorem isT_list (ds : List D) : isT (.list ds) = false := rfl
theorem isT_tuple (ds : List D) : isT (.tuple ds) = true := rfl
theorem isT_dict (kv : List (D × D)) : isT (.dict kv) = false := rfl
theorem isS_none : isS .none = false := rfl
theorem isS_bool (b : Bool) : isS (.bool b) = false := rfl
theorem isS_int (i : Int) : isS (.int i) = false := rfl
theorem isS_str (z : Str) : isS (.str z) = true := rfl
theorem isS_list (ds : List D) : isS (.list ds) = false := rfl
theorem isS_tuple (ds : List D) : isS (.tuple ds) = false := rfl
theorem isS_dict (kv : List (D × D)) : isS (.dict kv) = false := rfl
theorem isL_none : isL .none = false := rfl
theorem isL_bool (b : Bool) : isL (.bool b) = false := rfl
theorem isL_int (i : Int) : isL (.int i) = false := rfl
theorem isL_str (z : Str) : isL (.str z) = false := rfl
theorem isL_list (ds : List D) : isL (.list ds) = true := rfl
theorem isL_tuple (ds : List D) : isL (.tuple ds) = false := rfl
theorem isL_dict (kv : List (D × D)) : isL (.dict kv) = false := rfl
theorem isN_none : isN .none = true := rfl
theorem isN_bool (b : Bool) : isN (.bool b) = false := rfl
theorem isN_int (i : Int) : isN (.int i) = false := rfl
theorem isN_str (z : Str) : isN (.str z) = false := rfl
theorem isN_list (ds : List D) : isN (.list ds) = false := rfl
theorem isN_tuple (ds : List D) : isN (.tuple ds) = false := rfl
theorem isN_dict (kv : List (D × D)) : isN (.dict kv) = false := rfl
theorem isDct_none : isDct .none = false := rfl
theorem isDct_bool (b : Bool) : isDct (.bool b) = false := rfl
theorem isDct_int (i : Int) : isDct (.int i) = false := rfl
theorem isDct_str (z : Str) : isDct (.str z) = false := rfl
theorem isDct_list (ds : List D) : isDct (.list ds) = false := rfl
theorem isDct_tuple (ds : List D) : isDct (.tuple ds) = false := rfl
theorem isDct_dict (kv : List (D × D)) : isDct (.dict kv) = true := rfl
theorem dLen_list (ds : List D) : dLen (.list ds) = some (.int ds.length) := rfl
theorem dLen_tuple (ds : List D) : dLen (.tuple ds) = some (.int ds.length) := rfl
theorem dLen_dict (kv : List (D × D)) : dLen (.dict kv) = some (.int kv.length) := rfl
theorem truth_none : truth .none = some false := rfl
theorem truth_bool (b : Bool) : truth (.bool b) = some b := rfl
theorem truth_int (i : Int) : truth (.int i) = some (i != 0) := rfl
theorem truth_list (ds : List D) : truth (.list ds) = some (!ds.isEmpty) := rfl
theorem truth_tuple (ds : List D) : truth (.tuple ds) = some (!ds.isEmpty) := rfl
theorem itm_list (ds : List D) : itm (.list ds) = some ds := rfl
theorem itm_tuple (ds : List D) : itm (.tuple ds) = some ds := rfl
theorem itemsOf_list (ds : List D) : itemsOf (.list ds) = some ds := rfl
theorem itemsOf_tuple (ds : List D) : itemsOf (.tuple ds) = some ds := rfl
theorem dAdd_int (i j : Int) : dAdd (.int i) (.int j) = some (.int (i + j)) := rfl
theorem dAdd_list (xs ys : List D) : dAdd (.list xs) (.list ys) = if xs.length + ys.length ≤ sizeLine then some (.list (xs ++ ys)) else none := rfl
theorem dAdd_tuple (xs ys : List D) : dAdd (.tuple xs) (.tuple ys) = if xs.length + ys.length ≤ sizeLine then some (.tuple (xs ++ ys)) else none := rfl
theorem dAdd_str (x y : Str) : dAdd (.str x) (.str y) = if x.length + y.length ≤ sizeLine then some (.str (x ++ y)) else none := rfl
theorem cut_map {α β : Type} (f : α → β) (xs : List α) (lo hi : Option Int) : cut (xs.map f) lo hi = (cut xs lo hi).map f := by
  unfold cut
  rw [List.length_map, ← List.map_drop, ← List.map_take]
section
variable {α : Type} (f : α → D) (xs ys : List α)
theorem dAdd_T : dAdd (T f xs) (T f ys) = if xs.length + ys.length ≤ sizeLine then some (T f (xs ++ ys)) else none := by simp only [T, dAdd_tuple, List.length_map, List.map_append]
theorem dAdd_Tt (ds : List D) : dAdd (T f xs) (.tuple ds) = if xs.length + ds.length ≤ sizeLine then some (.tuple (xs.map f ++ ds)) else none := by simp only [T, dAdd_tuple, List.length_map]
theorem dAdd_tT (ds : List D) : dAdd (.tuple ds) (T f xs) = if ds.length + xs.length ≤ sizeLine then some (.tuple (ds ++ xs.map f)) else none := by simp only [T, dAdd_tuple, List.length_map]
theorem dAdd_L : dAdd (Ls f xs) (Ls f ys) = if xs.length + ys.length ≤ sizeLine then some (Ls f (xs ++ ys)) else none := by simp only [Ls, dAdd_list, List.length_map, List.map_append]
theorem dSl_T (lo hi : Option Int) : dSl (T f xs) lo hi = some (T f (cut xs lo hi)) := by simp only [T, dSl, cut_map]
theorem dSl_L (lo hi : Option Int) : dSl (Ls f xs) lo hi = some (Ls f (cut xs lo hi)) := by simp only [Ls, dSl, cut_map]
end
theorem cut_head {α : Type} (xs : List α) : cut xs none (some 1) = xs.take 1 := by
  unfold cut
  have e : HT.sIx xs.length xs.length (some 1) = min 1 xs.length := HT.sIx_nat xs.length xs.length 1
  rw [e, HT.sIx_none, List.drop_zero, Nat.sub_zero]
  cases xs with
  | nil => rfl
  | cons x xs =>
    have : min 1 (x :: xs).length = 1 := by simp
    rw [this]
theorem cut_tail {α : Type} (xs : List α) : cut xs (some 1) none = xs.tail := by
  unfold cut
  have e : HT.sIx xs.length 0 (some 1) = min 1 xs.length := HT.sIx_nat xs.length 0 1
  rw [e, HT.sIx_none]
  cases xs with
  | nil => rfl
  | cons x xs =>
    have : min 1 (x :: xs).length = 1 := by simp
    rw [this]
    simp
end DL
namespace L2
open PySem PySem.Spec PyProof.Rows PpSet
section
variable {X : Cx}
theorem memb_in {pins : List (Addr × Obj)} {σ : L2.St} {H : Hp} {s : Shared} {E : Value → Shared → Prop} {D : Addr} {S : Int → Bool} {n : Nat} {k : Int} {tk : Tok} {Q : Value → Shared → Prop} (J : Inv X pins σ H s) (at_ : H D = some (SetO X.w D S n)) (few : n + 1 < scanBound)
    (next : ∀ s', Inv X pins σ (upd H D (SetO X.w D (fun j => S j || decide (j = k)) (if S k = true then n else n + 1))) s' → Q .none s') : wpAny (model X.prog X.w) X.A (call (.builtin "set.add") [.ref D, .int k tk]) Q E s :=
  setR_add (setO_get J at_) few fun h' same R' => next _ (J.write (e := D) (t' := s.toks + 1) (by rw [at_]; trivial) (.inl rfl) (fun b u ne e => (same.2 b ne).trans e) (by
    obtain ⟨o, _, _, _, e, _⟩ := R'
    exact ⟨o, e⟩) (setO_new R'))
def tSi (w : World) (wi : TI) (g : TG) (tt : TT) (te : TE) (vs : List Nat) : TE := fun σ H Q => wi σ H fun J H1 => ∀ D, H1 D = none → ∃ W : Nat → Nat → Hp → Prop, (∃ m, W 0 m (upd H1 D (SetO w D (fun _ => false) 0))) ∧ ∀ i m H, W i m H →
  (J.stop i H ∧ Q (.ref D) H) ∨ (J.go i H ∧ ∃ Nx : Hp → Prop, (∀ H', Nx H' → ∃ m', m' < m ∧ W (i + 1) m' H') ∧ ∀ x H', J.yld i H x H' → g x (wipe σ vs) H' fun σ2 H2 => wipe σ2 vs = wipe σ vs ∧ tt σ2 H2 fun b H3 =>
    if b = true then te σ2 H3 fun y H4 => ∃ (k : Int) (S : Int → Bool) (n : Nat), y = .int k ∧ H4 D = some (SetO w D S n) ∧ n + 1 < scanBound ∧ Nx (upd H4 D (SetO w D (fun j => S j || decide (j = k)) (if S k = true then n else n + 1))) else Nx H3)
abbrev newSetO (w : World) : Obj := { cls := .type "set", dict := none, data := .set #[] 0 (.fresh 0 0 (!w.params.followText "set-order")) }
theorem si_run {pins : List (Addr × Obj)} {s : Shared} {σ : L2.St} {H : Hp} {Q : VK} {elt tg iter : Expr} {ifs : List Expr} {scope : Scope} {own : List (PySem.Str × Nat)} {pos pos' : Pos} {wi : TI} {g : TG} {tt : TT} {te : TE} {use : Option (Value → Sem Unit)} {Qf : Value → Shared → Prop}
    (calm : X.calm = true) (nd : X.N.Nodup) (I : Inv X pins σ H s) (over : PI X tg iter wi) (ok : BlkOk X.N X.env.scope scope own)
    (toG : ∀ (s : Shared) (H : Hp) (C : Addr) (cl : List (PySem.Str × Addr)) (fp : List Addr), PG (X.blk s H scope (compEnvC scope cl C X.env) fp) tg g)
    (toT : ∀ (s : Shared) (H : Hp) (C : Addr) (cl : List (PySem.Str × Addr)) (fp : List Addr), PTs (X.blk s H scope (compEnvC scope cl C X.env) fp) ifs tt)
    (toE : ∀ (s : Shared) (H : Hp) (C : Addr) (cl : List (PySem.Str × Addr)) (fp : List Addr), PE (X.blk s H scope (compEnvC scope cl C X.env) fp) elt te)
    (plain : ∀ x, foldedSetIterable iter X.env x = pure x) (h : tSi X.w wi g tt te (own.map (·.2)) σ H Q)
    (over_ : ∀ D C s' m H', Inv X pins σ H' s' → Q (.ref D) H' → s'.heap.Ns C m → FpOk X pins H' C → compPost (model X.prog X.w) X.A X.xe use Qf (.ref D) C (.ok .next) s') :
    wpAny (model X.prog X.w) X.A (comprehension (.SetComp elt [⟨tg, iter, ifs, 0⟩] scope pos) scope X.env pos' (newSet (.type "set")) false (eval iter X.env) use) Qf X.xe s := by
  have bound : ∀ y ∈ scope.names, y.2 = .free → ∃ c, X.env.cells.lookup y.1 = some c := fun y hy e => (ok.free y hy e).elim (fun k => I.ok.has _ (.inl k)) fun k => I.ok.has _ (.inr k)
  refine wpAny_comprehension_free (use := use) rfl plain (closure_ok bound) ok.kind (fun y hy e => by rw [ok.uniq y hy, e]) (thn (over.run pins s σ H _ I h) fun xv s1 hx => thn hx fun itv s2 h2 => ?_)
  obtain ⟨it, fp, tn, J, H2, rfl, I2, T, st2, f2, q⟩ := h2
  refine newSet_ok (newEnv_comp ?_)
  generalize eD : s2.heap.objs.size = D
  have freeD : H2 D = none := I2.hok.fresh (Nat.le_of_eq eD)
  obtain ⟨W, ⟨m0, w0⟩, turn⟩ := q D freeD
  have fits : ∀ b ∈ fp, b < s2.heap.objs.size := fun b hb => by
    obtain ⟨o, e, _⟩ := T.obj _ _ st2 b hb
    exact Heap.lt_size e
  generalize e3 : ({ s2 with heap := s2.heap.push (newSetO X.w) } : Shared) = s3
  have p3 : s3.heap = s2.heap.push (newSetO X.w) := by rw [← e3]
  generalize eH : upd H2 D (SetO X.w D (fun _ => false) 0) = H3 at w0
  have I3 : Inv X pins σ H3 s3 := by
    rw [← e3, ← eH]
    exact I2.laid (t' := s2.toks) (fun b o e => Heap.get?_push_of_some _ e) (Nat.le_of_eq eD) (eD ▸ setO_new (setR_fresh X.w))
  have f3 : ∀ b ∈ fp, FpOk X pins H3 b ∧ b < s3.heap.objs.size := fun b hb => by
    have lt := fits b hb
    refine ⟨⟨?_, (f2 b hb).2⟩, by rw [p3, Heap.size_push]; exact Nat.lt_succ_of_lt lt⟩
    rw [← eH, upd_ne (by rw [← eD]; exact Nat.ne_of_lt lt)]
    exact (f2 b hb).1
  have st3 : tn 0 s3.heap := T.keep _ _ _ st2 fun b _ o e => by rw [p3]; exact Heap.get?_push_of_some _ e
  have I4 := block_start I3 ok nd f3
  have pg := toG s3 H3 s3.heap.objs.size (cellsFrom (s3.heap.objs.size + 1) scope.names (cloFrom X.env.cells scope.names [])) fp
  have pt := toT s3 H3 s3.heap.objs.size (cellsFrom (s3.heap.objs.size + 1) scope.names (cloFrom X.env.cells scope.names [])) fp
  have pe := toE s3 H3 s3.heap.objs.size (cellsFrom (s3.heap.objs.size + 1) scope.names (cloFrom X.env.cells scope.names [])) fp
  have none3 : ∀ b ∈ fp, H3 b = none := fun b hb => (f3 b hb).1.1
  show codeAny _ _ (.compStart (.SetComp elt [⟨tg, iter, ifs, 0⟩] scope pos) 0 (.ref it) (.ref D) (compEnvC scope (cellsFrom (s3.heap.objs.size + 1) scope.names (cloFrom X.env.cells scope.names [])) s3.heap.objs.size X.env)) (compPost (model X.prog X.w) X.A X.xe use Qf (.ref D) s3.heap.objs.size)
    { s3 with heap := pushCells (s3.heap.push { cls := .type "dict", data := .dict #[] }) scope.names }
  generalize ec : compEnvC scope (cellsFrom (s3.heap.objs.size + 1) scope.names (cloFrom X.env.cells scope.names [])) s3.heap.objs.size X.env = ce at I4 pg pt pe ⊢
  have locs : ce.locals = s3.heap.objs.size := by rw [← ec]; rfl
  generalize e4 : ({ s3 with heap := pushCells (s3.heap.push { cls := .type "dict", data := .dict #[] }) scope.names } : Shared) = s4 at I4 ⊢
  have st4 : tn 0 s4.heap := T.keep _ _ _ st3 fun b _ o e => by rw [← e4]; exact pushCells_keeps _ _ _ _ (Heap.get?_push_of_some _ e)
  have held : ∀ {σ' : L2.St} {H' : Hp} {s' : Shared}, Inv (X.blk s3 H3 scope ce fp) [] σ' H' s' → (∀ b ∈ fp, H' b = none) → ∀ b ∈ fp, FpOk (X.blk s3 H3 scope ce fp) [] H' b := fun {σ' H' s'} I' z b hb =>
    ⟨z b hb, (I'.ok.exf b hb).1, I'.ok.exfs b hb, .inl hb, fun x c e => (I'.ok.exf b hb).2 x c e, fun p hp => absurd (show p ∈ ([] : List (Addr × Obj)) ++ [] from hp) (by simp)⟩
  have loop : codeAny (model X.prog X.w) X.A (.compLoop (.SetComp elt [⟨tg, iter, ifs, 0⟩] scope pos) 0 (.ref it) (.ref D) ce) (compPost (model X.prog X.w) X.A X.xe use Qf (.ref D) s3.heap.objs.size) s4 := by
    refine compLoopS_any (fun n s' => ∃ i H', Inv (X.blk s3 H3 scope ce fp) [] (wipe σ (own.map (·.2))) H' s' ∧ tn i s'.heap ∧ (∀ b ∈ fp, H' b = none) ∧ W i n H') (fun n s5 ⟨i, H5, I5, st5, n5, w5⟩ => ?_) m0 ⟨0, H3, I4, st4, none3, w0⟩
    rcases turn i n H5 w5 with ⟨stop, qq⟩ | ⟨go, Nx, onward, step⟩
    · refine thnF (T.done (X.blk s3 H3 scope ce fp) rfl rfl rfl calm i [] s5 _ H5 (fun _ _ => False) I5 (held I5 n5) st5 stop) fun r s6 ⟨hr, I6⟩ => ?_
      subst hr
      have I7 : Inv X pins σ H5 s6 := I3.call' (ch := fp) I6.os I6.base I6.hok I6.bare fun b hb => have z := (f3 b hb).1.2; ⟨z.2.2.1, z.1, z.2.2.2.1, z.2.2.2.2⟩
      have gone : H5 s3.heap.objs.size = none := locs ▸ (show H5 ce.locals = none from I6.free)
      obtain ⟨m, hn, _⟩ := I6.loc
      exact over_ D s3.heap.objs.size s6 m H5 I7 qq (locs ▸ (show s6.heap.Ns ce.locals m from hn)) (I3.fpOk (Nat.le_refl _) gone)
    · refine thnF (T.item (X.blk s3 H3 scope ce fp) rfl rfl rfl calm i [] s5 _ H5 (fun _ _ => False) I5 (held I5 n5) st5 go) fun r s6 ⟨u, hr, h6⟩ => ?_
      subst hr
      refine thnF h6 fun _ s7 ⟨x, H7, I7, r7, y7, st7, n7⟩ => ?_
      refine thnF (pg.run _ s7 _ H7 x u _ (I7.pinned (held I7 n7) (T.obj _ _ st7)) r7 (step x H7 y7)) fun _ s8 ⟨σ8, H8, I8, hw8, q8⟩ => thnF (pt.run _ s8 σ8 H8 _ I8 q8) fun b s9 ⟨H9, I9, q9⟩ => ?_
      have done : ∀ {s' : Shared} {H' : Hp}, Inv (X.blk s3 H3 scope ce fp) ([] ++ pinsAt fp s7.heap) σ8 H' s' → Nx H' → ∃ m, m < n ∧ ∃ i H', Inv (X.blk s3 H3 scope ce fp) [] (wipe σ (own.map (·.2))) H' s' ∧ tn i s'.heap ∧ (∀ b ∈ fp, H' b = none) ∧ W i m H' := fun {s' H'} I' nx => by
        obtain ⟨m', hm, w'⟩ := onward H' nx
        have stays : ∀ b ∈ fp, ∀ o, s7.heap.get? b = some o → s'.heap.get? b = some o ∧ H' b = none := fun b hb o e => have z := I'.pin (b, o) (List.mem_append_right _ (List.mem_append_right _ (mem_pinsAt hb e))); ⟨z.1, z.2.1⟩
        refine ⟨m', hm, i + 1, H', (I'.unpinned (pins := [])).weak (by rw [← hw8, wipe_length]) (fun j v e => (wipe_some (hw8.symm ▸ e)).1), T.keep _ _ _ st7 fun b hb o e => (stays b hb o e).1, fun b hb => ?_, w'⟩
        obtain ⟨o, e, _⟩ := T.obj _ _ st7 b hb
        exact (stays b hb o e).2
      cases b with
      | false => simp only [Bool.false_eq_true, if_false] at q9 ⊢; exact done I9 q9
      | true =>
        simp only [if_true] at q9 ⊢
        refine thnF (pe.run _ s9 σ8 H9 _ I9 q9) fun z s10 ⟨yv, H10, I10, r10, k, S0, n0, ey, at10, few10, nx⟩ => ?_
        subst ey
        obtain ⟨tk, rfl⟩ := (show ∃ t, z = Value.int k t from r10)
        exact memb_in (X := X.blk s3 H3 scope ce fp) I10 at10 few10 fun s11 I11 => done I11 nx
  exact codeAny_compStart_set loop (T.self X.A 0 _ _ _ st4 loop)
theorem pe_si {elt tg iter : Expr} {ifs : List Expr} {scope : Scope} {own : List (PySem.Str × Nat)} {pos : Pos} {wi : TI} {g : TG} {tt : TT} {te : TE} (calm : X.calm = true) (nd : X.N.Nodup) (over : PI X tg iter wi) (ok : BlkOk X.N X.env.scope scope own)
    (toG : ∀ (s : Shared) (H : Hp) (C : Addr) (cl : List (PySem.Str × Addr)) (fp : List Addr), PG (X.blk s H scope (compEnvC scope cl C X.env) fp) tg g)
    (toT : ∀ (s : Shared) (H : Hp) (C : Addr) (cl : List (PySem.Str × Addr)) (fp : List Addr), PTs (X.blk s H scope (compEnvC scope cl C X.env) fp) ifs tt)
    (toE : ∀ (s : Shared) (H : Hp) (C : Addr) (cl : List (PySem.Str × Addr)) (fp : List Addr), PE (X.blk s H scope (compEnvC scope cl C X.env) fp) elt te)
    (plain : ∀ x, foldedSetIterable iter X.env x = pure x := by intro _; rfl) : PE X (.SetComp elt [⟨tg, iter, ifs, 0⟩] scope pos) (tSi X.w wi g tt te (own.map (·.2))) :=
  ⟨fun pins s σ H Q I h => by
    rw [eval_SetComp]
    exact si_run calm nd I over ok toG toT toE plain h fun D C s' m H' I' q hn ⟨f0, f1, f2, f3, f4, f5⟩ => ⟨m, hn, fun h'' sb => ⟨.ref D, H', I'.turned (t' := s'.toks) (fun b o hb e => (sb.2 b hb).trans e) f0 f1 f3 f4 f5, rfl, q⟩⟩⟩
end
end L2
namespace DL
open PySem PySem.Spec L2
def insU (k : Int) : List Int → List Int
  | [] => [k]
  | a :: r => if k < a then k :: a :: r else if k = a then a :: r else a :: insU k r
def srtI (ks : List Int) : List Int := ks.foldl (fun acc k => insU k acc) []
theorem mem_insU {k x : Int} : ∀ {l : List Int}, x ∈ insU k l ↔ x = k ∨ x ∈ l
  | [] => by simp [insU]
  | a :: r => by
    unfold insU
    split
    · simp
    · split
      · rename_i e
        subst e
        simp
      · simp only [List.mem_cons, mem_insU (l := r)]
        exact ⟨fun h => by rcases h with h | h | h <;> simp [h], fun h => by rcases h with h | h | h <;> simp [h]⟩
theorem pw_insU {k : Int} : ∀ {l : List Int}, l.Pairwise (· < ·) → (insU k l).Pairwise (· < ·)
  | [], _ => List.pairwise_singleton _ _
  | a :: r, h => by
    unfold insU
    have ha := List.pairwise_cons.mp h
    split
    · rename_i hk
      refine List.pairwise_cons.mpr ⟨fun z hz => ?_, h⟩
      rcases List.mem_cons.mp hz with rfl | hz
      · exact hk
      · exact Int.lt_trans hk (ha.1 z hz)
    · split
      · exact h
      · refine List.pairwise_cons.mpr ⟨fun z hz => ?_, pw_insU ha.2⟩
        rcases mem_insU.mp hz with rfl | hz
        · omega
        · exact ha.1 z hz
theorem len_insU {k : Int} : ∀ {l : List Int}, l.Pairwise (· < ·) → (insU k l).length = if k ∈ l then l.length else l.length + 1
  | [], _ => by simp [insU]
  | a :: r, h => by
    have ha := List.pairwise_cons.mp h
    unfold insU
    split
    · rename_i hk
      have : k ∉ a :: r := fun z => by
        rcases List.mem_cons.mp z with rfl | z
        · omega
        · have := ha.1 k z
          omega
      rw [if_neg this]
      rfl
    · split
      · rename_i e
        subst e
        simp
      · rename_i n1 n2
        simp only [List.length_cons, len_insU ha.2, List.mem_cons, n2, false_or]
        split <;> rfl
theorem srtI_snoc (ks : List Int) (k : Int) : srtI (ks ++ [k]) = insU k (srtI ks) := by simp [srtI]
theorem pw_srtI (ks : List Int) : (srtI ks).Pairwise (· < ·) := by
  unfold srtI
  have : ∀ (ks acc : List Int), acc.Pairwise (· < ·) → (ks.foldl (fun acc k => insU k acc) acc).Pairwise (· < ·) := fun ks => by
    induction ks with
    | nil => exact fun _ h => h
    | cons k ks ih => exact fun acc h => ih _ (pw_insU h)
  exact this ks [] .nil
theorem len_srtI (ks : List Int) : (srtI ks).length ≤ ks.length := by
  unfold srtI
  have : ∀ (ks acc : List Int), acc.Pairwise (· < ·) → (ks.foldl (fun acc k => insU k acc) acc).length ≤ ks.length + acc.length := fun ks => by
    induction ks with
    | nil => simp
    | cons k ks ih =>
      intro acc h
      have h1 := ih (insU k acc) (pw_insU h)
      have h2 := len_insU (k := k) h
      simp only [List.foldl_cons, List.length_cons]
      split at h2 <;> omega
  exact this ks [] .nil
theorem pw_unique : ∀ {xs ys : List Int}, xs.Pairwise (· < ·) → ys.Pairwise (· < ·) → (∀ k, k ∈ xs ↔ k ∈ ys) → xs = ys
  | [], [], _, _, _ => rfl
  | [], y :: ys, _, _, h => by have := (h y).mpr List.mem_cons_self; cases this
  | x :: xs, [], _, _, h => by have := (h x).mp List.mem_cons_self; cases this
  | x :: xs, y :: ys, hx, hy, h => by
    have px := List.pairwise_cons.mp hx
    have py := List.pairwise_cons.mp hy
    have e : x = y := by
      rcases List.mem_cons.mp ((h x).mp List.mem_cons_self) with e | e
      · exact e
      · rcases List.mem_cons.mp ((h y).mpr List.mem_cons_self) with f | f
        · exact f.symm
        · have := px.1 y f
          have := py.1 x e
          omega
    subst e
    rw [pw_unique px.2 py.2 fun k => ?_]
    constructor
    · intro hk
      rcases List.mem_cons.mp ((h k).mp (List.mem_cons_of_mem _ hk)) with e | e
      · subst e; exact absurd (px.1 _ hk) (by omega)
      · exact e
    · intro hk
      rcases List.mem_cons.mp ((h k).mpr (List.mem_cons_of_mem _ hk)) with e | e
      · subst e; exact absurd (py.1 _ hk) (by omega)
      · exact e
def intsOf : List D → Option (List Int)
  | [] => some []
  | .int k :: ds => (intsOf ds).map (k :: ·)
  | _ :: _ => none
theorem intsOf_some : ∀ {ds : List D} {ks : List Int}, intsOf ds = some ks → ds = ks.map .int
  | [], ks, h => by cases h; rfl
  | d :: ds, ks, h => by
    cases d with
    | int k =>
      simp only [intsOf] at h
      cases hi : intsOf ds with
      | none => rw [hi] at h; cases h
      | some js => rw [hi] at h; cases h; rw [intsOf_some hi]; rfl
    | _ => simp [intsOf] at h
theorem rp_ints {K : PySem.W.Frag} (H : Hp) : ∀ ks : List Int, RpAll K H (ks.map V.int) (ks.map PyData.int)
  | [] => .nil
  | k :: ks => .cons (.int k) (rp_ints H ks)
def tU (w : World) (K : PySem.W.Frag) (C : Wd → Prop) (f : Ro → Option (List Int)) : TE := fun σ H Q => ∃ W ρ ks, C W ∧ SD K W σ ρ H ∧ f ρ = some ks ∧ ∀ a S H', Rw W H H' → W.J H' → H a = none → ¬ W.foot a → H' a = some (SetO w a S (srtI ks).length) → (∀ k, S k = true ↔ k ∈ srtI ks) → Q (.ref a) H'
abbrev DU (X : Cx) (C : Wd → Prop) (e : Expr) (f : Ro → Option (List Int)) : Prop := PE X e (tU X.w X.K C f)
def few (f : Ro → Option (List D)) : Ro → Option (List Int) := fun ρ => match f ρ with
  | some ds => if ds.length < 60 then intsOf ds else none
  | none => none
theorem few_some {f : Ro → Option (List D)} {ρ : Ro} {ks : List Int} (h : few f ρ = some ks) : f ρ = some (ks.map .int) ∧ ks.length < 60 := by
  unfold few at h
  split at h
  · rename_i ds hd
    split at h
    · rename_i hl
      have := intsOf_some h
      subst this
      exact ⟨hd, by simpa using hl⟩
    · cases h
  · cases h
section
variable {X : Cx} {C : Wd → Prop} {Ew : WX} {pos : Pos}
theorem t_si {w : World} {K : PySem.W.Frag} {vs us : List Nat} {F : Ro → Option (List D)} {B : D → Ro → Option Ro} {T : Ro → Option Bool} {e : Ro → Option D} (hC : CtxOk C) (hsub : ∀ i ∈ us, i ∈ vs) : ∀ σ H Q, tU w K C (few (lc vs F B T e)) σ H Q → tSi w (tI K C F) (tG K C us B) (tT K C T) (tD K C e) vs σ H Q := by
  rintro σ H Q ⟨W, ρ, kt, c, s, hfew, q⟩
  obtain ⟨hf, h60⟩ := few_some hfew
  unfold lc at hf
  split at hf
  · rename_i ds hds
    refine ⟨W, ρ, ds, c, s, hds, fun J H1 r1 j1 ok hz D0 hD => ?_⟩
    have s1 := s.next r1 j1
    have hD0 : ¬ W.foot D0 := s1.newF hD
    refine ⟨fun i m H' => ∃ (S : Int → Bool) (ks jr : List Int), W.J H' ∧ Rw W H1 H' ∧ H' D0 = some (SetO w D0 S (srtI ks).length) ∧ (∀ k, S k = true ↔ k ∈ srtI ks) ∧ lcL B T e (ds.drop i) (wipeR ρ vs) = some (jr.map .int) ∧ kt = ks ++ jr ∧ m = ds.length - i ∧ i ≤ ds.length,
      ⟨ds.length, fun _ => false, [], kt, W.same j1 (same_upd hD), Rw.of (same_upd hD), upd_same, fun k => by simp [srtI], by simpa using hf, rfl, by simp, Nat.zero_le _⟩, ?_⟩
    rintro i m H' ⟨S, ks, jr, j', r', hDl, hS, hrest, htot, rfl, hle⟩
    have v1 : Same (vw W σ ρ H1) H' := fun a o ea => by
      obtain ⟨n, e1⟩ := off_some ea
      exact r' a o (fun z => n (.inl z)) e1
    by_cases hlt : i < ds.length
    · right
      refine ⟨ok.go i H' hlt v1, fun H5 => ∃ (S : Int → Bool) (ks jr : List Int), W.J H5 ∧ Rw W H1 H5 ∧ H5 D0 = some (SetO w D0 S (srtI ks).length) ∧ (∀ k, S k = true ↔ k ∈ srtI ks) ∧ lcL B T e (ds.drop (i + 1)) (wipeR ρ vs) = some (jr.map .int) ∧ kt = ks ++ jr,
        fun H5 ⟨S, ks, jr, a1, a2, a3, a4, a5, a6⟩ => ⟨ds.length - (i + 1), by omega, S, ks, jr, a1, a2, a3, a4, a5, a6, rfl, hlt⟩, fun x H'' y => ?_⟩
      obtain ⟨sy, d, hd, hrp⟩ := ok.yld i H' x H'' hlt v1 y
      have hdrop : ds.drop i = d :: ds.drop (i + 1) := by
        obtain ⟨h1, h2⟩ := List.getElem?_eq_some_iff.mp hd
        rw [List.drop_eq_getElem_cons h1, h2]
      rw [hdrop] at hrest
      unfold lcL at hrest
      split at hrest
      · cases hrest
      · rename_i ρ1 hb1
        have r'' : Rw W H1 H'' := r'.trans (Rw.of sy)
        have j'' : W.J H'' := W.same j' sy
        have there' : ∀ a, lcQ σ ρ vs D0 a → H' a ≠ none := fun a z => by
          rcases z with z | z
          · rw [z, hDl]; exact fun w => by cases w
          · obtain ⟨l, fs, z1, z2⟩ := z.1
            obtain ⟨b, ys, w1, w2, _, w4⟩ := s1.ow l fs z1
            rw [z2] at w1
            have eab : a = b := by simpa using w1
            rw [eab, r' b _ w4 w2]
            exact fun w => by cases w
        have hq : ∀ a, lcQ σ ρ vs D0 a → H'' a ≠ none := fun a z => by
          cases hh : H' a with
          | none => exact absurd hh (there' a z)
          | some o => rw [sy a o hh]; exact fun w => by cases w
        obtain ⟨si, vi⟩ := s1.inner (vs := vs) r'' j'' hD hq
        generalize hW' : W.add (lcQ σ ρ vs D0) H'' hq = W' at si vi
        have foot' : ∀ a, W'.foot a ↔ (W.foot a ∨ lcQ σ ρ vs D0 a) := fun a => by rw [← hW']; exact Iff.rfl
        have J' : ∀ h, W'.J h ↔ (W.J h ∧ ∀ a, lcQ σ ρ vs D0 a → h a = H'' a) := fun h => by rw [← hW']; exact Iff.rfl
        have cW' : C W' := by
          rw [← hW']
          refine hC.add _ _ _ _ c (fun a z zf => ?_) fun a u z z3 fx => ?_
          rotate_left
          · rcases z with z | z
            · rw [z, sy _ _ hDl] at z3
              cases z3
              exact fx
            · obtain ⟨l, fs, z1, z2⟩ := z.1
              obtain ⟨b, ys, w1, w2, _, w4⟩ := s1.ow l fs z1
              rw [z2] at w1
              have eab : a = b := by simpa using w1
              rw [eab, r'' b _ w4 w2] at z3
              cases z3
              exact fx
          rcases z with z | z
          · exact hD0 (z ▸ zf)
          · obtain ⟨l, fs, z1, z2⟩ := z.1
            obtain ⟨b, ys, w1, _, _, w4⟩ := s1.ow l fs z1
            rw [z2] at w1
            have eab : a = b := by simpa using w1
            exact w4 (eab ▸ zf)
        have rp : Rp K (vw W' (wipe σ vs) (wipeR ρ vs) H'') x d := by
          refine hrp _ (fun a z => ?_) fun a o ea => ?_
          · rcases z with z | z
            · rcases (foot' a).mp z with z | z
              · exact W.there H' a j' z
              · exact there' a z
            · obtain ⟨l, fs, z1, z2⟩ := isOw_wipe z
              obtain ⟨b, ys, w1, w2, _, w4⟩ := s1.ow l fs z1
              rw [z2] at w1
              have eab : a = b := by simpa using w1
              rw [eab, r' b _ w4 w2]
              exact fun w => by cases w
          · obtain ⟨n1, _⟩ := off_some (vi a o ea)
            show off _ H' a = some o
            rw [off_neg n1]
            exact v1 a o ea
        refine ⟨W', wipeR ρ vs, d, ρ1, cW', si, rp, hb1, fun σ2 H2 t => ⟨by rw [t.wp vs hsub, wipe_wipe], ?_⟩⟩
        have q0 : ∀ a, lcQ σ ρ vs D0 a → ∀ h, W'.J h → h a = H'' a := fun a z h jh => ((J' h).mp jh).2 a z
        have keepV : ∀ H4, Rw W' H2 H4 → W'.J H4 → Rw W H1 H4 := fun H4 r4 j4 a o n e1 => by
          by_cases z : lcQ σ ρ vs D0 a
          · rw [q0 a z H4 j4]; exact r'' a o n e1
          · have n' : ¬ W'.foot a := fun w => ((foot' a).mp w).elim n z
            exact r4 a o n' (t.rw a o n' (r'' a o n e1))
        split at hrest
        · rename_i ht
          split at hrest
          · rename_i y' ys' he hr
            cases jr with
            | nil => cases hrest
            | cons k jr =>
            simp only [List.map_cons, Option.some.injEq, List.cons.injEq] at hrest
            obtain ⟨rfl, rfl⟩ := hrest
            refine ⟨W', ρ1, true, cW', t.sd, ht, fun H3 r3 j3 => iteT ?_⟩
            refine ⟨W', ρ1, _, cW', t.sd.next r3 j3, he, fun v H4 r4 j4 dp => ?_⟩
            cases dp
            have r24 := r3.trans r4
            have hD4 : H4 D0 = some (SetO w D0 S (srtI ks).length) := by rw [q0 D0 (.inl rfl) H4 j4]; exact sy _ _ hDl
            have hlk : ks.length < 60 := by rw [htot] at h60; simp at h60; omega
            have hnl : (srtI ks).length + 1 < scanBound := by have := len_srtI ks; unfold scanBound; omega
            have hins : (if S k = true then (srtI ks).length else (srtI ks).length + 1) = (srtI (ks ++ [k])).length := by
              rw [srtI_snoc, len_insU (pw_srtI ks)]
              simp only [hS]
            refine ⟨k, S, (srtI ks).length, rfl, hD4, hnl, fun j => S j || decide (j = k), ks ++ [k], jr, ?_, ?_, ?_, fun j => ?_, hr, by rw [htot]; simp⟩
            · refine W.stable H4 _ ((J' H4).mp j4).1 (fun a zs fx e1 => ?_) fun a o hf e1 => ?_
              · rw [upd_ne (fun z => by subst z; rw [hD4] at e1; cases e1; exact fx)]; exact e1
              · rw [upd_ne (fun z => hD0 (by rw [← z]; exact hf))]; exact e1
            · intro a o n e1
              rw [upd_ne (ne_of_none e1 hD)]
              exact keepV H4 r24 j4 a o n e1
            · rw [upd_same, hins]
            · rw [srtI_snoc, mem_insU, Bool.or_eq_true, decide_eq_true_eq, hS]
              exact ⟨Or.symm, Or.symm⟩
          · cases hrest
        · rename_i ht
          refine ⟨W', ρ1, false, cW', t.sd, ht, fun H3 r3 j3 => iteF ?_⟩
          exact ⟨S, ks, jr, ((J' H3).mp j3).1, keepV H3 r3 j3, by rw [q0 D0 (.inl rfl) H3 j3]; exact sy _ _ hDl, hS, hrest, htot⟩
        · cases hrest
    · left
      have ei : i = ds.length := by omega
      subst ei
      rw [List.drop_length] at hrest
      cases jr with
      | cons _ _ => cases hrest
      | nil =>
      rw [List.append_nil] at htot
      subst htot
      exact ⟨ok.stop H' v1, q D0 S H' (r1.trans r') j' (free_back r1 j1 hD) hD0 hDl hS⟩
  · cases hf
theorem du_sc {elt tg iter : Expr} {ifs : List Expr} {scope : Scope} {own : List (Str × Nat)} {us : List Nat} {F : Ro → Option (List D)} {B : D → Ro → Option Ro} {T : Ro → Option Bool} {e : Ro → Option D} (hC : CtxOk C) (hc : X.calm = true) (hN : X.N.Nodup) (hi : DI X C tg iter F)
    (ok : BlkOk X.N X.env.scope scope own) (hsub : ∀ i ∈ us, i ∈ own.map (·.2))
    (hg : ∀ (s : Shared) (H : Hp) (A : Addr) (cl : List (Str × Addr)) (fp : List Addr), DG (X.blk s H scope (compEnvC scope cl A X.env) fp) C tg us B)
    (ht : ∀ (s : Shared) (H : Hp) (A : Addr) (cl : List (Str × Addr)) (fp : List Addr), DTs (X.blk s H scope (compEnvC scope cl A X.env) fp) C ifs T)
    (he : ∀ (s : Shared) (H : Hp) (A : Addr) (cl : List (Str × Addr)) (fp : List Addr), DE (X.blk s H scope (compEnvC scope cl A X.env) fp) C elt e) (hs : ∀ x, foldedSetIterable iter X.env x = pure x := by intro _; rfl) :
    DU X C (.SetComp elt [⟨tg, iter, ifs, 0⟩] scope pos) (few (lc (own.map (·.2)) F B T e)) :=
  pe_imp (pe_si hc hN hi ok hg ht he hs) (t_si hC hsub)
def srtU (f : Ro → Option (List Int)) : Ro → Option (List D) := fun ρ => match f ρ with
  | some ks => if ks.length < 60 then some ((srtI ks).map .int) else none
  | none => none
theorem df_sortU {p : Pos} {e : Expr} {f : Ro → Option (List Int)} (hc : X.calm = true) (hg : Gl X "sorted") (hm : X.mg "sorted" = none) (ha : DU X C e f) (he : starEach [e] X.env = (false, eval e X.env) :: starEach [] X.env := by rfl) : DF X C (.Call (.Name "sorted" p) [e] [] pos) (srtU f) :=
  pe_imp (pe_callB (cr_sortedSet hc) hg hm PyProof.Rows.boot_sorted (pa_cons ha pa_nil he) (by decide) (by decide) he rfl) fun σ H Q ⟨W, ρ, z, c, s, hf, q⟩ => by
    unfold srtU at hf
    cases hr : f ρ with
    | none => rw [hr] at hf; cases hf
    | some ks =>
      rw [hr] at hf
      simp only at hf
      split at hf
      · rename_i hl
        cases hf
        have hlen := len_srtI ks
        refine ⟨W, ρ, ks, c, s, hr, fun a S H1 r1 j1 hn hnf ha hS => ⟨a, S, _, rfl, ha, by omega, fun ns p' hpw hmem hnl hp => ?_⟩⟩
        have ens : ns = srtI ks := pw_unique hpw (pw_srtI ks) fun k => (hmem k).trans (hS k)
        subst ens
        have sm : Same H1 (upd H1 p' (.lst ((srtI ks).map V.int))) := same_upd hp
        have hp0 := free_back r1 j1 hp
        refine q p' _ _ (r1.trans (Rw.of sm)) (W.same j1 sm) hp0 ((s.next r1 j1).newF hp) upd_same ?_
        exact rp_ints _ _
      · cases hf
end
end DL
namespace DL
open PySem PySem.Spec L2
def insB {α : Type} (le : α → α → Bool) (x : α) : List α → List α
  | [] => [x]
  | y :: r => if le x y = true then x :: y :: r else y :: insB le x r
def isrt {α : Type} (le : α → α → Bool) (l : List α) : List α := l.foldr (insB le) []
theorem insB_at {α : Type} {le : α → α → Bool} {x : α} : ∀ {l1 l2 : List α}, (∀ b ∈ l1, (!le x b) = true) → (∀ b ∈ l2, le x b = true) → insB le x (l1 ++ l2) = l1 ++ x :: l2
  | [], [], _, _ => rfl
  | [], y :: r, _, h => by
    show insB le x (y :: r) = x :: y :: r
    rw [insB, if_pos (h y List.mem_cons_self)]
  | y :: r, l2, h, h2 => by
    have hy := h y List.mem_cons_self
    show insB le x (y :: (r ++ l2)) = y :: (r ++ x :: l2)
    rw [insB, if_neg (by simpa using hy), insB_at (fun b hb => h b (List.mem_cons_of_mem _ hb)) h2]
theorem merge_isrt {α : Type} {le : α → α → Bool} (trans : ∀ a b c : α, le a b = true → le b c = true → le a c = true) (total : ∀ a b : α, (le a b || le b a) = true) : ∀ l : List α, l.mergeSort le = isrt le l
  | [] => by simp [isrt]
  | a :: l => by
    obtain ⟨l1, l2, h1, h2, h3⟩ := List.mergeSort_cons trans total a l
    have hp : (l1 ++ a :: l2).Pairwise (fun a b => le a b = true) := h1 ▸ List.pairwise_mergeSort (le := le) trans total (a :: l)
    have hp2 := List.pairwise_cons.mp (List.pairwise_append.mp hp).2.1
    rw [h1]
    show _ = insB le a (isrt le l)
    rw [← merge_isrt trans total l, h2, insB_at h3 hp2.1]
abbrev leD : D → D → Bool := PySem.W.dataLe false fun d => d
theorem leD_tot : (∀ a b c : D, leD a b = true → leD b c = true → leD a c = true) ∧ ∀ a b : D, (leD a b || leD b a) = true := by
  have t := PySem.W.sortLe_total (PyProof.Rows.listOrd PyProof.Rows.itemOrd) false fun d : D => PySem.W.keyToks d
  exact ⟨t.trans, fun a b => by rw [Bool.or_eq_true]; exact t.total a b⟩
def srtOk (ds : List D) : Bool := ds.all (fun d => ds.all (PySem.W.alike d)) && ((ds.all fun d => match d with
    | .tuple (_ :: _) => true
    | _ => false) || ds.all fun d => match d with
    | .tuple _ => false
    | .none => false
    | _ => true) && ds.all fun d => SeqAt.shaped d && decide (d.depth ≤ 60)
def sortD (ds : List D) : Option (List D) := if srtOk ds = true then some (isrt leD ds) else none
theorem sortD_some {ds es : List D} (h : sortD ds = some es) : PySem.W.AllAlike ds ∧ PySem.W.Sortable ds ∧ (∀ d ∈ ds, SeqAt.shaped d = true ∧ d.depth ≤ 60) ∧ es = ds.mergeSort leD := by
  unfold sortD at h
  split at h
  · rename_i ho
    cases h
    unfold srtOk at ho
    simp only [Bool.and_eq_true, Bool.or_eq_true, List.all_eq_true, decide_eq_true_eq] at ho
    obtain ⟨⟨h1, h2⟩, h3⟩ := ho
    refine ⟨h1, ?_, h3, (merge_isrt leD_tot.1 leD_tot.2 ds).symm⟩
    rcases h2 with h2 | h2
    · refine .inl fun d hd => ?_
      have := h2 d hd
      split at this
      · exact ⟨_, _, rfl⟩
      · cases this
    · refine .inr fun d hd => ?_
      have := h2 d hd
      split at this
      · cases this
      · cases this
      · rename_i n1 n2
        exact ⟨fun e => n2 e, fun xs e => n1 xs e⟩
  · cases h
end DL
namespace L2
open PySem PySem.Spec PyProof.Rows DL
section
variable {X : Cx}
def RepV (K : PySem.W.Frag) (H : Hp) (u : Value) (d : PyData) : Prop := ∃ v, RelV v u ∧ Rp K H v d
theorem rep_each {K : PySem.W.Frag} {H : Hp} : ∀ {vs : List V} {us : List Value} {ds : List PyData}, Vals vs us → RpAll K H vs ds → PySem.W.EachIs (RepV K H) us ds
  | _, _, _, .nil, .nil => .nil
  | _, _, _, .cons r rs, .cons h hs => .cons ⟨_, r, h⟩ (rep_each rs hs)
theorem each_rep {K : PySem.W.Frag} {H : Hp} : ∀ {us : List Value} {ds : List PyData}, PySem.W.EachIs (RepV K H) us ds → ∃ vs, Vals vs us ∧ RpAll K H vs ds
  | _, _, .nil => ⟨[], .nil, .nil⟩
  | _, _, .cons ⟨v, r, h⟩ t => by
    obtain ⟨vs, rs, hs⟩ := each_rep t
    exact ⟨v :: vs, .cons r rs, .cons h hs⟩
def rSortD (K : PySem.W.Frag) : List V → Hp → VK → Prop := fun vs H Q => ∃ (p : Addr → Prop) (a : Addr) (xs : List V) (ds es : List PyData), vs = [V.ref a] ∧ Rd H a (.lst xs) ∧ RpAll K (off p H) xs ds ∧ DL.sortD ds = some es ∧
  ∀ (ys : List V) (q : Addr), RpAll K (off p H) ys es → H q = none → Q (.ref q) (upd H q (.lst ys))
theorem each_reads {pins : List (Addr × Obj)} {σ : St} {H : Hp} {s : Shared} {p : Addr → Prop} (I : Inv X pins σ H s) : ∀ {us : List Value} {ds : List PyData}, PySem.W.EachIs (RepV X.K (off p H)) us ds → (∀ d ∈ ds, d.canLay0 = true) → PySem.W.EachIs (fun v b => ∃ as, Reads s.heap v b as) us ds
  | _, _, .nil, _ => .nil
  | _, _, .cons ⟨v, r, h⟩ t, hc => .cons (Dp.reads I _ v _ ((h.mono off_sub).dp (hc _ List.mem_cons_self)) r) (each_reads I t fun d hd => hc d (List.mem_cons_of_mem _ hd))
theorem cr_sortData (hu : X.A.units + 65 < cLine) : CallR X (.builtin "sorted") (rSortD X.K) := by
  intro pins s σ H vs us Q I r h
  obtain ⟨p, a, xs, ds, es, rfl, ha, hx, hs, q⟩ := h
  obtain ⟨hal, hk, hsh, rfl⟩ := DL.sortD_some hs
  obtain ⟨its, rv, hl, hz⟩ := I.list (.inl ha)
  have ea := rep_each rv hx
  have er := each_reads I ea fun d hd => SeqAt.canLay_of_shaped (hsh d hd).1
  have e1 : (ds.map fun d => d) = ds := List.map_id' ds
  have hlen : ds.length ≤ sizeLine := by rw [← hx.length]; exact hz
  rw [Vals.ref1 r]
  refine PySem.W.sorted_data (enc := fun d => d) (R := RepV X.K (off p H)) hl.isList ea er (by rw [e1]; exact hal) (by rw [e1]; exact hk) hlen (fun d hd => by have := (hsh d hd).2; omega) fun out ho eo => ?_
  obtain ⟨ys, ry, hy⟩ := each_rep eo
  obtain ⟨ep, he'⟩ := PyProof.Rows.sortedAll_at s.heap its out.toArray
  have hly : ys.length ≤ sizeLine := by rw [hy.length, List.length_mergeSort]; exact hlen
  exact ⟨.ref _, upd H (s.heap.objs.size + 1) (.lst ys), I.laid (t' := s.toks) (fun _ _ => PyProof.Rows.sortedAll_old) (Nat.le_succ _) ⟨hly, out, ep, ry, he'⟩, rfl, q ys _ hy (I.hok.fresh (Nat.le_succ _))⟩
end
end L2
namespace DL
open PySem PySem.Spec L2
def tQ (K : PySem.W.Frag) (C : Wd → Prop) (f : Ro → Option (List D)) : TE := fun σ H Q => ∃ W ρ ds, C W ∧ SD K W σ ρ H ∧ f ρ = some ds ∧ ∀ a xs H', Rw W H H' → W.J H' → Rd (off W.foot H') a (.lst xs) → RpAll K (vw W σ ρ H') xs ds → Q (.ref a) H'
abbrev DQ (X : Cx) (C : Wd → Prop) (e : Expr) (f : Ro → Option (List D)) : Prop := PE X e (tQ X.K C f)
section
variable {X : Cx} {C : Wd → Prop} {Ew : WX} {pos p : Pos} {e : Expr} {f : Ro → Option D} {g : Ro → Option (List D)}
theorem dq_own (i : Nat) {x : Str} (hN : X.N[i]? = some x := by rfl) (hv : Vis X.env.scope x := by first | exact Or.inl rfl | exact Or.inr (Or.inl rfl) | exact Or.inr (Or.inr rfl)) (hd : (x == ("__debug__" : Str)) = false := by decide)
    (hcd : (x == ("__classdict__" : Str)) = false := by decide) : DQ X C (.Name x pos) (rdO i) :=
  pe_imp (pe_var (i := i) hN hv hd hcd) fun σ H Q ⟨W, ρ, d, c, s, hf, q⟩ => by
    obtain ⟨a, xs, h1, h2, h3, h4⟩ := s.ow i d (rdO_some hf)
    exact ⟨_, h1, q a xs H (Rw.refl _ _) s.j (Rd.of (by rw [off_neg h4]; exact h2)) h3⟩
def srtL (g : Ro → Option (List D)) : Ro → Option (List D) := fun ρ => (g ρ).bind sortD
theorem df_sortD (hu : X.A.units + 65 < cLine) (hg : Gl X "sorted") (hm : X.mg "sorted" = none) (ha : DQ X C e g) (he : starEach [e] X.env = (false, eval e X.env) :: starEach [] X.env := by rfl) : DF X C (.Call (.Name "sorted" p) [e] [] pos) (srtL g) :=
  pe_imp (pe_callB (cr_sortData hu) hg hm PyProof.Rows.boot_sorted (pa_cons ha pa_nil he) (by decide) (by decide) he rfl) fun σ H Q ⟨W, ρ, es, c, s, hf, q⟩ => by
    unfold srtL at hf
    cases hr : g ρ with
    | none => rw [hr] at hf; cases hf
    | some ds =>
      rw [hr] at hf
      refine ⟨W, ρ, ds, c, s, hr, fun a xs H1 r1 j1 ha hx => ⟨fun b => W.foot b ∨ isOw σ ρ b, a, xs, ds, es, rfl, ha.mono off_sub, hx, hf, fun ys l hy nl => ?_⟩⟩
      refine q l ys _ (r1.trans (Rw.of (same_upd nl))) (W.same j1 (same_upd nl)) (free_back r1 j1 nl) ((s.next r1 j1).newF nl) upd_same (hy.mono (off_mono (fun a o e z => ?_) fun b u _ e => same_upd nl b u e))
      rcases z with z | z
      · exact z
      · subst z; rw [nl] at e; cases e
end
end DL
namespace DL
open PySem PySem.Spec L2
theorem SD.freeze {K : PySem.W.Frag} {W : Wd} {σ : L2.St} {ρ : Ro} {H : Hp} {i : Nat} {ds : List D} (s : SD K W σ ρ H) (hi : ρ[i]? = some (.ow ds)) : SD K W σ (ρ.set i (.sh (.list ds))) H ∧ Same (vw W σ ρ H) (vw W σ (ρ.set i (.sh (.list ds))) H) := by
  obtain ⟨hlt, _⟩ := List.getElem?_eq_some_iff.mp hi
  obtain ⟨a, xs, h1, h2, h3, h4⟩ := s.ow i ds hi
  have get : ∀ (j : Nat) (cl : Cel), (ρ.set i (.sh (.list ds)))[j]? = some cl → (j = i ∧ cl = .sh (.list ds)) ∨ (j ≠ i ∧ ρ[j]? = some cl) := fun j cl e => by
    by_cases hj : i = j
    · subst hj
      rw [List.getElem?_set_self hlt] at e
      exact .inl ⟨rfl, (Option.some.inj e).symm⟩
    · rw [List.getElem?_set_ne hj] at e
      exact .inr ⟨fun z => hj z.symm, e⟩
  have less : ∀ b, isOw σ (ρ.set i (.sh (.list ds))) b → isOw σ ρ b := fun b ⟨j, es, e1, e2⟩ => by
    rcases get j _ e1 with ⟨_, z⟩ | ⟨_, z⟩
    · cases z
    · exact ⟨j, es, z, e2⟩
  have hv : Same (vw W σ ρ H) (vw W σ (ρ.set i (.sh (.list ds))) H) := off_mono (fun b o _ z => z.imp id (less b)) fun _ _ _ e => e
  have free : vw W σ (ρ.set i (.sh (.list ds))) H a = H a := off_neg fun z => by
    rcases z with z | ⟨j, es, e1, e2⟩
    · exact h4 z
    · rcases get j _ e1 with ⟨_, z⟩ | ⟨hj, z⟩
      · cases z
      · exact hj (s.inj j i es ds a z hi e2 h1)
  refine ⟨⟨s.j, fun j d e => ?_, fun j es e => ?_, fun j l es fs b e1 e2 e3 e4 => ?_, fun j v e => ?_, fun j e => ?_, by rw [List.length_set]; exact s.len⟩, hv⟩
  · rcases get j _ e with ⟨rfl, z⟩ | ⟨_, z⟩
    · cases z
      exact ⟨.ref a, h1, .lst (Rd.of (free.trans h2)) (h3.mono hv)⟩
    · obtain ⟨v, e1, e2⟩ := s.sh j d z
      exact ⟨v, e1, e2.mono hv⟩
  · rcases get j _ e with ⟨_, z⟩ | ⟨_, z⟩
    · cases z
    · obtain ⟨b, ys, e1, e2, e3, e4⟩ := s.ow j es z
      exact ⟨b, ys, e1, e2, e3.mono hv, e4⟩
  · rcases get j _ e1 with ⟨_, z⟩ | ⟨_, z1⟩
    · cases z
    · rcases get l _ e2 with ⟨_, z⟩ | ⟨_, z2⟩
      · cases z
      · exact s.inj j l es fs b z1 z2 e3 e4
  · rcases get j _ e with ⟨_, z⟩ | ⟨_, z⟩
    · cases z
    · exact s.op j v z
  · rcases get j _ e with ⟨_, z⟩ | ⟨_, z⟩
    · cases z
    · exact s.exn j z
section
variable {X : Cx} {C : Wd → Prop} {Ew : WX}
theorem dss_frz (i : Nat) {sts : List Stmt} {g : Ro → Option Out} (h : DSs X C Ew sts g) : DSs X C Ew sts (sq (frz i) g) := pss_imp h fun E σ H ⟨W, ρ, o, c, s, hg, q⟩ => by
  unfold sq at hg
  cases he : frz i ρ with
  | none => rw [he] at hg; cases hg
  | some o1 =>
    unfold frz at he
    split at he
    · rename_i ds hi
      cases he
      obtain ⟨s', vv⟩ := SD.freeze s hi
      have e2 : frz i ρ = some (.nx (ρ.set i (.sh (.list ds)))) := by unfold frz; rw [hi]
      rw [e2] at hg
      exact ⟨W, _, o, c, s', hg, q.on vv⟩
    · cases he
end
end DL
namespace L2
open PySem PySem.Spec PyProof.Rows
def unbound (i : Nat) (D : Ends) : Ends := { nx := fun σ' H' => D.nx (σ'.set i none) H', rt := D.rt, bk := fun σ' H' => D.bk (σ'.set i none) H', ct := fun σ' H' => D.ct (σ'.set i none) H' }
def wAll (K : PySem.W.Frag) (i : Nat) (Wout : WX) (D : Ends) : List (Value × (Addr → Value → Option Addr → TS)) → WX
  | [] => Wout
  | (c, ts) :: r => fun cls d σ H => ∃ b, PySem.W.exmOne K cls c = some b ∧ (b = true → ∀ a, H a = none → ts a cls d (unbound i D) (σ.set i (some (.ref a))) H) ∧ (b = false → wAll K i Wout D r cls d σ H)
inductive HdsAs (X : Cx) (n : Str) : List ExceptHandler → List (Value × (Addr → Value → Option Addr → TS)) → Prop
  | nil : HdsAs X n [] []
  | cons {x : Str} {c : Value} {ts : Addr → Value → Option Addr → TS} {b₀ : Stmt} {suite : List Stmt} {np pos' : Pos} {hds : List ExceptHandler} {l : List (Value × (Addr → Value → Option Addr → TS))} (name : Names X x c)
      (inside : ∀ (a : Addr) (oe : Obj) (cls : Value) (d : Option Addr) (pn : List (Addr × Obj)), Zc cls d oe → (∃ vs, oe.data = .fields vs) → PSs (X.suite a ((a, oe) :: pn)) (b₀ :: suite) (ts a cls d)) (r : HdsAs X n hds l) :
      HdsAs X n (.ExceptHandler (some (.Name x np)) (some n) (b₀ :: suite) pos' :: hds) ((c, ts) :: l)
end L2
namespace DL
open PySem PySem.Spec L2
def handM (i : Nat) : List ((Str → Bool) × (Exn → Ro → Option Out)) → Exn → Ro → Option Out
  | [], x, ρ => some (.ex x ρ)
  | (sub, h) :: r, x, ρ => if sub x.cls = true then (if chkL x = true ∧ noX ρ = true ∧ isUn ρ i = true then catchS i (h x (ρ.set i .exn)) else none) else handM i r x ρ
section
variable {X : Cx} {C : Wd → Prop} {Ew : WX} {pos : Pos}
theorem exc_suite (hC : CtxEx C) {W : Wd} {ρ1 : Ro} {σ1 : L2.St} {H1 V0 : Hp} {y : Exn} {i : Nat} {h : Ro → Option Out} {E : Ends} {o : Out} (c : C W) (s1 : SD X.K W σ1 ρ1 H1) (v1 : Same V0 (vw W σ1 ρ1 H1)) (hat : chkL y = true) (hnx : noX ρ1 = true) (hun : isUn ρ1 i = true)
    (hgo : catchS i (h (ρ1.set i .exn)) = some o) (q : EndOk X.K W Ew V0 E o) : ExcAt X.K W y H1 (fun _ d H'' => ∀ a, H'' a = none → tS X.K (CS C X.K a d y) EF h (unbound i E) (σ1.set i (some (.ref a))) H'') := by
  have core : ∀ (Wx : Wd) (a : Addr) (d : Option Addr), C Wx → LineOk X.K (Wx.exc a) d y → SD X.K Wx σ1 ρ1 H1 →
      (∀ σ2 ρ2 H2, SD X.K Wx σ2 ρ2 H2 → SD X.K W σ2 ρ2 H2 ∧ (Same (vw Wx σ1 ρ1 H1) (vw Wx σ2 ρ2 H2) → Same (vw W σ1 ρ1 H1) (vw W σ2 ρ2 H2))) →
      (∀ H2, Wx.J H2 → W.J H2 ∧ (Same (vw Wx σ1 ρ1 H1) (off Wx.foot H2) → Same (vw W σ1 ρ1 H1) (off W.foot H2)) ∧ Same (off Wx.foot H2) (off W.foot H2)) →
      tS X.K (CS C X.K a d y) EF h (unbound i E) (σ1.set i (some (.ref a))) H1 := by
    intro Wx a d cx lo sx un unR
    obtain ⟨sx2, vx2⟩ := (sx.exc a hnx).set (i := i) (cl := .exn) (v := .ref a) (fun _ z => nomatch z) (fun _ z => nomatch z) (fun _ z => nomatch z) (fun _ => rfl)
    have vx2' : Same (vw Wx σ1 ρ1 H1) (vw (Wx.exc a) (σ1.set i (some (.ref a))) (ρ1.set i .exn) H1) := vx2
    unfold catchS at hgo
    split at hgo
    · rename_i ρ2 hh
      split at hgo
      · rename_i hchk2
        cases hgo
        refine ⟨Wx.exc a, ρ1.set i .exn, _, ⟨hC.exc _ _ cx, rfl, lo⟩, sx2, hh, fun σ2 H2 s2 v2 => ?_⟩
        obtain ⟨s3, v3⟩ := s2.unset (i := i)
        have s4 := s3.unexc hchk2
        obtain ⟨s5, v5⟩ := un _ _ _ s4
        exact q _ _ s5 (v1.trans (v5 ((vx2'.trans v2).trans v3)))
      · cases hgo
    · rename_i dd hh
      cases hgo
      refine ⟨Wx.exc a, ρ1.set i .exn, _, ⟨hC.exc _ _ cx, rfl, lo⟩, sx2, hh, fun v H2 j2 v2 rp => ?_⟩
      obtain ⟨j3, v3, v4⟩ := unR H2 j2
      exact q v H2 j3 (v1.trans (v3 (vx2'.trans v2))) (rp.mono v4)
    · cases hgo
  unfold ExcAt
  split
  · rename_i hl
    intro a na
    exact core W a none c (by unfold LineOk; rw [hl]) s1 (fun _ _ _ s2 => ⟨s2, fun z => z⟩) (fun _ j2 => ⟨j2, fun z => z, Same.refl _⟩)
  · rename_i z hl
    intro dx v a1 a2 a3 a na
    have hqx : ∀ b, b = dx → H1 b ≠ none := fun b e => by rw [e, a1]; exact fun w => by cases w
    have haz : atom z = true := by unfold chkL at hat; rw [hl] at hat; exact hat
    have lineAt : ∀ H2, (W.add (fun b => b = dx) H1 hqx).J H2 → H2 dx = some (.xd [("line", v)]) := fun H2 j2 => by rw [j2.2 dx rfl]; exact a1
    have nw : ∀ b, ¬ (W.foot b ∨ b = dx) ∨ b = dx ∨ W.foot b := fun b => by
      by_cases hb1 : b = dx
      · exact .inr (.inl hb1)
      · by_cases hb2 : W.foot b
        · exact .inr (.inr hb2)
        · exact .inl fun w => w.elim hb2 hb1
    refine core (W.add (fun b => b = dx) H1 hqx) a (some dx) (hC.ok.add _ _ _ _ c (fun b e => by rw [e]; exact a2) fun b u e z fx => by rw [e, a1] at z; cases z; exact fx) ?_ (s1.addx a1 a2) (fun σ2 ρ2 H2 s2 => ⟨s2.unadd, fun sm b o eb => ?_⟩) (fun H2 j2 => ⟨j2.1, fun sm b o eb => ?_, off_mono (fun b o _ w => .inl w) fun _ _ _ e => e⟩)
    · unfold LineOk
      rw [hl]
      exact ⟨dx, v, rfl, fun H2 j2 => lineAt H2 j2, fun H2 => a3.atom haz⟩
    · obtain ⟨n1, e1⟩ := off_some eb
      rcases nw b with w | w | w
      · refine vw_unadd b o (sm b o ?_)
        rw [show vw (W.add (fun b => b = dx) H1 hqx) σ1 ρ1 H1 b = H1 b from off_neg fun w2 => w2.elim w fun w3 => n1 (.inr w3)]
        exact e1
      · subst w
        rw [a1] at e1
        cases e1
        have e2 := lineAt H2 s2.j
        rw [show vw W σ2 ρ2 H2 b = H2 b from off_neg fun w2 => w2.elim a2 fun ⟨l, es, z1, z2⟩ => ?_]
        · exact e2
        · obtain ⟨b', ys, w1, w2, _⟩ := s2.ow l es z1
          rw [z2] at w1
          have eab : b = b' := by simpa using w1
          rw [← eab, e2] at w2
          cases w2
      · exact absurd (.inl w) n1
    · obtain ⟨n1, e1⟩ := off_some eb
      rcases nw b with w | w | w
      · refine off_mono (p := (W.add (fun b => b = dx) H1 hqx).foot) (fun b o _ w => .inl w) (fun _ _ _ e => e) b o (sm b o ?_)
        rw [show vw (W.add (fun b => b = dx) H1 hqx) σ1 ρ1 H1 b = H1 b from off_neg fun w2 => w2.elim w fun w3 => n1 (.inr w3)]
        exact e1
      · subst w
        rw [a1] at e1
        cases e1
        rw [off_neg a2]
        exact lineAt H2 j2
      · exact absurd (.inl w) n1
inductive HdD (X : Cx) (C : Wd → Prop) (known : Exn → Bool) (n : Str) : List ExceptHandler → List ((Str → Bool) × (Exn → Ro → Option Out)) → List (Value × (Addr → Value → Option Addr → TS)) → Prop
  | nil : HdD X C known n [] [] []
  | cons {x : Str} {sub : Str → Bool} {h : Exn → Ro → Option Out} {b0 : Stmt} {suite : List Stmt} {np pos' : Pos} {hds : List ExceptHandler} {hs : List ((Str → Bool) × (Exn → Ro → Option Out))} {l : List (Value × (Addr → Value → Option Addr → TS))}
      (hc : Names X x (.ref (He.ga X.K x))) (hex : ∀ y : Exn, known y = true → PySem.W.exmOne X.K (.ref (He.ga X.K y.cls)) (.ref (He.ga X.K x)) = some (sub y.cls))
      (hsu : ∀ (a : Addr) (oe : Obj) (d : Option Addr) (y : Exn) (pn : List (Addr × Obj)), known y = true → Zc (.ref (He.ga X.K y.cls)) d oe → (∃ vs, oe.data = .fields vs) → DSs (X.suite a ((a, oe) :: pn)) (CS C X.K a d y) EF (b0 :: suite) (h y)) (r : HdD X C known n hds hs l) :
      HdD X C known n (.ExceptHandler (some (.Name x np)) (some n) (b0 :: suite) pos' :: hds) ((sub, h) :: hs) ((.ref (He.ga X.K x), fun a cls d E σ H => ∃ y : Exn, (known y = true ∧ cls = .ref (He.ga X.K y.cls)) ∧ tS X.K (CS C X.K a d y) EF (h y) E σ H) :: l)
theorem HdD.as {known : Exn → Bool} {n : Str} {hds : List ExceptHandler} {hs : List ((Str → Bool) × (Exn → Ro → Option Out))} {l : List (Value × (Addr → Value → Option Addr → TS))} (h : HdD X C known n hds hs l) : HdsAs X n hds l := by
  induction h with
  | nil => exact .nil
  | cons hc hex hsu r ih =>
    refine .cons hc (fun a oe cls d pn hz hv => pss_ex fun y ⟨h1, h2⟩ => ?_) ih
    subst h2
    exact hsu a oe d y pn h1 hz hv
theorem HdD.go (hC : CtxEx C) {known : Exn → Bool} {n : Str} {i : Nat} {W : Wd} {ρ1 : Ro} {σ1 : L2.St} {H1 V0 : Hp} {y : Exn} {E : Ends} {o : Out} (c : C W) (s1 : SD X.K W σ1 ρ1 H1) (v1 : Same V0 (vw W σ1 ρ1 H1)) (hkn : known y = true) (q : EndOk X.K W Ew V0 E o)
    {hds : List ExceptHandler} {hs : List ((Str → Bool) × (Exn → Ro → Option Out))} {l : List (Value × (Addr → Value → Option Addr → TS))} (h : HdD X C known n hds hs l) : handM i hs y ρ1 = some o → ExcAt X.K W y H1 (fun cls d H'' => wAll X.K i Ew E l cls d σ1 H'') := by
  induction h with
  | nil =>
    intro hgo
    cases hgo
    exact q σ1 H1 s1 v1
  | @cons x sub h b0 suite np pos' hds hs l hc hex hsu r ih =>
    intro hgo
    unfold handM at hgo
    split at hgo
    · rename_i hsub
      split at hgo
      · rename_i hchk
        refine ExcAt.imp (fun d p => ?_) (exc_suite hC c s1 v1 hchk.1 hchk.2.1 hchk.2.2 hgo q)
        exact ⟨true, by rw [hex y hkn, hsub], fun _ a na => ⟨y, ⟨hkn, rfl⟩, p a na⟩, fun z => Bool.noConfusion z⟩
      · cases hgo
    · rename_i hsub
      have hns : sub y.cls = false := by simpa using hsub
      exact ExcAt.imp (fun d p => ⟨false, by rw [hex y hkn, hns], fun z => Bool.noConfusion z, fun _ => p⟩) (ih hgo)
end
end DL
namespace L2
open PySem PySem.Spec PyProof.Rows
section
variable {X : Cx} {pins : List (Addr × Obj)} {σ : St} {H : Hp} {s : Shared}
mutual
theorem nk_is (I : Inv X pins σ H s) : ∀ {v : V} {d : PyData} {k : NestedKey} {u : Value}, Rp X.K H v d → nkD d = some k → RelV v u → NestedIs s.heap k u
  | _, _, _, _, .non, hk, hu => by
    simp only [nkD, Option.some.injEq] at hk
    subst hk
    cases (show _ = Value.none from hu)
    exact .none
  | _, _, _, _, .bl b, hk, hu => by simp [nkD] at hk
  | _, _, _, _, .int i, hk, hu => by
    simp only [nkD, Option.some.injEq] at hk
    subst hk
    obtain ⟨t, rfl⟩ := hu
    exact .int i t
  | _, _, _, _, .str x, hk, hu => by
    simp only [nkD, Option.some.injEq] at hk
    subst hk
    obtain ⟨t, rfl⟩ := hu
    exact .text x t
  | _, _, _, _, .lst h ha, hk, hu => by simp [nkD] at hk
  | _, _, _, _, .scr h, hk, hu => by simp [nkD] at hk
  | _, .tuple ds, k, _, .tup h ha, hk, hu => by
    cases hks : nkAll ds with
    | none => simp [nkD, hks] at hk
    | some ks =>
      simp only [nkD, hks, Option.some.injEq] at hk
      subst hk
      cases (show _ = Value.ref _ from hu)
      obtain ⟨its, r, ⟨o, ho, hc, n, hd⟩, _⟩ := I.tuple h
      exact .tup ho hc hd (by simpa using nkAll_is I ha hks r)
theorem nkAll_is (I : Inv X pins σ H s) : ∀ {vs : List V} {ds : List PyData} {ks : List NestedKey} {us : List Value}, RpAll X.K H vs ds → nkAll ds = some ks → Vals vs us → NestedAll s.heap ks us
  | _, _, _, _, .nil, hk, .nil => by
    simp only [nkAll, Option.some.injEq] at hk
    subst hk
    exact .nil
  | _, d :: ds, _, _, .cons h t, hk, .cons r rs => by
    cases hkd : nkD d with
    | none => simp [nkAll, hkd] at hk
    | some k =>
      cases hks : nkAll ds with
      | none => simp [nkAll, hkd, hks] at hk
      | some ks =>
        simp only [nkAll, hkd, hks, Option.some.injEq] at hk
        subst hk
        exact .cons (nk_is I h hkd r) (nkAll_is I t hks rs)
end
end
theorem NdP.keep {P : Program} {w : World} {d : Addr} {xs : List NEnt} : ∀ h1 h2 : Heap, NdP P w d xs h1 → (∀ o, h1.get? d = some o → h2.get? d = some o) → NdP P w d xs h2 := fun h1 h2 ⟨z, o, es, ep, e, r⟩ k => ⟨z, o, es, ep, k o e, r⟩
theorem nd_ok {P : Program} {w : World} {H : Hp} {h : Heap} {d : Addr} {xs : List NEnt} (n : NdP P w d xs h) : ObjOk P w H h d (NdO P w d xs) := ⟨n, let ⟨_, o, _, _, e, _⟩ := n; ⟨o, e⟩, NdP.keep⟩
def NdK (K : PySem.W.Frag) (H : Hp) (xs : List NEnt) : Prop := ∀ x ∈ xs, ∃ dk, Rp K H (.ref x.2.1) dk ∧ nkD dk = some x.1 ∧ x.1.depth ≤ 8
section
variable {X : Cx} {pins : List (Addr × Obj)} {σ : St} {H : Hp} {s : Shared} {d b : Addr} {xs : List NEnt} {dk : PyData} {k : NestedKey}
theorem nd_at (I : Inv X pins σ H s) (e : H d = some (NdO X.prog X.w d xs)) (hk : NdK X.K H xs) : (d == sysModules) = false ∧ s.heap.DictOfH (nestedKind X.prog X.w) d xs := by
  obtain ⟨⟨z, o, es, ep, h1, h2, h3, h4, h5⟩, _⟩ := I.hok d _ e
  refine ⟨z, o, es, ep, h1, h2, h3, h4, fun x hx => ?_, h5⟩
  obtain ⟨dk, r, nk, dp⟩ := hk x hx
  exact ⟨nk_is I r nk rfl, dp⟩
theorem nd_key (I : Inv X pins σ H s) (r : Rp X.K H (.ref b) dk) (nk : nkD dk = some k) (dp : k.depth ≤ 8) : (nestedKind X.prog X.w).is s.heap k b := ⟨nk_is I r nk rfl, dp⟩
theorem nd_room {A : Around} {P : Program} {w : World} (hu : A.units + 10 < cLine) : (nestedKind P w).room A.in1 := by
  show A.in1.units + 8 < cLine
  rw [Around.in1_units]
  omega
def rNdNot (K : PySem.W.Frag) (P : Program) (w : World) : V → V → Hp → VK → Prop := fun x y H Q => ∃ (b d : Addr) (xs : List NEnt) (dk : PyData) (k : NestedKey), x = .ref b ∧ y = .ref d ∧ H d = some (NdO P w d xs) ∧ NdK K H xs ∧ Rp K H (.ref b) dk ∧ nkD dk = some k ∧ k.depth ≤ 8 ∧ Q (.bl (!(atKey xs k).isSome)) H
theorem op_ndNot (hu : X.A.units + 10 < cLine) : OpR X (compareOp .NotIn) (rNdNot X.K X.prog X.w) := by
  intro pins s σ H x y v u Q I rx ry h
  obtain ⟨b, d, xs, dk, k, rfl, rfl, e, hk, r, nk, dp, q⟩ := h
  cases (show _ = Value.ref _ from rx)
  cases (show _ = Value.ref _ from ry)
  obtain ⟨hd, hm⟩ := nd_at I e hk
  show wpAny _ _ (do return Value.bool (!(← contains (.ref d) (.ref b)))) _ _ s
  exact wpAny_bind (wpAny_contains_heap (nd_room hu) (nd_key I r nk dp) hd hm (wpAny_pure ⟨.bl _, H, I.tok _, rfl, q⟩))
def tNdGet (K : PySem.W.Frag) (P : Program) (w : World) (td ty : TE) : TE := fun σ H Q => td σ H fun y H1 => ty σ H1 fun x H2 => ∃ (b d : Addr) (xs : List NEnt) (dk : PyData) (k : NestedKey) (p : Addr × Value) (v : V), x = .ref b ∧ y = .ref d ∧ H2 d = some (NdO P w d xs) ∧ NdK K H2 xs ∧ Rp K H2 (.ref b) dk ∧ nkD dk = some k ∧ k.depth ≤ 8 ∧ atKey xs k = some p ∧ RelV v p.2 ∧ Q v H2
theorem pe_ndGet {o i : Expr} {pos : Pos} {td ty : TE} (hu : X.A.units + 10 < cLine) (ho : PE X o td) (hi : PE X i ty) (hs : NoSl i) : PE X (.Subscript o i pos) (tNdGet X.K X.prog X.w td ty) := by
  refine ⟨fun pins s σ H Q I h => ?_⟩
  refine subD_of PySem.F.slot_dict_getitem.lookup hs (thn (ho.run pins s σ H _ I h) fun u s1 ⟨y, H1, I1, ry, q1⟩ => thn (hi.run pins s1 σ H1 _ I1 q1) fun iv s2 ⟨x, H2, I2, rx, b, d, xs, dk, k, p, v, ex, ey, e, hk, r, nk, dp, hp, rv, q2⟩ => ?_)
  subst ex ey
  cases (show _ = Value.ref _ from rx)
  cases (show _ = Value.ref _ from ry)
  obtain ⟨hd, hm⟩ := nd_at I2 e hk
  exact ⟨hm.typeIs, wpAny_getItem_heap (nd_room hu) (nd_key I2 r nk dp) hm hp ⟨v, H2, I2.tok _, rv, q2⟩⟩
def sNdPut (K : PySem.W.Frag) (P : Program) (w : World) (td ty tv : TE) : TS := fun D σ H => tv σ H fun v H1 => td σ H1 fun y H2 => ty σ H2 fun x H3 => ∃ (b d : Addr) (xs : List NEnt) (dk : PyData) (k : NestedKey), x = .ref b ∧ y = .ref d ∧ H3 d = some (NdO P w d xs) ∧ NdK K H3 xs ∧ Rp K H3 (.ref b) dk ∧ nkD dk = some k ∧ k.depth ≤ 8 ∧ xs.length ≤ sizeLine ∧ ∀ u, RelV v u → D.nx σ (upd H3 d (NdO P w d (storedH xs k b u)))
theorem ps_ndPut {o i value : Expr} {pos pos' : Pos} {td ty tv : TE} (hu : X.A.units + 10 < cLine) (ho : PE X o td) (hi : PE X i ty) (hv : PE X value tv) (hs : swapsWith value (some (.Subscript o i pos')) pos.line X.env = pure false) :
    PS X (.Assign [.Subscript o i pos'] value pos) (sNdPut X.K X.prog X.w td ty tv) := by
  refine ⟨fun pins s σ H D I h => ?_⟩
  refine wpAny_Assign_Subscript (thn (hv.run pins s σ H _ I h) fun r s1 ⟨v, H1, I1, rv, q1⟩ => thn (ho.run pins s1 σ H1 _ I1 q1) fun u s2 ⟨y, H2, I2, ry, q2⟩ => thn (hi.run pins s2 σ H2 _ I2 q2) fun iv s3 ⟨x, H3, I3, rx, b, d, xs, dk, k, ex, ey, e, hk, rp, nk, dp, hz, q3⟩ => ?_) hs
  subst ex ey
  cases (show _ = Value.ref _ from rx)
  cases (show _ = Value.ref _ from ry)
  obtain ⟨hd, hm⟩ := nd_at I3 e hk
  refine wpAny_setItem_heap (hsz := hz) (nd_room hu) (nd_key I3 rp nk dp) hm fun h' dd' hs' => ?_
  obtain ⟨q, es, ep, hq, h2, h3, h4, _, h5⟩ := dd'
  exact ⟨σ, _, d_write I3 (by rw [e]; exact True.intro) hs' ⟨q, hq⟩ (nd_ok ⟨hd, q, es, ep, hq, h2, h3, h4, h5⟩), q3 _ rv⟩
def tNdNew (P : Program) (w : World) : TE := fun _ H Q => ∀ p, H p = none → Q (.ref p) (upd H p (NdO P w p []))
theorem pe_ndNew {pos : Pos} : PE X (.Dict [] [] pos) (tNdNew X.prog X.w) := ⟨fun pins s σ H Q I h =>
  wpAny_Dict_empty ⟨.ref s.heap.objs.size, _, I.laid (a := s.heap.objs.size) (o := NdO X.prog X.w s.heap.objs.size []) (t' := s.toks) (fun _ _ q => Heap.get?_push_of_some _ q) (Nat.le_refl _)
    (nd_ok ⟨beq_eq_false_iff_ne.mpr (Ne.symm (Nat.ne_of_lt I.big)), _, #[], 0, Heap.get?_push_size _ rfl, ⟨rfl, rfl, rfl⟩, rfl, rfl, List.nodup_nil⟩), rfl, h _ (I.hok.fresh (Nat.le_refl _))⟩⟩
end
end L2
namespace DL
open PySem PySem.Spec L2
theorem tp_sub {H : Hp} : Same (tp H) H := fun a u e => (tp_some e).1
theorem tp_same {H H' : Hp} (s : Same H H') : Same (tp H) (tp H') := tp_mono fun a u _ e => s a u e
mutual
def tupD : D → Bool
  | .none => true
  | .bool _ => true
  | .int _ => true
  | .str _ => true
  | .tuple ds => tupAll ds
  | _ => false
def tupAll : List D → Bool
  | [] => true
  | d :: ds => tupD d && tupAll ds
end
theorem sqt_tp {K : PySem.W.Frag} {H : Hp} {a : Addr} {xs : List V} (h : SqT K H a xs) : SqT K (tp H) a xs := by
  rcases h with (h | ⟨o, h⟩) | h
  · exact .inl (.inl (tp_of trivial h))
  · exact .inl (.inr ⟨o, tp_of trivial h⟩)
  · exact .inr h
mutual
theorem rp_tp {K : PySem.W.Frag} {H : Hp} : ∀ {v : V} {d : D}, Rp K H v d → tupD d = true → Rp K (tp H) v d
  | _, _, .non, _ => .non
  | _, _, .bl b, _ => .bl b
  | _, _, .int i, _ => .int i
  | _, _, .str x, _ => .str x
  | _, _, .lst _ _, h => by simp [tupD] at h
  | _, _, .scr _, h => by simp [tupD] at h
  | _, _, .tup h ha, t => .tup (sqt_tp h) (rpAll_tp ha (by simpa [tupD] using t))
theorem rpAll_tp {K : PySem.W.Frag} {H : Hp} : ∀ {vs : List V} {ds : List D}, RpAll K H vs ds → tupAll ds = true → RpAll K (tp H) vs ds
  | _, _, .nil, _ => .nil
  | _, _, .cons h t, e => by
    have e' := Bool.and_eq_true_iff.mp (by simpa [tupAll] using e)
    exact .cons (rp_tp h e'.1) (rpAll_tp t e'.2)
end
theorem nkAll_ints : ∀ xs : List Int, nkAll (xs.map .int) = some (xs.map .num)
  | [] => by simp [nkAll]
  | x :: xs => by simp [nkAll, nkD, nkAll_ints xs]
theorem nkD_sk (rest : List Int) (many : Int) : nkD (skD rest many) = some (skKey rest many) := by simp [skD, skKey, nkD, nkAll, nkAll_ints]
theorem depth_nums : ∀ xs : List Int, NestedKey.depthAll (xs.map .num) ≤ 1
  | [] => by simp [NestedKey.depthAll]
  | x :: xs => by
    have := depth_nums xs
    simp only [List.map_cons, NestedKey.depthAll, NestedKey.depth]
    omega
theorem depth_sk (rest : List Int) (many : Int) : (skKey rest many).depth ≤ 8 := by
  have := depth_nums rest
  simp only [skKey, NestedKey.depth, NestedKey.depthAll]
  omega
theorem len_subG {α : Type} [DecidableEq α] : ∀ {xs ys : List α}, xs.Nodup → (∀ x ∈ xs, x ∈ ys) → xs.length ≤ ys.length
  | [], _, _, _ => Nat.zero_le _
  | x :: xs, ys, nd, h => by
    obtain ⟨a, b, rfl⟩ := List.append_of_mem (h x List.mem_cons_self)
    have nd' := List.nodup_cons.mp nd
    have := len_subG (ys := a ++ b) nd'.2 fun z hz => by
      have := h z (List.mem_cons_of_mem _ hz)
      simp only [List.mem_append, List.mem_cons] at this ⊢
      rcases this with m | rfl | m
      · exact .inl m
      · exact absurd hz nd'.1
      · exact .inr m
    simp only [List.length_cons, List.length_append] at this ⊢
    omega
def allKeys : List NestedKey := (subs8.map fun r => [0, 1, 2, 3, 4, 5, 6, 7, 8].map fun m : Int => skKey r m).flatten
theorem allKeys_len : allKeys.length ≤ 100000 := by decide +kernel
theorem key_all {rest : List Int} {many : Int} (h : okKey rest many = true) : skKey rest many ∈ allKeys := by
  unfold okKey at h
  rw [Bool.and_eq_true, decide_eq_true_eq, decide_eq_true_eq] at h
  refine List.mem_flatten.mpr ⟨_, List.mem_map.mpr ⟨rest, h.1, rfl⟩, List.mem_map.mpr ⟨many, ?_, rfl⟩⟩
  simp only [List.mem_cons, List.not_mem_nil, or_false]
  omega
theorem SkGood.keys {K : PySem.W.Frag} {R : List Int → Int → Option D} {H : Hp} {xs : List NEnt} (g : SkGood K R H xs) : NdK K H xs := fun x hx => by
  obtain ⟨rest, many, vv, dr, h1, h2, h3, h4, h5, h6⟩ := g.2 x hx
  exact ⟨_, h3, by rw [h2]; exact nkD_sk _ _, by rw [h2]; exact depth_sk _ _⟩
theorem SkGood.few {K : PySem.W.Frag} {R : List Int → Int → Option D} {H : Hp} {xs : List NEnt} (g : SkGood K R H xs) : xs.length ≤ sizeLine := by
  have h := len_subG (xs := xs.map (·.1)) (ys := allKeys) g.1 fun k hk => by
    obtain ⟨x, hx, rfl⟩ := List.mem_map.mp hk
    obtain ⟨rest, many, vv, dr, h1, h2, _⟩ := g.2 x hx
    rw [h2]
    exact key_all h1
  rw [List.length_map] at h
  have := allKeys_len
  rw [sizeLine_eq]
  omega
theorem atKey_none {xs : List NEnt} {k : NestedKey} (h : atKey xs k = none) : k ∉ xs.map (·.1) := fun z => by
  obtain ⟨x, hx, e⟩ := List.mem_map.mp z
  unfold atKey at h
  rw [Option.map_eq_none_iff, List.find?_eq_none] at h
  exact h x hx (by simp [e])
theorem SkGood.put {K : PySem.W.Frag} {R : List Int → Int → Option D} {H : Hp} {xs : List NEnt} (g : SkGood K R H xs) {rest : List Int} {many : Int} {b : Addr} {u : Value} {vv : V} {dr : D} (hk : okKey rest many = true) (hb : Rp K H (.ref b) (skD rest many)) (hu : RelV vv u) (hv : Rp K H vv dr) (hR : R rest many = some dr) :
    SkGood K R H (storedH xs (skKey rest many) b u) ∧ (atKey (storedH xs (skKey rest many) b u) (skKey rest many)).isSome = true := by
  cases ha : atKey xs (skKey rest many) with
  | none =>
    rw [storedH_new ha]
    refine ⟨⟨?_, fun x hx => ?_⟩, ?_⟩
    · rw [List.map_append, List.nodup_append]
      refine ⟨g.1, by simp, fun a h1 c h2 e => ?_⟩
      subst e
      simp only [List.map_cons, List.map_nil, List.mem_cons, List.not_mem_nil, or_false] at h2
      subst h2
      exact atKey_none ha h1
    · rcases List.mem_append.mp hx with hx | hx
      · exact g.2 x hx
      · simp only [List.mem_cons, List.not_mem_nil, or_false] at hx
        subst hx
        exact ⟨rest, many, vv, dr, hk, rfl, hb, hu, hv, hR⟩
    · unfold atKey
      rw [Option.isSome_map, List.find?_isSome]
      exact ⟨_, List.mem_append_right _ (List.mem_singleton.mpr rfl), by simp⟩
  | some p =>
    rw [storedH_old ha]
    have hkeys : (xs.map (putAt (skKey rest many) u)).map (·.1) = xs.map (·.1) := by
      rw [List.map_map]
      refine List.map_congr_left fun x _ => ?_
      show (putAt (skKey rest many) u x).1 = x.1
      unfold putAt
      split <;> rfl
    refine ⟨⟨by rw [hkeys]; exact g.1, fun x hx => ?_⟩, ?_⟩
    · obtain ⟨y, hy, rfl⟩ := List.mem_map.mp hx
      obtain ⟨rest', many', vv', dr', h1, h2, h3, h4, h5, h6⟩ := g.2 y hy
      unfold putAt
      split
      · rename_i e
        obtain ⟨e1, e2⟩ := sk_inj (h2.symm.trans e)
        subst e1 e2
        exact ⟨rest', many', vv, dr, hk, h2, h3, hu, hv, hR⟩
      · exact ⟨rest', many', vv', dr', h1, h2, h3, h4, h5, h6⟩
    · unfold atKey
      rw [Option.isSome_map, List.find?_isSome]
      have hm := atKey_mem ha
      refine ⟨_, List.mem_map.mpr ⟨_, hm, rfl⟩, ?_⟩
      unfold putAt
      simp
end DL
namespace DL
open PySem PySem.Spec L2
section
variable {K : PySem.W.Frag} {P : Program} {w : World} {Cc : Addr} {R : List Int → Int → Option D} {h a : D}
theorem Sk.tpF {W : Wd} (c : Sk K P w Cc R h a W) {H : Hp} (j : W.J H) : Same (tp H) (off W.foot H) := fun b u e => by
  obtain ⟨dx, d, vh, va, f1, f2, j', nf, up⟩ := c
  obtain ⟨e, f⟩ := tp_some e
  rw [off_neg fun z => nf H b u j z e f]
  exact e
theorem Sk.tpV {W : Wd} (c : Sk K P w Cc R h a W) {σ : L2.St} {ρ : Ro} {H : Hp} (s : SD K W σ ρ H) : Same (tp H) (vw W σ ρ H) := fun b u e => by
  obtain ⟨dx, d, vh, va, f1, f2, j', nf, up⟩ := c
  obtain ⟨e, f⟩ := tp_some e
  rw [show vw W σ ρ H b = H b from off_neg fun z => z.elim (fun z => nf H b u s.j z e f) fun ⟨i, ds, z1, z2⟩ => by
    obtain ⟨b', ys, w1, w2, _⟩ := s.ow i ds z1
    rw [z2] at w1
    have eb : b = b' := by simpa using w1
    rw [← eb, e] at w2
    cases w2
    exact f]
  exact e
end
def exAt (i : Nat) (d : D) : Ro → Option D := fun ρ => match ρ[i]? with
  | some .exn => some d
  | _ => none
section
variable {X : Cx} {Cc : Addr} {R : List Int → Int → Option D} {h a : D} {i : Nat} {x : Str} {p pos apos : Pos}
theorem de_hall (c : Cls X.K Cc) (n : NoAttr X.K Cc "hall") (hN : X.N[i]? = some x := by rfl) (hv : Vis X.env.scope x := by first | exact Or.inl rfl | exact Or.inr (Or.inl rfl) | exact Or.inr (Or.inr rfl)) (hd : (x == ("__debug__" : Str)) = false := by decide)
    (hcd : (x == ("__classdict__" : Str)) = false := by decide) (hb : attributeBase (.Name x p) "hall" X.env (eval (.Name x p) X.env) = eval (.Name x p) X.env := by rfl) : DE X (Sk X.K X.prog X.w Cc R h a) (.Attribute (.Name x p) "hall" pos) (exAt i h) :=
  pe_imp (pe_fld (pe_var (i := i) hN hv hd hcd) hb) fun σ H Q ⟨W, ρ, z, cw, s, hf, q⟩ => by
    unfold exAt at hf
    split at hf
    · rename_i e
      cases hf
      have sv := Sk.tpV cw s
      obtain ⟨dx, d, vh, va, f1, f2, j, nf, up⟩ := cw
      obtain ⟨h1, h2, h3, _⟩ := j H s.j
      exact ⟨.ref W.exa, s.exn i e, W.exa, Cc, dx, _, vh, rfl, h1, c, n, rfl, q vh H (Rw.refl _ _) s.j (h2.mono sv)⟩
    · cases hf
theorem de_aim (c : Cls X.K Cc) (n : NoAttr X.K Cc "aim") (hN : X.N[i]? = some x := by rfl) (hv : Vis X.env.scope x := by first | exact Or.inl rfl | exact Or.inr (Or.inl rfl) | exact Or.inr (Or.inr rfl)) (hd : (x == ("__debug__" : Str)) = false := by decide)
    (hcd : (x == ("__classdict__" : Str)) = false := by decide) (hb : attributeBase (.Name x p) "aim" X.env (eval (.Name x p) X.env) = eval (.Name x p) X.env := by rfl) : DE X (Sk X.K X.prog X.w Cc R h a) (.Attribute (.Name x p) "aim" pos) (exAt i a) :=
  pe_imp (pe_fld (pe_var (i := i) hN hv hd hcd) hb) fun σ H Q ⟨W, ρ, z, cw, s, hf, q⟩ => by
    unfold exAt at hf
    split at hf
    · rename_i e
      cases hf
      have sv := Sk.tpV cw s
      obtain ⟨dx, d, vh, va, f1, f2, j, nf, up⟩ := cw
      obtain ⟨h1, h2, h3, _⟩ := j H s.j
      exact ⟨.ref W.exa, s.exn i e, W.exa, Cc, dx, _, va, rfl, h1, c, n, rfl, q va H (Rw.refl _ _) s.j (h3.mono sv)⟩
    · cases hf
end
def callM (i : Nat) (F : List D → Option Res) (g : Ro → Option (List D)) : Ro → Option D := fun ρ => match ρ[i]? with
  | some .exn => callF F g ρ
  | _ => none
section
variable {X : Cx} {Cc : Addr} {R : List Int → Int → Option D} {h a : D} {i : Nat} {x : Str} {p pos apos : Pos} {e : Expr} {es : List Expr}
theorem de_meth {k : Nat} {F : List D → Option Res} {m : Str} {g : Ro → Option (List D)} {pl : Sem Bool} (FO : HasM X.prog X.w X.K X.mg X.base k Cc m (Sk X.K X.prog X.w Cc R h a) F) (c : Cls X.K Cc) (hr : Room k X.A) (ha : DA X (Sk X.K X.prog X.w Cc R h a) (e :: es) g)
    (hl : ∀ u v t : V, ([("hall", u), ("aim", v), ("known", t)] : List (Str × V)).lookup m = none := by intros; rfl)
    (hN : X.N[i]? = some x := by rfl) (hv : Vis X.env.scope x := by first | exact Or.inl rfl | exact Or.inr (Or.inl rfl) | exact Or.inr (Or.inr rfl)) (hd : (x == ("__debug__" : Str)) = false := by decide)
    (hcd : (x == ("__classdict__" : Str)) = false := by decide) (hst : starEach (e :: es) X.env = (false, eval e X.env) :: starEach es X.env := by rfl) (hpl : (backTo pos (starEach es X.env)).any (·.1) = false := by rfl)
    (ht : eval (.Call (.Attribute (.Name x p) m apos) (e :: es) [] pos) X.env = (do
      let ov ← eval (.Name x p) X.env
      standAt apos.atName
      let (f, first) ← holding [ov] (getMethod ov m pl)
      callWith pos f first (backTo pos (starEach (e :: es) X.env)) (backToKw pos (keywordEach [] X.env))) := by rfl) :
    DE X (Sk X.K X.prog X.w Cc R h a) (.Call (.Attribute (.Name x p) m apos) (e :: es) [] pos) (callM i F g) := by
  obtain ⟨fa, fd, ps, FO, hm, hb⟩ := FO
  exact pe_imp (pe_meth (pe_var (i := i) hN hv hd hcd) c hm FO hr hb .nil passL ha hst hpl ht) fun σ H Q ⟨W, ρ, z, cw, s, hf, q⟩ => by
    unfold callM at hf
    split at hf
    · rename_i e1
      obtain ⟨ds, h1, h2⟩ := callF_some hf
      obtain ⟨dx, d, vh, va, f1, f2, j, nf, up⟩ := id cw
      obtain ⟨g1, _⟩ := j H s.j
      refine ⟨.ref W.exa, s.exn i e1, W.exa, dx, _, rfl, g1, hl _ _ _, W, ρ, ds, cw, s, h1, fun vs H1 r1 j1 d1 => ?_⟩
      have s1 := s.next r1 j1
      refine ⟨W.add (isOw σ ρ) H1 s1.own, vs ++ [], ds, z, Sk.ok.add _ _ _ _ cw (fun b ⟨l, fs, z1, z2⟩ => ?_) (fun b u ⟨l, fs, z1, z2⟩ z3 fx => ?_), ⟨j1, fun _ _ => rfl⟩, rfl, by rw [List.append_nil]; exact d1, h2, fun v H' j' r' dp => q v H' (r1.trans (Rw.add r' j')) j'.1 dp⟩
      · obtain ⟨b', ys, w1, w2, w3, w4⟩ := s1.ow l fs z1
        rw [z2] at w1
        have eb : b = b' := by simpa using w1
        subst eb
        exact w4
      · obtain ⟨b', ys, w1, w2, _⟩ := s1.ow l fs z1
        rw [z2] at w1
        have eb : b = b' := by simpa using w1
        rw [← eb, z3] at w2
        cases w2
        exact fx
    · cases hf
end
def fnM (np n : Nat) (g : Ro → Option Out) : List D → Option Res := fun ds => if ds.length + 1 = np then fin (g (.exn :: ini n ds)) else none
theorem start_cons (x : Str) (N : List Str) (v : V) (vs : List V) : L2.start (x :: N) (v :: vs) = some v :: L2.start N vs := by
  unfold L2.start
  simp
theorem vw_start {K : PySem.W.Frag} {W : Wd} {H : Hp} {N : List Str} {vs : List V} {ds : List D} (s0 : SD K W (L2.start N vs) (ini N.length ds) H) : vw W (L2.start N vs) (ini N.length ds) H = off W.foot H := by
  have noow : ∀ (i : Nat) es, (ini N.length ds)[i]? ≠ some (.ow es) := fun i es z => by
    unfold ini at z
    by_cases hi : i < ds.length
    · rw [List.getElem?_append_left (by simpa using hi), List.getElem?_map] at z
      cases e : ds[i]? with
      | none => rw [e] at z; cases z
      | some d => rw [e] at z; cases z
    · rw [List.getElem?_append_right (by simpa using hi), List.getElem?_replicate] at z
      split at z <;> cases z
  funext b
  by_cases hf : W.foot b
  · rw [off_pos hf]; exact off_pos (.inl hf)
  · rw [off_neg hf]; exact off_neg fun z => z.elim hf fun ⟨i, es, z1, _⟩ => noow i es z1
theorem fn_defM {P : Program} {w : World} {K : PySem.W.Frag} {mg : Str → Option Value} {base : Heap} {x qual : Str} {params : Arguments} {body : List Stmt} {scope : Scope} {dvs : List V} {kws : List (Str × V)} {f : Addr} {fd : FuncData} {x0 : Str} {N ps : List Str} {k : Nat} {g : Ro → Option Out} {C : Wd → Prop}
    (FF : FunD K x qual params body scope dvs kws f fd) (S : FnScope (x0 :: N) ps scope)
    (hbody : ∀ (cdv : Value) (A : Around) (outer : List Env) (s : Shared) (H : Hp) (E : XK), Room k (A.deeper (PyProof.Rows.envOfC qual scope s.heap.objs.size f cdv)) →
      DSs (cxOf (L2.CX P w) P w K mg base (x0 :: N) qual scope f cdv A outer s H E) C (fun cls d _ H => E cls d H) body g) : FnOk P w K mg base (L2.CX P w) (k + 1) f fd ps (spM K C (fnM ps.length N.length g)) := by
  refine FF.ok S (fun vs H Q E ⟨W, vs', ds, r, c, j, ev, a, e, m⟩ => ?_) fun cdv A outer s H vs Q E hr ⟨W, vs', ds, r, c, j, ev, a, e, m⟩ => ⟨_, hbody cdv A outer s H E hr, ?_⟩
  · unfold fnM at e
    split at e
    · rw [ev, List.length_cons, a.length]; assumption
    · cases e
  · unfold fnM at e
    split at e
    · have s0 := sd_start (N := N) j a
      have hv := vw_start s0
      have s1 := s0.cons
      rw [← start_cons x0 N, ← ev] at s1
      have hv1 : vw W (L2.start (x0 :: N) vs) (.exn :: ini N.length ds) H = off W.foot H := by rw [ev, start_cons, vw_cons, hv]
      have rwOf : ∀ H', Same (vw W (L2.start (x0 :: N) vs) (.exn :: ini N.length ds) H) (off W.foot H') → Rw W H H' := fun H' sm b o n e1 => (off_some (sm b o (by rw [hv1, off_neg n]; exact e1))).2
      cases hg : g (.exn :: ini N.length ds) with
      | none => rw [hg] at e; cases e
      | some o =>
        rw [hg] at e
        refine ⟨W, .exn :: ini N.length ds, o, c, s1, hg, ?_⟩
        cases o with
        | nx ρ' =>
          cases e
          intro σ' H' s' v'
          exact m .non H' s'.j (rwOf H' (v'.trans vw_sub)) .non
        | rt d =>
          cases e
          intro v H' j' v' rp
          exact m v H' j' (rwOf H' v') rp
        | bk _ => cases e
        | ct _ => cases e
        | ex x ρ' => cases e
    · cases e
end DL
namespace DL
open PySem PySem.Spec L2
def telR (R : List Int → Int → Option D) (q : Int → Bool) : List D → Option Res := fun ds => match ds with
  | [.tuple es, .int many] => (match intsOf es with
    | some rest => if okKey rest many && q many then (match R rest many with
      | some dr => some (.ok dr)
      | none => none) else none
    | none => none)
  | _ => none
theorem telR_some {R : List Int → Int → Option D} {q : Int → Bool} {ds : List D} {d : D} (h : telR R q ds = some (.ok d)) : ∃ (rest : List Int) (many : Int), ds = [.tuple (rest.map .int), .int many] ∧ okKey rest many = true ∧ q many = true ∧ R rest many = some d := by
  unfold telR at h
  split at h
  · split at h
    · rename_i _ es many _ rest hr
      split at h
      · rename_i hk
        split at h
        · rename_i dr hR
          cases h
          rw [Bool.and_eq_true] at hk
          exact ⟨rest, many, by rw [intsOf_some hr], hk.1, hk.2, hR⟩
        · cases h
      · cases h
    · cases h
  · cases h
theorem room10 {k : Nat} {A : Around} (r : Room k A) : A.units + 10 < cLine := by have := r.un; omega
theorem tupAll_ints : ∀ xs : List Int, tupAll (xs.map .int) = true
  | [] => rfl
  | x :: xs => by simp only [List.map_cons, tupAll, tupD, tupAll_ints xs, Bool.and_self]
theorem fn_talk {P : Program} {w : World} {K : PySem.W.Frag} {mg : Str → Option Value} {base : Heap} {Cc : Addr} {R : List Int → Int → Option D} {h a : D} {q : Int → Bool} {params : Arguments} {scope : Scope} {dvs : List V} {kws : List (Str × V)} {f : Addr} {fd : FuncData} {kf : Nat} {Ff : List D → Option Res}
    {x1 : _} {p1 p2 p3 p4 p5 p6 p7 p8 p9 p10 p11 p12 p13 p14 p15 p16 p17 p18 p19 p20 p21 p22 p23 p24 p25 : Pos}
    (FF : FunD K "talk" "Seeker.talk" params [.Assign [.Name "key" p1] (.Tuple [.Name "rest" p2, .Name "many" p3] x1 p4) p5,
      .If (.Compare (.Name "key" p6) [.NotIn] [.Attribute (.Name "self" p7) "known" p8] p9) [.Assign [.Subscript (.Attribute (.Name "self" p10) "known" p11) (.Name "key" p12) p13] (.Call (.Attribute (.Name "self" p14) "found" p15) [.Name "rest" p16, .Name "many" p17] [] p18) p19] [] p20,
      .Return (some (.Subscript (.Attribute (.Name "self" p21) "known" p22) (.Name "key" p23) p24)) p25] scope dvs kws f fd)
    (S : FnScope ["self", "rest", "many", "key"] ["self", "rest", "many"] scope)
    (l0 : scope.names.lookup ("self" : Str) = some NameKind.local) (l1 : scope.names.lookup ("rest" : Str) = some NameKind.local) (l2 : scope.names.lookup ("many" : Str) = some NameKind.local) (l3 : scope.names.lookup ("key" : Str) = some NameKind.local)
    {pl : Env → Sem Bool} (ht : ∀ env : Env, eval (.Call (.Attribute (.Name "self" p14) "found" p15) [.Name "rest" p16, .Name "many" p17] [] p18) env = (do
      let ov ← eval (.Name "self" p14) env
      standAt p15.atName
      let (f, first) ← holding [ov] (getMethod ov "found" (pl env))
      callWith p18 f first (backTo p18 (starEach [.Name "rest" p16, .Name "many" p17] env)) (backToKw p18 (keywordEach [] env))))
    (c : Cls K Cc) (nk : NoAttr K Cc "known") (FO : HasM P w K mg base kf Cc "found" (Sk K P w Cc R h a) Ff)
    (hF : ∀ rest many dr, okKey rest many = true → q many = true → R rest many = some dr → Ff [.tuple (rest.map .int), .int many] = some (.ok dr)) (hRt : ∀ rest many dr, R rest many = some dr → tupD dr = true) :
    FnOk P w K mg base (L2.CX P w) (kf + 1) f fd ["self", "rest", "many"] (spM K (Sk K P w Cc R h a) (telR R q)) := by
  obtain ⟨ff, fdf, psf, FO, hmf, hbf⟩ := FO
  refine FF.ok S (fun vs H Q E ⟨W, vs', ds, r, cw, j, ev, ra, e, m⟩ => ?_) fun cdv A outer s H vs Q E hr ⟨W, vs', ds, r, cw, j, ev, ra, e, m⟩ => ⟨_, pss_cons (ps_set (i := 3) S.nd rfl (.inl l3) (pe_tup (pa_cons (pe_var (i := 1) rfl (.inl l1)) (pa_cons (pe_var (i := 2) rfl (.inl l2)) pa_nil))) rfl (.inr l3))
      (pss_cons (ps_if (pt_cmpR (op_ndNot (room10 hr)) (pe_var (i := 3) rfl (.inl l3)) (pe_fld (pe_var (i := 0) rfl (.inl l0)) rfl) rfl)
        (pss_one (ps_ndPut (room10 hr) (pe_fld (pe_var (i := 0) rfl (.inl l0)) rfl) (pe_var (i := 3) rfl (.inl l3)) (pe_meth (pe_var (i := 0) rfl (.inl l0)) c hmf FO hr hbf .nil passL (pa_cons (pe_var (i := 1) rfl (.inl l1)) (pa_cons (pe_var (i := 2) rfl (.inl l2)) pa_nil)) rfl rfl (ht _)) rfl)) pss_nil)
      (pss_one (ps_ret (pe_ndGet (room10 hr) (pe_fld (pe_var (i := 0) rfl (.inl l0)) rfl) (pe_var (i := 3) rfl (.inl l3)) (fun _ _ => rfl))))), ?_⟩
  · obtain ⟨rest, many, rfl, _⟩ := telR_some e
    rw [ev, List.length_cons, ra.length]
    rfl
  · obtain ⟨rest, many, rfl, hk, hq, hR⟩ := telR_some e
    cases ra with
    | cons r1 ra =>
      cases ra with
      | cons r2 ra =>
        cases ra with
        | nil =>
          rename_i v1 v2
          subst ev
          cases r2
          have td : tupD (.tuple (rest.map .int)) = true := by simp only [tupD, tupAll_ints]
          have r1t : Rp K (tp H) v1 (.tuple (rest.map .int)) := rp_tp (r1.mono off_sub) td
          -- the key
          refine ⟨v1, rfl, .int many, rfl, by show 2 ≤ sizeLine; rw [sizeLine_eq]; decide, fun p hp => ?_⟩
          have sm : Same H (upd H p (.tup [v1, .int many])) := same_upd hp
          have j1 := W.same j sm
          have npf : ¬ W.foot p := fun z => W.there H p j z hp
          generalize hH1 : upd H p (.tup [v1, .int many]) = H1 at *
          have hp1 : H1 p = some (.tup [v1, .int many]) := by rw [← hH1]; exact upd_same
          have key : ∀ H', Rw W H1 H' → Rp K (tp H') (.ref p) (skD rest many) := fun H' rw' => by
            have hp' := rw' p _ npf hp1
            exact .tup (.inl (.inl (tp_of trivial hp'))) (.cons (r1t.mono (tp_same sm |>.trans (tp_mono fun b u fx e => by
              obtain ⟨dx, d, vh, va, f1, f2, jj, nf, up⟩ := cw
              exact rw' b u (fun z => nf H1 b u j1 z e fx) e))) (.cons (.int many) .nil))
          obtain ⟨dx, d, vh, va, f1, f2, jj, nf, up⟩ := id cw
          have nkk := nkD_sk rest many
          have dk := depth_sk rest many
          -- behind the test
          have last : ∀ H3, W.J H3 → Rw W H1 H3 → (∃ xs, H3 d = some (NdO P w d xs) ∧ SkGood K R (tp H3) xs ∧ (atKey xs (skKey rest many)).isSome = true) → tRet (tNdGet K P w (tFld K (tVar 0) "known") (tVar 3)) { nx := fun _ H' => Q .non H', rt := Q } ((L2.start ["self", "rest", "many", "key"] [.ref W.exa, v1, .int many]).set 3 (some (.ref p))) H3 := fun H3 j3 rw3 ⟨xs, hx, gx, hs⟩ => by
            obtain ⟨g1, _⟩ := jj H3 j3
            obtain ⟨pr, hpr⟩ := Option.isSome_iff_exists.mp hs
            obtain ⟨vv, hv1, hv2⟩ := gx.at hpr hR
            refine ⟨.ref W.exa, rfl, W.exa, Cc, dx, _, .ref d, rfl, g1, c, nk, rfl, .ref p, rfl, p, d, xs, skD rest many, skKey rest many, pr, vv, rfl, rfl, hx, (gx.mono tp_sub).keys, (key H3 rw3).mono tp_sub, nkk, dk, hpr, hv1, ?_⟩
            exact m vv H3 j3 (Rw.trans (Rw.of sm) rw3) (hv2.mono (Sk.tpF cw j3))
          obtain ⟨g1, _, _, xs, hx, gx⟩ := jj H1 j1
          refine ⟨.ref p, rfl, .ref W.exa, rfl, W.exa, Cc, dx, _, .ref d, rfl, g1, c, nk, rfl, p, d, xs, skD rest many, skKey rest many, rfl, rfl, hx, (gx.mono tp_sub).keys, (key H1 (Rw.refl _ _)).mono tp_sub, nkk, dk, _, rfl, ?_⟩
          cases hs : (atKey xs (skKey rest many)).isSome with
          | true =>
            rw [if_neg (by simp)]
            exact last H1 j1 (Rw.refl _ _) ⟨xs, hx, gx, hs⟩
          | false =>
            rw [if_pos (by simp)]
            refine ⟨.ref W.exa, rfl, W.exa, dx, _, rfl, g1, rfl, v1, rfl, .int many, rfl, W, [v1, .int many], [.tuple (rest.map .int), .int many], r, cw, j1, rfl, .cons (r1.mono (off_mono (fun _ _ _ z => z) fun b o _ e => sm b o e)) (.cons (.int many) .nil), hF rest many r hk hq hR, fun v H2 j2 rw2 rv => ?_⟩
            obtain ⟨g2, _, _, xs2, hx2, gx2⟩ := jj H2 j2
            refine ⟨.ref W.exa, rfl, W.exa, Cc, dx, _, .ref d, rfl, g2, c, nk, rfl, .ref p, rfl, p, d, xs2, skD rest many, skKey rest many, rfl, rfl, hx2, (gx2.mono tp_sub).keys, (key H2 rw2).mono tp_sub, nkk, dk, gx2.few, fun u ru => ?_⟩
            obtain ⟨gp, hsome⟩ := gx2.put hk (key H2 rw2) ru (rp_tp (rv.mono off_sub) (hRt rest many r hR)) hR
            refine last _ (up H2 _ j2 gp) (rw2.trans fun b o n e => by rw [upd_ne (fun z => n (by rw [z]; exact f2))]; exact e) ⟨_, upd_same, gp.mono (tp_mono fun b u fx e => ?_), hsome⟩
            rw [upd_ne (fun z => by rw [z, hx2] at e; cases e; exact fx)]
            exact e
end DL
namespace DL
open PySem PySem.Spec L2
def spI (P : Program) (w : World) (Cc : Addr) : Sp := fun vs H Q _ => ∃ (x dx : Addr) (vh va : V), vs = [.ref x, vh, va] ∧ H x = some (.ins Cc dx []) ∧
  ∀ d H', d ≠ x → H d = none → H' d = some (NdO P w d []) → H' x = some (.ins Cc dx [("hall", vh), ("aim", va), ("known", .ref d)]) → (∀ b, b ≠ x → b ≠ d → H' b = H b) → Q .non H'
theorem ne_ha : ¬ (("hall" : Str) = "aim") := by decide +kernel
theorem ne_hk : ¬ (("hall" : Str) = "known") := by decide +kernel
theorem ne_ak : ¬ (("aim" : Str) = "known") := by decide +kernel
theorem fn_init {P : Program} {w : World} {K : PySem.W.Frag} {mg : Str → Option Value} {base : Heap} {Cc : Addr} {params : Arguments} {scope : Scope} {dvs : List V} {kws : List (Str × V)} {f : Addr} {fd : FuncData} {k : Nat}
    {p1 p2 p3 p4 p5 p6 p7 p8 p9 p10 p11 p12 : Pos}
    (FF : FunD K "__init__" "Seeker.__init__" params [.Assign [.Attribute (.Name "self" p1) "hall" p2] (.Name "hall" p3) p4, .Assign [.Attribute (.Name "self" p5) "aim" p6] (.Name "aim" p7) p8,
      .Assign [.Attribute (.Name "self" p9) "known" p10] (.Dict [] [] p11) p12] scope dvs kws f fd)
    (S : FnScope ["self", "hall", "aim"] ["self", "hall", "aim"] scope)
    (l0 : scope.names.lookup ("self" : Str) = some NameKind.local) (l1 : scope.names.lookup ("hall" : Str) = some NameKind.local) (l2 : scope.names.lookup ("aim" : Str) = some NameKind.local)
    (c : Cls K Cc) (nh : NoAttr K Cc "hall") (na : NoAttr K Cc "aim") (nk : NoAttr K Cc "known") :
    FnOk P w K mg base (L2.CX P w) (k + 1) f fd ["self", "hall", "aim"] (spI P w Cc) := by
  refine FF.ok S (fun vs H Q E ⟨x, dx, vh, va, ev, _⟩ => by rw [ev]; rfl) fun cdv A outer s H vs Q E hr ⟨x, dx, vh, va, ev, hx, m⟩ => ⟨_, pss_cons (ps_fld (pe_var (i := 0) rfl (.inl l0)) (pe_var (i := 1) rfl (.inl l1)) rfl)
    (pss_cons (ps_fld (pe_var (i := 0) rfl (.inl l0)) (pe_var (i := 2) rfl (.inl l2)) rfl) (pss_one (ps_fld (pe_var (i := 0) rfl (.inl l0)) pe_ndNew rfl))), ?_⟩
  subst ev
  refine ⟨vh, rfl, .ref x, rfl, x, Cc, dx, [], rfl, hx, c, nh, by decide, ?_⟩
  refine ⟨va, rfl, .ref x, rfl, x, Cc, dx, [("hall", vh)], rfl, upd_same, c, na, by simp, ?_⟩
  intro d hd
  have hdx : d ≠ x := fun z => by
    subst z
    rw [upd_same] at hd
    cases hd
  refine ⟨.ref x, rfl, x, Cc, dx, [("hall", vh), ("aim", va)], rfl, ?_, c, nk, by simp, ?_⟩
  · rw [upd_ne hdx.symm, upd_same]
    simp only [putF, if_neg ne_ha]
  · refine m d _ hdx ?_ ?_ ?_ ?_
    · rw [upd_ne hdx, upd_ne hdx] at hd
      exact hd
    · rw [upd_ne hdx, upd_same]
      rfl
    · rw [upd_same]
      simp only [putF, if_neg ne_hk, if_neg ne_ak]
    · intro b hb1 hb2
      rw [upd_ne hb1, upd_ne hb2, upd_ne hb1, upd_ne hb1]
def Wd.sk (W : Wd) (K : PySem.W.Frag) (P : Program) (w : World) (Cc : Addr) (R : List Int → Int → Option D) (h a : D) (x dx d : Addr) (vh va : V) : Wd where
  foot := fun b => W.foot b ∨ b = x ∨ b = d
  J := fun H => W.J H ∧ H x = some (.ins Cc dx [("hall", vh), ("aim", va), ("known", .ref d)]) ∧ Rp K (tp H) vh h ∧ Rp K (tp H) va a ∧ ∃ xs, H d = some (NdO P w d xs) ∧ SkGood K R (tp H) xs
  exa := x
  there := fun H b ⟨j, h1, h2, h3, xs, h4, h5⟩ z => by
    rcases z with z | z | z
    · exact W.there H b j z
    · rw [z, h1]; exact fun w => by cases w
    · rw [z, h4]; exact fun w => by cases w
  stable := fun H H' ⟨j, h1, h2, h3, xs, h4, h5⟩ hfx hft => ⟨W.stable H H' j hfx fun b o e => hft b o (.inl e), hft x _ (.inr (.inl rfl)) h1, h2.mono (tp_mono hfx), h3.mono (tp_mono hfx), xs, hft d _ (.inr (.inr rfl)) h4, h5.mono (tp_mono hfx)⟩
theorem Wd.sk_ok {W : Wd} {K : PySem.W.Frag} {P : Program} {w : World} {Cc : Addr} {R : List Int → Int → Option D} {h a : D} {x dx d : Addr} {vh va : V} (c : CN W) (hd : ¬ W.foot d) (hxd : d ≠ x) : Sk K P w Cc R h a (W.sk K P w Cc R h a x dx d vh va) := by
  have nf : CN (W.sk K P w Cc R h a x dx d vh va) := fun H b u ⟨j, h1, h2, h3, xs, h4, h5⟩ z e fx => by
    rcases z with z | z | z
    · exact c H b u j z e fx
    · rw [z, h1] at e; cases e; exact fx
    · rw [z, h4] at e; cases e; exact fx
  refine ⟨dx, d, vh, va, .inr (.inl rfl), .inr (.inr rfl), fun H j => j.2, nf, fun H xs' j g => ?_⟩
  obtain ⟨j, h1, h2, h3, xs, h4, h5⟩ := id j
  have kx : ∀ b u, Fix u → H b = some u → upd H d (NdO P w d xs') b = some u := fun b u fx e => by
    rw [upd_ne (fun z => by rw [z, h4] at e; cases e; exact fx)]
    exact e
  refine ⟨W.stable H _ j kx fun b o z e => ?_, by rw [upd_ne hxd.symm]; exact h1, h2.mono (tp_mono kx), h3.mono (tp_mono kx), xs', upd_same, g.mono (tp_mono kx)⟩
  rw [upd_ne (fun z2 => hd (by rw [← z2]; exact z))]
  exact e
def noEx (ρ : Ro) : Bool := ρ.all fun c => match c with
  | .exn => false
  | _ => true
theorem noEx_at {ρ : Ro} (h : noEx ρ = true) (i : Nat) : ρ[i]? ≠ some .exn := fun z => by
  have := List.all_eq_true.mp h _ (List.mem_of_getElem? z)
  cases this
def newS (i : Nat) (f : Ro → Option (List D)) (g : D → D → Ro → Option Out) : Ro → Option Out := fun ρ => match f ρ with
  | some [h, a] => if tupD h && (tupD a && noEx ρ) then (match g h a (ρ.set i .exn) with
    | some (.rt d) => some (.rt d)
    | some (.ex y ρ2) => some (.ex y (List.replicate ρ2.length .un))
    | _ => none) else none
  | _ => none
theorem SD.sk {K : PySem.W.Frag} {W W' : Wd} {σ : L2.St} {ρ : Ro} {H H' : Hp} (s : SD K W σ ρ H) (ne : noEx ρ = true) (j' : W'.J H') (kf : ∀ b o, H b = some o → ¬ W.foot b → H' b = some o) (fr : ∀ b, W'.foot b → W.foot b ∨ H b = none) :
    SD K W' σ ρ H' ∧ Same (vw W σ ρ H) (vw W' σ ρ H') := by
  have hv : Same (vw W σ ρ H) (vw W' σ ρ H') := fun b o e => by
    obtain ⟨n, e⟩ := off_some e
    rw [show vw W' σ ρ H' b = H' b from off_neg fun z => z.elim (fun z => (fr b z).elim (fun z => n (.inl z)) fun z => by rw [z] at e; cases e) fun z => n (.inr z)]
    exact kf b o e fun z => n (.inl z)
  refine ⟨⟨j', fun i d e => ?_, fun i ds e => ?_, s.inj, s.op, fun i e => absurd e (noEx_at ne i), s.len⟩, hv⟩
  · obtain ⟨v, h1, h2⟩ := s.sh i d e
    exact ⟨v, h1, h2.mono hv⟩
  · obtain ⟨b, xs, h1, h2, h3, h4⟩ := s.ow i ds e
    exact ⟨b, xs, h1, kf b _ h2 h4, h3.mono hv, fun z => (fr b z).elim h4 fun z => by rw [z] at h2; cases h2⟩
theorem dss_new {X : Cx} {Ew : WX} {Cc : Addr} {R : D → D → List Int → Int → Option D} {i : Nat} {x cn : Str} {p pos pos' pos2 : Pos} {e : Expr} {es : List Expr} {rest : List Stmt} {f : Ro → Option (List D)} {g : D → D → Ro → Option Out} {fi : Addr} {fdi : FuncData} {psi : List Str} {ki : Nat}
    (hN : X.N.Nodup) (hi : X.N[i]? = some x) (hx : Loc X.env.scope x)
    (M : Mk X.K Cc fi) (FO : FnOk X.prog X.w X.K X.mg X.base (L2.CX X.prog X.w) ki fi fdi psi (spI X.prog X.w Cc)) (hb : Binds X.K fdi psi []) (hm : X.mg cn = some (.ref Cc)) (hr : Room (ki + 1) X.A) (ha : DA X CN (e :: es) f)
    (hrest : ∀ h a, DSs X (Sk X.K X.prog X.w Cc (R h a) h a) Ew rest (g h a)) (hg : Gl X cn := by rfl)
    (hdb : (cn == ("__debug__" : Str)) = false := by decide) (he : starEach (e :: es) X.env = (false, eval e X.env) :: starEach es X.env := by rfl) (hpl : (backTo pos2 (starEach es X.env)).any (·.1) = false := by rfl)
    (hs : swapsWith (.Call (.Name cn p) (e :: es) [] pos2) (some (.Name x pos')) pos.line X.env = pure false := by rfl)
    (hf : X.fn x = true ∨ X.env.scope.names.lookup x = some .local := by first | exact .inl rfl | exact .inr rfl | assumption) :
    DSs X CN Ew (.Assign [.Name x pos'] (.Call (.Name cn p) (e :: es) [] pos2) pos :: rest) (newS i f g) := by
  have hrs : PSs X rest (fun E σ H => ∃ h a, tS X.K (Sk X.K X.prog X.w Cc (R h a) h a) Ew (g h a) E σ H) := ⟨fun pins s σ H E I ⟨h, a, q⟩ => (hrest h a).run pins s σ H E I q⟩
  refine pss_imp (pss_cons (ps_set hN hi hx (pe_make M FO hr hg hm hb .nil passL ha hdb he hpl) hs hf) hrs) fun E σ H ⟨W, ρ, o, c, s, hgo, q⟩ => ?_
  unfold newS at hgo
  split at hgo
  · rename_i h a hfa
    split at hgo
    · rename_i ht
      rw [Bool.and_eq_true, Bool.and_eq_true] at ht
      obtain ⟨th, ta, ne⟩ := ht
      refine ⟨W, ρ, [h, a], c, s, hfa, fun vs H1 r1 j1 d1 y dx hy hdx hne => ?_⟩
      cases d1 with
      | cons rh d1 =>
        cases d1 with
        | cons ra d1 =>
          cases d1 with
          | nil =>
            rename_i vh va
            have s1 := s.next r1 j1
            refine ⟨y, dx, vh, va, rfl, upd_same, fun d H' hdy hd hd' hy' hb' => ⟨rfl, ?_⟩⟩
            have hdd : d ≠ dx := fun z => by
              rw [z, upd_ne hne, upd_same] at hd
              cases hd
            have hd1 : H1 d = none := by rw [upd_ne hdy, upd_ne hdd] at hd; exact hd
            have keep : ∀ b u, H1 b = some u → H' b = some u := fun b u e => by
              have n1 : b ≠ y := fun z => by rw [z, hy] at e; cases e
              have n2 : b ≠ d := fun z => by rw [z, hd1] at e; cases e
              have n3 : b ≠ dx := fun z => by rw [z, hdx] at e; cases e
              rw [hb' b n1 n2, upd_ne n1, upd_ne n3]
              exact e
            have tk : Same (tp H1) (tp H') := tp_same keep
            have nfd : ¬ W.foot d := fun z => W.there H1 d j1 z hd1
            have jw : (W.sk X.K X.prog X.w Cc (R h a) h a y dx d vh va).J H' := ⟨W.same j1 keep, hy', (rp_tp ((rh.mono vw_sub).mono off_sub) th).mono tk, (rp_tp ((ra.mono vw_sub).mono off_sub) ta).mono tk, [], hd', List.nodup_nil, fun x hx => by cases hx⟩
            obtain ⟨s2, v2⟩ := s1.sk (W' := W.sk X.K X.prog X.w Cc (R h a) h a y dx d vh va) ne jw (fun b o e _ => keep b o e) (fun b z => by
              rcases z with z | z | z
              · exact .inl z
              · rw [z]; exact .inr hy
              · rw [z]; exact .inr hd1)
            obtain ⟨s3, v3⟩ := s2.set (i := i) (v := .ref y) (cl := .exn) (fun _ z => by cases z) (fun _ z => by cases z) (fun _ z => by cases z) (fun _ => rfl)
            have v0 : Same (vw W σ ρ H) (vw (W.sk X.K X.prog X.w Cc (R h a) h a y dx d vh va) (σ.set i (some (.ref y))) (ρ.set i .exn) H') := ((vw_mono r1).trans v2).trans v3
            have unf : ∀ H2, Same (off (W.sk X.K X.prog X.w Cc (R h a) h a y dx d vh va).foot H2) (off W.foot H2) := fun H2 => off_mono (fun b o _ z => .inl z) fun _ _ _ e => e
            cases hg2 : g h a (ρ.set i .exn) with
            | none => rw [hg2] at hgo; cases hgo
            | some o2 =>
              rw [hg2] at hgo
              refine ⟨h, a, W.sk X.K X.prog X.w Cc (R h a) h a y dx d vh va, ρ.set i .exn, o2, Wd.sk_ok c nfd hdy, s3, hg2, ?_⟩
              cases o2 with
              | nx _ => cases hgo
              | bk _ => cases hgo
              | ct _ => cases hgo
              | rt dd =>
                cases hgo
                exact fun v H2 j2 sm rp => q v H2 j2.1 ((v0.trans sm).trans (unf H2)) (rp.mono (unf H2))
              | ex z ρ2 =>
                cases hgo
                intro σ2 H2 sd2 sm
                have sdu : SD X.K W σ2 (List.replicate ρ2.length .un) H2 := by
                  have nou : ∀ (l : Nat) (cl : Cel), cl ≠ .un → (List.replicate ρ2.length Cel.un)[l]? ≠ some cl := fun l cl hc e => by
                    rw [List.getElem?_replicate] at e
                    split at e
                    · cases e; exact hc rfl
                    · cases e
                  refine ⟨sd2.j.1, fun l d e => absurd e (nou l _ (fun z => by cases z)), fun l ds e => absurd e (nou l _ (fun z => by cases z)), fun l _ ds _ _ e _ _ _ => absurd e (nou l _ (fun z => by cases z)), fun l v e => absurd e (nou l _ (fun z => by cases z)), fun l e => absurd e (nou l _ (fun z => by cases z)), by rw [List.length_replicate]; exact sd2.len⟩
                have sv : Same (vw W σ ρ H) (vw W σ2 (List.replicate ρ2.length .un) H2) := (v0.trans sm).trans (fun b u e => by
                  obtain ⟨n, e⟩ := off_some e
                  rw [show vw W σ2 (List.replicate ρ2.length .un) H2 b = H2 b from off_neg fun z => z.elim (fun z => n (.inl (.inl z))) fun ⟨l, ds, z1, _⟩ => by
                    rw [List.getElem?_replicate] at z1
                    split at z1 <;> cases z1]
                  exact e)
                have ex := q σ2 H2 sdu sv
                unfold ExcAt at ex ⊢
                split
                · rename_i el; rw [el] at ex; exact ex
                · rename_i dl el
                  rw [el] at ex
                  exact fun dx v h1 h2 h3 => ex dx v h1 (fun z => h2 (.inl z)) (h3.mono (unf H2))
    · cases hgo
  · cases hgo
end DL
namespace DL
open PySem PySem.Spec L2
def skR (t : Nat → List D → Option Res) : List Int → Int → Option D := fun rest many => match t many.toNat [.tuple (rest.map .int), .int many] with
  | some (.ok d) => if tupD d then some d else none
  | _ => none
def qk (k : Nat) : Int → Bool := fun m => decide (m < k)
def tab (bh fn : (List D → Option Res) → List D → Option Res) : Nat → Nat → List D → Option Res
  | 0 => fun _ _ => none
  | k + 1 => fun m => if m = k then fn (bh (telR (skR (tab bh fn k)) (qk k))) else tab bh fn k m
def FT (bh fn : (List D → Option Res) → List D → Option Res) (m : Nat) : List D → Option Res := tab bh fn (m + 1) m
def RR (bh fn : (List D → Option Res) → List D → Option Res) : List Int → Int → Option D := skR (FT bh fn)
theorem tab_eq (bh fn : (List D → Option Res) → List D → Option Res) : ∀ {k m : Nat}, m < k → tab bh fn k m = FT bh fn m
  | 0, _, h => absurd h (Nat.not_lt_zero _)
  | k + 1, m, h => by
    by_cases e : m = k
    · subst e; rfl
    · have : tab bh fn (k + 1) m = tab bh fn k m := by simp only [tab, if_neg e]
      rw [this]
      exact tab_eq bh fn (by omega)
theorem telR_congr {R R' : List Int → Int → Option D} {q : Int → Bool} (h : ∀ rest many, okKey rest many = true → q many = true → R rest many = R' rest many) : telR R q = telR R' q := by
  funext ds
  unfold telR
  split
  · split
    · split
      · rename_i hk
        rw [Bool.and_eq_true] at hk
        rw [h _ _ hk.1 hk.2]
      · rfl
    · rfl
  · rfl
theorem okKey_pos {rest : List Int} {many : Int} (h : okKey rest many = true) : 0 ≤ many ∧ many ≤ 8 := by
  unfold okKey at h
  rw [Bool.and_eq_true, decide_eq_true_eq, decide_eq_true_eq] at h
  exact h.2
theorem tel_tab (bh fn : (List D → Option Res) → List D → Option Res) (k : Nat) : telR (skR (tab bh fn k)) (qk k) = telR (RR bh fn) (qk k) := telR_congr fun rest many h1 h2 => by
  unfold qk at h2
  rw [decide_eq_true_eq] at h2
  have := okKey_pos h1
  unfold RR skR
  rw [tab_eq bh fn (by omega)]
theorem FT_eq (bh fn : (List D → Option Res) → List D → Option Res) (k : Nat) : FT bh fn k = fn (bh (telR (RR bh fn) (qk k))) := by
  unfold FT
  simp only [tab, if_true]
  rw [tel_tab]
theorem RR_tup {bh fn : (List D → Option Res) → List D → Option Res} {rest : List Int} {many : Int} {dr : D} (h : RR bh fn rest many = some dr) : tupD dr = true := by
  unfold RR skR at h
  split at h
  · split at h
    · cases h; assumption
    · cases h
  · cases h
theorem RR_FT {bh fn : (List D → Option Res) → List D → Option Res} {rest : List Int} {many : Int} {dr : D} (h : RR bh fn rest many = some dr) : FT bh fn many.toNat [.tuple (rest.map .int), .int many] = some (.ok dr) := by
  unfold RR skR at h
  split at h
  · split at h
    · cases h; assumption
    · cases h
  · cases h
def joinF (F : Nat → List D → Option Res) (k : Nat) : List D → Option Res := fun ds => match ds with
  | [d, .int m] => if m.toNat < k then F m.toNat [d, .int m] else none
  | _ => none
theorem joinF_some {F : Nat → List D → Option Res} {k : Nat} {ds : List D} {r : Res} (h : joinF F k ds = some r) : ∃ m, m < k ∧ F m ds = some r := by
  unfold joinF at h
  split at h
  · split at h
    · exact ⟨_, by assumption, h⟩
    · cases h
  · cases h
theorem FnOk.join {P : Program} {w : World} {K : PySem.W.Frag} {mg : Str → Option Value} {base : Heap} {l k : Nat} {f : Addr} {fd : FuncData} {ps : List Str} {C : Wd → Prop} {F : Nat → List D → Option Res} (h : ∀ m, m < k → FnOk P w K mg base (L2.CX P w) l f fd ps (spM K C (F m))) :
    FnOk P w K mg base (L2.CX P w) l f fd ps (spM K C (joinF F k)) :=
  ⟨fun vs H Q E ⟨W, vs', ds, r, c, j, ev, a, e, m⟩ => by
    obtain ⟨n, hn, e⟩ := joinF_some e
    exact (h n hn).len vs H Q E ⟨W, vs', ds, r, c, j, ev, a, e, m⟩, fun A outer s H args us vs Q E hr he hb hv ⟨W, vs', ds, r, c, j, ev, a, e, m⟩ => by
    obtain ⟨n, hn, e⟩ := joinF_some e
    exact (h n hn).run A outer s H args us vs Q E hr he hb hv ⟨W, vs', ds, r, c, j, ev, a, e, m⟩⟩
theorem FnOk.none_ {P : Program} {w : World} {K : PySem.W.Frag} {mg : Str → Option Value} {base : Heap} {l : Nat} {f : Addr} {fd : FuncData} {ps : List Str} {C : Wd → Prop} {F : List D → Option Res} (h : ∀ ds d, F ds ≠ some (.ok d)) :
    FnOk P w K mg base (L2.CX P w) l f fd ps (spM K C F) :=
  ⟨fun vs H Q E ⟨W, vs', ds, r, c, j, ev, a, e, m⟩ => absurd e (h _ _), fun A outer s H args us vs Q E hr he hb hv ⟨W, vs', ds, r, c, j, ev, a, e, m⟩ => absurd e (h _ _)⟩
theorem sk_rec {P : Program} {w : World} {K : PySem.W.Frag} {mg : Str → Option Value} {base : Heap} {C : Wd → Prop} {bh fn : (List D → Option Res) → List D → Option Res} {fT fF : Addr} {gT gF : FuncData} {pT pF : List Str} (b : Nat)
    (hstep : ∀ l T, b ≤ l → FnOk P w K mg base (L2.CX P w) l fT gT pT (spM K C T) → FnOk P w K mg base (L2.CX P w) (l + 2) fF gF pF (spM K C (fn (bh T))))
    (htlk : ∀ l q Ff, FnOk P w K mg base (L2.CX P w) l fF gF pF (spM K C Ff) → (∀ rest many dr, okKey rest many = true → q many = true → RR bh fn rest many = some dr → Ff [.tuple (rest.map .int), .int many] = some (.ok dr)) → FnOk P w K mg base (L2.CX P w) (l + 1) fT gT pT (spM K C (telR (RR bh fn) q))) :
    ∀ k, FnOk P w K mg base (L2.CX P w) (b + 3 * k) fT gT pT (spM K C (telR (RR bh fn) (qk k))) ∧ ∀ m, m < k → FnOk P w K mg base (L2.CX P w) (b + 3 * k) fF gF pF (spM K C (FT bh fn m))
  | 0 => ⟨FnOk.none_ fun ds d e => by
      obtain ⟨rest, many, _, h1, h2, _⟩ := telR_some e
      unfold qk at h2
      rw [decide_eq_true_eq] at h2
      have := okKey_pos h1
      omega, fun m hm => absurd hm (Nat.not_lt_zero _)⟩
  | k + 1 => by
    obtain ⟨ht, hf⟩ := sk_rec b hstep htlk k
    have hk := hstep _ _ (by omega) ht
    rw [← FT_eq bh fn k] at hk
    have hall : ∀ m, m < k + 1 → FnOk P w K mg base (L2.CX P w) (b + 3 * k + 2) fF gF pF (spM K C (FT bh fn m)) := fun m hm => by
      by_cases e : m = k
      · rw [e]; exact hk
      · exact (hf m (by omega)).mono (by omega)
    refine ⟨?_, fun m hm => (hall m hm).mono (by omega)⟩
    have := htlk _ (qk (k + 1)) _ (FnOk.join hall) fun rest many dr h1 h2 h3 => by
      unfold qk at h2
      rw [decide_eq_true_eq] at h2
      have := okKey_pos h1
      unfold joinF
      simp only
      rw [if_pos (by omega)]
      exact RR_FT h3
    exact this.mono (by omega)
end DL
namespace DL
open PySem PySem.Spec L2
section
variable {S : Type}
def EndO (K : PySem.W.Frag) (F : Fw S) (Ew : WX) (V0 : Hp) (E : Ends) : Ou S → Prop
  | .nx ρ' s => ∀ σ' H', SD K (F.w s) σ' ρ' H' → Same V0 (vw (F.w s) σ' ρ' H') → E.nx σ' H'
  | .bk ρ' s => ∀ σ' H', SD K (F.w s) σ' ρ' H' → Same V0 (vw (F.w s) σ' ρ' H') → E.bk σ' H'
  | .ct ρ' s => ∀ σ' H', SD K (F.w s) σ' ρ' H' → Same V0 (vw (F.w s) σ' ρ' H') → E.ct σ' H'
  | .rt d s => ∀ v H', (F.w s).J H' → Same V0 (off (F.w s).foot H') → Rp K (off (F.w s).foot H') v d → E.rt v H'
  | .ex x ρ' s => ∀ σ' H', SD K (F.w s) σ' ρ' H' → Same V0 (vw (F.w s) σ' ρ' H') → ExcAt K (F.w s) x H' (fun cls d H'' => Ew cls d σ' H'')
theorem EndO.on {K : PySem.W.Frag} {F : Fw S} {Ew : WX} {V0 V1 : Hp} {E : Ends} (s : Same V0 V1) : ∀ {o : Ou S}, EndO K F Ew V0 E o → EndO K F Ew V1 E o
  | .nx _ _, h => fun σ' H' a b => h σ' H' a (s.trans b)
  | .bk _ _, h => fun σ' H' a b => h σ' H' a (s.trans b)
  | .ct _ _, h => fun σ' H' a b => h σ' H' a (s.trans b)
  | .rt _ _, h => fun v H' j b r => h v H' j (s.trans b) r
  | .ex _ _ _, h => fun σ' H' a b => h σ' H' a (s.trans b)
def tO (K : PySem.W.Frag) (C : Fw S → Prop) (Ew : WX) (g : Ro → S → Option (Ou S)) : TS := fun E σ H => ∃ F ρ s o, C F ∧ SD K (F.w s) σ ρ H ∧ g ρ s = some o ∧ EndO K F Ew (vw (F.w s) σ ρ H) E o
abbrev DStO (X : Cx) (C : Fw S → Prop) (Ew : WX) (st : Stmt) (g : Ro → S → Option (Ou S)) : Prop := PS X st (tO X.K C Ew g)
abbrev DStOs (X : Cx) (C : Fw S → Prop) (Ew : WX) (st : List Stmt) (g : Ro → S → Option (Ou S)) : Prop := PSs X st (tO X.K C Ew g)
variable {X : Cx} {C : Fw S → Prop} {C' : Wd → Prop} {Ew : WX} {st : Stmt} {sts : List Stmt} {pos : Pos}
theorem do_up {f : Ro → Option Out} (hC : ∀ F, C F → ∀ s, C' (F.w s)) (h : DS X C' Ew st f) : DStO X C Ew st (up f) := ps_imp h fun E σ H ⟨F, ρ, s, o, c, sd, hg, q⟩ => by
  unfold up at hg
  split at hg
  · rename_i ho; cases hg; exact ⟨F.w s, ρ, .nx _, hC F c s, sd, ho, q⟩
  · rename_i ho; cases hg; exact ⟨F.w s, ρ, .rt _, hC F c s, sd, ho, q⟩
  · rename_i ho; cases hg; exact ⟨F.w s, ρ, .bk _, hC F c s, sd, ho, q⟩
  · rename_i ho; cases hg; exact ⟨F.w s, ρ, .ct _, hC F c s, sd, ho, q⟩
  · rename_i ho; cases hg; exact ⟨F.w s, ρ, .ex _ _, hC F c s, sd, ho, q⟩
  · cases hg
def sqO (g h : Ro → S → Option (Ou S)) : Ro → S → Option (Ou S) := fun ρ s => match g ρ s with
  | some (.nx ρ' s') => h ρ' s'
  | r => r
theorem dos_cons {g h : Ro → S → Option (Ou S)} (h1 : DStO X C Ew st g) (h2 : DStOs X C Ew sts h) : DStOs X C Ew (st :: sts) (sqO g h) := pss_imp (pss_cons h1 h2) fun E σ H ⟨F, ρ, s, o, c, sd, hg, q⟩ => by
  unfold sqO at hg
  split at hg
  · rename_i ρ' s' hx
    exact ⟨F, ρ, s, _, c, sd, hx, fun σ' H' sd' v => ⟨F, ρ', s', o, c, sd', hg, q.on v⟩⟩
  · rename_i hn
    refine ⟨F, ρ, s, o, c, sd, hg, ?_⟩
    cases o with
    | nx ρ' s' => exact absurd hg (hn ρ' s')
    | rt d _ => exact q
    | bk _ _ => exact q
    | ct _ _ => exact q
    | ex _ _ _ => exact q
theorem dos_one {g : Ro → S → Option (Ou S)} (h1 : DStO X C Ew st g) : DStOs X C Ew [st] g := pss_one h1
def nxtO : Ro → S → Option (Ou S) := fun ρ s => some (.nx ρ s)
theorem dos_nil : DStOs X C Ew [] nxtO := pss_imp pss_nil fun E σ H ⟨F, ρ, s, o, c, sd, hg, q⟩ => by
  cases hg
  exact q σ H sd (Same.refl _)
end
structure Dist (W : Wd) (a q0 q1 : Addr) : Prop where
  cn : CN W
  e0 : a ≠ q0
  e1 : a ≠ q1
  e2 : q0 ≠ q1
  fa : ¬ W.foot a
  f0 : ¬ W.foot q0
  f1 : ¬ W.foot q1
theorem SD.move {K : PySem.W.Frag} {W W' : Wd} {σ : L2.St} {ρ : Ro} {H H' : Hp} (s : SD K W σ ρ H) (hf : W'.foot = W.foot) (he : W'.exa = W.exa) (j' : W'.J H') (kf : ∀ b, ¬ W.foot b → H' b = H b) : SD K W' σ ρ H' ∧ Same (vw W σ ρ H) (vw W' σ ρ H') := by
  have hv : Same (vw W σ ρ H) (vw W' σ ρ H') := fun b o e => by
    obtain ⟨n, e⟩ := off_some e
    rw [show vw W' σ ρ H' b = H' b from off_neg fun z => n (by rw [hf] at z; exact z), kf b fun z => n (.inl z)]
    exact e
  refine ⟨⟨j', fun i d e => ?_, fun i ds e => ?_, s.inj, s.op, fun i e => by rw [he]; exact s.exn i e, s.len⟩, hv⟩
  · obtain ⟨v, h1, h2⟩ := s.sh i d e
    exact ⟨v, h1, h2.mono hv⟩
  · obtain ⟨b, xs, h1, h2, h3, h4⟩ := s.ow i ds e
    exact ⟨b, xs, h1, by rw [kf b h4]; exact h2, h3.mono hv, by rw [hf]; exact h4⟩
end DL
namespace L2
open PySem PySem.Spec PyProof.Rows PySem.W PySem.Calls
section
variable {X : Cx} {pins : List (Addr × Obj)} {σ : St} {H : Hp} {s : Shared} {d b : Addr} {xs : List NEnt} {dk : PyData} {k : NestedKey}
theorem nd_raw (I : Inv X pins σ H s) (e : Rd H d (NdO X.prog X.w d xs)) : NdP X.prog X.w d xs s.heap := by
  rcases e with e | ⟨o, e⟩
  · exact (I.hok d _ e).1
  · exact (I.hok d _ e).2.1
theorem nd_atR (I : Inv X pins σ H s) (e : Rd H d (NdO X.prog X.w d xs)) (hk : NdK X.K H xs) : (d == sysModules) = false ∧ s.heap.DictOfH (nestedKind X.prog X.w) d xs := by
  obtain ⟨z, o, es, ep, h1, h2, h3, h4, h5⟩ := nd_raw I e
  refine ⟨z, o, es, ep, h1, h2, h3, h4, fun x hx => ?_, h5⟩
  obtain ⟨dk, r, nk, dp⟩ := hk x hx
  exact ⟨nk_is I r nk rfl, dp⟩
def rNdIn (neg : Bool) (K : PySem.W.Frag) (P : Program) (w : World) : V → V → Hp → VK → Prop := fun x y H Q => ∃ (b d : Addr) (xs : List NEnt) (dk : PyData) (k : NestedKey), x = .ref b ∧ y = .ref d ∧ Rd H d (NdO P w d xs) ∧ NdK K H xs ∧ Rp K H (.ref b) dk ∧ nkD dk = some k ∧ k.depth ≤ 8 ∧ Q (.bl ((atKey xs k).isSome != neg)) H
theorem op_ndNinR (hu : X.A.units + 10 < cLine) : OpR X (compareOp .NotIn) (rNdIn true X.K X.prog X.w) := by
  intro pins s σ H x y v u Q I rx ry h
  obtain ⟨b, d, xs, dk, k, rfl, rfl, e, hk, r, nk, dp, q⟩ := h
  cases (show _ = Value.ref _ from rx)
  cases (show _ = Value.ref _ from ry)
  obtain ⟨hd, hm⟩ := nd_atR I e hk
  rw [Bool.bne_true] at q
  show wpAny _ _ (do return Value.bool (!(← contains (.ref d) (.ref b)))) _ _ s
  exact wpAny_bind (wpAny_contains_heap (nd_room hu) (nd_key I r nk dp) hd hm (wpAny_pure ⟨.bl _, H, I.tok _, rfl, q⟩))
def tNdGetR (K : PySem.W.Frag) (P : Program) (w : World) (td ty : TE) : TE := fun σ H Q => td σ H fun y H1 => ty σ H1 fun x H2 => ∃ (b d : Addr) (xs : List NEnt) (dk : PyData) (k : NestedKey) (p : Addr × Value) (v : V), x = .ref b ∧ y = .ref d ∧ Rd H2 d (NdO P w d xs) ∧ NdK K H2 xs ∧ Rp K H2 (.ref b) dk ∧ nkD dk = some k ∧ k.depth ≤ 8 ∧ atKey xs k = some p ∧ RelV v p.2 ∧ Q v H2
theorem pe_ndGetR {o i : Expr} {pos : Pos} {td ty : TE} (hu : X.A.units + 10 < cLine) (ho : PE X o td) (hi : PE X i ty) (hs : NoSl i) : PE X (.Subscript o i pos) (tNdGetR X.K X.prog X.w td ty) := by
  refine ⟨fun pins s σ H Q I h => ?_⟩
  refine subD_of PySem.F.slot_dict_getitem.lookup hs (thn (ho.run pins s σ H _ I h) fun u s1 ⟨y, H1, I1, ry, q1⟩ => thn (hi.run pins s1 σ H1 _ I1 q1) fun iv s2 ⟨x, H2, I2, rx, b, d, xs, dk, k, p, v, ex, ey, e, hk, r, nk, dp, hp, rv, q2⟩ => ?_)
  subst ex ey
  cases (show _ = Value.ref _ from rx)
  cases (show _ = Value.ref _ from ry)
  obtain ⟨hd, hm⟩ := nd_atR I2 e hk
  exact ⟨hm.typeIs, wpAny_getItem_heap (nd_room hu) (nd_key I2 r nk dp) hm hp ⟨v, H2, I2.tok _, rv, q2⟩⟩
theorem reads_lt {h : Heap} : ∀ {v : Value} {d : PyData} {as : List Addr}, Reads h v d as → ∀ a ∈ as, a < h.objs.size := by
  intro v d as r
  refine Reads.rec (motive_1 := fun v d as _ => ∀ a ∈ as, a < h.objs.size) (motive_2 := fun vs ds as _ => ∀ a ∈ as, a < h.objs.size) ?_ ?_ ?_ ?_ ?_ ?_ ?_ ?_ ?_ r
  · intro a ha; cases ha
  · intro b a ha; cases ha
  · intro i t a ha; cases ha
  · intro x t a ha; cases ha
  · intro a o vs n xs as e _ _ _ ih b hb
    rcases List.mem_cons.mp hb with hb | hb
    · rw [hb]; exact Heap.lt_size e
    · exact ih b hb
  · intro a o vs n xs as e _ _ _ ih b hb
    exact ih b hb
  · intro a o es n kvs as bs e _ _ _ _ ih1 ih2 b hb
    rcases List.mem_append.mp hb with hb | hb
    · rcases List.mem_cons.mp hb with hb | hb
      · rw [hb]; exact Heap.lt_size e
      · exact ih1 b hb
    · exact ih2 b hb
  · intro a ha; cases ha
  · intro v vs d ds as bs _ _ ih1 ih2 b hb
    rcases List.mem_append.mp hb with hb | hb
    · exact ih1 b hb
    · exact ih2 b hb
def rSortN (K : PySem.W.Frag) (P : Program) (w : World) : List V → Hp → VK → Prop := fun vs H Q => ∃ (V0 : Hp) (a : Addr) (xs : List NEnt) (ds es : List PyData), vs = [V.ref a] ∧ Rd H a (NdO P w a xs) ∧ Same V0 H ∧ RpAll K V0 (xs.map fun x => V.ref x.2.1) ds ∧ xs.length ≤ sizeLine ∧ DL.sortD ds = some es ∧
  ∀ (ys : List V) (q : Addr), RpAll K V0 ys es → H q = none → Q (.ref q) (upd H q (.lst ys))
theorem reads_eachV {V0 : Hp} (I : Inv X pins σ H s) (sm : Same V0 H) : ∀ {us : List Value} {ds : List PyData}, PySem.W.EachIs (RepV X.K V0) us ds → (∀ d ∈ ds, d.canLay0 = true) → PySem.W.EachIs (fun v b => ∃ as, Reads s.heap v b as) us ds
  | _, _, .nil, _ => .nil
  | _, _, .cons ⟨v, r, h⟩ t, hc => .cons (Dp.reads I _ v _ ((h.mono sm).dp (hc _ List.mem_cons_self)) r) (reads_eachV I sm t fun d hd => hc d (List.mem_cons_of_mem _ hd))
theorem vals_refsN : ∀ (l : List Addr), Vals (l.map V.ref) (l.map Value.ref)
  | [] => .nil
  | _ :: l => .cons rfl (vals_refsN l)
theorem cr_sortN (hc : X.calm = true) (hu : X.A.units + 65 < cLine) : CallR X (.builtin "sorted") (rSortN X.K X.prog X.w) := by
  intro pins s σ H vs us Q I r h
  obtain ⟨V0, a, xs, ds, es, rfl, ha, sm, hx, hz, hs, q⟩ := h
  obtain ⟨hal, hk, hsh, rfl⟩ := DL.sortD_some hs
  obtain ⟨lo, o, en, ep, h1, h2, h3, h4, h5⟩ := nd_raw I ha
  have hsz : en.size = xs.length := size_of_entries h4
  have hlen : ds.length = xs.length := by rw [← hx.length, List.length_map]
  rw [Vals.ref1 r]
  refine call_function_entry kind_sorted plain_sorted entry_sorted (args_sorted1 _) ?_
  unfold Builtin.«sorted»
  refine wpAny_bind (m := checkCount "sorted" 1 1 _) (wpAny_pure ?_)
  refine wpAny_bind (kdu_collect (A := X.A.in1) (KdlSrc.rawDict (es := en) (ep := ep) lo) (I.ok.hd hc) ⟨o, h1, h2, h3⟩ (by rw [hsz]; exact hz) fun h' tk acc hk' hacc => ?_)
  have hl : acc.toList = (xs.map (·.2.1)).map Value.ref := by
    apply List.ext_getElem?
    intro j
    rw [Array.getElem?_toList, List.map_map, List.getElem?_map]
    by_cases hj : j < xs.length
    · obtain ⟨x, hxj⟩ : ∃ x, xs[j]? = some x := ⟨xs[j], List.getElem?_eq_getElem hj⟩
      have hja : j < acc.size := by rw [hacc.1, hsz]; exact hj
      obtain ⟨hi, ev⟩ := hacc.2 j acc[j] (Array.getElem?_eq_getElem hja)
      have ee := entry_at h4 j
      rw [hxj, Array.getElem?_eq_getElem hi] at ee
      rw [Array.getElem?_eq_getElem hja, ev, hxj]
      have : en[j] = entryOfKey (nestedKind X.prog X.w) x := by simpa using ee
      rw [this]
      rfl
    · rw [List.getElem?_eq_none (by omega), Array.getElem?_eq_none (by rw [hacc.1, hsz]; omega)]
      rfl
  have hln : acc.toList.length ≤ sizeLine := by rw [hl, List.length_map, List.length_map]; exact hz
  refine wpAny_bind (wpAny_newList ?_ hln)
  have I1 : Inv X pins σ H { s with heap := h', toks := tk } := I.kept hk'
  have rv : Vals (xs.map fun x => V.ref x.2.1) acc.toList := by
    rw [hl, show (xs.map fun x => V.ref x.2.1) = (xs.map (·.2.1)).map V.ref by rw [List.map_map]; rfl]
    exact vals_refsN _
  have ea := rep_each rv hx
  have er := reads_eachV I1 sm ea fun d hd => SeqAt.canLay_of_shaped (hsh d hd).1
  have e1 : (ds.map fun d => d) = ds := List.map_id' ds
  have key := PySem.W.list_sort_data (prog := X.prog) (w := X.w) (A := X.A.in1) (E := X.xe) (s := { s with heap := h'.push { cls := .type "list", data := .seq acc.toList.toArray }, toks := tk }) (enc := fun d => d) (R := RepV X.K V0) (vs := acc.toList) (bs := ds) (a := h'.objs.size) (n := 0)
    (Q := fun _ s' => ∃ v H', Inv X pins σ H' s' ∧ RelV v (.ref h'.objs.size) ∧ Q v H')
    (Heap.get?_push_size _ rfl) ea (er.mono fun v b ⟨as, rd⟩ => ⟨as, PyProof.Rows.Reads.keeps (fun _ _ e => Heap.get?_push_of_some _ e) rd, fun z => Nat.lt_irrefl _ (reads_lt rd _ z)⟩) (by rw [e1]; exact hal) (by rw [e1]; exact hk) (by rw [hlen]; exact hz) (fun d hd => by have := (hsh d hd).2; rw [Around.in1_units]; omega) fun out ho eo => ?_
  · refine wpAny_bind (wpAny_holding (wpAny_mono key (fun _ s' x => ?_) fun _ _ e => e))
    exact wpAny_pure ⟨_, rfl, x⟩
  · obtain ⟨ys, ry, hy⟩ := each_rep eo
    obtain ⟨c, hc'⟩ := PyProof.Rows.sortedHeap_at (h := h'.push { cls := .type "list", data := .seq acc.toList.toArray }) (a := h'.objs.size) (vs := acc.toList) (n := 0) (out := out.toArray) (Heap.get?_push_size _ rfl)
    have hly : ys.length ≤ sizeLine := by rw [hy.length, List.length_mergeSort, hlen]; exact hz
    have hfr : H h'.objs.size = none := I1.hok.fresh (Nat.le_refl _)
    refine ⟨.ref _, upd H h'.objs.size (.lst ys), ?_, rfl, q ys _ hy hfr⟩
    refine I1.laid (t' := tk) (fun b u e => ?_) (Nat.le_refl _) ⟨hly, out, c, ry, hc'⟩
    have hb : b < h'.objs.size := Heap.lt_size e
    rw [PyProof.Rows.sortedHeap_old (Nat.ne_of_lt hb) (by rw [Heap.size_push]; exact Nat.lt_succ_of_lt hb)]
    exact Heap.get?_push_of_some _ e
end
section
variable {P : Program} {w : World} {K : PySem.W.Frag} {tg : Expr} {d : Addr} {o : Obj} {es : Array DictEntry} {ep : Nat} {xs : List NEnt}
def tLk (t : TS) : TS := fun E σ H => ∃ d u, H d = some u ∧ Mut (some u) ∧ ∀ od, t E σ (upd H d (.frz od u))
theorem pss_lock {X : Cx} {sts : List Stmt} {t : TS} (h : PSs X sts t) : PSs X sts (tLk t) := ⟨fun pins s σ H E I ⟨d, u, hd, mu, q⟩ => by
  obtain ⟨od, I'⟩ := I.lock hd mu
  exact h.run pins s σ _ E I' (q od)⟩
end
end L2
namespace DL
open PySem PySem.Spec L2
section
variable {K : PySem.W.Frag} {H H' : Hp}
theorem DkP.keys : ∀ {xs : List NEnt} {kvs : Kv}, DkP K H xs kvs → NdK K H xs
  | _, _, .nil => fun _ h => nomatch h
  | _, _, .cons h1 h2 h3 h4 h5 t => fun y hy => by
    rcases List.mem_cons.mp hy with rfl | hy
    · exact ⟨_, h3, h1, h2⟩
    · exact t.keys y hy
theorem DkP.refs : ∀ {xs : List NEnt} {kvs : Kv}, DkP K H xs kvs → RpAll K H (xs.map fun x => V.ref x.2.1) (kvs.map (·.1))
  | _, _, .nil => .nil
  | _, _, .cons _ _ h3 _ _ t => .cons h3 t.refs
theorem DkP.app : ∀ {xs ys : List NEnt} {kvs lvs : Kv}, DkP K H xs kvs → DkP K H ys lvs → DkP K H (xs ++ ys) (kvs ++ lvs)
  | _, _, _, _, .nil, h => h
  | _, _, _, _, .cons h1 h2 h3 h4 h5 t, h => .cons h1 h2 h3 h4 h5 (t.app h)
theorem DkP.isSome {xs : List NEnt} {kvs : Kv} (h : DkP K H xs kvs) (k : NestedKey) : (atKey xs k).isSome = (lookK kvs k).isSome := by
  rcases h.at k with ⟨e1, e2⟩ | ⟨p, vd, vv, e1, e2, _⟩ <;> rw [e1, e2] <;> rfl
end
theorem cn_tpV {K : PySem.W.Frag} {W : Wd} (c : CN W) {σ : L2.St} {ρ : Ro} {H : Hp} (s : SD K W σ ρ H) : Same (tp H) (vw W σ ρ H) := fun b u e => by
  obtain ⟨e, f⟩ := tp_some e
  rw [show vw W σ ρ H b = H b from off_neg fun z => z.elim (fun z => c H b u s.j z e f) fun ⟨i, ds, z1, z2⟩ => by
    obtain ⟨b', ys, w1, w2, _⟩ := s.ow i ds z1
    rw [z2] at w1
    have eb : b = b' := by simpa using w1
    rw [← eb, e] at w2
    cases w2
    exact f]
  exact e
def isXn (i : Nat) (ρ : Ro) : Bool := match ρ[i]? with
  | some .exn => true
  | _ => false
theorem isXn_some {i : Nat} {ρ : Ro} (h : isXn i ρ = true) : ρ[i]? = some .exn := by
  unfold isXn at h
  split at h
  · assumption
  · cases h
def isAd (i : Nat) (a : Addr) (ρ : Ro) : Bool := match ρ[i]? with
  | some (.op (.ref b)) => decide (b = a)
  | _ => false
theorem isAd_some {i : Nat} {a : Addr} {ρ : Ro} (h : isAd i a ρ = true) : ρ[i]? = some (.op (.ref a)) := by
  unfold isAd at h
  split at h
  · rename_i e
    rw [decide_eq_true_eq] at h
    rw [← h]
    exact e
  · cases h
def keyD : D → Option NestedKey
  | .tuple ks => (match nkD (.tuple ks) with
    | some k => if k.depth ≤ 8 then some k else none
    | none => none)
  | _ => none
theorem keyD_some {d : D} {k : NestedKey} (h : keyD d = some k) : ∃ ks, d = .tuple ks ∧ nkD d = some k ∧ k.depth ≤ 8 := by
  unfold keyD at h
  split at h
  · split at h
    · split at h
      · cases h
        exact ⟨_, rfl, by assumption, by assumption⟩
      · cases h
    · cases h
  · cases h
def inD (ok : Ro → Bool) (neg : Bool) (kvs : Kv) (f : Ro → Option D) : Ro → Option Bool := fun ρ => if ok ρ then (match f ρ with
  | some d => (match keyD d with
    | some k => some ((lookK kvs k).isSome != neg)
    | none => none)
  | none => none) else none
theorem inD_some {ok : Ro → Bool} {neg : Bool} {kvs : Kv} {f : Ro → Option D} {ρ : Ro} {b : Bool} (h : inD ok neg kvs f ρ = some b) : ok ρ = true ∧ ∃ d k, f ρ = some d ∧ keyD d = some k ∧ b = ((lookK kvs k).isSome != neg) := by
  unfold inD at h
  split at h
  · rename_i h0
    split at h
    · rename_i d hd
      split at h
      · rename_i k hk
        cases h
        exact ⟨h0, d, k, hd, hk, rfl⟩
      · cases h
    · cases h
  · cases h
def gtD (ok : Ro → Bool) (kvs : Kv) (f : Ro → Option D) : Ro → Option D := fun ρ => if ok ρ then (match f ρ with
  | some d => (match keyD d with
    | some k => lookK kvs k
    | none => none)
  | none => none) else none
theorem gtD_some {ok : Ro → Bool} {kvs : Kv} {f : Ro → Option D} {ρ : Ro} {b : D} (h : gtD ok kvs f ρ = some b) : ok ρ = true ∧ ∃ d k, f ρ = some d ∧ keyD d = some k ∧ lookK kvs k = some b := by
  unfold gtD at h
  split at h
  · rename_i h0
    split at h
    · rename_i d hd
      split at h
      · rename_i k hk
        exact ⟨h0, d, k, hd, hk, h⟩
      · cases h
    · cases h
  · cases h
def srtN (ok : Ro → Bool) (kvs : Kv) : Ro → Option (List D) := fun ρ => if ok ρ && decide (kvs.length ≤ sizeLine) then sortD (kvs.map (·.1)) else none
section
variable {X : Cx} {C : Wd → Prop} {Ew : WX} {pos p : Pos} {e tg : Expr} {f : Ro → Option D} {kvs : Kv} {ok : Ro → Bool} {i : Nat} {x : Str}
theorem dt_ninD (R : Rdr X.K X.prog X.w C i ok kvs) (hu : X.A.units + 10 < cLine) (hk : DE X C e f) (hN : X.N[i]? = some x := by rfl) (hv : Vis X.env.scope x := by first | exact Or.inl rfl | exact Or.inr (Or.inl rfl) | exact Or.inr (Or.inr rfl)) (hd : (x == ("__debug__" : Str)) = false := by decide)
    (hcd : (x == ("__classdict__" : Str)) = false := by decide) (hm : behindInMarks .NotIn (.Name x p) = false := by rfl) : DT X C (.Compare e [.NotIn] [.Name x p] pos) (inD ok true kvs f) :=
  pt_imp (pt_cmpR (op_ndNinR hu) hk (pe_var (i := i) hN hv hd hcd) hm) fun σ H Q ⟨W, ρ, b, c, s, hf, q⟩ => by
    obtain ⟨h0, d, k, hd, hkd, rfl⟩ := inD_some hf
    obtain ⟨ks, rfl, nk, dp⟩ := keyD_some hkd
    refine ⟨W, ρ, _, c, s, hd, fun v H1 r1 j1 d1 => ?_⟩
    obtain ⟨a, xs, e1, e2, e3⟩ := R.rd W σ ρ H1 c (s.next r1 j1) h0
    obtain ⟨b, us, rfl, hb, hu⟩ := d1.tup_inv
    refine ⟨.ref a, e1, b, a, xs, .tuple ks, k, rfl, rfl, e2, (e3.mono tp_sub).keys, (Rp.tup hb hu).mono off_sub, nk, dp, _, rfl, ?_⟩
    rw [e3.isSome k]
    exact q H1 r1 j1
theorem de_getD (R : Rdr X.K X.prog X.w C i ok kvs) (hu : X.A.units + 10 < cLine) (hk : DE X C e f) (hs : NoSl e := by exact fun _ _ => rfl) (hN : X.N[i]? = some x := by rfl) (hv : Vis X.env.scope x := by first | exact Or.inl rfl | exact Or.inr (Or.inl rfl) | exact Or.inr (Or.inr rfl)) (hd : (x == ("__debug__" : Str)) = false := by decide)
    (hcd : (x == ("__classdict__" : Str)) = false := by decide) : DE X C (.Subscript (.Name x p) e pos) (gtD ok kvs f) :=
  pe_imp (pe_ndGetR hu (pe_var (i := i) hN hv hd hcd) hk hs) fun σ H Q ⟨W, ρ, b, c, s, hf, q⟩ => by
    obtain ⟨h0, d, k, hd, hkd, hl⟩ := gtD_some hf
    obtain ⟨ks, rfl, nk, dp⟩ := keyD_some hkd
    obtain ⟨a0, xs0, e10, _⟩ := R.rd W σ ρ H c s h0
    refine ⟨.ref a0, e10, W, ρ, _, c, s, hd, fun v H1 r1 j1 d1 => ?_⟩
    have s1 := s.next r1 j1
    obtain ⟨a, xs, e1, e2, e3⟩ := R.rd W σ ρ H1 c s1 h0
    have ea : a0 = a := by rw [e10] at e1; simpa using e1
    subst ea
    obtain ⟨b', us, rfl, hb, hu⟩ := d1.tup_inv
    rcases e3.at k with ⟨_, z⟩ | ⟨pr, vd, vv, z1, z2, z3, z4⟩
    · rw [hl] at z; cases z
    · rw [hl] at z2
      cases z2
      exact ⟨b', a0, xs, .tuple ks, k, pr, vv, rfl, rfl, e2, (e3.mono tp_sub).keys, (Rp.tup hb hu).mono off_sub, nk, dp, z1, z3, q vv H1 r1 j1 (z4.mono (cn_tpV (R.nf W c) s1))⟩
theorem df_sortN (R : Rdr X.K X.prog X.w C i ok kvs) (hc : X.calm = true) (hu : X.A.units + 65 < cLine) (hg : Gl X "sorted") (hm : X.mg "sorted" = none) (he : starEach [.Name x p] X.env = (false, eval (.Name x p) X.env) :: starEach [] X.env := by rfl)
    (hN : X.N[i]? = some x := by rfl) (hv : Vis X.env.scope x := by first | exact Or.inl rfl | exact Or.inr (Or.inl rfl) | exact Or.inr (Or.inr rfl)) (hd : (x == ("__debug__" : Str)) = false := by decide) (hcd : (x == ("__classdict__" : Str)) = false := by decide) {p2 : Pos} :
    DF X C (.Call (.Name "sorted" p2) [.Name x p] [] pos) (srtN ok kvs) :=
  pe_imp (pe_callB (cr_sortN hc hu) hg hm PyProof.Rows.boot_sorted (pa_cons (pe_var (i := i) hN hv hd hcd) pa_nil he) (by decide) (by decide) he rfl) fun σ H Q ⟨W, ρ, es, c, s, hf, q⟩ => by
    unfold srtN at hf
    split at hf
    · rename_i hz
      rw [Bool.and_eq_true, decide_eq_true_eq] at hz
      obtain ⟨h0, hz⟩ := hz
      obtain ⟨a, xs, e1, e2, e3⟩ := R.rd W σ ρ H c s h0
      refine ⟨.ref a, e1, vw W σ ρ H, a, xs, _, es, rfl, e2, off_sub, e3.refs.mono (cn_tpV (R.nf W c) s), by rw [e3.len]; exact hz, hf, fun ys l hy nl => ?_⟩
      refine q l ys _ (Rw.of (same_upd nl)) (W.same s.j (same_upd nl)) nl (s.newF nl) upd_same (hy.mono (off_mono (fun a o e z => ?_) fun b u _ e => same_upd nl b u e))
      rcases z with z | z
      · exact z
      · subst z; rw [nl] at e; cases e
    · cases hf
end
section
variable {K : PySem.W.Frag} {P : Program} {w : World} {kvs : Kv}
theorem Dz.rz (i : Nat) : Rdz K P w (Dz K P w kvs) i (isXn i) kvs := ⟨fun W c => c.1, fun W σ ρ H c s h => by
  obtain ⟨o, xs, h1, h2⟩ := c.2 H s.j
  exact ⟨W.exa, o, xs, s.exn i (isXn_some h), h1, h2⟩⟩
theorem Dz.rr (i : Nat) : Rdr K P w (Dz K P w kvs) i (isXn i) kvs := (Dz.rz i).r
end
section
variable {K : PySem.W.Frag} {P : Program} {w : World} {kvs : Kv}
theorem Dm.rr (i : Nat) : Rdr K P w (Dm K P w kvs) i (isXn i) kvs := ⟨fun W c => c.1, fun W σ ρ H c s h => by
  obtain ⟨xs, h1, h2⟩ := c.2 H s.j
  exact ⟨W.exa, xs, s.exn i (isXn_some h), .inl h1, h2⟩⟩
end
end DL
namespace DL
open PySem PySem.Spec L2
section
variable {K : PySem.W.Frag} {a : Addr} {H H' : Hp}
theorem RpO.getO : ∀ {vs : List V} {ds : List (Option D)} {i : Nat}, RpO K a H vs ds → ds[i]? = some none → vs[i]? = some (.ref a)
  | _, _, 0, .dat h _, e => by simp at e
  | _, _, 0, .obj _, e => rfl
  | _, _, i + 1, .dat _ t, e => by simpa using RpO.getO (i := i) t (by simpa using e)
  | _, _, i + 1, .obj t, e => by simpa using RpO.getO (i := i) t (by simpa using e)
end
def spO (K : PySem.W.Frag) (C : Wd → Prop) (F : List (Option D) → Option Res) : Sp := fun vs H Q _ => ∃ W ds d, C W ∧ W.J H ∧ RpO K W.exa (off W.foot H) vs ds ∧ F ds = some (.ok d) ∧ ∀ v H', W.J H' → Rw W H H' → Rp K (off W.foot H') v d → Q v H'
structure HasO (P : Program) (w : World) (K : PySem.W.Frag) (mg : Str → Option Value) (base : Heap) (k : Nat) (x : Str) (C : Wd → Prop) (F : List (Option D) → Option Res) : Prop where
  ex : ∃ fa fd ps, FnOk P w K mg base (L2.CX P w) k fa fd ps (spO K C F) ∧ mg x = some (.ref fa) ∧ PySem.W.keepIn K (.ref fa) = true ∧ Binds K fd ps []
def tAo (K : PySem.W.Frag) (C : Wd → Prop) (f : Ro → Option (List (Option D))) : TA := fun σ H Q => ∃ W ρ ds, C W ∧ SD K W σ ρ H ∧ f ρ = some ds ∧ ∀ vs H', Rw W H H' → W.J H' → RpO K W.exa (vw W σ ρ H') vs ds → Q vs H'
abbrev DAo (X : Cx) (C : Wd → Prop) (es : List Expr) (f : Ro → Option (List (Option D))) : Prop := PA X es (tAo X.K C f)
def oNil : Ro → Option (List (Option D)) := fun _ => some []
def oDat (f : Ro → Option D) (g : Ro → Option (List (Option D))) : Ro → Option (List (Option D)) := fun ρ => match f ρ, g ρ with
  | some d, some ds => some (some d :: ds)
  | _, _ => none
def oObj (i : Nat) (g : Ro → Option (List (Option D))) : Ro → Option (List (Option D)) := fun ρ => match ρ[i]?, g ρ with
  | some .exn, some ds => some (none :: ds)
  | _, _ => none
section
variable {X : Cx} {C : Wd → Prop} {e : Expr} {es : List Expr} {f : Ro → Option D} {g : Ro → Option (List (Option D))} {i : Nat} {x : Str} {p pos : Pos}
theorem dao_nil : DAo X C [] oNil := pa_imp pa_nil fun σ H Q ⟨W, ρ, d, c, s, hf, q⟩ => by
  cases hf
  exact q [] H (Rw.refl _ _) s.j .nil
theorem dao_dat (ha : DE X C e f) (hr : DAo X C es g) (hs : starEach (e :: es) X.env = (false, eval e X.env) :: starEach es X.env := by rfl) : DAo X C (e :: es) (oDat f g) :=
  pa_imp (pa_cons ha hr hs) fun σ H Q ⟨W, ρ, z, c, s, hf, q⟩ => by
    unfold oDat at hf
    split at hf
    · rename_i d ds h1 h2
      cases hf
      refine ⟨W, ρ, d, c, s, h1, fun v H1 r1 j1 d1 => ⟨W, ρ, ds, c, s.next r1 j1, h2, fun vs H2 r2 j2 d2 => ?_⟩⟩
      exact q _ H2 (r1.trans r2) j2 (.dat (d1.mono (vw_mono r2)) d2)
    · cases hf
theorem dao_obj (i : Nat) (hr : DAo X C es g) (hN : X.N[i]? = some x := by rfl) (hv : Vis X.env.scope x := by first | exact Or.inl rfl | exact Or.inr (Or.inl rfl) | exact Or.inr (Or.inr rfl)) (hd : (x == ("__debug__" : Str)) = false := by decide)
    (hcd : (x == ("__classdict__" : Str)) = false := by decide) (hs : starEach (.Name x p :: es) X.env = (false, eval (.Name x p) X.env) :: starEach es X.env := by rfl) : DAo X C (.Name x p :: es) (oObj i g) :=
  pa_imp (pa_cons (pe_var (i := i) hN hv hd hcd) hr hs) fun σ H Q ⟨W, ρ, z, c, s, hf, q⟩ => by
    unfold oObj at hf
    split at hf
    · rename_i ds h1 h2
      cases hf
      exact ⟨.ref W.exa, s.exn i h1, W, ρ, ds, c, s, h2, fun vs H2 r2 j2 d2 => q _ H2 r2 j2 (.obj d2)⟩
    · cases hf
def callO (F : List (Option D) → Option Res) (g : Ro → Option (List (Option D))) : Ro → Option D := fun ρ => match g ρ with
  | some ds => (match F ds with
    | some (.ok d) => some d
    | _ => none)
  | none => none
theorem callO_some {F : List (Option D) → Option Res} {ρ : Ro} {z : D} (h : callO F g ρ = some z) : ∃ ds, g ρ = some ds ∧ F ds = some (.ok z) := by
  unfold callO at h
  split at h
  · split at h
    · cases h; exact ⟨_, by assumption, by assumption⟩
    · cases h
  · cases h
theorem own_add {K : PySem.W.Frag} {W : Wd} {σ : L2.St} {ρ : Ro} {H : Hp} (hC : CtxOk C) (c : C W) (s : SD K W σ ρ H) : C (W.add (isOw σ ρ) H s.own) := hC.add _ _ _ _ c (fun b ⟨l, fs, z1, z2⟩ => by
    obtain ⟨b', ys, w1, w2, w3, w4⟩ := s.ow l fs z1
    rw [z2] at w1
    have eb : b = b' := by simpa using w1
    subst eb
    exact w4) (fun b u ⟨l, fs, z1, z2⟩ z3 fx => by
    obtain ⟨b', ys, w1, w2, _⟩ := s.ow l fs z1
    rw [z2] at w1
    have eb : b = b' := by simpa using w1
    rw [← eb, z3] at w2
    cases w2
    exact fx)
theorem de_callO {k : Nat} {F : List (Option D) → Option Res} {fn : Str} (FO : HasO X.prog X.w X.K X.mg X.base k fn C F) (hC : CtxOk C) (hr : Room k X.A) (ha : DAo X C (e :: es) g) (hg : Gl X fn := by rfl)
    (hdb : (fn == ("__debug__" : Str)) = false := by decide) (he : starEach (e :: es) X.env = (false, eval e X.env) :: starEach es X.env := by rfl)
    (hpl : (backTo pos (starEach es X.env)).any (·.1) = false := by rfl) : DE X C (.Call (.Name fn p) (e :: es) [] pos) (callO F g) := by
  obtain ⟨fa, fd, ps, h1, h2, h3, h4⟩ := FO.ex
  exact pe_imp (pe_call h1 hr hg h2 h3 h4 .nil passL ha hdb he hpl) fun σ H Q ⟨W, ρ, z, c, s, hf, q⟩ => by
    obtain ⟨ds, g1, g2⟩ := callO_some hf
    refine ⟨W, ρ, ds, c, s, g1, fun vs H1 r1 j1 d1 => ?_⟩
    have s1 := s.next r1 j1
    show spO X.K C F (vs ++ []) H1 Q E0
    rw [List.append_nil]
    exact ⟨W.add (isOw σ ρ) H1 s1.own, ds, _, own_add hC c s1, ⟨j1, fun _ _ => rfl⟩, d1, g2, fun v H' j r dp => q v H' (r1.trans (Rw.add r j)) j.1 dp⟩
end
def cellO : Option D → Cel
  | some d => .sh d
  | none => .exn
def iniO (n : Nat) (ds : List (Option D)) : Ro := ds.map cellO ++ List.replicate (n - ds.length) .un
theorem iniO_get {n : Nat} {ds : List (Option D)} {i : Nat} {c : Cel} (h : (iniO n ds)[i]? = some c) : c = .un ∨ ∃ o, ds[i]? = some o ∧ c = cellO o := by
  unfold iniO at h
  by_cases hi : i < ds.length
  · rw [List.getElem?_append_left (by simpa using hi), List.getElem?_map] at h
    cases e : ds[i]? with
    | none => rw [e] at h; cases h
    | some o => rw [e] at h; cases h; exact .inr ⟨o, rfl, rfl⟩
  · rw [List.getElem?_append_right (by simpa using hi), List.getElem?_replicate] at h
    split at h
    · cases h; exact .inl rfl
    · cases h
def fnO (np n : Nat) (g : Ro → Option Out) : List (Option D) → Option Res := fun ds => if ds.length = np then fin (g (iniO n ds)) else none
theorem start_get {N : List Str} {vs : List V} {i : Nat} {v : V} (h : vs[i]? = some v) : (L2.start N vs)[i]? = some (some v) := by
  have hi : i < vs.length := (List.getElem?_eq_some_iff.mp h).1
  unfold L2.start
  rw [List.getElem?_append_left (by rw [List.length_map]; exact hi), List.getElem?_map, h]
  rfl
theorem iniO_noow {n : Nat} {ds : List (Option D)} (i : Nat) (es : List D) : (iniO n ds)[i]? ≠ some (.ow es) := fun z => by
  rcases iniO_get z with h | ⟨o, _, h⟩
  · cases h
  · cases o <;> cases h
theorem iniO_vw {W : Wd} {H : Hp} {σ : L2.St} {n : Nat} {ds : List (Option D)} : vw W σ (iniO n ds) H = off W.foot H := by
  funext a
  by_cases hf : W.foot a
  · rw [off_pos hf]; exact off_pos (.inl hf)
  · rw [off_neg hf]; exact off_neg fun z => z.elim hf fun ⟨i, es, z1, _⟩ => iniO_noow i es z1
theorem sd_startO {K : PySem.W.Frag} {W : Wd} {H : Hp} {N : List Str} {vs : List V} {ds : List (Option D)} (j : W.J H) (h : RpO K W.exa (off W.foot H) vs ds) : SD K W (L2.start N vs) (iniO N.length ds) H := by
  refine ⟨j, fun i d e => ?_, fun i es e => absurd e (iniO_noow i es), fun i _ es _ _ e _ _ _ => absurd e (iniO_noow i es), fun i v e => ?_, fun i e => ?_, ?_⟩
  · rw [iniO_vw]
    rcases iniO_get e with z | ⟨o, h1, h2⟩
    · cases z
    · cases o with
      | none => cases h2
      | some d' =>
        cases h2
        obtain ⟨v, h3, h4⟩ := h.getD h1
        exact ⟨v, start_get h3, h4⟩
  · rcases iniO_get e with z | ⟨o, h1, h2⟩
    · cases z
    · cases o <;> cases h2
  · rcases iniO_get e with z | ⟨o, h1, h2⟩
    · cases z
    · cases o with
      | none => exact start_get (h.getO h1)
      | some d' => cases h2
  · unfold iniO L2.start
    simp [h.length]
theorem fn_defO {P : Program} {w : World} {K : PySem.W.Frag} {mg : Str → Option Value} {base : Heap} {x qual : Str} {params : Arguments} {body : List Stmt} {scope : Scope} {dvs : List V} {kws : List (Str × V)} {f : Addr} {fd : FuncData} {N ps : List Str} {k : Nat} {g : Ro → Option Out} {C : Wd → Prop}
    (FF : FunD K x qual params body scope dvs kws f fd) (S : FnScope N ps scope)
    (hbody : ∀ (cdv : Value) (A : Around) (outer : List Env) (s : Shared) (H : Hp) (E : XK), Room k (A.deeper (PyProof.Rows.envOfC qual scope s.heap.objs.size f cdv)) →
      DSs (cxOf (L2.CX P w) P w K mg base N qual scope f cdv A outer s H E) C (fun cls d _ H => E cls d H) body g) : FnOk P w K mg base (L2.CX P w) (k + 1) f fd ps (spO K C (fnO ps.length N.length g)) := by
  refine FF.ok S (fun vs H Q E ⟨W, ds, r, c, j, a, e, m⟩ => ?_) fun cdv A outer s H vs Q E hr ⟨W, ds, r, c, j, a, e, m⟩ => ⟨_, hbody cdv A outer s H E hr, ?_⟩
  · unfold fnO at e
    split at e
    · rw [a.length]; assumption
    · cases e
  · unfold fnO at e
    split at e
    · have s0 := sd_startO (N := N) j a
      have rwOf : ∀ H', Same (vw W (L2.start N vs) (iniO N.length ds) H) (off W.foot H') → Rw W H H' := fun H' sm a o n e1 => (off_some (sm a o (by rw [iniO_vw, off_neg n]; exact e1))).2
      cases hg : g (iniO N.length ds) with
      | none => rw [hg] at e; cases e
      | some o =>
        rw [hg] at e
        refine ⟨W, iniO N.length ds, o, c, s0, hg, ?_⟩
        cases o with
        | nx ρ' =>
          cases e
          intro σ' H' s' v'
          exact m .non H' s'.j (rwOf H' (v'.trans vw_sub)) .non
        | rt d =>
          cases e
          intro v H' j' v' rp
          exact m v H' j' (rwOf H' v') rp
        | bk _ => cases e
        | ct _ => cases e
        | ex x ρ' => cases e
    · cases e
end DL
namespace DL
open PySem PySem.Spec L2
section
variable {S : Type} {X : Cx} {C : Fw S → Prop} {C' : S → Wd → Prop} {Ew : WX} {st : Stmt} {sts : List Stmt} {pos : Pos}
def upS (f : S → Ro → Option Out) : Ro → S → Option (Ou S) := fun ρ s => up (f s) ρ s
theorem do_upS {f : S → Ro → Option Out} (hC : ∀ F, C F → ∀ s, C' s (F.w s)) (h : ∀ s, DS X (C' s) Ew st (f s)) : DStO X C Ew st (upS f) := by
  have h0 : PS X st (fun E σ H => ∃ s, tS X.K (C' s) Ew (f s) E σ H) := ⟨fun pins s σ H E I ⟨z, q⟩ => (h z).run pins s σ H E I q⟩
  refine ps_imp h0 fun E σ H ⟨F, ρ, s, o, c, sd, hg, q⟩ => ?_
  refine ⟨s, ?_⟩
  unfold upS up at hg
  split at hg
  · rename_i ho; cases hg; exact ⟨F.w s, ρ, .nx _, hC F c s, sd, ho, q⟩
  · rename_i ho; cases hg; exact ⟨F.w s, ρ, .rt _, hC F c s, sd, ho, q⟩
  · rename_i ho; cases hg; exact ⟨F.w s, ρ, .bk _, hC F c s, sd, ho, q⟩
  · rename_i ho; cases hg; exact ⟨F.w s, ρ, .ct _, hC F c s, sd, ho, q⟩
  · rename_i ho; cases hg; exact ⟨F.w s, ρ, .ex _ _, hC F c s, sd, ho, q⟩
  · cases hg
def ifOS (t : S → Ro → Option Bool) (g h : Ro → S → Option (Ou S)) : Ro → S → Option (Ou S) := fun ρ s => match t s ρ with
  | some true => g ρ s
  | some false => h ρ s
  | none => none
theorem do_ifS {e : Expr} {t : S → Ro → Option Bool} {as bs : List Stmt} {g h : Ro → S → Option (Ou S)} (hC : ∀ F, C F → ∀ s, C' s (F.w s)) (hc : ∀ s, DT X (C' s) e (t s)) (ha : DStOs X C Ew as g) (hb : DStOs X C Ew bs h) : DStO X C Ew (.If e as bs pos) (ifOS t g h) := by
  have h0 : PT X e (fun σ H Q => ∃ s, tT X.K (C' s) (t s) σ H Q) := ⟨fun pins s σ H Q I ⟨z, q⟩ => (hc z).run pins s σ H Q I q⟩
  refine ps_imp (ps_if h0 ha hb) fun E σ H ⟨F, ρ, s, o, c, sd, hg, q⟩ => ?_
  refine ⟨s, ?_⟩
  unfold ifOS at hg
  split at hg
  · rename_i ht
    refine ⟨F.w s, ρ, true, hC F c s, sd, ht, fun H' r j => iteT ?_⟩
    exact ⟨F, ρ, s, o, c, sd.next r j, hg, q.on (vw_mono r)⟩
  · rename_i ht
    refine ⟨F.w s, ρ, false, hC F c s, sd, ht, fun H' r j => iteF ?_⟩
    exact ⟨F, ρ, s, o, c, sd.next r j, hg, q.on (vw_mono r)⟩
  · cases hg
def whO (t : Ro → Option Bool) (g : Ro → S → Option (Ou S)) : Nat → Ro → S → Option (Ou S)
  | 0, _, _ => none
  | n + 1, ρ, s => match t ρ with
    | some false => some (.nx ρ s)
    | some true => (match g ρ s with
      | some (.nx ρ2 s2) => whO t g n ρ2 s2
      | some (.ct ρ2 s2) => whO t g n ρ2 s2
      | some (.bk ρ2 s2) => some (.nx ρ2 s2)
      | some (.rt d s2) => some (.rt d s2)
      | some (.ex x ρ2 s2) => some (.ex x ρ2 s2)
      | none => none)
    | none => none
theorem do_while {CC : Wd → Prop} (n : Nat) {c : Expr} {body : List Stmt} {t : Ro → Option Bool} {g : Ro → S → Option (Ou S)} (hC : ∀ F, C F → ∀ s, CC (F.w s)) (hp : PassesOwn (model X.prog X.w) X.A X.env X.xe) (hc : DT X CC c t) (hb : DStOs X C Ew body g) : DStO X C Ew (.While c body [] pos) (fun ρ s => whO t g n ρ s) :=
  ps_imp (ps_while hp hc hb) fun E σ H ⟨F, ρ, s, o, c, sd, hgo, q⟩ => by
    refine ⟨fun m σ' H' => ∃ ρ' s', SD X.K (F.w s') σ' ρ' H' ∧ Same (vw (F.w s) σ ρ H) (vw (F.w s') σ' ρ' H') ∧ whO t g m ρ' s' = some o, ⟨n, ρ, s, sd, Same.refl _, hgo⟩, ?_⟩
    rintro m σ' H' ⟨ρ', s', sd', vv, hf⟩
    cases m with
    | zero => cases hf
    | succ m =>
      unfold whO at hf
      split at hf
      · rename_i ht
        cases hf
        exact ⟨F.w s', ρ', false, hC F c s', sd', ht, fun H2 r j => iteF (q _ _ (sd'.next r j) (vv.trans (vw_mono r)))⟩
      · rename_i ht
        refine ⟨F.w s', ρ', true, hC F c s', sd', ht, fun H2 r j => iteT ?_⟩
        have v2 := vv.trans (vw_mono r)
        refine ⟨fun σ2 H2 => ∃ ρ2 s2, SD X.K (F.w s2) σ2 ρ2 H2 ∧ Same (vw (F.w s) σ ρ H) (vw (F.w s2) σ2 ρ2 H2) ∧ whO t g m ρ2 s2 = some o, fun σ2 H2 ⟨ρ2, s2, a1, a2, a3⟩ => ⟨m, Nat.lt_succ_self _, ρ2, s2, a1, a2, a3⟩, ?_⟩
        split at hf
        · rename_i ρ2 s2 hg1
          exact ⟨F, ρ', s', _, c, sd'.next r j, hg1, fun σ3 H3 s3 v3 => ⟨ρ2, s2, s3, v2.trans v3, hf⟩⟩
        · rename_i ρ2 s2 hg1
          exact ⟨F, ρ', s', _, c, sd'.next r j, hg1, fun σ3 H3 s3 v3 => ⟨ρ2, s2, s3, v2.trans v3, hf⟩⟩
        · rename_i ρ2 s2 hg1
          cases hf
          exact ⟨F, ρ', s', _, c, sd'.next r j, hg1, fun σ3 H3 s3 v3 => q _ _ s3 (v2.trans v3)⟩
        · rename_i d2 s2 hg1
          cases hf
          exact ⟨F, ρ', s', _, c, sd'.next r j, hg1, fun v H3 j3 v3 rp => q v H3 j3 (v2.trans v3) rp⟩
        · rename_i x2 ρ2 s2 hg1
          cases hf
          exact ⟨F, ρ', s', _, c, sd'.next r j, hg1, fun σ3 H3 s3 v3 => q _ _ s3 (v2.trans v3)⟩
        · cases hf
      · cases hf
end
def Wd.dk (W : Wd) (K : PySem.W.Frag) (P : Program) (w : World) (d e : Addr) (kvs : Kv) : Wd where
  foot := fun b => W.foot b ∨ b = d
  J := fun H => W.J H ∧ ∃ xs, H d = some (NdO P w d xs) ∧ DkP K (tp H) xs kvs
  exa := e
  there := fun H b ⟨j, xs, h1, h2⟩ z => by
    rcases z with z | z
    · exact W.there H b j z
    · rw [z, h1]; exact fun w => by cases w
  stable := fun H H' ⟨j, xs, h1, h2⟩ hfx hft => ⟨W.stable H H' j hfx fun b o e => hft b o (.inl e), xs, hft d _ (.inr rfl) h1, h2.mono (tp_mono hfx)⟩
theorem Wd.dk_cn {W : Wd} {K : PySem.W.Frag} {P : Program} {w : World} {d e : Addr} {kvs : Kv} (c : CN W) : CN (W.dk K P w d e kvs) := fun H b u ⟨j, xs, h1, h2⟩ z e fx => by
  rcases z with z | z
  · exact c H b u j z e fx
  · rw [z, h1] at e; cases e; exact fx
def Wd.dz (W : Wd) (K : PySem.W.Frag) (P : Program) (w : World) (d : Addr) (o : Obj) (xs : List NEnt) (kvs : Kv) : Wd where
  foot := W.foot
  J := fun H => W.J H ∧ H d = some (.frz o (NdO P w d xs)) ∧ DkP K (tp H) xs kvs
  exa := d
  there := fun H b ⟨j, _, _⟩ z => W.there H b j z
  stable := fun H H' ⟨j, h1, h2⟩ hfx hft => ⟨W.stable H H' j hfx hft, hfx d _ trivial h1, h2.mono (tp_mono hfx)⟩
theorem Wd.dz_ok {W : Wd} {K : PySem.W.Frag} {P : Program} {w : World} {d : Addr} {o : Obj} {xs : List NEnt} {kvs : Kv} (c : CN W) : Dz K P w kvs (W.dz K P w d o xs kvs) := ⟨fun H b u ⟨j, _, _⟩ z e fx => c H b u j z e fx, fun H ⟨j, h1, h2⟩ => ⟨o, xs, h1, h2⟩⟩
structure PutF (K : PySem.W.Frag) (P : Program) (w : World) {S : Type} (C : Fw S → Prop) (i : Nat) (ok : S → Ro → Bool) (kv : S → Kv) (nx : S → Kv → S) : Prop where
  fam : ∀ F, C F → ∃ (W : Wd) (e : Addr) (adr : S → Addr), CN W ∧ (∀ s, ¬ W.foot (adr s)) ∧ (∀ s, F.w s = W.dk K P w (adr s) e (kv s)) ∧ (∀ s k, adr (nx s k) = adr s) ∧ (∀ s σ ρ H, SD K (F.w s) σ ρ H → ok s ρ = true → σ[i]? = some (some (.ref (adr s))))
  kvn : ∀ s k, kv (nx s k) = k
def dput {S : Type} (ok : S → Ro → Bool) (kv : S → Kv) (nx : S → Kv → S) (fk fv : Ro → Option D) : Ro → S → Option (Ou S) := fun ρ s => if ok s ρ then (match fk ρ, fv ρ with
  | some dk, some dv => (match keyD dk with
    | some k => if tupD dk && (tupD dv && ((lookK (kv s) k).isNone && decide ((kv s).length < sizeLine))) then some (.nx ρ (nx s (kv s ++ [(dk, dv)]))) else none
    | none => none)
  | _, _ => none) else none
theorem dput_some {S : Type} {ok : S → Ro → Bool} {kv : S → Kv} {nx : S → Kv → S} {fk fv : Ro → Option D} {ρ : Ro} {s : S} {o : Ou S} (h : dput ok kv nx fk fv ρ s = some o) :
    ok s ρ = true ∧ ∃ dk dv k, fk ρ = some dk ∧ fv ρ = some dv ∧ keyD dk = some k ∧ tupD dk = true ∧ tupD dv = true ∧ lookK (kv s) k = none ∧ (kv s).length < sizeLine ∧ o = .nx ρ (nx s (kv s ++ [(dk, dv)])) := by
  unfold dput at h
  split at h
  · rename_i h0
    split at h
    · rename_i dk dv h1 h2
      split at h
      · rename_i k hk
        split at h
        · rename_i hh
          cases h
          rw [Bool.and_eq_true, Bool.and_eq_true, Bool.and_eq_true, decide_eq_true_eq, Option.isNone_iff_eq_none] at hh
          exact ⟨h0, dk, dv, k, h1, h2, hk, hh.1, hh.2.1, hh.2.2.1, hh.2.2.2, rfl⟩
        · cases h
      · cases h
    · cases h
  · cases h
theorem do_put {S : Type} {X : Cx} {C : Fw S → Prop} {CC : Wd → Prop} {Ew : WX} {i : Nat} {ok : S → Ro → Bool} {kv : S → Kv} {nx : S → Kv → S} {fk fv : Ro → Option D} {x : Str} {ke ve : Expr} {p pos pos' : Pos} (PF : PutF X.K X.prog X.w C i ok kv nx) (hu : X.A.units + 10 < cLine) (hC : ∀ F, C F → ∀ s, CC (F.w s)) (hk : DE X CC ke fk) (hv : DE X CC ve fv)
    (hN : X.N[i]? = some x := by rfl) (hvx : Vis X.env.scope x := by first | exact Or.inl rfl | exact Or.inr (Or.inl rfl) | exact Or.inr (Or.inr rfl)) (hd : (x == ("__debug__" : Str)) = false := by decide) (hcd : (x == ("__classdict__" : Str)) = false := by decide)
    (hs : swapsWith ve (some (.Subscript (.Name x p) ke pos')) pos.line X.env = pure false := by rfl) : DStO X C Ew (.Assign [.Subscript (.Name x p) ke pos'] ve pos) (dput ok kv nx fk fv) :=
  ps_imp (ps_ndPut hu (pe_var (i := i) hN hvx hd hcd) hk hv hs) fun E σ H ⟨F, ρ, s, o, c, sd, hg, q⟩ => by
    obtain ⟨h0, dk, dv, k, h1, h2, h3, h4, h5, h6, h7, rfl⟩ := dput_some hg
    obtain ⟨W, e, adr, cn, nf, fw, an, sl⟩ := PF.fam F c
    obtain ⟨ks, rfl, nk, dp⟩ := keyD_some h3
    refine ⟨F.w s, ρ, dv, hC F c s, sd, h2, fun v H1 r1 j1 d1 => ?_⟩
    have sd1 := sd.next r1 j1
    refine ⟨.ref (adr s), sl s σ ρ H sd h0, F.w s, ρ, _, hC F c s, sd1, h1, fun y H2 r2 j2 d2 => ?_⟩
    have sd2 := sd1.next r2 j2
    obtain ⟨b, us, rfl, hb, hu2⟩ := d2.tup_inv
    have j2' : (W.dk X.K X.prog X.w (adr s) e (kv s)).J H2 := by rw [← fw s]; exact j2
    obtain ⟨jw, xs, e1, e2⟩ := id j2'
    have an1 : atKey xs k = none := by
      rcases e2.at k with ⟨z, _⟩ | ⟨_, _, _, _, z, _⟩
      · exact z
      · rw [h6] at z; cases z
    have kp : Rp X.K H2 (.ref b) (.tuple ks) := (Rp.tup hb hu2).mono off_sub
    refine ⟨b, adr s, xs, .tuple ks, k, rfl, rfl, e1, (e2.mono tp_sub).keys, kp, nk, dp, by rw [e2.len]; exact Nat.le_of_lt h7, fun u ru => ?_⟩
    rw [storedH_new an1]
    have fx : ∀ b' u', Fix u' → H2 b' = some u' → upd H2 (adr s) (NdO X.prog X.w (adr s) (xs ++ [(k, b, u)])) b' = some u' := fun b' u' f e' => by
      rw [upd_ne (fun z => by rw [z, e1] at e'; cases e'; exact f)]
      exact e'
    have jn : (F.w (nx s (kv s ++ [(.tuple ks, dv)]))).J (upd H2 (adr s) (NdO X.prog X.w (adr s) (xs ++ [(k, b, u)]))) := by
      rw [fw, an, PF.kvn]
      refine ⟨W.stable H2 _ jw fx fun b' o' z e' => ?_, xs ++ [(k, b, u)], upd_same, ?_⟩
      · rw [upd_ne (fun z2 => nf s (by rw [← z2]; exact z))]
        exact e'
      · refine (e2.mono (tp_mono fx)).app (.cons nk dp ((rp_tp kp h4).mono (tp_mono fx)) ru ((rp_tp (((d1.mono (vw_mono r2)).mono off_sub)) h5).mono (tp_mono fx)) .nil)
    obtain ⟨s3, v3⟩ := sd2.move (W' := F.w (nx s (kv s ++ [(.tuple ks, dv)]))) (by rw [F.hf, F.hf]) (by rw [fw, fw]; rfl) jn (fun b' z => upd_ne (fun z2 => z (by rw [z2, fw]; exact .inr rfl)))
    exact q σ _ s3 (((vw_mono r1).trans (vw_mono r2)).trans v3)
def Fdk (W : Wd) (K : PySem.W.Frag) (P : Program) (w : World) (d : Addr) : Fw Kv := ⟨fun kvs => W.dk K P w d d kvs, fun b => W.foot b ∨ b = d, fun _ => rfl⟩
def IsDk (K : PySem.W.Frag) (P : Program) (w : World) (F : Fw Kv) : Prop := ∃ W d, CN W ∧ ¬ W.foot d ∧ F = Fdk W K P w d
theorem dk_dm {K : PySem.W.Frag} {P : Program} {w : World} : ∀ F, IsDk K P w F → ∀ kvs, Dm K P w kvs (F.w kvs) := fun F ⟨W, d, c, n, e⟩ kvs => by
  subst e
  exact ⟨Wd.dk_cn c, fun H ⟨j, xs, h1, h2⟩ => ⟨xs, h1, h2⟩⟩
theorem dk_cn {K : PySem.W.Frag} {P : Program} {w : World} : ∀ F, IsDk K P w F → ∀ kvs, CN (F.w kvs) := fun F h kvs => (dk_dm F h kvs).1
end DL
namespace DL
open PySem PySem.Spec L2
theorem RpAll.dropLast {K : PySem.W.Frag} {H : Hp} {vs : List V} {ds : List D} (h : RpAll K H vs ds) : RpAll K H vs.dropLast ds.dropLast := by
  rw [List.dropLast_eq_take, List.dropLast_eq_take, h.length]
  exact h.take _
section
variable {X : Cx} {C : Wd → Prop} {Ew : WX} {pos p apos cpos : Pos}
def popG (i : Nat) (b : D → Ro → Option Ro) : Ro → Option Out := fun ρ => match rdO i ρ with
  | some ds => (match ds[ds.length - 1]? with
    | some d => (b d (ρ.set i (.ow ds.dropLast))).map .nx
    | none => none)
  | none => none
theorem ds_popG (i : Nat) {x : Str} {tg : Expr} {vs : List Nat} {b : D → Ro → Option Ro} (hg : DG X C tg vs b) (hN : X.N[i]? = some x := by rfl) (hv : Vis X.env.scope x := by first | exact Or.inl rfl | exact Or.inr (Or.inl rfl) | exact Or.inr (Or.inr rfl)) (hd : (x == ("__debug__" : Str)) = false := by decide)
    (hcd : (x == ("__classdict__" : Str)) = false := by decide) (hbase : attributeBase (.Name x p) "pop" X.env (eval (.Name x p) X.env) = eval (.Name x p) X.env := by rfl) (hline : (apos.endLine == cpos.line) = true := by rfl)
    (hs : swapsWithSole [tg] (.Call (.Attribute (.Name x p) "pop" apos) [] [] cpos) pos.line X.env = pure false := by rfl) (hw : swappedStores [tg] (.Call (.Attribute (.Name x p) "pop" apos) [] [] cpos) X.env = pure none := by rfl)
    (h1 : (assignEach [tg] X.env).map (·.2) = [assign tg X.env] := by rfl) : DS X C Ew (.Assign [tg] (.Call (.Attribute (.Name x p) "pop" apos) [] [] cpos) pos) (popG i b) :=
  ps_imp (ps_asg (pe_bm0 PySem.F.plainAttrs_list PySem.F.slot_list_pop PySem.F.type_list_pop mt_pop (pe_var (i := i) hN hv hd hcd) hbase hline) hg hs hw h1) fun E σ H ⟨W, ρ, o, c, s, hgo, q⟩ => by
    unfold popG at hgo
    split at hgo
    · rename_i ds hds
      split at hgo
      · rename_i d hd
        cases hb : b d (ρ.set i (.ow ds.dropLast)) with
        | none => rw [hb] at hgo; cases hgo
        | some ρ' =>
          rw [hb] at hgo
          cases hgo
          obtain ⟨l, xs, w1, w2, w3, w4⟩ := s.ow i ds (rdO_some hds)
          obtain ⟨v, hvx, rv⟩ := w3.getD hd
          rw [← w3.length] at hvx
          refine ⟨_, w1, .inl ⟨rfl, xs, SqL.of w2⟩, l, xs, v, rfl, rfl, w2, hvx, ?_⟩
          obtain ⟨s', vv⟩ := s.own_upd (rdO_some hds) w1 w2 w4 (ys := xs.dropLast) (es := ds.dropLast) (RpAll.dropLast w3)
          exact ⟨W, ρ.set i (.ow ds.dropLast), d, ρ', c, s', rv.mono vv, hb, fun σ' H2 t => q _ _ t.sd (vv.trans t.vw)⟩
      · cases hgo
    · cases hgo
end
def spP (K : PySem.W.Frag) (P : Program) (w : World) (C : Wd → Prop) (F : List (Option D) → Option Kv) : Sp := fun vs H Q _ => ∃ W ds kvs, C W ∧ W.J H ∧ RpO K W.exa (off W.foot H) vs ds ∧ F ds = some kvs ∧
  ∀ d xs H', W.J H' → Rw W H H' → H d = none → ¬ W.foot d → H' d = some (NdO P w d xs) → DkP K (tp H') xs kvs → Q (.ref d) H'
structure HasP (P : Program) (w : World) (K : PySem.W.Frag) (mg : Str → Option Value) (base : Heap) (k : Nat) (x : Str) (C : Wd → Prop) (F : List (Option D) → Option Kv) : Prop where
  ex : ∃ fa fd ps, FnOk P w K mg base (L2.CX P w) k fa fd ps (spP K P w C F) ∧ mg x = some (.ref fa) ∧ PySem.W.keepIn K (.ref fa) = true ∧ Binds K fd ps []
open Classical in
noncomputable def allP (i : Nat) (g : Addr → Option (Ou Kv)) : Option Kv := if h : ∃ kvs, ∀ d, ∃ ρ', g d = some (.nx ρ' kvs) ∧ isAd i d ρ' = true then some h.choose else none
theorem allP_some {i : Nat} {g : Addr → Option (Ou Kv)} {kvs : Kv} (h : allP i g = some kvs) : ∀ d, ∃ ρ', g d = some (.nx ρ' kvs) ∧ isAd i d ρ' = true := by
  unfold allP at h
  split at h
  · rename_i h0
    cases h
    exact h0.choose_spec
  · cases h
noncomputable def fnP (np n i : Nat) (g : Addr → Ro → Kv → Option (Ou Kv)) : List (Option D) → Option Kv := fun ds => if ds.length = np then allP i (fun d => g d ((iniO n ds).set i (.op (.ref d))) []) else none
def Fpk (W : Wd) (K : PySem.W.Frag) (P : Program) (w : World) (d : Addr) : Fw Kv := ⟨fun kvs => W.dk K P w d W.exa kvs, fun b => W.foot b ∨ b = d, fun _ => rfl⟩
def IsPk (K : PySem.W.Frag) (P : Program) (w : World) (C : Wd → Prop) (d : Addr) (F : Fw Kv) : Prop := ∃ W, C W ∧ ¬ W.foot d ∧ F = Fpk W K P w d
structure CtxDk (K : PySem.W.Frag) (P : Program) (w : World) (C : Wd → Prop) : Prop where
  ok : CtxOk C
  dk : ∀ W d kvs, C W → ¬ W.foot d → C (W.dk K P w d W.exa kvs)
  dz : ∀ W d o xs kvs, C W → ¬ W.foot d → CN (W.dz K P w d o xs kvs)
theorem Sk.dk {K : PySem.W.Frag} {P : Program} {w : World} {Cc : Addr} {R : List Int → Int → Option D} {h a : D} : CtxDk K P w (Sk K P w Cc R h a) := ⟨Sk.ok, fun W d' kvs c nf' => by
  have cn := Sk.ok.nf W c
  obtain ⟨dx, d, vh, va, f1, f2, j, nf, up⟩ := c
  have hne : d ≠ d' := fun z => nf' (by rw [← z]; exact f2)
  refine ⟨dx, d, vh, va, .inl f1, .inl f2, fun H hj => j H hj.1, Wd.dk_cn cn, fun H xs ⟨hj, ys, e1, e2⟩ g => ⟨up H xs hj g, ys, by rw [upd_ne hne.symm]; exact e1, e2.mono (tp_mono fun b u fx e => ?_)⟩⟩
  obtain ⟨_, _, _, zs, hz, _⟩ := j H hj
  rw [upd_ne (fun z => by rw [z, hz] at e; cases e; exact fx)]
  exact e, fun W d' o xs kvs c nf' => (Wd.dz_ok (Sk.ok.nf W c)).1⟩
section
variable {K : PySem.W.Frag} {P : Program} {w : World} {C : Wd → Prop} {dd : Addr}
theorem pk_c (hC : CtxDk K P w C) : ∀ F, IsPk K P w C dd F → ∀ kvs, C (F.w kvs) := fun F ⟨W, c, n, e⟩ kvs => by
  subst e
  exact hC.dk W dd kvs c n
theorem pk_put (hC : CtxDk K P w C) (i : Nat) : PutF K P w (IsPk K P w C dd) i (fun _ => isAd i dd) (fun k => k) (fun _ k => k) := ⟨fun F ⟨W, c, n, e⟩ => by
  subst e
  exact ⟨W, W.exa, fun _ => dd, hC.ok.nf W c, fun _ => n, fun _ => rfl, fun _ _ => rfl, fun s σ ρ H sd h => sd.op i _ (isAd_some h)⟩, fun _ _ => rfl⟩
def DkA (K : PySem.W.Frag) (P : Program) (w : World) (C : Wd → Prop) (dd : Addr) (kvs : Kv) (W : Wd) : Prop := C W ∧ ∀ H, W.J H → ∃ xs, H dd = some (NdO P w dd xs) ∧ DkP K (tp H) xs kvs
theorem pk_a (hC : CtxDk K P w C) : ∀ F, IsPk K P w C dd F → ∀ kvs, DkA K P w C dd kvs (F.w kvs) := fun F ⟨W, c, n, e⟩ kvs => by
  subst e
  exact ⟨hC.dk W dd kvs c n, fun H ⟨j, xs, h1, h2⟩ => ⟨xs, h1, h2⟩⟩
theorem DkA.rr (hC : CtxDk K P w C) {kvs : Kv} (i : Nat) : Rdr K P w (DkA K P w C dd kvs) i (isAd i dd) kvs := ⟨fun W c => hC.ok.nf W c.1, fun W σ ρ H c s h => by
  obtain ⟨xs, h1, h2⟩ := c.2 H s.j
  exact ⟨dd, xs, s.op i _ (isAd_some h), .inl h1, h2⟩⟩
end
theorem fn_defP {P : Program} {w : World} {K : PySem.W.Frag} {mg : Str → Option Value} {base : Heap} {x qual nm : Str} {params : Arguments} {m1 m2 : Stmt} {p1 p2 p3 p4 p5 : Pos} {scope : Scope} {dvs : List V} {kws : List (Str × V)} {f : Addr} {fd : FuncData} {N ps : List Str} {k i : Nat} {g1 g2 : Addr → Ro → Kv → Option (Ou Kv)} {C : Wd → Prop}
    (FF : FunD K x qual params [.Assign [.Name nm p1] (.Dict [] [] p2) p3, m1, m2, .Return (some (.Name nm p4)) p5] scope dvs kws f fd) (S : FnScope N ps scope) (hC : CtxDk K P w C) (hi : N[i]? = some nm) (lo : scope.names.lookup nm = some NameKind.local) (hps : ps.length ≤ i) (hdb : (nm == ("__debug__" : Str)) = false := by decide) (hcd : (nm == ("__classdict__" : Str)) = false := by decide)
    (h1 : ∀ (cdv : Value) (A : Around) (outer : List Env) (s : Shared) (H : Hp) (E : XK), Room k (A.deeper (PyProof.Rows.envOfC qual scope s.heap.objs.size f cdv)) → ∀ dd,
      DStO (cxOf (L2.CX P w) P w K mg base N qual scope f cdv A outer s H E) (IsPk K P w C dd) (fun cls d _ H => E cls d H) m1 (g1 dd))
    (h2 : ∀ (cdv : Value) (A : Around) (outer : List Env) (s : Shared) (H : Hp) (E : XK), Room k (A.deeper (PyProof.Rows.envOfC qual scope s.heap.objs.size f cdv)) → ∀ dd,
      DStO (cxOf (L2.CX P w) P w K mg base N qual scope f cdv A outer s H E) (IsPk K P w C dd) (fun cls d _ H => E cls d H) m2 (g2 dd)) :
    FnOk P w K mg base (L2.CX P w) (k + 1) f fd ps (spP K P w C (fnP ps.length N.length i (fun dd => sqO (g1 dd) (g2 dd)))) := by
  refine FF.ok S (fun vs H Q E ⟨W, ds, r, c, j, a, e, m⟩ => ?_) fun cdv A outer s H vs Q E hr ⟨W, ds, kvs, c, j, a, e, m⟩ => ?_
  · unfold fnP at e
    split at e
    · rw [a.length]; assumption
    · cases e
  · have q1 : PS (cxOf (L2.CX P w) P w K mg base N qual scope f cdv A outer s H E) m1 (fun E' σ H' => ∃ dd, tO K (IsPk K P w C dd) (fun cls d _ H => E cls d H) (g1 dd) E' σ H') := ⟨fun pins s' σ H' E' I ⟨dd, q⟩ => (h1 cdv A outer s H E hr dd).run pins s' σ H' E' I q⟩
    have q2 : PS (cxOf (L2.CX P w) P w K mg base N qual scope f cdv A outer s H E) m2 (fun E' σ H' => ∃ dd, tO K (IsPk K P w C dd) (fun cls d _ H => E cls d H) (g2 dd) E' σ H') := ⟨fun pins s' σ H' E' I ⟨dd, q⟩ => (h2 cdv A outer s H E hr dd).run pins s' σ H' E' I q⟩
    refine ⟨_, pss_cons (ps_set (i := i) S.nd hi (.inl lo) pe_ndNew rfl (.inr lo)) (pss_cons q1 (pss_cons q2 (pss_one (ps_ret (pe_var (i := i) hi (.inl lo) hdb hcd))))), ?_⟩
    unfold fnP at e
    split at e
    · rename_i hlen
      have s0 := sd_startO (N := N) j a
      intro d hd
      have nf : ¬ W.foot d := fun z => W.there H d j z hd
      obtain ⟨ρe, hg, had⟩ := allP_some e d
      have keep : ∀ b u, H b = some u → upd H d (NdO P w d []) b = some u := fun b u e => by
        rw [upd_ne (ne_of_none e hd)]
        exact e
      have jw : (W.dk K P w d W.exa []).J (upd H d (NdO P w d [])) := ⟨W.same j keep, [], upd_same, .nil⟩
      have hv1 : Same (vw W (L2.start N vs) (iniO N.length ds) H) (vw (W.dk K P w d W.exa []) (L2.start N vs) (iniO N.length ds) (upd H d (NdO P w d []))) := fun b o e => by
        obtain ⟨n, e⟩ := off_some e
        have nb : b ≠ d := fun z => by rw [z, hd] at e; cases e
        rw [show vw (W.dk K P w d W.exa []) (L2.start N vs) (iniO N.length ds) (upd H d (NdO P w d [])) b = _ from off_neg fun z => z.elim (fun z => z.elim (fun z => n (.inl z)) nb) fun z => n (.inr z), upd_ne nb]
        exact e
      have s1 : SD K (W.dk K P w d W.exa []) (L2.start N vs) (iniO N.length ds) (upd H d (NdO P w d [])) := ⟨jw, fun l dd e => by
          obtain ⟨v, z1, z2⟩ := s0.sh l dd e
          exact ⟨v, z1, z2.mono hv1⟩, fun l es e => absurd e (iniO_noow l es), s0.inj, s0.op, s0.exn, s0.len⟩
      obtain ⟨s2, v2⟩ := s1.set (i := i) (v := .ref d) (cl := .op (.ref d)) (fun _ z => by cases z) (fun _ z => by cases z) (fun _ z => by cases z; rfl)
      have v0 := hv1.trans v2
      rw [iniO_vw] at v0
      replace hg : sqO (g1 d) (g2 d) ((iniO N.length ds).set i (.op (.ref d))) [] = some (.nx ρe kvs) := hg
      unfold sqO at hg
      split at hg
      · rename_i ρ1 k1 hg1
        refine ⟨d, Fpk W K P w d, _, [], .nx ρ1 k1, ⟨W, c, nf, rfl⟩, s2, hg1, fun σ3 H3 s3 v3 => ?_⟩
        refine ⟨d, Fpk W K P w d, ρ1, k1, _, ⟨W, c, nf, rfl⟩, s3, hg, fun σ4 H4 s4 v4 => ?_⟩
        obtain ⟨jw4, xs, e1, e2⟩ := s4.j
        refine ⟨.ref d, s4.op i _ (isAd_some had), m d xs H4 jw4 (fun b o n e => ?_) hd nf e1 e2⟩
        have := ((v0.trans v3).trans v4) b o (by rw [off_neg n]; exact e)
        exact (off_some this).2
      · rename_i hn
        exact absurd hg (hn _ _)
    · cases e
def clr (ρ : Ro) : Ro := ρ.map fun c => match c with
  | .exn => .un
  | c => c
theorem clr_get {ρ : Ro} {i : Nat} {c : Cel} (h : (clr ρ)[i]? = some c) (hc : c ≠ .un) : ρ[i]? = some c ∧ c ≠ .exn := by
  unfold clr at h
  rw [List.getElem?_map] at h
  cases e : ρ[i]? with
  | none => rw [e] at h; cases h
  | some c' =>
    rw [e] at h
    cases c' with
    | exn => cases h; exact absurd rfl hc
    | un => cases h; exact absurd rfl hc
    | sh d => cases h; exact ⟨rfl, fun z => by cases z⟩
    | ow d => cases h; exact ⟨rfl, fun z => by cases z⟩
    | op d => cases h; exact ⟨rfl, fun z => by cases z⟩
theorem clr_vw {W : Wd} {σ : L2.St} {ρ : Ro} {H : Hp} : vw W σ (clr ρ) H = vw W σ ρ H := by
  unfold vw
  congr 1
  funext b
  apply propext
  constructor
  · rintro (z | ⟨i, ds, z1, z2⟩)
    · exact .inl z
    · exact .inr ⟨i, ds, (clr_get z1 (fun z => by cases z)).1, z2⟩
  · rintro (z | ⟨i, ds, z1, z2⟩)
    · exact .inl z
    · refine .inr ⟨i, ds, ?_, z2⟩
      unfold clr
      rw [List.getElem?_map, z1]
      rfl
theorem SD.clr {K : PySem.W.Frag} {W W' : Wd} {σ : L2.St} {ρ : Ro} {H H' : Hp} (s : SD K W σ ρ H) (hf : W'.foot = W.foot) (j' : W'.J H') (kf : ∀ b o, ¬ W.foot b → H b = some o → ¬ isOw σ ρ b → H' b = some o) (ko : ∀ b, isOw σ ρ b → H' b = H b) :
    SD K W' σ (DL.clr ρ) H' ∧ Same (vw W σ ρ H) (vw W' σ (DL.clr ρ) H') := by
  have hv : Same (vw W σ ρ H) (vw W' σ (DL.clr ρ) H') := fun b o e => by
    rw [clr_vw]
    obtain ⟨n, e⟩ := off_some e
    rw [show vw W' σ ρ H' b = H' b from off_neg fun z => n (by rw [hf] at z; exact z)]
    exact kf b o (fun z => n (.inl z)) e fun z => n (.inr z)
  refine ⟨⟨j', fun i d e => ?_, fun i ds e => ?_, fun i j ds es a h1 h2 h3 h4 => ?_, fun i v e => ?_, fun i e => ?_, ?_⟩, hv⟩
  · obtain ⟨v, h1, h2⟩ := s.sh i d (clr_get e (fun z => by cases z)).1
    exact ⟨v, h1, h2.mono hv⟩
  · have e' := (clr_get e (fun z => by cases z)).1
    obtain ⟨b, xs, h1, h2, h3, h4⟩ := s.ow i ds e'
    exact ⟨b, xs, h1, by rw [ko b ⟨i, ds, e', h1⟩]; exact h2, h3.mono hv, by rw [hf]; exact h4⟩
  · exact s.inj i j ds es a (clr_get h1 (fun z => by cases z)).1 (clr_get h2 (fun z => by cases z)).1 h3 h4
  · exact s.op i v (clr_get e (fun z => by cases z)).1
  · exact absurd rfl (clr_get e (fun z => by cases z)).2
  · unfold DL.clr
    rw [List.length_map]
    exact s.len
def papS (i : Nat) (F : List (Option D) → Option Kv) (ga : Ro → Option (List (Option D))) (gr : Kv → Ro → Option Out) : Ro → Option Out := fun ρ => match ga ρ with
  | some ds => (match F ds with
    | some kvs => (match gr kvs ((clr ρ).set i .exn) with
      | some (.rt d) => some (.rt d)
      | _ => none)
    | none => none)
  | none => none
section
variable {X : Cx} {C : Wd → Prop} {Ew : WX} {p pos pos' pos2 : Pos}
theorem dss_pap {i k : Nat} {x fn : Str} {e : Expr} {es : List Expr} {rest : List Stmt} {F : List (Option D) → Option Kv} {ga : Ro → Option (List (Option D))} {gr : Kv → Ro → Option Out}
    (hN : X.N.Nodup) (hi : X.N[i]? = some x) (hx : Loc X.env.scope x) (FO : HasP X.prog X.w X.K X.mg X.base k fn C F) (hC : CtxDk X.K X.prog X.w C) (hr : Room k X.A) (ha : DAo X C (e :: es) ga)
    (hrest : ∀ kvs, DSs X (Dz X.K X.prog X.w kvs) Ew rest (gr kvs)) (hg : Gl X fn := by rfl) (hdb : (fn == ("__debug__" : Str)) = false := by decide) (he : starEach (e :: es) X.env = (false, eval e X.env) :: starEach es X.env := by rfl)
    (hpl : (backTo pos2 (starEach es X.env)).any (·.1) = false := by rfl)
    (hs : swapsWith (.Call (.Name fn p) (e :: es) [] pos2) (some (.Name x pos')) pos.line X.env = pure false := by rfl)
    (hf : X.fn x = true ∨ X.env.scope.names.lookup x = some .local := by first | exact .inl rfl | exact .inr rfl | assumption) :
    DSs X C Ew (.Assign [.Name x pos'] (.Call (.Name fn p) (e :: es) [] pos2) pos :: rest) (papS i F ga gr) := by
  obtain ⟨fa, fd, ps, g1, g2, g3, g4⟩ := FO.ex
  have hrs : PSs X rest (tLk fun E σ H => ∃ kvs, tS X.K (Dz X.K X.prog X.w kvs) Ew (gr kvs) E σ H) := pss_lock ⟨fun pins s σ H E I ⟨k, q⟩ => (hrest k).run pins s σ H E I q⟩
  refine pss_imp (pss_cons (ps_set hN hi hx (pe_call g1 hr hg g2 g3 g4 .nil passL ha hdb he hpl) hs hf) hrs) fun E σ H ⟨W, ρ, o, c, s, hgo, q⟩ => ?_
  unfold papS at hgo
  split at hgo
  · rename_i ds hds
    split at hgo
    · rename_i kvs hF
      refine ⟨W, ρ, ds, c, s, hds, fun vs H1 r1 j1 d1 => ?_⟩
      have s1 := s.next r1 j1
      refine (?_ : spP X.K X.prog X.w C F (vs ++ []) H1 _ E0)
      rw [List.append_nil]
      refine ⟨W.add (isOw σ ρ) H1 s1.own, ds, kvs, own_add hC.ok c s1, ⟨j1, fun _ _ => rfl⟩, d1, hF, fun d xs H2 j2 r2 hd nf e1 e2 => ?_⟩
      refine ⟨d, _, e1, trivial, fun od => ?_⟩
      have nfW : ¬ W.foot d := fun z => nf (.inl z)
      have fx : ∀ b' u', Fix u' → H2 b' = some u' → upd H2 d (.frz od (NdO X.prog X.w d xs)) b' = some u' := fun b' u' f e' => by
        rw [upd_ne (fun z => by rw [z, e1] at e'; cases e'; exact f)]
        exact e'
      have jz : (W.dz X.K X.prog X.w d od xs kvs).J (upd H2 d (.frz od (NdO X.prog X.w d xs))) := ⟨W.stable H2 _ j2.1 fx fun b o z e => by
        rw [upd_ne (fun z2 => nfW (by rw [← z2]; exact z))]
        exact e, upd_same, e2.mono (tp_mono fx)⟩
      have ndo : ∀ b, isOw σ ρ b → b ≠ d := fun b z z2 => nf (.inr (by rw [← z2]; exact z))
      obtain ⟨s3, v3⟩ := s1.clr (W' := W.dz X.K X.prog X.w d od xs kvs) rfl jz (fun b o n e no => by
        have nb : b ≠ d := fun z => by rw [z, hd] at e; cases e
        rw [upd_ne nb]
        exact Rw.add r2 j2 b o n e) (fun b z => by rw [upd_ne (ndo b z)]; exact j2.2 b z)
      obtain ⟨s4, v4⟩ := s3.set (i := i) (v := .ref d) (cl := .exn) (fun _ z => by cases z) (fun _ z => by cases z) (fun _ z => by cases z) (fun _ => rfl)
      cases hgr : gr kvs ((clr ρ).set i .exn) with
      | none => simp only [hgr] at hgo; cases hgo
      | some o5 =>
        simp only [hgr] at hgo
        refine ⟨kvs, W.dz X.K X.prog X.w d od xs kvs, _, o5, Wd.dz_ok (hC.ok.nf W c), s4, hgr, ?_⟩
        cases o5 with
        | rt dd =>
          cases hgo
          exact fun v H6 j6 sm rp => q v H6 j6.1 ((((vw_mono r1).trans v3).trans v4).trans sm) rp
        | _ => cases hgo
    · cases hgo
  · cases hgo
end
end DL
namespace DL
open PySem PySem.Spec L2
def nOw (ρ : Ro) : Bool := ρ.all fun c => match c with
  | .ow _ => false
  | _ => true
theorem nOw_no {ρ : Ro} (h : nOw ρ = true) {σ : L2.St} {a : Addr} : ¬ isOw σ ρ a := fun ⟨i, ds, z, _⟩ => by
  have := List.all_eq_true.mp h _ (List.mem_of_getElem? z)
  cases this
theorem nOw_wipe {ρ : Ro} (h : nOw ρ = true) (vs : List Nat) {σ : L2.St} {a : Addr} : ¬ isOw σ (wipeR ρ vs) a := fun ⟨i, ds, z, _⟩ => by
  obtain ⟨z, _⟩ := wipeR_some (by intro z; cases z) z
  have := List.all_eq_true.mp h _ (List.mem_of_getElem? z)
  cases this
theorem SD.pin {K : PySem.W.Frag} {W W' : Wd} {σ : L2.St} {ρ : Ro} {H H' : Hp} {vs : List Nat} {D0 : Addr} (s : SD K W σ ρ H) (h : nOw ρ = true) (he : W'.exa = W.exa) (j : W'.J H') (kf : ∀ b o, ¬ W.foot b → b ≠ D0 → H b = some o → H' b = some o) (fr : ∀ b, W'.foot b → W.foot b ∨ b = D0) (hD : H D0 = none ∨ W.foot D0) :
    SD K W' (wipe σ vs) (wipeR ρ vs) H' ∧ Same (vw W σ ρ H) (vw W' (wipe σ vs) (wipeR ρ vs) H') := by
  have hv : Same (vw W σ ρ H) (vw W' (wipe σ vs) (wipeR ρ vs) H') := fun b o e => by
    obtain ⟨n, e⟩ := off_some e
    have nb : b ≠ D0 := fun z => by
      rcases hD with hD | hD
      · rw [z, hD] at e; cases e
      · exact n (.inl (by rw [z]; exact hD))
    rw [show vw W' (wipe σ vs) (wipeR ρ vs) H' b = H' b from off_neg fun z => z.elim (fun z => (fr b z).elim (fun z => n (.inl z)) nb) (nOw_wipe h vs)]
    exact kf b o (fun z => n (.inl z)) nb e
  refine ⟨⟨j, fun i d e => ?_, fun i ds e => ?_, fun i l ds es a h1 h2 h3 h4 => ?_, fun i v e => ?_, fun i e => ?_, by rw [wipeR_length, wipe_length]; exact s.len⟩, hv⟩
  · obtain ⟨e, hi⟩ := wipeR_some (by intro z; cases z) e
    obtain ⟨v, h1, h2⟩ := s.sh i d e
    exact ⟨v, by rw [wipe_out hi]; exact h1, h2.mono hv⟩
  · obtain ⟨e', _⟩ := wipeR_some (by intro z; cases z) e
    obtain ⟨a, xs, h1, _⟩ := s.ow i ds e'
    exact absurd ⟨i, ds, e', h1⟩ (nOw_no h)
  · obtain ⟨h1, _⟩ := wipeR_some (by intro z; cases z) h1
    obtain ⟨h2, _⟩ := wipeR_some (by intro z; cases z) h2
    exact s.inj i l ds es a h1 h2 (wipe_some h3).1 (wipe_some h4).1
  · obtain ⟨e, hi⟩ := wipeR_some (by intro z; cases z) e
    rw [wipe_out hi]
    exact s.op i v e
  · obtain ⟨e, hi⟩ := wipeR_some (by intro z; cases z) e
    rw [wipe_out hi, he]
    exact s.exn i e
def lc2L (vs1 : List Nat) (b : D → Ro → Option Ro) (f1 : Ro → Option (List D)) (b1 : D → Ro → Option Ro) (e : Ro → Option D) : List D → Ro → Option (List D)
  | [], _ => some []
  | d :: ds, ρ => match b d ρ with
    | some ρ1 => if nOw ρ1 then (match f1 ρ1 with
      | some ds1 => (match lcL b1 yes e ds1 (wipeR ρ1 vs1), lc2L vs1 b f1 b1 e ds ρ with
        | some ys, some zs => some (ys ++ zs)
        | _, _ => none)
      | none => none) else none
    | none => none
def lc2 (vs vs1 : List Nat) (f : Ro → Option (List D)) (b : D → Ro → Option Ro) (f1 : Ro → Option (List D)) (b1 : D → Ro → Option Ro) (e : Ro → Option D) : Ro → Option (List D) := fun ρ => if nOw ρ then (match f ρ with
  | some ds => (match lc2L vs1 b f1 b1 e ds (wipeR ρ vs) with
    | some ys => if ys.length ≤ sizeLine then some ys else none
    | none => none)
  | none => none) else none
section
variable {X : Cx} {C : Wd → Prop} {Ew : WX} {pos : Pos}
theorem t_lc2 {K : PySem.W.Frag} {vs us vs1 us1 : List Nat} {F F1 : Ro → Option (List D)} {B B1 : D → Ro → Option Ro} {e : Ro → Option D} (hC : CtxOk C) (hsub : ∀ i ∈ us, i ∈ vs) (hsub1 : ∀ i ∈ us1, i ∈ vs1) :
    ∀ σ H Q, tF K C (lc2 vs vs1 F B F1 B1 e) σ H Q → tLc2 (tI K C F) (tG K C us B) (tT K C yes) (tI K C F1) (tG K C us1 B1) (tT K C yes) (tD K C e) vs vs1 σ H Q := by
  rintro σ H Q ⟨W, ρ, total, c, s, hf, q⟩
  unfold lc2 at hf
  split at hf
  · rename_i now
    split at hf
    · rename_i ds hds
      split at hf
      · rename_i tot htl
        split at hf
        · rename_i hsz
          cases hf
          refine ⟨W, ρ, ds, c, s, hds, fun J H1 r1 j1 ok hz D0 hD => ?_⟩
          have s1 := s.next r1 j1
          have hD0 : ¬ W.foot D0 := s1.newF hD
          have foo : ∀ H', off (fun b => (W.foot b ∨ isOw σ ρ b) ∨ b = D0) H' = off (fun b => W.foot b ∨ b = D0) H' := fun H' => by
            congr 1
            funext b
            apply propext
            exact ⟨fun z => z.elim (fun z => z.elim .inl fun z => absurd z (nOw_no now)) .inr, fun z => z.elim (fun z => .inl (.inl z)) .inr⟩
          have v1 : ∀ H', Rw W H1 H' → Same (vw W σ ρ H1) H' := fun H' r' a o ea => by
            obtain ⟨n, e1⟩ := off_some ea
            exact r' a o (fun z => n (.inl z)) e1
          have mkC : ∀ (Hc : Hp) (acc : List V) (hq : ∀ a, a = D0 → Hc a ≠ none), Hc D0 = some (.lst acc) → C (W.add (fun a => a = D0) Hc hq) := fun Hc acc hq h => hC.add _ _ _ _ c (fun a z zf => hD0 (z ▸ zf)) fun a u z z3 fx => by
            rw [z, h] at z3
            cases z3
            exact fx
          refine ⟨fun i m H' => ∃ acc es rest, W.J H' ∧ Rw W H1 H' ∧ H' D0 = some (.lst acc) ∧ RpAll K (off (fun b => W.foot b ∨ b = D0) H') acc es ∧ lc2L vs1 B F1 B1 e (ds.drop i) (wipeR ρ vs) = some rest ∧ total = es ++ rest ∧ m = ds.length - i ∧ i ≤ ds.length,
            ⟨ds.length, [], [], total, W.same j1 (same_upd hD), Rw.of (same_upd hD), upd_same, .nil, by simpa using htl, rfl, by simp, Nat.zero_le _⟩, ?_⟩
          rintro i m H' ⟨acc, es, rest, j', r', hDl, hacc, hrest, htot, rfl, hle⟩
          by_cases hlt : i < ds.length
          · right
            refine ⟨ok.go i H' hlt (v1 H' r'), fun H5 => ∃ acc es rest, W.J H5 ∧ Rw W H1 H5 ∧ H5 D0 = some (.lst acc) ∧ RpAll K (off (fun b => W.foot b ∨ b = D0) H5) acc es ∧ lc2L vs1 B F1 B1 e (ds.drop (i + 1)) (wipeR ρ vs) = some rest ∧ total = es ++ rest,
              fun H5 ⟨acc, es, rest, a1, a2, a3, a4, a5, a6⟩ => ⟨ds.length - (i + 1), by omega, acc, es, rest, a1, a2, a3, a4, a5, a6, rfl, hlt⟩, fun x H'' y => ?_⟩
            obtain ⟨sy, d, hd, hrp⟩ := ok.yld i H' x H'' hlt (v1 H' r') y
            have hdrop : ds.drop i = d :: ds.drop (i + 1) := by
              obtain ⟨h1, h2⟩ := List.getElem?_eq_some_iff.mp hd
              rw [List.drop_eq_getElem_cons h1, h2]
            rw [hdrop] at hrest
            unfold lc2L at hrest
            split at hrest
            · rename_i ρ1 hb1
              split at hrest
              · rename_i now1
                split at hrest
                · rename_i ds1 hds1
                  split at hrest
                  · rename_i ys zs hys hzs
                    cases hrest
                    have r'' : Rw W H1 H'' := r'.trans (Rw.of sy)
                    have j'' : W.J H'' := W.same j' sy
                    have hDl2 : H'' D0 = some (.lst acc) := sy _ _ hDl
                    have hq : ∀ a, a = D0 → H'' a ≠ none := fun a z => by rw [z, hDl2]; exact fun w => by cases w
                    have cW' := mkC H'' acc hq hDl2
                    obtain ⟨si, vi⟩ := s1.pin (W' := W.add (fun a => a = D0) H'' hq) (vs := vs) (D0 := D0) now rfl ⟨j'', fun _ _ => rfl⟩ (fun b o n _ e => r'' b o n e) (fun b z => z) (.inl hD)
                    have rp : Rp K (vw (W.add (fun a => a = D0) H'' hq) (wipe σ vs) (wipeR ρ vs) H'') x d := by
                      refine hrp _ (fun a z => ?_) fun a o ea => ?_
                      · rcases z with (z | z) | z
                        · exact W.there H' a j' z
                        · rw [z, hDl]; exact fun w => by cases w
                        · exact absurd z (nOw_wipe now vs)
                      · obtain ⟨n1, _⟩ := off_some (vi a o ea)
                        show off _ H' a = some o
                        rw [off_neg n1]
                        exact v1 H' r' a o ea
                    generalize hW' : W.add (fun a => a = D0) H'' hq = W' at si vi cW' rp
                    have foot' : ∀ a, W'.foot a ↔ (W.foot a ∨ a = D0) := fun a => by rw [← hW']; exact Iff.rfl
                    have J' : ∀ h, W'.J h ↔ (W.J h ∧ ∀ a, a = D0 → h a = H'' a) := fun h => by rw [← hW']; exact Iff.rfl
                    have ex' : W'.exa = W.exa := by rw [← hW']; rfl
                    refine ⟨W', wipeR ρ vs, d, ρ1, cW', si, rp, hb1, fun σ2 H2 t => ⟨by rw [t.wp vs hsub, wipe_wipe], ?_⟩⟩
                    refine ⟨W', ρ1, true, cW', t.sd, rfl, fun H3 r3 j3 => iteT ?_⟩
                    refine ⟨W', ρ1, ds1, cW', t.sd.next r3 j3, hds1, fun J1 H4 r4 j4 ok1 hz1 => ?_⟩
                    have sd4 : SD K W' σ2 ρ1 H4 := (t.sd.next r3 j3).next r4 j4
                    have hD4 : H4 D0 = some (.lst acc) := by rw [((J' H4).mp j4).2 D0 rfl]; exact hDl2
                    have rw4 : Rw W H1 H4 := fun a o n e1 => by
                      have nd : a ≠ D0 := fun z => by rw [z, hD] at e1; cases e1
                      have n' : ¬ W'.foot a := fun w => ((foot' a).mp w).elim n nd
                      exact r4 a o n' (r3 a o n' (t.rw a o n' (r'' a o n e1)))
                    have keep4 : Same (off (fun b => W.foot b ∨ b = D0) H') (off (fun b => W.foot b ∨ b = D0) H4) := off_mono (fun _ _ _ h => h) fun a o n e1 => by
                      have n' : ¬ W'.foot a := fun w => n ((foot' a).mp w)
                      exact r4 a o n' (r3 a o n' (t.rw a o n' (sy a o e1)))
                    refine ⟨fun jj k Hc => ∃ acc es rest1, W.J Hc ∧ (∀ a o, ¬ W.foot a → a ≠ D0 → H4 a = some o → Hc a = some o) ∧ Hc D0 = some (.lst acc) ∧ RpAll K (off (fun b => W.foot b ∨ b = D0) Hc) acc es ∧ lcL B1 yes e (ds1.drop jj) (wipeR ρ1 vs1) = some rest1 ∧ total = es ++ (rest1 ++ zs) ∧ k = ds1.length - jj ∧ jj ≤ ds1.length,
                      ⟨ds1.length, acc, es, ys, ((J' H4).mp j4).1, fun _ _ _ _ e => e, hD4, hacc.mono keep4, by simpa using hys, htot, by simp, Nat.zero_le _⟩, ?_⟩
                    rintro jj k Hc ⟨acc2, es2, rest1, jc, kc, hDc, hac, hr1, ht2, rfl, hle1⟩
                    have vc : Same (vw W' σ2 ρ1 H4) Hc := fun a o ea => by
                      obtain ⟨n, e1⟩ := off_some ea
                      exact kc a o (fun z => n (.inl ((foot' a).mpr (.inl z)))) (fun z => n (.inl ((foot' a).mpr (.inr z)))) e1
                    have rwc : ∀ Hd, (∀ a o, ¬ W.foot a → a ≠ D0 → H4 a = some o → Hd a = some o) → Rw W H1 Hd := fun Hd kd a o n e1 => by
                      have nd : a ≠ D0 := fun z => by rw [z, hD] at e1; cases e1
                      exact kd a o n nd (rw4 a o n e1)
                    by_cases hlt1 : jj < ds1.length
                    · right
                      refine ⟨ok1.go jj Hc hlt1 vc, fun H5 => ∃ acc es rest1, W.J H5 ∧ (∀ a o, ¬ W.foot a → a ≠ D0 → H4 a = some o → H5 a = some o) ∧ H5 D0 = some (.lst acc) ∧ RpAll K (off (fun b => W.foot b ∨ b = D0) H5) acc es ∧ lcL B1 yes e (ds1.drop (jj + 1)) (wipeR ρ1 vs1) = some rest1 ∧ total = es ++ (rest1 ++ zs),
                        fun H5 ⟨acc, es, rest, a1, a2, a3, a4, a5, a6⟩ => ⟨ds1.length - (jj + 1), by omega, acc, es, rest, a1, a2, a3, a4, a5, a6, rfl, hlt1⟩, fun x1 Hd y1 => ?_⟩
                      obtain ⟨sy1, d1, hd1, hrp1⟩ := ok1.yld jj Hc x1 Hd hlt1 vc y1
                      have hdrop1 : ds1.drop jj = d1 :: ds1.drop (jj + 1) := by
                        obtain ⟨h1, h2⟩ := List.getElem?_eq_some_iff.mp hd1
                        rw [List.drop_eq_getElem_cons h1, h2]
                      rw [hdrop1] at hr1
                      unfold lcL at hr1
                      split at hr1
                      · cases hr1
                      · rename_i ρ2 hb2
                        simp only [yes] at hr1
                        split at hr1
                        · rename_i y' ys' he' hr'
                          cases hr1
                          have hDd : Hd D0 = some (.lst acc2) := sy1 _ _ hDc
                          have jd : W.J Hd := W.same jc sy1
                          have kd : ∀ a o, ¬ W.foot a → a ≠ D0 → H4 a = some o → Hd a = some o := fun a o n nd e1 => sy1 a o (kc a o n nd e1)
                          have hq1 : ∀ a, a = D0 → Hd a ≠ none := fun a z => by rw [z, hDd]; exact fun w => by cases w
                          have cW1 := mkC Hd acc2 hq1 hDd
                          obtain ⟨si1, vi1⟩ := sd4.pin (W' := W.add (fun a => a = D0) Hd hq1) (vs := vs1) (D0 := D0) now1 (by rw [ex']; rfl) ⟨jd, fun _ _ => rfl⟩ (fun b o n nd e => kd b o (fun z => n ((foot' b).mpr (.inl z))) nd e) (fun b z => .inl ((foot' b).mpr z)) (.inr ((foot' D0).mpr (.inr rfl)))
                          have rp1 : Rp K (vw (W.add (fun a => a = D0) Hd hq1) (wipe σ2 vs1) (wipeR ρ1 vs1) Hd) x1 d1 := by
                            refine hrp1 _ (fun a z => ?_) fun a o ea => ?_
                            · rcases z with (z | z) | z
                              · exact W.there Hc a jc z
                              · rw [z, hDc]; exact fun w => by cases w
                              · exact absurd z (nOw_wipe now1 vs1)
                            · obtain ⟨n1, _⟩ := off_some (vi1 a o ea)
                              show off _ Hc a = some o
                              rw [off_neg n1]
                              exact vc a o ea
                          generalize hW1 : W.add (fun a => a = D0) Hd hq1 = W1 at si1 vi1 cW1 rp1
                          have foot1 : ∀ a, W1.foot a ↔ (W.foot a ∨ a = D0) := fun a => by rw [← hW1]; exact Iff.rfl
                          have J1' : ∀ h, W1.J h ↔ (W.J h ∧ ∀ a, a = D0 → h a = Hd a) := fun h => by rw [← hW1]; exact Iff.rfl
                          refine ⟨W1, wipeR ρ1 vs1, d1, ρ2, cW1, si1, rp1, hb2, fun σ3 H5 t1 => ⟨by rw [t1.wp vs1 hsub1, wipe_wipe], ?_⟩⟩
                          refine ⟨W1, ρ2, true, cW1, t1.sd, rfl, fun H6 r6 j6 => iteT ?_⟩
                          refine ⟨W1, ρ2, y', cW1, t1.sd.next r6 j6, he', fun v H7 r7 j7 dp => ?_⟩
                          have hD7 : H7 D0 = some (.lst acc2) := by rw [((J1' H7).mp j7).2 D0 rfl]; exact hDd
                          have k7 : ∀ a o, ¬ W.foot a → a ≠ D0 → Hd a = some o → H7 a = some o := fun a o n nd e1 => by
                            have n' : ¬ W1.foot a := fun w => ((foot1 a).mp w).elim n nd
                            exact r7 a o n' (r6 a o n' (t1.rw a o n' e1))
                          have hlen : acc2.length < sizeLine := by
                            have h1 : total.length = es2.length + ((y' :: ys').length + zs.length) := by rw [ht2, List.length_append, List.length_append]
                            rw [hac.length]
                            rw [List.length_cons] at h1
                            omega
                          refine ⟨acc2, hD7, hlen, acc2 ++ [v], es2 ++ [y'], ys', ?_, fun a o n nd e1 => ?_, upd_same, ?_, hr', by rw [ht2]; simp⟩
                          · refine W.stable H7 _ ((J1' H7).mp j7).1 (fun a zs fx e1 => ?_) fun a o hf e1 => ?_
                            · rw [upd_ne (fun z => by subst z; rw [hD7] at e1; cases e1; exact fx)]; exact e1
                            · rw [upd_ne (fun z => hD0 (by rw [← z]; exact hf))]; exact e1
                          · rw [upd_ne nd]
                            exact k7 a o n nd (kd a o n nd e1)
                          · have u1 : Same (off (fun b => W.foot b ∨ b = D0) H7) (off (fun b => W.foot b ∨ b = D0) (upd H7 D0 (.lst (acc2 ++ [v])))) := off_mono (fun _ _ _ h => h) fun a o n e1 => by
                              rw [upd_ne (fun z => n (.inr z))]; exact e1
                            have u0 : Same (off (fun b => W.foot b ∨ b = D0) Hc) (off (fun b => W.foot b ∨ b = D0) H7) := off_mono (fun _ _ _ h => h) fun a o n e1 => k7 a o (fun z => n (.inl z)) (fun z => n (.inr z)) (sy1 a o e1)
                            refine (hac.mono (u0.trans u1)).append (.cons (dp.mono (Same.trans (off_mono (fun a o e1 z => .inl ((foot1 a).mpr z)) fun a o n e1 => e1) u1)) .nil)
                        · cases hr1
                    · left
                      have ei : jj = ds1.length := by omega
                      subst ei
                      rw [List.drop_length] at hr1
                      cases hr1
                      exact ⟨ok1.stop Hc vc, acc2, es2, zs, jc, rwc Hc kc, hDc, hac, hzs, by rw [ht2]; simp⟩
                  · cases hrest
                · cases hrest
              · cases hrest
            · cases hrest
          · left
            have ei : i = ds.length := by omega
            subst ei
            rw [List.drop_length] at hrest
            cases hrest
            rw [List.append_nil] at htot
            subst htot
            refine ⟨ok.stop H' (v1 H' r'), q D0 acc H' (r1.trans r') j' (free_back r1 j1 hD) hD0 hDl ?_⟩
            rw [foo]
            exact hacc
        · cases hf
      · cases hf
    · cases hf
  · cases hf
theorem df_lc2 {elt tg iter tg1 iter1 : Expr} {scope : Scope} {own : List (Str × Nat)} {us vs1 us1 : List Nat} {F F1 : Ro → Option (List D)} {B B1 : D → Ro → Option Ro} {e : Ro → Option D} (hC : CtxOk C) (hc : X.calm = true) (hN : X.N.Nodup) (hi : DI X C tg iter F)
    (ok : BlkOk X.N X.env.scope scope own) (hsub : ∀ i ∈ us, i ∈ own.map (·.2)) (hv : ∀ i ∈ vs1, i ∈ own.map (·.2)) (hsub1 : ∀ i ∈ us1, i ∈ vs1)
    (hg : ∀ (s : Shared) (H : Hp) (A : Addr) (cl : List (Str × Addr)) (fp : List Addr), DG (X.blk s H scope (compEnvC scope cl A X.env) fp) C tg us B)
    (hi1 : ∀ (s : Shared) (H : Hp) (A : Addr) (cl : List (Str × Addr)) (fp : List Addr), DI (X.blk s H scope (compEnvC scope cl A X.env) fp) C tg1 iter1 F1)
    (hg1 : ∀ (s : Shared) (H : Hp) (A : Addr) (cl : List (Str × Addr)) (fp : List Addr), DG (X.blk s H scope (compEnvC scope cl A X.env) fp) C tg1 us1 B1)
    (he : ∀ (s : Shared) (H : Hp) (A : Addr) (cl : List (Str × Addr)) (fp : List Addr), DE (X.blk s H scope (compEnvC scope cl A X.env) fp) C elt e) (hs : ∀ x, foldedSetIterable iter X.env x = pure x := by intro _; rfl) (hs1 : ∀ env x, foldedSetIterable iter1 env x = pure x := by intro _ _; rfl) :
    DF X C (.ListComp elt [⟨tg, iter, [], 0⟩, ⟨tg1, iter1, [], 0⟩] scope pos) (lc2 (own.map (·.2)) vs1 F B F1 B1 e) :=
  pe_imp (pe_lc2 hc hN hi ok hv hg (fun _ _ _ _ _ => dts_nil) hi1 hg1 (fun _ _ _ _ _ => dts_nil) he hs hs1) (t_lc2 hC hsub hsub1)
end
end DL
namespace DL
open PySem PySem.Spec L2
mutual
def tupF : D → Bool
  | .none => true
  | .bool _ => true
  | .int _ => true
  | .str _ => true
  | .dict _ => true
  | .tuple ds => tupFA ds
  | .list _ => false
def tupFA : List D → Bool
  | [] => true
  | d :: ds => tupF d && tupFA ds
end
mutual
theorem rp_tpF {K : PySem.W.Frag} {H : Hp} : ∀ {v : V} {d : D}, Rp K H v d → tupF d = true → Rp K (tp H) v d
  | _, _, .non, _ => .non
  | _, _, .bl b, _ => .bl b
  | _, _, .int i, _ => .int i
  | _, _, .str x, _ => .str x
  | _, _, .lst _ _, h => by simp [tupF] at h
  | _, _, .scr h, _ => .scr (h.imp (fun ⟨o, e⟩ => ⟨o, by unfold tp; rw [e]⟩) id)
  | _, _, .tup h ha, t => .tup (sqt_tp h) (rpAll_tpF ha (by simpa [tupF] using t))
theorem rpAll_tpF {K : PySem.W.Frag} {H : Hp} : ∀ {vs : List V} {ds : List D}, RpAll K H vs ds → tupFA ds = true → RpAll K (tp H) vs ds
  | _, _, .nil, _ => .nil
  | _, _, .cons h t, e => by
    have e' := Bool.and_eq_true_iff.mp (by simpa [tupFA] using e)
    exact .cons (rp_tpF h e'.1) (rpAll_tpF t e'.2)
end
def toT (f : Ro → Option D) : Ro → Option D := fun ρ => (f ρ).map fun d => .bool (isT d)
end DL
namespace DL
open PySem PySem.Spec L2
def catchN : Option Out → Option Out
  | some (.ex _ _) => none
  | r => r
def handN : List ((Str → Bool) × (Ro → Option Out)) → Exn → Ro → Option Out
  | [], x, ρ => some (.ex x ρ)
  | (sub, h) :: r, x, ρ => if sub x.cls = true then catchN (h ρ) else handN r x ρ
section
variable {X : Cx} {C : Wd → Prop} {Ew : WX} {pos : Pos}
inductive HdN (X : Cx) (C : Wd → Prop) (known : Exn → Bool) : List ExceptHandler → List ((Str → Bool) × (Ro → Option Out)) → List (Value × (Addr → Value → Option Addr → TS)) → Prop
  | nil : HdN X C known [] [] []
  | cons {x : Str} {sub : Str → Bool} {h : Ro → Option Out} {b0 : Stmt} {suite : List Stmt} {np pos' : Pos} {hds : List ExceptHandler} {hs : List ((Str → Bool) × (Ro → Option Out))} {l : List (Value × (Addr → Value → Option Addr → TS))}
      (hc : Names X x (.ref (He.ga X.K x))) (hex : ∀ y : Exn, known y = true → PySem.W.exmOne X.K (.ref (He.ga X.K y.cls)) (.ref (He.ga X.K x)) = some (sub y.cls))
      (hsu : ∀ (a : Addr) (oe : Obj) (pn : List (Addr × Obj)), DSs (X.suite a ((a, oe) :: pn)) C EF (b0 :: suite) h) (r : HdN X C known hds hs l) :
      HdN X C known (.ExceptHandler (some (.Name x np)) none (b0 :: suite) pos' :: hds) ((sub, h) :: hs) ((.ref (He.ga X.K x), fun _ _ _ => tS X.K C EF h) :: l)
theorem HdN.as {known : Exn → Bool} {hds : List ExceptHandler} {hs : List ((Str → Bool) × (Ro → Option Out))} {l : List (Value × (Addr → Value → Option Addr → TS))} (h : HdN X C known hds hs l) : HdsOk X hds l := by
  induction h with
  | nil => exact .nil
  | cons hc hex hsu r ih => exact .cons hc (fun a oe cls d pn _ _ => hsu a oe pn) ih
theorem HdN.go {known : Exn → Bool} {W : Wd} {ρ1 : Ro} {σ1 : L2.St} {H1 V0 : Hp} {y : Exn} {E : Ends} {o : Out} (c : C W) (s1 : SD X.K W σ1 ρ1 H1) (v1 : Same V0 (vw W σ1 ρ1 H1)) (hkn : known y = true) (q : EndOk X.K W Ew V0 E o)
    {hds : List ExceptHandler} {hs : List ((Str → Bool) × (Ro → Option Out))} {l : List (Value × (Addr → Value → Option Addr → TS))} (h : HdN X C known hds hs l) : handN hs y ρ1 = some o → ExcAt X.K W y H1 (fun cls d H'' => wMany X.K Ew E l cls d σ1 H'') := by
  induction h with
  | nil =>
    intro hgo
    cases hgo
    exact q σ1 H1 s1 v1
  | @cons x sub h b0 suite np pos' hds hs l hc hex hsu r ih =>
    intro hgo
    unfold handN at hgo
    split at hgo
    · rename_i hsub
      refine ExcAt.any fun d => ⟨true, by rw [hex y hkn, hsub], fun _ a na => ?_, fun z => Bool.noConfusion z⟩
      unfold catchN at hgo
      split at hgo
      · cases hgo
      · rename_i hn
        refine ⟨W, ρ1, o, c, s1, hgo, ?_⟩
        cases o with
        | nx ρ' => exact fun σ' H' a b => q σ' H' a (v1.trans b)
        | bk ρ' => exact fun σ' H' a b => q σ' H' a (v1.trans b)
        | ct ρ' => exact fun σ' H' a b => q σ' H' a (v1.trans b)
        | rt d => exact fun v H' j b rp => q v H' j (v1.trans b) rp
        | ex x' ρ' => exact absurd hgo (hn x' ρ')
    · rename_i hsub
      have hns : sub y.cls = false := by simpa using hsub
      exact ExcAt.imp (fun d p => ⟨false, by rw [hex y hkn, hns], fun z => Bool.noConfusion z, fun _ => p⟩) (ih hgo)
end
section
variable {S : Type}
theorem SD.nextS {K : PySem.W.Frag} {W W' : Wd} {σ : L2.St} {ρ : Ro} {H H' : Hp} (s : SD K W σ ρ H) (hf : W'.foot = W.foot) (he : W'.exa = W.exa) (r : Rw W H H') (j' : W'.J H') : SD K W' σ ρ H' ∧ Same (vw W σ ρ H) (vw W' σ ρ H') := by
  have hv : Same (vw W σ ρ H) (vw W' σ ρ H') := fun b o e => by
    obtain ⟨n, e⟩ := off_some e
    rw [show vw W' σ ρ H' b = H' b from off_neg fun z => n (by rw [hf] at z; exact z)]
    exact r b o (fun z => n (.inl z)) e
  refine ⟨⟨j', fun i d e => ?_, fun i ds e => ?_, s.inj, s.op, fun i e => by rw [he]; exact s.exn i e, s.len⟩, hv⟩
  · obtain ⟨v, h1, h2⟩ := s.sh i d e
    exact ⟨v, h1, h2.mono hv⟩
  · obtain ⟨b, xs, h1, h2, h3, h4⟩ := s.ow i ds e
    exact ⟨b, xs, h1, r b _ h4 h2, h3.mono hv, by rw [hf]; exact h4⟩
theorem SD.nextF {K : PySem.W.Frag} {C : Fw S → Prop} (hC : CtxS C) {F : Fw S} (c : C F) {s s' : S} {σ : L2.St} {ρ : Ro} {H H' : Hp} (sd : SD K (F.w s) σ ρ H) (r : Rw (F.w s) H H') (j' : (F.w s').J H') : SD K (F.w s') σ ρ H' ∧ Same (vw (F.w s) σ ρ H) (vw (F.w s') σ ρ H') :=
  sd.nextS (by rw [F.hf, F.hf]) (hC.ex F c s' s) r j'
def spS (K : PySem.W.Frag) (C : Fw S → Prop) (F : List (Option D) → S → Option (Res × S)) : Sp := fun vs H Q E => ∃ Fa ds s r s', C Fa ∧ (Fa.w s).J H ∧ RpO K (Fa.w s).exa (off (Fa.w s).foot H) vs ds ∧ F ds s = some (r, s') ∧ match r with
  | .ok d => ∀ v H', (Fa.w s').J H' → Rw (Fa.w s) H H' → Rp K (off (Fa.w s').foot H') v d → Q v H'
  | .exc x => ∀ H', (Fa.w s').J H' → Rw (Fa.w s) H H' → ExcAt K (Fa.w s') x H' E
structure HasS (P : Program) (w : World) (K : PySem.W.Frag) (mg : Str → Option Value) (base : Heap) (k : Nat) (x : Str) (C : Fw S → Prop) (F : List (Option D) → S → Option (Res × S)) : Prop where
  ex : ∃ fa fd ps, FnOk P w K mg base (L2.CX P w) k fa fd ps (spS K C F) ∧ mg x = some (.ref fa) ∧ PySem.W.keepIn K (.ref fa) = true ∧ Binds K fd ps []
theorem own_addS {K : PySem.W.Frag} {C : Fw S → Prop} (hC : CtxS C) {F : Fw S} (c : C F) {s : S} {σ : L2.St} {ρ : Ro} {H : Hp} (sd : SD K (F.w s) σ ρ H) : C (F.add (isOw σ ρ) H sd.own) := hC.add _ _ _ _ c (fun b ⟨l, fs, z1, z2⟩ => by
    obtain ⟨b', ys, w1, w2, w3, w4⟩ := sd.ow l fs z1
    rw [z2] at w1
    have eb : b = b' := by simpa using w1
    subst eb
    rw [F.hf] at w4
    exact w4) (fun b u ⟨l, fs, z1, z2⟩ z3 fx => by
    obtain ⟨b', ys, w1, w2, _⟩ := sd.ow l fs z1
    rw [z2] at w1
    have eb : b = b' := by simpa using w1
    rw [← eb, z3] at w2
    cases w2
    exact fx)
end
def finS {S : Type} : Option (Ou S) → Option (Res × S)
  | some (.nx _ s) => some (.ok .none, s)
  | some (.rt d s) => some (.ok d, s)
  | some (.ex x _ s) => some (.exc x, s)
  | _ => none
def fnS {S : Type} (np n : Nat) (g : Ro → S → Option (Ou S)) : List (Option D) → S → Option (Res × S) := fun ds s => if ds.length = np then finS (g (iniO n ds) s) else none
theorem fn_defS {S : Type} {P : Program} {w : World} {K : PySem.W.Frag} {mg : Str → Option Value} {base : Heap} {x qual : Str} {params : Arguments} {body : List Stmt} {scope : Scope} {dvs : List V} {kws : List (Str × V)} {f : Addr} {fd : FuncData} {N ps : List Str} {k : Nat} {g : Ro → S → Option (Ou S)} {C : Fw S → Prop}
    (FF : FunD K x qual params body scope dvs kws f fd) (Sc : FnScope N ps scope)
    (hbody : ∀ (cdv : Value) (A : Around) (outer : List Env) (s : Shared) (H : Hp) (E : XK), Room k (A.deeper (PyProof.Rows.envOfC qual scope s.heap.objs.size f cdv)) →
      DStOs (cxOf (L2.CX P w) P w K mg base N qual scope f cdv A outer s H E) C (fun cls d _ H => E cls d H) body g) : FnOk P w K mg base (L2.CX P w) (k + 1) f fd ps (spS K C (fnS ps.length N.length g)) := by
  refine FF.ok Sc (fun vs H Q E ⟨Fa, ds, s, r, s', c, j, a, e, m⟩ => ?_) fun cdv A outer sh H vs Q E hr ⟨Fa, ds, s, r, s', c, j, a, e, m⟩ => ⟨_, hbody cdv A outer sh H E hr, ?_⟩
  · unfold fnS at e
    split at e
    · rw [a.length]; assumption
    · cases e
  · unfold fnS at e
    split at e
    · have s0 := sd_startO (N := N) j a
      have rwOf : ∀ s2 H', Same (vw (Fa.w s) (L2.start N vs) (iniO N.length ds) H) (off (Fa.w s2).foot H') → Rw (Fa.w s) H H' := fun s2 H' sm a o n e1 => (off_some (sm a o (by rw [iniO_vw, off_neg n]; exact e1))).2
      cases hg : g (iniO N.length ds) s with
      | none => rw [hg] at e; cases e
      | some o =>
        rw [hg] at e
        refine ⟨Fa, iniO N.length ds, s, o, c, s0, hg, ?_⟩
        cases o with
        | nx ρ' s2 =>
          cases e
          intro σ' H' s3 v'
          exact m .non H' s3.j (rwOf _ H' (v'.trans vw_sub)) .non
        | rt d s2 =>
          cases e
          intro v H' j' v' rp
          exact m v H' j' (rwOf _ H' v') rp
        | bk _ _ => cases e
        | ct _ _ => cases e
        | ex x ρ' s2 =>
          cases e
          intro σ' H' s3 v'
          exact m H' s3.j (rwOf _ H' (v'.trans vw_sub))
    · cases e
end DL
namespace PySem.W
open PySem PySem.Spec PySem.Calls PyProof.Rows
section
variable {prog : Program} {w : World} {A : Around} {E : Value → Shared → Prop} {s : Shared} {K : Frag} {x D : Addr} {ox : Obj} {od : Option Obj}
theorem findObj_dataO {C : Addr} {name : Str} {a g : Value} (hc : (clsIn K C).isSome = true) (ha : findIn K (.ref C) name = some (some a)) (hg : specialIn K a "__get__" = some (some g)) (ht : takesIn K a = some true) : findObj K C od name = some (.bind g a) := by
  obtain ⟨cd, hc⟩ := Option.isSome_iff_exists.mp hc
  unfold findObj
  rw [hc, Option.bind_some, ha, Option.bind_some]
  simp [hg, ht]
theorem dl_classE {Q : Option Value → Shared → Prop} (hga : findIn K (.ref D) "__getattribute__" = some (some (.builtin "BaseException.__getattribute__"))) (hgt : findIn K (.ref D) "__getattr__" = some none) (hsub : subIn K (.ref D) (.type "BaseException") = some true)
    (hdct : hasDictIn K D = true) (ha : findIn K (.ref D) "__class__" = some (some (.builtin "object.__class__")))
    (hn : specialIn K (.builtin "object.__class__") "__get__" = some (some (.builtin "getset_descriptor.__get__"))) (htk : takesIn K (.builtin "object.__class__") = some true) (hm : mroIn K D (.type "object") = some true)
    (X : K.In s.heap) (I : InstAt s.heap x ox D od) (h : Q (some (.ref D)) { s with toks := s.toks + 1 }) : wpAny (model prog w) A (getAttr? (.ref x) "__class__") Q E s := by
  have hf : findObj K D od "__class__" = some (.bind (.builtin "getset_descriptor.__get__") (.builtin "object.__class__")) := findObj_dataO (by obtain ⟨cd, hc, _⟩ := any_some hdct; rw [hc]; rfl) ha hn htk
  obtain ⟨hp, g, d, t, os⟩ := s
  have L0 := I.type (M := model prog w)
  have L1 := looks_findIn (M := model prog w) X hga
  have L2 := looks_findIn (M := model prog w) X hgt
  have L3 := looks_find (M := model prog w) X I hf
  have sub : Looks (model prog w) hp (isInstance (.ref x) (.type "BaseException")) true := L0.andThen (looks_subIn X hsub)
  have hx0 : (false && onTheHeap (Value.builtin "BaseException.__getattribute__")) = false := rfl
  have hx2 : (Value.builtin "BaseException.__getattribute__" == Value.builtin "object.__getattribute__") = false := by decide +kernel
  have hx1 : (onTheHeap (Value.ref D) && Value.builtin "BaseException.__getattribute__" == Value.builtin "object.__getattribute__") = false := by rw [hx2]; rfl
  unfold getAttr? getAttrBy? getAttrBy
  refine wpAny_bind (wpAny_mkText (wpAny_bind (wpAny_attempt (wpAny_holding (wpAny_bind (L0.at (wpAny_bind (L1.at ?_))))))))
  show wpAny _ _ (if (onTheHeap (Value.ref D) && Value.builtin "BaseException.__getattribute__" == Value.builtin "object.__getattribute__") = true then _ else _) _ _ _
  rw [hx1, if_neg Bool.false_ne_true]
  unfold getAttrByItsOwn hookBefore
  refine wpAny_bind ?_
  rw [if_pos (show onTheHeap (Value.ref D) = true from rfl)]
  refine L2.at ?_
  refine wpAny_bind (wpAny_attempt (wpAny_holding ?_))
  unfold callGetattribute
  rw [hx0, if_neg Bool.false_ne_true]
  unfold boundAndCalled
  rw [PySem.F.excAttr_ValueError.ga.bind (.ref x)]
  refine wpAny_bind (wpAny_pure ?_)
  show wpAny _ _ (call (.builtin "BaseException.__getattribute__") [.ref x, .str "__class__" t]) _ _ _
  refine wpAny_call (codeAny_call_builtin PySem.F.excAttr_ValueError.ga.plain PySem.F.entry_bexc_ga ?_)
  refine @check_slot (model prog w) _ _ ⟨hp, g, d, t + 1, os⟩ "BaseException.__getattribute__" "BaseException" "__getattribute__" (.ref x) [.str "__class__" t] [] _ (by decide +kernel) (by decide +kernel) sub (PySem.F.args_bexc_ga (.ref x) (.str "__class__" t)) ?_
  unfold Builtin.«object.__getattribute__»
  refine wpAny_bind (wpAny_of_eq (a := ((Value.ref x : Value), [Value.str "__class__" t])) (by first | rfl | (simp only [slotArgs]; rfl)) ?_)
  refine wpAny_bind (wpAny_pure (wpAny_bind (L0.at (wpAny_bind (L3.at ?_)))))
  show wpAny _ _ (holding [Value.builtin "object.__class__"] (call (.builtin "getset_descriptor.__get__") [.builtin "object.__class__", .ref x, .ref D]) >>= ret) _ _ _
  refine wpAny_bind (wpAny_holding (wpAny_call (class_get (s := ⟨hp, g, d, t + 1, os⟩) (ox := ox) (od := od) X I hm ?_)))
  refine wpAny_pure ?_
  show wpAny _ _ (handedOut (.ref D)) _ _ _
  rw [handedOut_of (v := .ref D) rfl]
  first
    | exact wpAny_pure (wpAny_pure h)
    | exact wpAny_pure h
    | exact wpAny_pure (wpAny_bind (wpAny_pure (wpAny_pure h)))
theorem dl_kitx (hga : findIn K (.ref D) "__getattribute__" = some (some (.builtin "BaseException.__getattribute__"))) (hgt : findIn K (.ref D) "__getattr__" = some none) (hsub : subIn K (.ref D) (.type "BaseException") = some true) (hdct : hasDictIn K D = true) (ha : findIn K (.ref D) "__class__" = some (some (.builtin "object.__class__")))
    (hn : specialIn K (.builtin "object.__class__") "__get__" = some (some (.builtin "getset_descriptor.__get__"))) (htk : takesIn K (.builtin "object.__class__") = some true) (hm : mroIn K D (.type "object") = some true) :
    KitX K (.ref x) (.ref D) (fun h => InstAt h x ox D od) where
  ty := fun _ _ _ I => I.type
  it := fun _ _ X _ => by
    obtain ⟨cdD, hcD, _⟩ := any_some hdct
    unfold clsIn at hcD
    split at hcD
    · rename_i c' d' cd' sl' ho
      intro A' Q' E' s' k q
      unfold isType loadHead
      exact wpAny_bind (wpAny_loadPart (k _ _ (X _ _ ho)) (wpAny_pure q))
    · cases hcD
  ne := fun h tp dd its n sl X htp => by
    obtain ⟨cdD, hcD, _⟩ := any_some hdct
    refine Bool.eq_false_iff.mpr fun q => ?_
    have e : D = tp := Value.ref.inj (beq_iff_eq.mp q)
    subst e
    unfold clsIn at hcD
    split at hcD
    · rename_i c' d' cd' sl' ho
      have z := (X _ _ ho).symm.trans htp
      cases z
    · cases hcD
  ca := fun X I k => dl_classE hga hgt hsub hdct ha hn htk hm X I k
end
end PySem.W
namespace DL
open PySem PySem.Spec L2 TL
def rIsF (K : PySem.W.Frag) (D a dx : Addr) : List V → Hp → VK → Prop := fun xs H Q => ∃ (c : V) (cv : Value) (b : Bool) (fs : List (Str × V)), xs = [.ref a, c] ∧ (∀ u, RelV c u → u = cv) ∧ PySem.W.kitOne K (.ref D) cv = some b ∧ H dx = some (.xd fs) ∧ Q (.bl b) H
theorem call_isF {X : Cx} {a D dx : Addr} {oe : Obj} {pn : List (Addr × Obj)} (C : ExcC X.K D) (hz : Zc (.ref D) (some dx) oe) (hf : ∃ vs, oe.data = .fields vs) : CallR (X.suite a ((a, oe) :: pn)) (.builtin "isinstance") (rIsF X.K D a dx) := by
  intro pins s σ H xs us Q I r h
  obtain ⟨c, cv, b, fs, rfl, hcv, e, hd, q⟩ := h
  cases r with
  | cons rx rr =>
    cases rr with
    | cons rt rr =>
      cases rr
      cases rx
      have ec := hcv _ rt
      subst ec
      obtain ⟨hget, _⟩ := I.pin (a, oe) (List.mem_append.mpr (.inl List.mem_cons_self))
      obtain ⟨vs, hv⟩ := hf
      have hx : ObjOk X.prog X.w H s.heap dx (.xd fs) := I.hok dx _ hd
      obtain ⟨mA, hns, hr⟩ := hx
      obtain ⟨od, ho, hl⟩ := lookIn_ns hns
      have J : PySem.W.InstAt s.heap a oe D (some od) := ⟨hget, hz.1, by unfold PySem.W.notCls; rw [hv] <;> rfl, by rw [hz.2]; exact ho⟩
      exact PySem.W.kia_one (PySem.W.dl_kitx C.hg C.hk C.hs C.hd C.ha C.hn C.ht C.hm) I.kIn J e (fun z => nomatch z) fun tk => ⟨.bl b, H, I.kept (t' := tk) fun _ _ z => z, rfl, q⟩
def knl (cs : List Str) (x : Exn) : Bool := cs.contains x.cls
theorem knl_mem {cs : List Str} {x : Exn} (h : knl cs x = true) : x.cls ∈ cs := by
  unfold knl at h
  exact List.contains_iff_mem.mp h
section
variable {X : Cx} {C : Wd → Prop} {Ew : WX} {a b e : Expr} {f g : Ro → Option D} {pos cpos apos : Pos}
theorem de_isF (i : Nat) {a : Addr} {oe : Obj} {d : Option Addr} {y : Exn} {pn : List (Addr × Obj)} {n c : Str} {p p1 p2 pos : Pos} {b : Bool} (EC : ExcC X.K (He.ga X.K y.cls)) (hz : Zc (.ref (He.ga X.K y.cls)) d oe) (hf : ∃ vs, oe.data = .fields vs)
    (hk : PySem.W.kitOne X.K (.ref (He.ga X.K y.cls)) (.ref (He.ga X.K c)) = some b) (hg : Gl X "isinstance") (hm : X.mg "isinstance" = none) (hgc : Gl X c) (hmc : X.mg c = some (.ref (He.ga X.K c))) (hN : X.N[i]? = some n := by rfl)
    (hv : Vis X.env.scope n := by first | exact Or.inl rfl | exact Or.inr (Or.inl rfl) | exact Or.inr (Or.inr rfl)) (hd1 : (n == ("__debug__" : Str)) = false := by decide) (hd2 : (n == ("__classdict__" : Str)) = false := by decide) (hd3 : (c == ("__debug__" : Str)) = false := by decide)
    (he : starEach [.Name n p1, .Name c p2] X.env = (false, eval (.Name n p1) X.env) :: starEach [.Name c p2] X.env := by rfl) :
    DE (X.suite a ((a, oe) :: pn)) (CS C X.K a d y) (.Call (.Name "isinstance" p) [.Name n p1, .Name c p2] [] pos) (isE i b) := by
  cases d with
  | some dx =>
    refine pe_imp (pe_callB (X := X.suite a ((a, oe) :: pn)) (call_isF EC hz hf) hg hm (by decide +kernel) (pa_cons (pe_var (i := i) hN hv hd1 hd2) (pa_cons (pe_glob (v := .ref (He.ga X.K c)) hgc hmc rfl hd3) pa_nil rfl) he) (by decide) (by decide) he rfl) fun σ H Q ⟨W, ρ, d', ⟨_, ea, lo⟩, s, hf, q⟩ => ?_
    obtain ⟨h1, rfl⟩ := isE_some hf
    have sl := s.exn i h1
    rw [ea] at sl
    unfold LineOk at lo
    split at lo
    · cases lo
    · obtain ⟨dx', v, e1, h2, h3⟩ := lo
      cases e1
      exact ⟨_, sl, .ref (He.ga X.K c), .ref (He.ga X.K c), b, _, rfl, fun u r => r, hk, h2 H s.j, q _ H (Rw.refl _ _) s.j (.bl _)⟩
  | none =>
    refine pe_imp (pe_callB (X := X.suite a ((a, oe) :: pn)) (call_isE EC hz hf) hg hm (by decide +kernel) (pa_cons (pe_var (i := i) hN hv hd1 hd2) (pa_cons (pe_glob (v := .ref (He.ga X.K c)) hgc hmc rfl hd3) pa_nil rfl) he) (by decide) (by decide) he rfl) fun σ H Q ⟨W, ρ, d', ⟨_, ea, _⟩, s, hf, q⟩ => ?_
    obtain ⟨h1, rfl⟩ := isE_some hf
    have sl := s.exn i h1
    rw [ea] at sl
    exact ⟨_, sl, .ref (He.ga X.K c), .ref (He.ga X.K c), b, rfl, fun u r => r, hk, q _ H (Rw.refl _ _) s.j (.bl _)⟩
def lnE (i : Nat) (z : Option D) : Ro → Option D := fun ρ => match ρ[i]? with
  | some .exn => z
  | _ => none
theorem lnE_some {i : Nat} {z : Option D} {ρ : Ro} {d : D} (h : lnE i z ρ = some d) : ρ[i]? = some .exn ∧ z = some d := by
  unfold lnE at h
  split at h
  · exact ⟨by assumption, h⟩
  · cases h
theorem de_line (i : Nat) {a : Addr} {oe : Obj} {d : Option Addr} {y : Exn} {pn : List (Addr × Obj)} {n : Str} {p1 pos : Pos} (T : XfC X.K (He.ga X.K y.cls)) (hno : PySem.W.findIn X.K (.ref (He.ga X.K y.cls)) "line" = some none) (hz : Zc (.ref (He.ga X.K y.cls)) d oe) (hf : ∃ vs, oe.data = .fields vs)
    (hN : X.N[i]? = some n := by rfl) (hv : Vis X.env.scope n := by first | exact Or.inl rfl | exact Or.inr (Or.inl rfl) | exact Or.inr (Or.inr rfl)) (hd1 : (n == ("__debug__" : Str)) = false := by decide) (hd2 : (n == ("__classdict__" : Str)) = false := by decide)
    (hb : attributeBase (.Name n p1) "line" X.env (eval (.Name n p1) X.env) = eval (.Name n p1) X.env := by rfl) :
    DE (X.suite a ((a, oe) :: pn)) (CS C X.K a d y) (.Attribute (.Name n p1) "line" pos) (lnE i y.line) := by
  refine pe_imp (pe_xf (X := X) (a := a) (pn := pn) T hno hz hf (pe_var (i := i) hN hv hd1 hd2) hb) fun σ H Q ⟨W, ρ, d', ⟨_, ea, lo⟩, s, hf, q⟩ => ?_
  obtain ⟨h1, h2⟩ := lnE_some hf
  have sl := s.exn i h1
  rw [ea] at sl
  unfold LineOk at lo
  rw [h2] at lo
  obtain ⟨dx, v, e1, h3, h4⟩ := lo
  exact ⟨_, sl, rfl, rfl, dx, _, v, e1, h3 H s.j, by simp [List.lookup], q v H (Rw.refl _ _) s.j (h4 _)⟩
theorem rp_strs {K : PySem.W.Frag} {H : Hp} : ∀ ys : List Str, RpAll K H (ys.map V.str) (ys.map .str)
  | [] => .nil
  | y :: r => .cons (.str y) (rp_strs r)
def dSplit : D → D → Option D
  | .str x, .str y => if y.length ≠ 0 ∧ x.length + 2 ≤ sizeLine then some (.list ((Txt.split x y).map .str)) else none
  | _, _ => none
def dSIx : D → D → Option D
  | .str x, .str y => match Builtin.Str.occurrences x y 0 x.length 1 with
    | i :: _ => some (.int (i : Nat))
    | [] => none
  | _, _ => none
theorem mt_splitD : MtR X "str.split" (rM1 X.K dSplit) := MtR.imp mt_split fun x xs H Q ⟨p, y, d, e, z, exs, hp, h1, h2, hg, q⟩ => by
  subst exs
  unfold dSplit at hg
  split at hg
  · split at hg
    · cases hg
      rename_i hs
      cases h1; cases h2
      exact ⟨_, _, rfl, rfl, by simpa using hs.1, hs.2, fun l hl => q _ _ (same_upd hl) (.lst (Rd.of (off_new hp hl)) (rp_strs _))⟩
    · cases hg
  · cases hg
theorem mt_sixD : MtR X "str.index" (rM1 X.K dSIx) := MtR.imp mt_sindex fun x xs H Q ⟨p, y, d, e, z, exs, hp, h1, h2, hg, q⟩ => by
  subst exs
  unfold dSIx at hg
  split at hg
  · split at hg
    · cases hg
      rename_i hs
      cases h1; cases h2
      exact ⟨_, _, _, _, rfl, rfl, hs, q _ _ (Same.refl _) (.int _)⟩
    · cases hg
  · cases hg
theorem t_s1 {G : D → D → Option D} (hty : ∀ (d e z : D), G d e = some z → ∃ x, d = .str x) : ∀ σ H Q, tD X.K C (bi G f g) σ H Q → tM1 (rM1 X.K G) (tD X.K C f) (tD X.K C g) σ H Q := by
  rintro σ H Q ⟨W, ρ, z, c, s, hf, q⟩
  obtain ⟨x, y, hx, hy, hz⟩ := bi_some hf
  refine ⟨W, ρ, x, c, s, hx, fun v H1 r1 j1 d1 => ⟨?_, W, ρ, y, c, s.next r1 j1, hy, fun u H2 r2 j2 d2 => ?_⟩⟩
  · obtain ⟨t, rfl⟩ := hty _ _ _ hz
    exact ⟨t, d1.str_inv⟩
  · exact ⟨fun a => W.foot a ∨ isOw σ ρ a, u, x, y, z, rfl, fun a h => ((s.next r1 j1).next r2 j2).excl h, d1.mono (vw_mono r2), d2, hz, fun w H3 sm dz => q w H3 ((r1.trans r2).trans (Rw.of sm)) (W.same j2 sm) dz⟩
theorem de_split (ha : DE X C a f) (hb : DE X C b g) (hs : starEach [b] X.env = [(false, eval b X.env)] := by rfl) (hbase : attributeBase a "split" X.env (eval a X.env) = eval a X.env := by rfl) (hline : (apos.endLine == cpos.line) = true := by rfl) :
    DE X C (.Call (.Attribute a "split" apos) [b] [] cpos) (bi dSplit f g) :=
  pe_imp (pe_m1 PySem.F.slot_str_split PySem.F.type_str_split mt_splitD ha hb hs hbase hline) (t_s1 fun d e z h => by
    unfold dSplit at h; split at h
    · exact ⟨_, rfl⟩
    · cases h)
theorem de_six (ha : DE X C a f) (hb : DE X C b g) (hs : starEach [b] X.env = [(false, eval b X.env)] := by rfl) (hbase : attributeBase a "index" X.env (eval a X.env) = eval a X.env := by rfl) (hline : (apos.endLine == cpos.line) = true := by rfl) :
    DE X C (.Call (.Attribute a "index" apos) [b] [] cpos) (bi dSIx f g) :=
  pe_imp (pe_m1 PySem.F.slot_str_index PySem.F.type_str_index mt_sixD ha hb hs hbase hline) (t_s1 fun d e z h => by
    unfold dSIx at h; split at h
    · exact ⟨_, rfl⟩
    · cases h)
def dFmt : D → Option Str
  | .str y => if y.length ≤ sizeLine then some y else none
  | .int i => if i.natAbs.log2 < 1920 then some (toString i) else none
  | _ => none
def jTx (x : Str) (h : Str → Ro → Option Str) : Str → Ro → Option Str := fun acc ρ => if (acc ++ x).length ≤ sizeLine then h (acc ++ x) ρ else none
def jVl (f : Ro → Option D) (h : Str → Ro → Option Str) : Str → Ro → Option Str := fun acc ρ => match (f ρ).bind dFmt with
  | some y => if (acc ++ y).length ≤ sizeLine then h (acc ++ y) ρ else none
  | none => none
inductive DJ (X : Cx) (C : Wd → Prop) : List Expr → (Str → Ro → Option Str) → Prop where
  | nil : DJ X C [] (fun acc _ => some acc)
  | text {x : Str} {j : Nat} {p : Pos} {es : List Expr} {h : Str → Ro → Option Str} (r : DJ X C es h) : DJ X C (.Constant (.str x) j p :: es) (jTx x h)
  | val {e : Expr} {p : Pos} {es : List Expr} {f : Ro → Option D} {h : Str → Ro → Option Str} (he : DE X C e f) (r : DJ X C es h) : DJ X C (.FormattedValue e (-1) none p :: es) (jVl f h)
theorem dx_ifExp {t : Ro → Option Bool} {f g : Ro → Option Res} {c : Expr} (ht : DT X C c t) (ha : DX X C Ew a f) (hb : DX X C Ew b g) : DX X C Ew (.IfExp c a b pos) (vIf t f g) :=
  pe_imp (pe_ifExp ht ha hb) fun σ H Q ⟨W, ρ, r, c, s, hf, q⟩ => by
    unfold vIf at hf
    split at hf
    · rename_i h1
      refine ⟨W, ρ, true, c, s, h1, fun H1 r1 j1 => ?_⟩
      refine iteT ?_
      refine ⟨W, ρ, r, c, s.next r1 j1, hf, ?_⟩
      cases r with
      | ok d => exact fun v H' r' j dp => q v H' (r1.trans r') j dp
      | exc x => exact fun H' r' j => q H' (r1.trans r') j
    · rename_i h1
      refine ⟨W, ρ, false, c, s, h1, fun H1 r1 j1 => ?_⟩
      refine iteF ?_
      refine ⟨W, ρ, r, c, s.next r1 j1, hf, ?_⟩
      cases r with
      | ok d => exact fun v H' r' j dp => q v H' (r1.trans r') j dp
      | exc x => exact fun H' r' j => q H' (r1.trans r') j
    · cases hf
end
end DL
namespace DL
open PySem PySem.Spec L2 TL
theorem pe_ceinit {X : Cx} {x : Str} {C0 : Addr} {e : Expr} {es : List Expr} {ta : TA} {p1 p2 pos : Pos} {pl : Sem Bool} (hg : Gl X x) (hm : X.mg x = some (.ref C0)) (hdb : (x == ("__debug__" : Str)) = false) (hr : PySem.W.readsIn X.K C0 (.type "type") = true) (hsp : PySem.W.specialIn X.K (.ref C0) "__getattribute__" = some (some (.builtin "type.__getattribute__")))
    (vV : PySem.W.findCls X.K (.ref C0) (.type "type") "__init__" = some (.val (.builtin "ValueError.__init__"))) (ha : PA X (e :: es) ta)
    (hc : eval (.Call (.Attribute (.Name x p1) "__init__" p2) (e :: es) [] pos) X.env = (do
      let ov ← eval (.Name x p1) X.env
      standAt p2.atName
      let (f, first) ← holding [ov] (getMethod ov "__init__" pl)
      callWith pos f first (backTo pos (starEach (e :: es) X.env)) (backToKw pos (keywordEach [] X.env))) := by rfl)
    (he : starEach (e :: es) X.env = (false, eval e X.env) :: starEach es X.env := by rfl) (hpl : (backTo pos (starEach es X.env)).any (·.1) = false := by rfl) :
    PE X (.Call (.Attribute (.Name x p1) "__init__" p2) (e :: es) [] pos) (tVeI X.K ta) := by
  refine ⟨fun pins s σ H Q I h => ?_⟩
  refine PySem.W.methodCall_KW (ld_glob I hg hm ?_ hdb) hc
  refine PySem.W.method_cls I.kIn hsp (PySem.W.cls_value I.kIn hr vV (by decide +kernel) ?_)
  show wpAny _ _ (callWith pos (Value.builtin "ValueError.__init__") [] (backTo pos (starEach (e :: es) X.env)) []) _ _ _
  refine PyProof.Rows.callWith_method1 (thn (ha.run pos pins _ σ H _ (I.tok _) h) fun us s1 ⟨vs, H1, I1, r1, a, C, ws, ev, hl, T, ea, q⟩ => ?_) he hpl
  subst ev
  cases r1 with
  | @cons _ u0 _ ur ra rw' =>
    obtain rfl : u0 = Value.ref a := ra
    have hlen : ur.length ≤ sizeLine := by
      rw [← Paired.length rw', sizeLine_eq]
      omega
    exact oinit_ok T I1 ea hlen fun s' J => ⟨.non, H1, J, rfl, q⟩
def spB (K : PySem.W.Frag) (C : Addr) : Sp := fun vs H Q _ => ∃ (a : Addr) (v : V), vs = [.ref a, v] ∧ H a = some (exo a C none) ∧ ∀ dx, H dx = none → dx ≠ a → Q .non (upd (upd H dx (exd dx [("line", v)])) a (exo a C (some dx)))
structure BtC (K : PySem.W.Frag) (mg : Str → Option Value) : Prop where
  gh : mg "HallError" = some (.ref (He.ga K "HallError"))
  gb : mg "BadText" = some (.ref (He.ga K "BadText"))
  ox : OexC K (He.ga K "BadText")
  xf : XfC K (He.ga K "BadText")
  nl : PySem.W.findIn K (.ref (He.ga K "BadText")) "line" = some none
  ini : PySem.W.findIn K (.ref (He.ga K "BadText")) "__init__" = some (some (.ref (He.ma K (He.ga K "BadText") "__init__")))
  tI : PySem.W.typeIn K (.ref (He.ma K (He.ga K "BadText") "__init__")) = some (.type "function")
  rd : PySem.W.readsIn K (He.ga K "HallError") (.type "type") = true
  sp : PySem.W.specialIn K (.ref (He.ga K "HallError")) "__getattribute__" = some (some (.builtin "type.__getattribute__"))
  fc : PySem.W.findCls K (.ref (He.ga K "HallError")) (.type "type") "__init__" = some (.val (.builtin "ValueError.__init__"))
theorem oexB_ok {K : PySem.W.Frag} {C : Addr} (q : oexB K C = true) : ∃ nm q N bs bm sn sub ab col dd k0 k1 k2 k3 k5, K.lookup C = some (excClassObj nm q C N bs bm true sn sub ab col dd k0 k1 k2 k3 k5 "ValueError.__new__") ∧ PySem.HandSPX.refsVE bm = true := by
  unfold oexB at q
  split at q
  · rename_i dd cd sl ho
    split at q
    · rename_i C' bm k0 k1 k2 k3 n k5 hm hs
      simp only [Bool.and_eq_true, decide_eq_true_eq, Bool.not_eq_true'] at q
      obtain ⟨rfl, rfl, hdel, hd, ht⟩ := q
      obtain ⟨nm, bs, mro, ns, qn, hdd, sn, sub, ab, col, del⟩ := cd
      dsimp only at hm hdel hd
      subst hm hdel hd
      have hsl : sl = #[k0, k1, k2, k3, some (.builtin "ValueError.__new__"), k5] := by
        obtain ⟨l⟩ := sl
        simp only at hs
        rw [hs]
      subst hsl
      exact ⟨nm, qn, ns, bs, bm, sn, sub, ab, col, dd, k0, k1, k2, k3, k5, ho, ht⟩
    · cases q
  · cases q
theorem btB_ok {K : PySem.W.Frag} {mg : Str → Option Value} (gh : mg "HallError" = some (.ref (He.ga K "HallError"))) (gb : mg "BadText" = some (.ref (He.ga K "BadText"))) (h : btB K = true) : BtC K mg := by
  unfold btB at h
  obtain ⟨h1, h⟩ := Bool.and_eq_true_iff.mp h
  obtain ⟨h2, h⟩ := Bool.and_eq_true_iff.mp h
  obtain ⟨h3, h⟩ := Bool.and_eq_true_iff.mp h
  obtain ⟨h4, h⟩ := Bool.and_eq_true_iff.mp h
  obtain ⟨h5, h⟩ := Bool.and_eq_true_iff.mp h
  obtain ⟨h6, h⟩ := Bool.and_eq_true_iff.mp h
  obtain ⟨h7, h⟩ := Bool.and_eq_true_iff.mp h
  obtain ⟨h8, h⟩ := Bool.and_eq_true_iff.mp h
  obtain ⟨h9, h⟩ := Bool.and_eq_true_iff.mp h
  obtain ⟨h10, h⟩ := Bool.and_eq_true_iff.mp h
  obtain ⟨h11, h12⟩ := Bool.and_eq_true_iff.mp h
  refine ⟨gh, gb, ⟨oexB_ok h1, of_decide_eq_true h2, of_decide_eq_true h3, of_decide_eq_true h4, h5⟩, xfB_ok h6, of_decide_eq_true h7, of_decide_eq_true h8, of_decide_eq_true h9, h10, of_decide_eq_true h11, ?_⟩
  split at h12
  · rename_i n e
    rw [e, of_decide_eq_true h12]
  · cases h12
theorem fn_btinit {P : Program} {w : World} {K : PySem.W.Frag} {mg : Str → Option Value} {base : Heap} {params : Arguments} {scope : Scope} {dvs : List V} {kws : List (Str × V)} {f : Addr} {fd : FuncData} {k j : Nat}
    {p1 p2 p3 p4 p5 p6 p7 p8 p9 p10 : Pos} {m : Str}
    (FF : FunD K "__init__" "BadText.__init__" params [.Expr (.Call (.Attribute (.Name "HallError" p1) "__init__" p2) [.Name "self" p3, .Constant (.str m) j p4] [] p5) p6, .Assign [.Attribute (.Name "self" p7) "line" p8] (.Name "line" p9) p10] scope dvs kws f fd)
    (S : FnScope ["self", "line"] ["self", "line"] scope)
    (l0 : scope.names.lookup ("self" : Str) = some NameKind.local) (l1 : scope.names.lookup ("line" : Str) = some NameKind.local)
    (T : BtC K mg) (hgl : ∀ (l : Addr) (cdv : Value), (PyProof.Rows.envOfC "BadText.__init__" scope l f cdv).kindOf ("HallError" : Str) = some .globalImplicit)
    (hc : ∀ env : Env, ∃ pl : Sem Bool, eval (.Call (.Attribute (.Name "HallError" p1) "__init__" p2) [.Name "self" p3, .Constant (.str m) j p4] [] p5) env = (do
      let ov ← eval (.Name "HallError" p1) env
      standAt p2.atName
      let (f, first) ← holding [ov] (getMethod ov "__init__" pl)
      callWith p5 f first (backTo p5 (starEach [.Name "self" p3, .Constant (.str m) j p4] env)) (backToKw p5 (keywordEach [] env)))) :
    FnOk P w K mg base (L2.CX P w) (k + 1) f fd ["self", "line"] (spB K (He.ga K "BadText")) := by
  refine FF.ok S (fun vs H Q E ⟨a, v, ev, _⟩ => by rw [ev]; rfl) fun cdv A outer s H vs Q E hr ⟨a, v, ev, ha, q⟩ => ⟨_, pss_cons (ps_expr (pe_ceinit (hgl _ _) T.gh (by decide) T.rd T.sp T.fc (pa_cons (pe_var (i := 0) rfl (.inl l0)) (pa_cons pe_str pa_nil rfl) rfl) (hc _).choose_spec) rfl)
    (pss_one (ps_ost (pe_var (i := 0) rfl (.inl l0)) (pe_var (i := 1) rfl (.inl l1)) rfl)), ?_⟩
  subst ev
  refine ⟨.ref a, rfl, a, He.ga K "BadText", [.str m], rfl, by simp, T.ox, ha, ?_⟩
  exact ⟨v, rfl, .ref a, rfl, a, He.ga K "BadText", rfl, T.ox, T.nl, .inl ⟨ha, fun dx hd hn => q dx hd hn⟩⟩
theorem obsZ_eq {n : Nat} {fa : List He.Fa} {fn : List He.DefD} {ex : PySem.W.Frag → Bool} {g : Addr → Option Obj} {s : Shared} (h : ∀ a, g a = s.heap.get? a) : obsZ n fa fn ex g = (hookZ n fa fn ex).obs s := by
  have e : g = s.heap.get? := funext h
  rw [e] <;> rfl
structure XL (K : PySem.W.Frag) (mg : Str → Option Value) (cs : List Str) (sub : Str → Str → Bool) : Prop where
  gl : ∀ x ∈ cs, mg x = some (.ref (He.ga K x))
  exm : ∀ x ∈ cs, ∀ y ∈ cs, PySem.W.exmOne K (.ref (He.ga K x)) (.ref (He.ga K y)) = some (sub x y)
  kit : ∀ x ∈ cs, ∀ y ∈ cs, PySem.W.kitOne K (.ref (He.ga K x)) (.ref (He.ga K y)) = some (sub x y)
  ec : ∀ x ∈ cs, ExcC K (He.ga K x)
  nl : ∀ x ∈ cs, PySem.W.findIn K (.ref (He.ga K x)) "line" = some none
theorem XL.xf {K : PySem.W.Frag} {mg : Str → Option Value} {cs : List Str} {sub : Str → Str → Bool} (h : XL K mg cs sub) {x : Str} (hx : x ∈ cs) : XfC K (He.ga K x) := ⟨(h.ec x hx).hg, (h.ec x hx).hk, (h.ec x hx).hs, (h.ec x hx).hd⟩
theorem xlB_ok {cs : List Str} {sub : Str → Str → Bool} {K : PySem.W.Frag} {h : Heap} {mg : Str → Option Value} (X : K.In h) (G : h.Ns mainGlobals mg) (c : xlB cs sub K = true) : XL K mg cs sub := by
  have a := List.all_eq_true.mp c
  have b := fun x hx => Bool.and_eq_true_iff.mp (a x hx)
  have b1 := fun x hx => Bool.and_eq_true_iff.mp (b x hx).1
  have b2 := fun x hx => Bool.and_eq_true_iff.mp (b1 x hx).1
  have p := fun x hx y hy => Bool.and_eq_true_iff.mp (List.all_eq_true.mp (b x hx).2 y hy)
  exact ⟨fun x hx => He.glo_ok X G (b1 x hx).2, fun x hx y hy => of_decide_eq_true (p x hx y hy).1, fun x hx y hy => of_decide_eq_true (p x hx y hy).2, fun x hx => excCB_ok (b2 x hx).1, fun x hx => of_decide_eq_true (b2 x hx).2⟩
def raiL (f : Ro → Option D) : Ro → Option Out := fun ρ => (f ρ).map fun d => .ex ⟨"BadText", some d⟩ ρ
theorem ds_raiseL {X : Cx} {C : Wd → Prop} {Ew : WX} {e : Expr} {f : Ro → Option D} {p pos' pos : Pos} {k : Nat} (tk : Takes X Ew) (hcm : X.calm = true) (T : BtC X.K X.mg)
    (FI : ∃ fd, FnOk X.prog X.w X.K X.mg X.base (L2.CX X.prog X.w) k (He.ma X.K (He.ga X.K "BadText") "__init__") fd ["self", "line"] (spB X.K (He.ga X.K "BadText")) ∧ Binds X.K fd ["self", "line"] []) (hr : Room (k + 1) X.A) (he : DE X C e f) (hg : Gl X "BadText" := by rfl)
    (hst : starEach [e] X.env = (false, eval e X.env) :: starEach [] X.env := by rfl) :
    DS X C Ew (.Raise (some (.Call (.Name "BadText" p) [e] [] pos')) none pos) (raiL f) := by
  obtain ⟨fd, F1, hb⟩ := FI
  refine ps_imp (ps_raise hcm tk (pmk_oex T.ox T.ini T.tI F1 hr hb .nil passL hg T.gb (pa_cons he pa_nil hst) (by decide) hst rfl)) fun E σ H ⟨W, ρ, o, c, s, hgo, q⟩ => ?_
  unfold raiL at hgo
  obtain ⟨d, e1, rfl⟩ := Option.map_eq_some_iff.mp hgo
  refine ⟨W, ρ, d, c, s, e1, fun v H1 r1 j1 d1 => ?_⟩
  refine ⟨by simp, fun a ha => ⟨a, v, rfl, upd_same, fun dx hd hn => ⟨rfl, dx, [("line", v)], upd_same, ?_, ?_, ?_⟩⟩⟩
  · rw [upd_ne hn, upd_same]
  · rw [upd_ne hn] at hd
    exact hd
  · rw [upd_ne hn] at hd
    have e2 : upd (del (upd (upd (upd H1 a (exo a (He.ga X.K "BadText") none)) dx (exd dx [("line", v)])) a (exo a (He.ga X.K "BadText") (some dx))) a) dx (.xd [("line", v)]) = upd H1 dx (.xd [("line", v)]) := by
      funext b
      by_cases hb1 : b = dx
      · rw [hb1, upd_same, upd_same]
      · rw [upd_ne hb1, upd_ne hb1]
        by_cases hb2 : b = a
        · rw [hb2, del_same, ha]
        · rw [del_ne hb2, upd_ne hb2, upd_ne hb1, upd_ne hb2]
    rw [e2]
    have s1 := s.next r1 j1
    have sm : Same H1 (upd H1 dx (.xd [("line", v)])) := same_upd hd
    have j2 := W.same j1 sm
    have s2 := s1.next (Rw.of sm) j2
    have q1 := q σ (upd H1 dx (.xd [("line", v)])) s2 (vw_mono (r1.trans (Rw.of sm)))
    refine q1 dx v upd_same ?_ ?_
    · intro z
      exact W.there H1 dx j1 z hd
    · exact (d1.mono (vw_mono (Rw.of sm))).mono vw_sub
end DL
namespace DL
open PySem PySem.Spec L2
theorem tpV_of {K : PySem.W.Frag} {W : Wd} (c : CN W) {σ : L2.St} {ρ : Ro} {H : Hp} (s : SD K W σ ρ H) : Same (tp H) (vw W σ ρ H) := fun b u e => by
  obtain ⟨e, f⟩ := tp_some e
  rw [show vw W σ ρ H b = H b from off_neg fun z => z.elim (fun z => c H b u s.j z e f) fun ⟨i, ds, z1, z2⟩ => by
    obtain ⟨b', ys, w1, w2, _⟩ := s.ow i ds z1
    rw [z2] at w1
    have eb : b = b' := by simpa using w1
    rw [← eb, e] at w2
    cases w2
    exact f]
  exact e
def tZ (K : PySem.W.Frag) (C : Wd → Prop) (f : Ro → Option (List D)) : TE := fun σ H Q => ∃ W ρ ds, C W ∧ SD K W σ ρ H ∧ f ρ = some ds ∧ tupAll ds = true ∧ ∀ v H', Rw W H H' → W.J H' → Rp K (tp H') v (.list ds) → Q v H'
theorem df_z {X : Cx} {C : Wd → Prop} {e : Expr} {g : Ro → Option (List D)} (h : DF X C e g) : PE X e (tZ X.K C g) := ⟨fun pins s σ H Q I ⟨W, ρ, ds, c, sd, hf, ht, q⟩ => by
  refine thn (h.run pins s σ H (fun v H' => ∃ a xs, v = .ref a ∧ H' a = some (.lst xs) ∧ ∀ od, Q v (upd H' a (.frz od (.lst xs)))) I ⟨W, ρ, _, c, sd, hf, fun a xs H' r j hn hnf ha dp => ?_⟩) fun u s1 ⟨v, H1, I1, rv, a, xs, ev, hb, k⟩ => ?_
  · refine ⟨a, xs, rfl, ha, fun od => ?_⟩
    have kf : ∀ b u, Fix u → H' b = some u → upd H' a (.frz od (.lst xs)) b = some u := fun b u fx e => by
      rw [upd_ne (fun z => by rw [z, ha] at e; cases e; exact fx)]
      exact e
    refine q _ _ (fun b o nb e => ?_) (W.stable H' _ j kf fun b o fb e => ?_) (.lst (xs := xs) (.inr ⟨od, ?_⟩) ?_)
    · rw [upd_ne (fun z => by rw [z, hn] at e; cases e)]
      exact r b o nb e
    · rw [upd_ne (fun z => hnf (by rw [← z]; exact fb))]
      exact e
    · exact tp_of trivial upd_same
    · exact (rpAll_tp (dp.mono off_sub) ht).mono (tp_mono kf)
  · obtain ⟨od, I2⟩ := I1.lock hb (by trivial)
    exact ⟨v, _, I2, rv, k od⟩⟩
section
variable {S : Type} {K : PySem.W.Frag} {Cc : Addr} {al ns : List Str} {fl : S → List D} {up : S → List D → S}
theorem os_of : ∀ F, OF K Cc al ns fl up F → ∀ s, OS K Cc al ns fl up s (F.w s) := fun F c s => ⟨F, c, rfl⟩
end
def fldS (i k : Nat) (ds : List D) : Ro → Option D := fun ρ => match ρ[i]? with
  | some .exn => ds[k]?
  | _ => none
def fsetZ {S : Type} (i k : Nat) (fl : S → List D) (up : S → List D → S) (f : S → Ro → Option (List D)) : Ro → S → Option (Ou S) := fun ρ s => match ρ[i]?, f s ρ with
  | some .exn, some ds => if tupAll ds = true ∧ k < (fl s).length then some (.nx ρ (up s ((fl s).set k (.list ds)))) else none
  | _, _ => none
section
variable {S : Type} {X : Cx} {Cc : Addr} {al ns : List Str} {fl : S → List D} {up : S → List D → S} {Ew : WX} {i k : Nat} {x f : Str} {p pos pos' apos : Pos} {e : Expr} {es : List Expr}
theorem pe_st {e : Expr} {t : S → TE} (h : ∀ s, PE X e (t s)) : PE X e (fun σ H Q => ∃ s, t s σ H Q) := ⟨fun pins sh σ H Q I ⟨s, q⟩ => (h s).run pins sh σ H Q I q⟩
end
structure HasMS {S : Type} (P : Program) (w : World) (K : PySem.W.Frag) (mg : Str → Option Value) (base : Heap) (k : Nat) (Cc : Addr) (m : Str) (C : Fw S → Prop) (F : List (Option D) → S → Option (Res × S)) : Prop where
  ex : ∃ fa fd ps, FnOk P w K mg base (L2.CX P w) k fa fd ps (spS K C F) ∧ Meth K Cc m fa ∧ Binds K fd ps []
section
variable {S : Type} {X : Cx} {Cc : Addr} {al ns : List Str} {fl : S → List D} {up : S → List D → S} {Ew : WX} {i : Nat} {x m : Str} {p pos apos : Pos} {e : Expr} {es : List Expr} {F : List (Option D) → S → Option (Res × S)} {k : Nat}
def tMethX (C : Addr) (m : Str) (sp : Sp) (E : L2.St → XK) (ta : TE) (t : TA) : TE := fun σ H Q => ta σ H fun x H1 => ∃ a dx fs, x = .ref a ∧ H1 a = some (.ins C dx fs) ∧ fs.lookup m = none ∧ t σ H1 fun vs H2 => sp (.ref a :: vs) H2 Q (E σ)
theorem pe_methX0 {CX : CXT} {o : Expr} {ta : TE} {f : Addr} {fd : FuncData} {ps : List Str} {sp : Sp} {E : L2.St → XK} {pl : Sem Bool} (he : PE X o ta) (c : Cls X.K Cc) (hm : Meth X.K Cc m f) (F : FnOk X.prog X.w X.K X.mg X.base CX k f fd ps sp) (hr : Room k X.A) (hb : Binds X.K fd ps []) (hx : ∀ σ, PassesAt CX X σ (E σ))
    (ht : eval (.Call (.Attribute o m apos) [] [] pos) X.env = (do
      let ov ← eval o X.env
      standAt apos.atName
      let (f, first) ← holding [ov] (getMethod ov m pl)
      callWith pos f first (backTo pos (starEach [] X.env)) (backToKw pos (keywordEach [] X.env))) := by rfl) :
    PE X (.Call (.Attribute o m apos) [] [] pos) (tMethX Cc m sp E ta tNil) := by
  refine ⟨fun pins s σ H Q I h => ?_⟩
  refine PySem.W.methodCall_KW (pl := pl) (thn (he.run pins s σ H _ I h) fun u s1 ⟨x, H1, I1, rx, a, dx, fs, ex, ea, l, q⟩ => ?_) ht
  subst ex
  obtain rfl : u = Value.ref a := rx
  refine getmeth_ok I1 ea c hm l ?_
  exact PySem.W.callWith_K0 (first := [.ref a]) I1.kIn hm.kp (run_fnS (us := [.ref a]) (vs := [.ref a]) F hr hb (hx σ) I1 (.cons rfl .nil) q)
end
end DL
namespace DL
open PySem PySem.Spec L2
theorem stc_of {S : Type} {C : Fw S → Prop} : ∀ F, C F → ∀ s, StC C s (F.w s) := fun F c s => ⟨F, c, rfl⟩
section
variable {S : Type} {X : Cx} {C : Fw S → Prop} {Cc : Addr} {al ns : List Str} {fl : S → List D} {up : S → List D → S} {Ew : WX} {i k : Nat} {x f : Str} {p pos pos' apos : Pos} {e : Expr} {es : List Expr}
theorem deG_fld {s : S} (hC : CtxS C) (hO : ∀ F, C F → OF X.K Cc al ns fl up F) (c : Cls X.K Cc) (n : NoAttr X.K Cc f) (hk : ns[k]? = some f) (hN : X.N[i]? = some x := by rfl) (hv : Vis X.env.scope x := by first | exact Or.inl rfl | exact Or.inr (Or.inl rfl) | exact Or.inr (Or.inr rfl)) (hd : (x == ("__debug__" : Str)) = false := by decide)
    (hcd : (x == ("__classdict__" : Str)) = false := by decide) (hb : attributeBase (.Name x p) f X.env (eval (.Name x p) X.env) = eval (.Name x p) X.env := by rfl) : DE X (StC C s) (.Attribute (.Name x p) f pos) (fldS i k (fl s)) :=
  pe_imp (pe_fld (pe_var (i := i) hN hv hd hcd) hb) fun σ H Q ⟨W, ρ, z, cw, sd, hf, q⟩ => by
    unfold fldS at hf
    split at hf
    · rename_i e
      obtain ⟨Fa, c2, rfl⟩ := cw
      obtain ⟨dx, fs, h1, h2, h3⟩ := (hO _ c2).get s H sd.j
      obtain ⟨v, h4, h5⟩ := h3 k f z hk hf
      exact ⟨.ref (Fa.w s).exa, sd.exn i e, (Fa.w s).exa, Cc, dx, fs, v, rfl, h1, c, n, h4, q v H (Rw.refl _ _) sd.j (h5.mono (tpV_of (hC.nf _ c2 s) sd))⟩
    · cases hf
theorem setG_end {Fa : Fw S} (hC : CtxS C) (hO : ∀ F, C F → OF X.K Cc al ns fl up F) (c : C Fa) (hal : al.length < 1000) {s : S} {σ : L2.St} {ρ : Ro} {H H2 : Hp} {Ee : Ends} {d : D} {y : V} (hk : ns[k]? = some f) (sd : SD X.K (Fa.w s) σ ρ H) (r : Rw (Fa.w s) H H2) (j : (Fa.w s).J H2) (rp : Rp X.K (tp H2) y d) (hl : k < (fl s).length)
    (q : EndO X.K Fa Ew (vw (Fa.w s) σ ρ H) Ee (.nx ρ (up s ((fl s).set k d)))) : ∃ dx fs, H2 (Fa.w s).exa = some (.ins Cc dx fs) ∧ fs.length < 1000 ∧ Ee.nx σ (upd H2 (Fa.w s).exa (.ins Cc dx (putF f y fs))) := by
  obtain ⟨dx, fs, h1, h2, _⟩ := (hO _ c).get s H2 j
  refine ⟨dx, fs, h1, by rw [← List.length_map (f := (·.1)), h2]; exact hal, ?_⟩
  have j2 := (hO _ c).set s H2 k f y d dx fs j h1 hk hl rp
  have r2 : Rw (Fa.w s) H (upd H2 (Fa.w s).exa (.ins Cc dx (putF f y fs))) := fun b o nb eb => by
    rw [upd_ne (fun z => nb (by rw [z]; exact (hO _ c).foot s))]
    exact r b o nb eb
  obtain ⟨s3, v3⟩ := sd.nextF hC c r2 j2
  exact q σ _ s3 v3
theorem doG_fsetZ {g : S → Ro → Option (List D)} (hal : al.length < 1000) (hC : CtxS C) (hO : ∀ F, C F → OF X.K Cc al ns fl up F) (c : Cls X.K Cc) (n : NoAttr X.K Cc f) (hk : ns[k]? = some f) (he : ∀ s, DF X (StC C s) e (g s)) (hN : X.N[i]? = some x := by rfl) (hv : Vis X.env.scope x := by first | exact Or.inl rfl | exact Or.inr (Or.inl rfl) | exact Or.inr (Or.inr rfl))
    (hd : (x == ("__debug__" : Str)) = false := by decide) (hcd : (x == ("__classdict__" : Str)) = false := by decide) (hs : swapsWith e (some (.Attribute (.Name x p) f pos')) pos.line X.env = pure false := by rfl) :
    DStO X C Ew (.Assign [.Attribute (.Name x p) f pos'] e pos) (fsetZ i k fl up g) :=
  ps_imp (ps_fld (pe_var (i := i) hN hv hd hcd) (pe_st fun s => df_z (he s)) hs) fun E σ H ⟨Fa, ρ, s, o, cF, sd, hg, q⟩ => by
    unfold fsetZ at hg
    split at hg
    · rename_i ds h1 h2
      split at hg
      · rename_i hc
        cases hg
        refine ⟨s, Fa.w s, ρ, ds, stc_of Fa cF s, sd, h2, hc.1, fun y H1 r1 j1 d1 => ?_⟩
        have s1 := sd.next r1 j1
        obtain ⟨dx, fs, e1, e2, e3⟩ := setG_end hC hO cF hal hk sd r1 j1 d1 hc.2 q
        exact ⟨.ref (Fa.w s).exa, s1.exn i h1, (Fa.w s).exa, Cc, dx, fs, rfl, e1, c, n, e2, e3⟩
      · cases hg
    · cases hg
end
end DL
namespace DL
open PySem PySem.Spec L2
section
variable {X : Cx} {Cc : Addr} {Ew : WX} {i : Nat} {x : Str} {p p2 pos pos' apos cpos : Pos} {e : Expr}
def bpop (i k : Nat) : Ro → SS → Option (Ou SS) := fun ρ s => match ρ[i]?, s.2[s.2.length - 1]? with
  | some .exn, some d => if k < s.1.length then some (.nx ρ (s.1.set k d, s.2.dropLast)) else none
  | _, _ => none
theorem do_bpop {k : Nat} {f : Str} (c : Cls X.K Cc) (n : NoAttr X.K Cc "before") (nf : NoAttr X.K Cc f) (hk : sns[k]? = some f) (hN : X.N[i]? = some x := by rfl) (hv : Vis X.env.scope x := by first | exact Or.inl rfl | exact Or.inr (Or.inl rfl) | exact Or.inr (Or.inr rfl))
    (hd : (x == ("__debug__" : Str)) = false := by decide) (hcd : (x == ("__classdict__" : Str)) = false := by decide) (hb0 : attributeBase (.Name x p) "before" X.env (eval (.Name x p) X.env) = eval (.Name x p) X.env := by rfl)
    (hbase : attributeBase (.Attribute (.Name x p) "before" p2) "pop" X.env (eval (.Attribute (.Name x p) "before" p2) X.env) = eval (.Attribute (.Name x p) "before" p2) X.env := by rfl) {p3 : Pos}
    (hline : (apos.endLine == cpos.line) = true := by rfl) (hs : swapsWith (.Call (.Attribute (.Attribute (.Name x p) "before" p2) "pop" apos) [] [] cpos) (some (.Attribute (.Name x p3) f pos')) pos.line X.env = pure false := by rfl) :
    DStO X (SeF X.K Cc) Ew (.Assign [.Attribute (.Name x p3) f pos'] (.Call (.Attribute (.Attribute (.Name x p) "before" p2) "pop" apos) [] [] cpos) pos) (bpop i k) :=
  ps_imp (ps_fld (pe_var (i := i) hN hv hd hcd) (pe_bm0 PySem.F.plainAttrs_list PySem.F.slot_list_pop PySem.F.type_list_pop mt_pop (pe_fld (pe_var (i := i) hN hv hd hcd) hb0) hbase hline) hs) fun E σ H ⟨Fa, ρ, s, o, cF, sd, hg, q⟩ => by
    unfold bpop at hg
    split at hg
    · rename_i d h1 h2
      split at hg
      · rename_i hc
        cases hg
        obtain ⟨b, f1, f2, f3, f4⟩ := cF.pb
        obtain ⟨⟨dx, fs, k1, k2⟩, bs, k3, k4⟩ := f3 s H sd.j
        obtain ⟨v, hvx, rv⟩ := RpAll.getAt k4 h2
        rw [← k4.length] at hvx
        refine ⟨.ref (Fa.w s).exa, sd.exn i h1, (Fa.w s).exa, Cc, dx, fs, .ref b, rfl, k1, c, n, k2, .inl ⟨rfl, bs, SqL.of k3⟩, b, bs, v, rfl, rfl, k3, hvx, ?_⟩
        have j2 := f4 s H bs.dropLast s.2.dropLast sd.j (RpAll.dropLast k4)
        have r2 : Rw (Fa.w s) H (upd H b (.lst bs.dropLast)) := fun a o na ea => by
          rw [upd_ne (fun z => na (by rw [z, Fa.hf]; exact f1))]
          exact ea
        obtain ⟨s3, v3⟩ := sd.nextF SeF.ctx cF r2 j2
        have rv' : Rp X.K (tp (upd H b (.lst bs.dropLast))) v d := rv.mono (tp_mono fun a u fx ea => by
          rw [upd_ne (fun z => by rw [z, k3] at ea; cases ea; exact fx)]
          exact ea)
        have q' : EndO X.K Fa Ew (vw (Fa.w (s.1, s.2.dropLast)) σ ρ (upd H b (.lst bs.dropLast))) E (.nx ρ (sup (s.1, s.2.dropLast) ((sfl (s.1, s.2.dropLast)).set k d))) := fun σ' H' a b' => q σ' H' a (v3.trans b')
        obtain ⟨dx', fs', e1, e2, e3⟩ := setG_end SeF.ctx SeF.o cF (by decide) hk (y := v) (d := d) s3 (Rw.refl _ _) j2 rv' hc q'
        have hex : (Fa.w (s.1, s.2.dropLast)).exa = (Fa.w s).exa := cF.of.ex _ _
        rw [hex] at e1 e3
        exact ⟨.ref (Fa.w s).exa, sd.exn i h1, (Fa.w s).exa, Cc, dx', fs', rfl, e1, c, nf, e2, e3⟩
      · cases hg
    · cases hg
end
end DL
namespace DL
open PySem PySem.Spec L2
theorem putF_new {f : Str} {v : V} : ∀ {fs : List (Str × V)}, f ∉ fs.map (·.1) → putF f v fs = fs ++ [(f, v)]
  | [], _ => rfl
  | (m, u) :: fs, h => by
    rw [List.map_cons, List.mem_cons, not_or] at h
    unfold putF
    rw [if_neg (fun z => h.1 z.symm), putF_new h.2]
    rfl
theorem zip_snoc : ∀ {ns : List Str} {vs : List V} {f : Str} {v : V}, vs.length = ns.length → ns.zip vs ++ [(f, v)] = (ns ++ [f]).zip (vs ++ [v])
  | [], [], _, _, _ => rfl
  | [], _ :: _, _, _, h => by cases h
  | _ :: _, [], _, _, h => by cases h
  | n :: ns, u :: vs, f, v, h => by
    rw [List.zip_cons_cons, List.cons_append, zip_snoc (by simpa using h)]
    rfl
section
variable {W : Wd} {K : PySem.W.Frag} {Cc x dx : Addr} {ns : List Str} {s : List D}
theorem ob_grow {H : Hp} {f : Str} {v : V} {d : D} (hx : ¬ W.foot x) (hf : f ∉ ns) (j : (W.ob K Cc ns x dx s).J H) (r : Rp K (tp H) v d) :
    ∃ fs, H x = some (.ins Cc dx fs) ∧ fs.length = ns.length ∧ (W.ob K Cc (ns ++ [f]) x dx (s ++ [d])).J (upd H x (.ins Cc dx (putF f v fs))) := by
  obtain ⟨j, vs, h1, h2, h3⟩ := j
  have kx : ∀ b u, Fix u → H b = some u → upd H x (.ins Cc dx (putF f v (ns.zip vs))) b = some u := fun b u fx e => by
    rw [upd_ne (fun z => by rw [z, h1] at e; cases e; exact fx)]
    exact e
  refine ⟨_, h1, by rw [← List.length_map (f := (·.1)), zip_fst h2], W.stable H _ j kx fun b o z e => ?_, vs ++ [v], ?_, by simp [h2], ((h3.append (.cons r .nil))).mono (tp_mono kx)⟩
  · show upd H x _ b = some o
    rw [upd_ne (fun z2 => hx (by rw [← z2]; exact z))]
    exact e
  · show upd H x _ x = _
    rw [upd_same, putF_new (by rw [zip_fst h2]; exact hf), zip_snoc h2]
theorem ob_next {σ : L2.St} {ρ : Ro} {H H1 H2 : Hp} {ns' : List Str} {s' : List D} {o : HO} (sd : SD K (W.ob K Cc ns x dx s) σ ρ H) (r : Rw (W.ob K Cc ns x dx s) H H1) (e : H2 = upd H1 x o) (j : (W.ob K Cc ns' x dx s').J H2) : SD K (W.ob K Cc ns' x dx s') σ ρ H2 ∧ Rw (W.ob K Cc ns x dx s) H H2 := by
  have r2 : Rw (W.ob K Cc ns x dx s) H H2 := fun a u na ea => by
    rw [e, upd_ne (fun z => na (.inr z))]
    exact r a u na ea
  exact ⟨(sd.nextS (W' := W.ob K Cc ns' x dx s') rfl rfl r2 j).1, r2⟩
end
def tTail (K : PySem.W.Frag) (Cc : Addr) (F : List D → Option Res) : TS := fun E σ H => ∃ (W : Wd) (ρ : Ro) (x dx : Addr) (h w here : D), CN W ∧ ¬ W.foot x ∧ SD K (W.ob K Cc [] x dx []) σ ρ H ∧ ρ[0]? = some .exn ∧ ρ[1]? = some (.sh h) ∧ ρ[2]? = some (.sh w) ∧ tupD h = true ∧ tupD w = true ∧ F [h] = some (.ok here) ∧ tupD here = true ∧
  ∀ H' b, ¬ W.foot b → b ≠ x → H b = none → (W.ses K Cc x dx b ([h, w, here, .list []], [])).J H' → Rw (W.ob K Cc [] x dx []) H H' → E.nx σ H'
theorem pss_tail {X : Cx} {Cc : Addr} {F : List D → Option Res} {k : Nat} (c : Cls X.K Cc) (n1 : NoAttr X.K Cc "hall") (n2 : NoAttr X.K Cc "true") (n3 : NoAttr X.K Cc "here") (n4 : NoAttr X.K Cc "said") (n5 : NoAttr X.K Cc "before")
    (HA : HasFn X.prog X.w X.K X.mg X.base k "all_worlds" CT F) (hr : Room k X.A) (hN0 : X.N[0]? = some ("self" : Str)) (hN1 : X.N[1]? = some ("hall" : Str)) (hN2 : X.N[2]? = some ("world" : Str)) (hv0 : Vis X.env.scope ("self" : Str)) (hv1 : Vis X.env.scope ("hall" : Str)) (hv2 : Vis X.env.scope ("world" : Str))
    (hg : Gl X "all_worlds") {p1 p2 p3 p4 p5 p6 p7 p8 p9 p10 p11 p12 p13 p14 p15 p16 p17 p18 p19 p20 p21 p22 : Pos}
    (hst : starEach [.Name "hall" p12] X.env = (false, eval (.Name "hall" p12) X.env) :: starEach [] X.env) (hpl : (backTo p13 (starEach [] X.env)).any (·.1) = false)
    (w1 : swapsWith (.Name "hall" p3) (some (.Attribute (.Name "self" p1) "hall" p2)) p4.line X.env = pure false) (w2 : swapsWith (.Name "world" p7) (some (.Attribute (.Name "self" p5) "true" p6)) p8.line X.env = pure false)
    (w3 : swapsWith (.Call (.Name "all_worlds" p11) [.Name "hall" p12] [] p13) (some (.Attribute (.Name "self" p9) "here" p10)) p14.line X.env = pure false)
    (w4 : swapsWith (.List [] p17) (some (.Attribute (.Name "self" p15) "said" p16)) p18.line X.env = pure false) (w5 : swapsWith (.List [] p21) (some (.Attribute (.Name "self" p19) "before" p20)) p22.line X.env = pure false) :
    PSs X [.Assign [.Attribute (.Name "self" p1) "hall" p2] (.Name "hall" p3) p4, .Assign [.Attribute (.Name "self" p5) "true" p6] (.Name "world" p7) p8, .Assign [.Attribute (.Name "self" p9) "here" p10] (.Call (.Name "all_worlds" p11) [.Name "hall" p12] [] p13) p14,
      .Assign [.Attribute (.Name "self" p15) "said" p16] (.List [] p17) p18, .Assign [.Attribute (.Name "self" p19) "before" p20] (.List [] p21) p22] (tTail X.K Cc F) := by
  have vS : PE X (.Name "self" p1) _ := pe_var (i := 0) hN0 hv0
  let C3 : Wd → Prop := OS X.K Cc ["hall", "true"] ["hall", "true"] (fun s : List D => s) (fun _ s => s) |> fun f => fun W => ∃ s, f s W
  have hC3 : CtxOk C3 := ⟨fun W ⟨s, z⟩ => OS.ok.nf W z, fun W q F hq ⟨s, z⟩ hn ht => ⟨s, OS.ok.add W q F hq z hn ht⟩⟩
  have hcall : DE X C3 (.Call (.Name "all_worlds" p11) [.Name "hall" p12] [] p13) (callF F (consD (rdS 1) eNil)) := de_callH HA hC3 hr (da_cons (dv 1 hN1 hv1 (by decide) (by decide)) aNil hst) hg (by decide) hst hpl
  let C4 : Wd → Prop := fun W => ∃ s, OS X.K Cc ["hall", "true", "here"] ["hall", "true", "here"] (fun s : List D => s) (fun _ s => s) s W
  have hl4 : DF X C4 (.List [] p17) (mkL eNil) := df_lst aNil
  let C5 : Wd → Prop := fun W => ∃ s, OS X.K Cc ["hall", "true", "here", "said"] ["hall", "true", "here", "said"] (fun s : List D => s) (fun _ s => s) s W
  have hl5 : DF X C5 (.List [] p21) (mkL eNil) := df_lst aNil
  refine pss_imp (pss_cons (ps_fld (pe_var (i := 0) hN0 hv0) (pe_var (i := 1) hN1 hv1) w1) (pss_cons (ps_fld (pe_var (i := 0) hN0 hv0) (pe_var (i := 2) hN2 hv2) w2) (pss_cons (ps_fld (pe_var (i := 0) hN0 hv0) hcall w3)
    (pss_cons (ps_fld (pe_var (i := 0) hN0 hv0) (df_z hl4) w4) (pss_one (ps_fld (pe_var (i := 0) hN0 hv0) hl5 w5)))))) fun E σ H ⟨W, ρ, x, dx, h, w, here, cW, hx, sd, e0, e1, e2, th, tw, hF, te, q⟩ => ?_
  obtain ⟨vh, s1, r1⟩ := sd.sh 1 h e1
  obtain ⟨vw', s2, r2⟩ := sd.sh 2 w e2
  have s0 := sd.exn 0 e0
  have ok : ∀ ns, ns.Nodup → PF X.K Cc ns (Fob W X.K Cc ns x dx) := fun ns hn => Fob.ok hn cW hx
  obtain ⟨fs1, a1, b1, j1⟩ := ob_grow (f := "hall") (v := vh) (d := h) hx (by decide) sd.j (rp_tp (r1.mono off_sub) th)
  obtain ⟨sd1, rr1⟩ := ob_next sd (Rw.refl _ _) rfl j1
  refine ⟨vh, s1, .ref x, s0, x, Cc, dx, fs1, rfl, a1, c, n1, by rw [b1]; decide, ?_⟩
  obtain ⟨vw2, s2', r2'⟩ := sd1.sh 2 w e2
  obtain ⟨fs2, a2, b2, j2⟩ := ob_grow (f := "true") (v := vw2) (d := w) hx (by decide) j1 (rp_tp (r2'.mono off_sub) tw)
  obtain ⟨sd2, rr2⟩ := ob_next sd1 (Rw.refl _ _) rfl j2
  refine ⟨vw2, s2', .ref x, s0, x, Cc, dx, fs2, rfl, a2, c, n2, by rw [b2]; decide, ?_⟩
  refine ⟨W.ob X.K Cc ["hall", "true"] x dx [h, w], ρ, here, ⟨[h, w], os_of _ (ok ["hall", "true"] (by decide)) [h, w]⟩, sd2, by simp only [callF, consD, rdS, e1, eNil, hF], fun v3 H3 q3 j3 d3 => ?_⟩
  obtain ⟨fs3, a3, b3, j4⟩ := ob_grow (f := "here") (v := v3) (d := here) hx (by decide) j3 (rp_tp (d3.mono off_sub) te)
  obtain ⟨sd3, rr3⟩ := ob_next sd2 q3 rfl j4
  refine ⟨.ref x, s0, x, Cc, dx, fs3, rfl, a3, c, n3, by rw [b3]; decide, ?_⟩
  refine ⟨W.ob X.K Cc ["hall", "true", "here"] x dx [h, w, here], ρ, [], ⟨[h, w, here], os_of _ (ok ["hall", "true", "here"] (by decide)) [h, w, here]⟩, sd3, rfl, rfl, fun v4 H4 q4 j5 d4 => ?_⟩
  obtain ⟨fs4, a4, b4, j6⟩ := ob_grow (f := "said") (v := v4) (d := .list []) hx (by decide) j5 d4
  obtain ⟨sd4, rr4⟩ := ob_next sd3 q4 rfl j6
  refine ⟨.ref x, s0, x, Cc, dx, fs4, rfl, a4, c, n4, by rw [b4]; decide, ?_⟩
  refine ⟨W.ob X.K Cc ["hall", "true", "here", "said"] x dx [h, w, here, .list []], ρ, [], ⟨[h, w, here, .list []], os_of _ (ok ["hall", "true", "here", "said"] (by decide)) [h, w, here, .list []]⟩, sd4, rfl, fun b xs H5 q5 j7 nb fb hb5 db => ?_⟩
  cases db
  obtain ⟨jW, vs, k1, k2, k3⟩ := j7
  have hbx : b ≠ x := fun z => fb (.inr z)
  have hbW : ¬ W.foot b := fun z => fb (.inl z)
  have k1' : H5 x = some (.ins Cc dx (sns.zip vs)) := k1
  have k2' : vs.length = sns.length := k2
  refine ⟨.ref x, s0, x, Cc, dx, sns.zip vs, rfl, k1', c, n5, by rw [← List.length_map (f := (·.1)), zip_fst k2']; decide, ?_⟩
  have ep : putF "before" (V.ref b) (sns.zip vs) = sns.zip vs ++ bfL b := putF_new (by rw [zip_fst k2']; decide +kernel)
  rw [ep]
  have kx : ∀ a u, Fix u → H5 a = some u → upd H5 x (.ins Cc dx (sns.zip vs ++ bfL b)) a = some u := fun a u fx e => by
    rw [upd_ne (fun z => by rw [z, k1'] at e; cases e; exact fx)]
    exact e
  have hHb : H b = none := by
    cases hh : H b with
    | none => rfl
    | some o =>
      have nf : ¬ (W.ob X.K Cc [] x dx []).foot b := fun z => fb z
      have z1 := rr1 b o nf hh
      have z2 := rr2 b o nf z1
      have z3 := rr3 b o nf z2
      have z4 := rr4 b o nf z3
      rw [z4] at nb
      cases nb
  refine q _ b hbW hbx hHb ⟨W.stable H5 _ jW kx fun a o z e => ?_, vs, [], upd_same, k2, k3.mono (tp_mono kx), ?_, .nil⟩ ?_
  · rw [upd_ne (fun z2 => hx (by rw [← z2]; exact z))]
    exact e
  · rw [upd_ne hbx]
    exact hb5
  · intro a o na ea
    have z5 := q5 a o na (rr4 a o na (rr3 a o na (rr2 a o na (rr1 a o na ea))))
    rw [upd_ne (fun z => na (.inr z))]
    exact z5
end DL
namespace DL
open PySem PySem.Spec L2
abbrev C0 (K : PySem.W.Frag) (Cc : Addr) : Wd → Prop := OS K Cc [] [] (fun s : List D => s) (fun _ s => s) []
def finI (g1 g2 : Ro → Option Out) (FA : List D → Option Res) (h w : D) : Option (Sum (D × D × D) Exn) := match sq g1 g2 [.exn, .sh h, .sh w] with
  | some (.ex y _) => some (.inr y)
  | some (.nx [.exn, .sh h', .sh w']) => if tupD h' && tupD w' then (match FA [h'] with
    | some (.ok here) => if tupD here then some (.inl (h', w', here)) else none
    | _ => none) else none
  | _ => none
def spSI (K : PySem.W.Frag) (Cc : Addr) (F : D → D → Option (Sum (D × D × D) Exn)) : Sp := fun vs H Q E => ∃ (W : Wd) (x dx : Addr) (vh vw' : V) (h w : D) (r : Sum (D × D × D) Exn), CN W ∧ ¬ W.foot x ∧ vs = [.ref x, vh, vw'] ∧ (W.ob K Cc [] x dx []).J H ∧ Rp K (off (W.ob K Cc [] x dx []).foot H) vh h ∧ Rp K (off (W.ob K Cc [] x dx []).foot H) vw' w ∧ F h w = some r ∧ match r with
  | .inl (h', w', here) => ∀ H' b, ¬ W.foot b → b ≠ x → H b = none → (W.ses K Cc x dx b ([h', w', here, .list []], [])).J H' → Rw (W.ob K Cc [] x dx []) H H' → Q .non H'
  | .inr y => ∀ H', (W.ob K Cc [] x dx []).J H' → Rw (W.ob K Cc [] x dx []) H H' → ExcAt K (W.ob K Cc [] x dx []) y H' E
theorem fn_sesinit {P : Program} {w : World} {K : PySem.W.Frag} {mg : Str → Option Value} {base : Heap} {Cc : Addr} {params : Arguments} {scope : Scope} {dvs : List V} {kws : List (Str × V)} {f : Addr} {fd : FuncData} {k : Nat} {qn : Str} {st1 st2 : Stmt} {tail : List Stmt} {g1 g2 : Ro → Option Out} {FA : List D → Option Res}
    (FF : FunD K "__init__" qn params (st1 :: st2 :: tail) scope dvs kws f fd) (Sc : FnScope ["self", "hall", "world"] ["self", "hall", "world"] scope)
    (hb : ∀ (cdv : Value) (A : Around) (outer : List Env) (s : Shared) (H : Hp) (E : XK), Room k (A.deeper (PyProof.Rows.envOfC qn scope s.heap.objs.size f cdv)) →
      DS (cxOf (L2.CX P w) P w K mg base ["self", "hall", "world"] qn scope f cdv A outer s H E) (C0 K Cc) (fun cls d _ H => E cls d H) st1 g1 ∧
      DS (cxOf (L2.CX P w) P w K mg base ["self", "hall", "world"] qn scope f cdv A outer s H E) (C0 K Cc) (fun cls d _ H => E cls d H) st2 g2 ∧
      PSs (cxOf (L2.CX P w) P w K mg base ["self", "hall", "world"] qn scope f cdv A outer s H E) tail (tTail K Cc FA)) :
    FnOk P w K mg base (L2.CX P w) (k + 1) f fd ["self", "hall", "world"] (spSI K Cc (finI g1 g2 FA)) := by
  refine FF.ok Sc (fun vs H Q E ⟨W, x, dx, vh, vw', h, w', r, _, _, ev, _⟩ => by rw [ev]; rfl) fun cdv A outer s H vs Q E hr ⟨W, x, dx, vh, vw', h, w', r, cW, hx, ev, j, rh, rw', hF, m⟩ => ⟨_, pss_cons (hb cdv A outer s H E hr).1 (pss_cons (hb cdv A outer s H E hr).2.1 (hb cdv A outer s H E hr).2.2), ?_⟩
  subst ev
  have c0 : C0 K Cc (W.ob K Cc [] x dx []) := os_of _ (Fob.ok (ns := []) (by decide) cW hx) []
  have s0 : SD K (W.ob K Cc [] x dx []) (L2.start ["self", "hall", "world"] [.ref x, vh, vw']) [.exn, .sh h, .sh w'] H := sd_startO (N := ["self", "hall", "world"]) (vs := [.ref x, vh, vw']) (ds := [none, some h, some w']) j (.obj (.dat rh (.dat rw' .nil)))
  have hv0 : vw (W.ob K Cc [] x dx []) (L2.start ["self", "hall", "world"] [.ref x, vh, vw']) [.exn, .sh h, .sh w'] H = off (W.ob K Cc [] x dx []).foot H := iniO_vw (n := 3) (ds := [none, some h, some w'])
  have rwOf : ∀ H' σ' ρ', Same (vw (W.ob K Cc [] x dx []) (L2.start ["self", "hall", "world"] [.ref x, vh, vw']) [.exn, .sh h, .sh w'] H) (vw (W.ob K Cc [] x dx []) σ' ρ' H') → Rw (W.ob K Cc [] x dx []) H H' := fun H' σ' ρ' sm a o n e1 => by
    have := (sm.trans vw_sub) a o (by rw [hv0, off_neg n]; exact e1)
    exact (off_some this).2
  unfold finI sq at hF
  cases h1 : g1 [.exn, .sh h, .sh w'] with
  | none => rw [h1] at hF; cases hF
  | some o1 =>
    rw [h1] at hF
    refine ⟨W.ob K Cc [] x dx [], _, o1, c0, s0, h1, ?_⟩
    cases o1 with
    | rt d => cases hF
    | bk _ => cases hF
    | ct _ => cases hF
    | ex y ρ1 =>
      cases hF
      intro σ' H' sd' sm
      exact m H' sd'.j (rwOf H' σ' _ sm)
    | nx ρ1 =>
      intro σ1 H1 sd1 sm1
      simp only at hF
      cases h2 : g2 ρ1 with
      | none => rw [h2] at hF; cases hF
      | some o2 =>
        rw [h2] at hF
        refine ⟨W.ob K Cc [] x dx [], ρ1, o2, c0, sd1, h2, ?_⟩
        cases o2 with
        | rt d => cases hF
        | bk _ => cases hF
        | ct _ => cases hF
        | ex y ρ2 =>
          cases hF
          intro σ' H' sd' sm
          exact m H' sd'.j (rwOf H' σ' _ (sm1.trans sm))
        | nx ρ2 =>
          intro σ2 H2 sd2 sm2
          split at hF
          · rename_i h' w2 hq
            cases hq
          · rename_i h' w2 hq
            cases hq
            split at hF
            · rename_i ht
              rw [Bool.and_eq_true] at ht
              split at hF
              · rename_i here hA
                split at hF
                · rename_i te
                  cases hF
                  have r2 := rwOf H2 σ2 _ (sm1.trans sm2)
                  refine ⟨W, _, x, dx, h', w2, here, cW, hx, sd2, rfl, rfl, rfl, ht.1, ht.2, hA, te, fun H' b n1 n2 n3 j' r' => m H' b n1 n2 ?_ j' (r2.trans r')⟩
                  cases hh : H b with
                  | none => rfl
                  | some o =>
                    rw [r2 b o (fun z => z.elim n1 n2) hh] at n3
                    cases n3
                · cases hF
              · cases hF
            · cases hF
          · cases hF
end DL
namespace DL
open PySem PySem.Spec L2
section
variable {X : Cx} {CX : CXT} {k : Nat} {f C : Addr} {fd : FuncData} {ps : List Str} {sp : Sp} {E : L2.St → XK} {x m : Str} {p pos : Pos} {e : Expr} {es : List Expr} {t : TA}
theorem run_makeS {pins : List (Addr × Obj)} {σ : L2.St} {H : Hp} {s : Shared} {Q : VK} {us : List Value} {vs : List V} (M : Mk X.K C f) (F : FnOk X.prog X.w X.K X.mg X.base CX k f fd ps sp) (hr : Room (k + 1) X.A) (hb : Binds X.K fd ps [])
    (hx : PassesAt CX X σ (E σ)) (I : Inv X pins σ H s) (r : Vals vs us)
    (h : ∀ x dx, H x = none → H dx = none → dx ≠ x → sp (.ref x :: vs) (upd (upd H dx (.own x)) x (.ins C dx [])) (fun v H2 => v = .non ∧ Q (.ref x) H2) (E σ)) :
    wpAny (model X.prog X.w) X.A (call (.ref C) us) (EP X pins σ Q) X.xe s := by
  have hq := h (s.heap.objs.size + 1) s.heap.objs.size (I.hok.fresh (Nat.le_succ _)) (I.hok.fresh (Nat.le_refl _)) (Nat.ne_of_lt (Nat.lt_succ_self _))
  have I2 := Inv.made (C := C) I
  have r2 : Vals (V.ref (s.heap.objs.size + 1) :: vs) (Value.ref (s.heap.objs.size + 1) :: us) := .cons rfl r
  have hl : (Value.ref (s.heap.objs.size + 1) :: us ++ []).length = ps.length := by
    have e := r2.length
    rw [F.len _ _ _ _ hq] at e
    rw [List.append_nil]
    exact e.symm
  have hb' := hb _ (Value.ref (s.heap.objs.size + 1) :: us) I2.kIn hl
  rw [List.append_nil] at hb'
  refine wpAny_call (make_map (f := f) I.kIn M.makes M.init (beq_iff_eq.mp M.fn) (codeAny_mono (F.run _ X.stack _ _ ⟨Value.ref (s.heap.objs.size + 1) :: us, []⟩ (Value.ref (s.heap.objs.size + 1) :: us) _ _ (E σ) (hr.make C us [])
    (I2.env0.make C us []) hb' r2 hq) fun r s' hq' => ?_))
  cases r with
  | error e => exact hx pins _ _ e s' I2 hq'
  | ok fl =>
    cases fl with
    | ret u =>
      obtain ⟨v, H', I3, rv, ev, q3⟩ := I2.after hq'
      subst ev
      exact ⟨rv, ⟨V.ref (s.heap.objs.size + 1), H', I3, rfl, q3⟩⟩
    | next => exact False.elim hq'
    | brk => exact False.elim hq'
    | cont => exact False.elim hq'
def tMakeX (C : Addr) (sp : Sp) (E : L2.St → XK) (t : TA) : TE := fun σ H Q => t σ H fun vs H1 => ∀ x dx, H1 x = none → H1 dx = none → dx ≠ x → sp (.ref x :: vs) (upd (upd H1 dx (.own x)) x (.ins C dx [])) (fun v H2 => v = .non ∧ Q (.ref x) H2) (E σ)
theorem pe_makeX (M : Mk X.K C f) (F : FnOk X.prog X.w X.K X.mg X.base CX k f fd ps sp) (hr : Room (k + 1) X.A) (hg : Gl X x) (hm : X.mg x = some (.ref C)) (hb : Binds X.K fd ps []) (hx : ∀ σ, PassesAt CX X σ (E σ))
    (ha : PA X (e :: es) t) (hdb : (x == ("__debug__" : Str)) = false := by decide) (he : starEach (e :: es) X.env = (false, eval e X.env) :: starEach es X.env := by rfl) (hpl : (backTo pos (starEach es X.env)).any (·.1) = false := by rfl) :
    PE X (.Call (.Name x p) (e :: es) [] pos) (tMakeX C sp E t) := by
  refine ⟨fun pins s σ H Q I h => ?_⟩
  refine wpAny_Call_Name_kw (ld_glob I hg hm ?_ hdb)
  refine PySem.W.callWith_K (h₀ := X.base) I.ok.mod.kin M.kp (thn (ha.run pos pins s σ H _ I h) fun us s1 ⟨vs, H1, I1, r, q⟩ => ⟨I1.kIn, ?_⟩) he hpl
  exact run_makeS M F hr hb (hx σ) I1 r q
end
theorem si_core {K : PySem.W.Frag} {Cc : Addr} {F : D → D → Option (Sum (D × D × D) Exn)} {W : Wd} {σ : L2.St} {ρ : Ro} {H1 : Hp} {h w : D} {r : Sum (D × D × D) Exn} {vs : List V} {x dx : Addr} {Q : VK} {E : XK} (c : CN W) (s1 : SD K W σ ρ H1) (d1 : RpAll K (vw W σ ρ H1) vs [h, w]) (hx : H1 x = none) (hdx : H1 dx = none) (hne : dx ≠ x) (hF : F h w = some r)
    (m : match r with
      | .inl (h', w', here) => ∀ H' b, ¬ W.foot b → b ≠ x → H1 b = none → (W.ses K Cc x dx b ([h', w', here, .list []], [])).J H' → (∀ a o, ¬ W.foot a → H1 a = some o → H' a = some o) → Q .non H'
      | .inr y => ∀ H', W.J H' → (∀ a o, ¬ W.foot a → H1 a = some o → H' a = some o) → ExcAt K W y H' E) :
    spSI K Cc F (.ref x :: vs) (upd (upd H1 dx (.own x)) x (.ins Cc dx [])) Q E := by
  have keep : ∀ b u, H1 b = some u → upd (upd H1 dx (.own x)) x (.ins Cc dx []) b = some u := fun b u e => by
    rw [upd_ne (fun z => by rw [z, hx] at e; cases e), upd_ne (fun z => by rw [z, hdx] at e; cases e)]
    exact e
  cases d1 with
  | cons rh d1 =>
    cases d1 with
    | cons rw1 d1 =>
      cases d1
      rename_i vh vw1
      have c1 : CN (W.add (isOw σ ρ) H1 s1.own) := own_add CtxOk.all c s1
      have nx1 : ¬ (W.add (isOw σ ρ) H1 s1.own).foot x := fun z => z.elim (fun z => W.there H1 x s1.j z hx) (fun z => s1.own x z hx)
      have jj : ((W.add (isOw σ ρ) H1 s1.own).ob K Cc [] x dx []).J (upd (upd H1 dx (.own x)) x (.ins Cc dx [])) := by
        refine ⟨⟨W.same s1.j keep, fun a z => ?_⟩, [], upd_same, rfl, .nil⟩
        have hn := s1.own a z
        cases e : H1 a with
        | none => exact absurd e hn
        | some o => rw [keep a o e]
      have sm : Same (vw W σ ρ H1) (off ((W.add (isOw σ ρ) H1 s1.own).ob K Cc [] x dx []).foot (upd (upd H1 dx (.own x)) x (.ins Cc dx []))) := fun a o e => by
        obtain ⟨n, e⟩ := off_some e
        rw [off_neg (fun z => z.elim n (fun z => by rw [z, hx] at e; cases e))]
        exact keep a o e
      have back : ∀ H', ((W.add (isOw σ ρ) H1 s1.own).J H') → Rw ((W.add (isOw σ ρ) H1 s1.own).ob K Cc [] x dx []) (upd (upd H1 dx (.own x)) x (.ins Cc dx [])) H' → ∀ a o, ¬ W.foot a → H1 a = some o → H' a = some o := fun H' j' r' a o na e => by
        by_cases hq : isOw σ ρ a
        · rw [j'.2 a hq]; exact e
        · exact r' a o (fun z => z.elim (fun z => z.elim na hq) (fun z => by rw [z, hx] at e; cases e)) (keep a o e)
      refine ⟨W.add (isOw σ ρ) H1 s1.own, x, dx, vh, vw1, h, w, r, c1, nx1, rfl, jj, rh.mono sm, rw1.mono sm, hF, ?_⟩
      cases r with
      | inl q =>
        obtain ⟨h', w', here⟩ := q
        intro H' b n1 n2 n3 j' r'
        obtain ⟨jA, vs, bs, k⟩ := id j'
        have n3' : H1 b = none := by
          cases e : H1 b with
          | none => rfl
          | some o => rw [keep b o e] at n3; cases n3
        exact m H' b (fun z => n1 (.inl z)) n2 n3' ⟨jA.1, vs, bs, k⟩ (back H' jA r')
      | inr y =>
        intro H' j' r'
        have := m H' j'.1.1 (back H' j'.1 r')
        unfold ExcAt at this ⊢
        split
        · rename_i el; rw [el] at this; exact this
        · rename_i dl el
          rw [el] at this
          exact fun dx' v h1 h2 h3 => this dx' v h1 (fun z => h2 (.inl (.inl z))) (h3.mono (off_mono (fun b o _ z => .inl (.inl z)) fun _ _ _ e => e))
end DL
namespace DL
open PySem PySem.Spec L2
def sesM (FI : D → D → Option (Sum (D × D × D) Exn)) (f : Ro → Option (List D)) (Fm : List (Option D) → SS → Option (Res × SS)) : Ro → Option Res := fun ρ => match f ρ with
  | some [h, w] => if noEx ρ then (match FI h w with
    | some (.inr y) => some (.exc y)
    | some (.inl (h', w', here)) => (match Fm [none] ([h', w', here, .list []], []) with
      | some (r, _) => some r
      | none => none)
    | none => none) else none
  | _ => none
section
variable {X : Cx} {Ew : WX} {Cc : Addr} {cn m : Str} {p apos pos pos2 : Pos} {e : Expr} {es : List Expr} {f : Ro → Option (List D)} {fi : Addr} {fdi : FuncData} {psi : List Str} {ki km : Nat} {FI : D → D → Option (Sum (D × D × D) Exn)} {Fm : List (Option D) → SS → Option (Res × SS)}
theorem dx_sesM {pl : Sem Bool} (tk : Takes X Ew) (M : Mk X.K Cc fi) (FO : FnOk X.prog X.w X.K X.mg X.base (L2.CX X.prog X.w) ki fi fdi psi (spSI X.K Cc FI)) (hb : Binds X.K fdi psi []) (hm : X.mg cn = some (.ref Cc)) (hr : Room (ki + 1) X.A) (ha : DA X CN (e :: es) f)
    (c : Cls X.K Cc) (HM : HasMS X.prog X.w X.K X.mg X.base km Cc m (SeF X.K Cc) Fm) (hrm : Room km X.A) (hm0 : m ∉ sal) (hg : Gl X cn := by rfl)
    (hdb : (cn == ("__debug__" : Str)) = false := by decide) (he : starEach (e :: es) X.env = (false, eval e X.env) :: starEach es X.env := by rfl) (hpl : (backTo pos2 (starEach es X.env)).any (·.1) = false := by rfl)
    (ht : eval (.Call (.Attribute (.Call (.Name cn p) (e :: es) [] pos2) m apos) [] [] pos) X.env = (do
      let ov ← eval (.Call (.Name cn p) (e :: es) [] pos2) X.env
      standAt apos.atName
      let (f, first) ← holding [ov] (getMethod ov m pl)
      callWith pos f first (backTo pos (starEach [] X.env)) (backToKw pos (keywordEach [] X.env))) := by rfl) :
    DX X CN Ew (.Call (.Attribute (.Call (.Name cn p) (e :: es) [] pos2) m apos) [] [] pos) (sesM FI f Fm) := by
  obtain ⟨fm, fdm, psm, g1, g2, g3⟩ := HM.ex
  refine pe_imp (pe_methX0 (pe_makeX M FO hr hg hm hb (fun σ => passAt tk σ) ha hdb he hpl) c g2 g1 hrm g3 (fun σ => passAt tk σ) ht) fun σ H Q ⟨W, ρ, r, cW, s, hf, q⟩ => ?_
  unfold sesM at hf
  split at hf
  · rename_i h w hfa
    split at hf
    · rename_i ne
      cases hF : FI h w with
      | none => rw [hF] at hf; cases hf
      | some ri =>
        rw [hF] at hf
        refine ⟨W, ρ, [h, w], cW, s, hfa, fun vs H1 r1 j1 d1 y dx hy hdx hne => ?_⟩
        have s1 := s.next r1 j1
        refine si_core cW s1 d1 hy hdx hne hF ?_
        cases ri with
        | inr y' =>
          cases hf
          exact fun H' j' k' => q H' (r1.trans (fun a o na e => k' a o na e)) j'
        | inl qq =>
          obtain ⟨h', w', here⟩ := qq
          intro H' b n1 n2 n3 j' k'
          refine ⟨rfl, ?_⟩
          have nfy : ¬ W.foot y := fun z => W.there H1 y j1 z hy
          obtain ⟨s2, v2⟩ := s1.sk (W' := W.ses X.K Cc y dx b ([h', w', here, .list []], [])) ne j' (fun a o e na => k' a o na e) (fun a z => by
            rcases z with z | z | z
            · exact .inl z
            · rw [z]; exact .inr hy
            · rw [z]; exact .inr n3)
          simp only at hf
          cases hFm : Fm [none] ([h', w', here, .list []], []) with
          | none => rw [hFm] at hf; cases hf
          | some rr =>
            obtain ⟨r', st'⟩ := rr
            rw [hFm] at hf
            cases hf
            have cS := Fses.ok (K := X.K) (Cc := Cc) (dx := dx) cW nfy n1 n2
            obtain ⟨dx', fs, k1, k2, _⟩ := cS.of.get ([h', w', here, .list []], []) H' j'
            refine ⟨y, dx', fs, rfl, k1, lookup_none_of hm0 k2, ?_⟩
            show spS X.K (SeF X.K Cc) Fm [.ref y] H' Q (WE Ew σ)
            have rw2 : ∀ {st : SS} {H2 : Hp}, ((Fses W X.K Cc y dx b).add (isOw σ ρ) H' s2.own).w st |>.J H2 → Rw (((Fses W X.K Cc y dx b).add (isOw σ ρ) H' s2.own).w ([h', w', here, .list []], [])) H' H2 → Rw W H H2 := fun {st H2} j2 r2 a o na ea => by
              have e1 := r1 a o na ea
              have e2 := k' a o na e1
              by_cases hq : isOw σ ρ a
              · rw [j2.2 a hq]; exact e2
              · refine r2 a o (fun z => ?_) e2
                rcases z with (z | z | z) | z
                · exact na z
                · rw [z, hy] at e1; cases e1
                · rw [z, n3] at e1; cases e1
                · exact hq z
            refine ⟨(Fses W X.K Cc y dx b).add (isOw σ ρ) H' s2.own, [none], ([h', w', here, .list []], []), r, st', own_addS SeF.ctx cS s2, ⟨j', fun _ _ => rfl⟩, .obj .nil, hFm, ?_⟩
            cases r with
            | ok d => exact fun v H2 j2 r2 dp => q v H2 (rw2 j2 r2) j2.1.1 (dp.mono (off_mono (fun a o _ z => z.elim (fun z => .inl (.inl z)) fun z => .inr z) fun _ _ _ e => e))
            | exc y2 => exact fun H2 j2 r2 => ExcAt.up (fun a z => .inl (.inl z)) (q H2 (rw2 j2 r2) j2.1.1)
    · cases hf
  · cases hf
theorem de_isV (i : Nat) {C : Wd → Prop} {a : Addr} {oe : Obj} {d : Option Addr} {y : Exn} {pn : List (Addr × Obj)} {n T : Str} {Tn : String} {p p1 p2 pos : Pos} {b : Bool} (EC : ExcC X.K (He.ga X.K y.cls)) (hz : Zc (.ref (He.ga X.K y.cls)) d oe) (hf : ∃ vs, oe.data = .fields vs)
    (hk : PySem.W.kitOne X.K (.ref (He.ga X.K y.cls)) (.type Tn) = some b) (hg : Gl X "isinstance") (hm : X.mg "isinstance" = none) (hgc : Gl X T) (hmc : X.mg T = none) (hbo : bootBuiltins T = some (.type Tn)) (hN : X.N[i]? = some n := by rfl)
    (hv : Vis X.env.scope n := by first | exact Or.inl rfl | exact Or.inr (Or.inl rfl) | exact Or.inr (Or.inr rfl)) (hd1 : (n == ("__debug__" : Str)) = false := by decide) (hd2 : (n == ("__classdict__" : Str)) = false := by decide) (hd3 : T ≠ "__name__" := by decide) (hd4 : (T == ("__debug__" : Str)) = false := by decide)
    (he : starEach [.Name n p1, .Name T p2] X.env = (false, eval (.Name n p1) X.env) :: starEach [.Name T p2] X.env := by rfl) :
    DE (X.suite a ((a, oe) :: pn)) (CS C X.K a d y) (.Call (.Name "isinstance" p) [.Name n p1, .Name T p2] [] pos) (isE i b) := by
  have hT : PE (X.suite a ((a, oe) :: pn)) (.Name T p2) _ := pe_bltn (X := X.suite a ((a, oe) :: pn)) (v := .ty Tn) hgc hmc hbo rfl hd3 hd4
  cases d with
  | some dx =>
    refine pe_imp (pe_callB (X := X.suite a ((a, oe) :: pn)) (call_isF EC hz hf) hg hm (by decide +kernel) (pa_cons (pe_var (i := i) hN hv hd1 hd2) (pa_cons hT pa_nil rfl) he) (by decide) (by decide) he rfl) fun σ H Q ⟨W, ρ, d', ⟨_, ea, lo⟩, s, hf, q⟩ => ?_
    obtain ⟨h1, rfl⟩ := isE_some hf
    have sl := s.exn i h1
    rw [ea] at sl
    unfold LineOk at lo
    split at lo
    · cases lo
    · obtain ⟨dx', v, e1, h2, h3⟩ := lo
      cases e1
      exact ⟨_, sl, .ty Tn, .type Tn, b, _, rfl, fun u r => r, hk, h2 H s.j, q _ H (Rw.refl _ _) s.j (.bl _)⟩
  | none =>
    refine pe_imp (pe_callB (X := X.suite a ((a, oe) :: pn)) (call_isE EC hz hf) hg hm (by decide +kernel) (pa_cons (pe_var (i := i) hN hv hd1 hd2) (pa_cons hT pa_nil rfl) he) (by decide) (by decide) he rfl) fun σ H Q ⟨W, ρ, d', ⟨_, ea, _⟩, s, hf, q⟩ => ?_
    obtain ⟨h1, rfl⟩ := isE_some hf
    have sl := s.exn i h1
    rw [ea] at sl
    exact ⟨_, sl, .ty Tn, .type Tn, b, rfl, fun u r => r, hk, q _ H (Rw.refl _ _) s.j (.bl _)⟩
end
end DL
namespace DL
open PySem PySem.Spec L2
def nSl (f : Ro → Option D) (lo hi : Ro → Option (Option Int)) : Ro → Option (List D) := fun ρ => match f ρ, lo ρ, hi ρ with
  | some (.list ds), some l, some h => some (cut ds l h)
  | _, _, _ => none
theorem df_slice {X : Cx} {C : Wd → Prop} {e : Expr} {f : Ro → Option D} {lo hi : Option Expr} {l h : Ro → Option (Option Int)} {p2 pos : Pos} (he : DE X C e f) (hl : DO X C lo l) (hu : DO X C hi h) : DF X C (.Subscript e (.Slice lo hi none p2) pos) (nSl f l h) :=
  pe_imp (pe_slice sl_list he hl hu) fun σ H Q ⟨W, ρ, z, c, s, hf, q⟩ => by
    unfold nSl at hf
    split at hf
    · rename_i ds li ui h1 h2 h3
      cases hf
      refine ⟨W, ρ, _, c, s, h1, fun v H1 r1 j1 d1 => ⟨W, ρ, li, c, s.next r1 j1, h2, fun H2 r2 j2 => ⟨W, ρ, ui, c, (s.next r1 j1).next r2 j2, h3, fun H3 r3 j3 => ?_⟩⟩⟩
      have r := (r1.trans r2).trans r3
      have s3 := s.next r j3
      have d3 := d1.mono (vw_mono (r2.trans r3))
      obtain ⟨a, us, rfl, ha, hu⟩ := d3.lst_inv
      refine ⟨a, us, rfl, .inl (ha.mono off_sub), fun p np => ?_⟩
      refine q p _ _ (r.trans (Rw.of (same_upd np))) (W.same j3 (same_upd np)) (free_back r j3 np) (s3.newF np) upd_same ((cut_rp hu _ _).mono (off_mono (fun b o e z => ?_) fun b o _ e => same_upd np b o e))
      rcases z with z | z
      · exact z
      · subst z; rw [np] at e; cases e
    · cases hf
end DL
namespace K23
open PySem PySem.Spec L2 DL
structure Bi (K : PySem.W.Frag) (mg : Str → Option Value) : Prop where
  ValueError : mg "ValueError" = none
  bool : mg "bool" = none
  dict : mg "dict" = none
  enumerate : mg "enumerate" = none
  int : mg "int" = none
  isinstance : mg "isinstance" = none
  len : mg "len" = none
  list : mg "list" = none
  max : mg "max" = none
  min : mg "min" = none
  range : mg "range" = none
  set : mg "set" = none
  sorted : mg "sorted" = none
  str : mg "str" = none
  sum : mg "sum" = none
  tuple : mg "tuple" = none
  zip : mg "zip" = none
  k_MOST_WORLDS : ∃ t, mg "MOST_WORLDS" = some (.int 8 t)
  k_MOST_HANDS : ∃ t, mg "MOST_HANDS" = some (.int 4 t)
  k_MOST_MARK : ∃ t, mg "MOST_MARK" = some (.int 3 t)
  k_WISHES : mg "WISHES" = some (.ref (He.ga K "WISHES")) ∧ SqT K (fun _ => none) (He.ga K "WISHES") [V.str "learn", V.str "hide", V.str "dark"]
  k_MOST_WISHES : ∃ t, mg "MOST_WISHES" = some (.int 4 t)
  k_END : mg "END" = some (.ref (He.ga K "END")) ∧ SqT K (fun _ => none) (He.ga K "END") [V.str "end"]
  k_MARKS : ∃ t, mg "MARKS" = some (.str "0123" t)
  x : XF K mg xcs subc
  xl : XL K mg xcl subc
  bt : BtC K mg
  xv : ∀ x ∈ xcl, PySem.W.kitOne K (.ref (He.ga K x)) (.type "ValueError") = some true
theorem rc_WISHES {K : PySem.W.Frag} (h : SqT K (fun _ => none) (He.ga K "WISHES") [V.str "learn", V.str "hide", V.str "dark"]) : Rp K (fun _ => none) (.ref (He.ga K "WISHES")) (.tuple [.str "learn", .str "hide", .str "dark"]) := .tup h (.cons (.str _) (.cons (.str _) (.cons (.str _) .nil)))
theorem rc_END {K : PySem.W.Frag} (h : SqT K (fun _ => none) (He.ga K "END") [V.str "end"]) : Rp K (fun _ => none) (.ref (He.ga K "END")) (.tuple [.str "end"]) := .tup h (.cons (.str _) .nil)
noncomputable section
variable {P : Program} {w : World} {K : PySem.W.Frag} {mg : Str → Option Value} {base : Heap}
theorem sc_z_wall : FnScope ["k"] ["k"] (defScope s_z_wall) := ⟨rfl, rfl, rfl, by decide +kernel, rfl, by decide +kernel, by decide +kernel⟩
def sem_z_wall : Ro → Option Out :=
  (whL (tru (cB true)) nxt 64)
def F_z_wall : List D → Option Res := fnD 1 1 sem_z_wall
theorem fn_z_wall (B : Bi K mg)  {fa : Addr} {fd : FuncData} (FF : FunD K "_wall" "_wall" (defArgs s_z_wall) (defBody s_z_wall) (defScope s_z_wall) [] [] fa fd) : FnOk P w K mg base (L2.CX P w) 1 fa fd ["k"] (spD K CT F_z_wall) := by
  refine fn_def (k := 0) FF sc_z_wall fun cdv A outer s H E hr => ?_
  exact (dss_one (ds_while 64 (passes_of rfl) (dt_n (de_n kB)) (dss_one ds_pass)))
theorem ok_z_wall (B : Bi K mg)  {fa : Addr} {fd : FuncData} (FF : FunD K "_wall" "_wall" (defArgs s_z_wall) (defBody s_z_wall) (defScope s_z_wall) [] [] fa fd) (hm : mg "_wall" = some (.ref fa)) : HasFn P w K mg base 1 "_wall" CT F_z_wall :=
  ⟨fa, fd, ["k"], fn_z_wall B  FF, hm, FF.kp, FF.bindsN fun _ _ _ _ _ _ us hl => match us, hl with | [_], _ => rfl⟩
theorem sc_is_within : FnScope ["thing", "low", "high"] ["thing", "low", "high"] (defScope s_is_within) := ⟨rfl, rfl, rfl, by decide +kernel, rfl, by decide +kernel, by decide +kernel⟩
def sem_is_within : Ro → Option Out :=
  (ret (vAndD (toB isI (rdS 0)) (vAndD (vNotD (toB isB (rdS 0))) (chn dLe dLe (rdS 1) (rdS 0) (rdS 2)))))
def F_is_within : List D → Option Res := fnD 3 3 sem_is_within
theorem fn_is_within (B : Bi K mg)  {fa : Addr} {fd : FuncData} (FF : FunD K "is_within" "is_within" (defArgs s_is_within) (defBody s_is_within) (defScope s_is_within) [] [] fa fd) : FnOk P w K mg base (L2.CX P w) 1 fa fd ["thing", "low", "high"] (spD K CT F_is_within) := by
  refine fn_def (k := 0) FF sc_is_within fun cdv A outer s H E hr => ?_
  exact (dss_one (ds_retN (de_n (de_and (de_isi kit_int (by decide +kernel) rfl B.isinstance rfl B.int (dv 0)) (de_and (de_not (de_n (de_isi kit_bool (by decide +kernel) rfl B.isinstance rfl B.bool (dv 0)))) (de_and1 (de_chain op_leD op_leD atom_le (dv 1) (dv 0) (dv 2))))))))
theorem ok_is_within (B : Bi K mg)  {fa : Addr} {fd : FuncData} (FF : FunD K "is_within" "is_within" (defArgs s_is_within) (defBody s_is_within) (defScope s_is_within) [] [] fa fd) (hm : mg "is_within" = some (.ref fa)) : HasFn P w K mg base 1 "is_within" CT F_is_within :=
  ⟨fa, fd, ["thing", "low", "high"], fn_is_within B  FF, hm, FF.kp, FF.bindsN fun _ _ _ _ _ _ us hl => match us, hl with | [_, _, _], _ => rfl⟩
theorem sc_are_marks : FnScope ["worlds", "thing", "one"] ["worlds", "thing"] (defScope s_are_marks) := ⟨rfl, rfl, rfl, by decide +kernel, rfl, by decide +kernel, by decide +kernel⟩
def sem_are_marks : Ro → Option Out :=
  (sq (ifS (tOrD (tNotD (tru (toB isT (rdS 1)))) (asB (bi dNe (un dLen (rdS 1)) (rdS 0)))) (ret (cB false)) nxt)
  (ret (vNotD (asL (lc [2] (asItm (rdS 1)) (bN 2) (tNotD (tru (callF F_is_within (consD (rdS 2) (consD (cI 0) (consD (cI 3) eNil)))))) (rdS 2))))))
def F_are_marks : List D → Option Res := fnD 2 3 sem_are_marks
theorem fn_are_marks (B : Bi K mg) (H_is_within : HasFn P w K mg base 1 "is_within" CT F_is_within) {fa : Addr} {fd : FuncData} (FF : FunD K "are_marks" "are_marks" (defArgs s_are_marks) (defBody s_are_marks) (defScope s_are_marks) [] [] fa fd) : FnOk P w K mg base (L2.CX P w) 2 fa fd ["worlds", "thing"] (spD K CT F_are_marks) := by
  obtain ⟨t_MOST_MARK, m_MOST_MARK⟩ := B.k_MOST_MARK
  refine fn_def (k := 1) FF sc_are_marks fun cdv A outer s H E hr => ?_
  exact (dss_cons (ds_if (PW.pt (dw_or (dt_not (dt_n (de_n (de_isi kit_tuple (by decide +kernel) rfl B.isinstance rfl B.tuple (dv 1))))) (dw_or1 (dt_cmp (op_neDD hr.units) (de_len rfl B.len (dv 1)) (dv 0) (nomark _))))) (dss_one (ds_retN (de_n kB))) dss_nil)
  (dss_one (ds_retN (de_n (de_not (de_n (df_de (df_lc (own := [("one", 2)]) CtxOk.all rfl sc_are_marks.nd (di_any (dv 1)) (blkOk_by (by kernel_rfl)) (by decide) (fun _ _ _ _ _ => (dg_name (i := 2) sc_are_marks.nd rfl (by first | exact Or.inl rfl | exact Or.inr rfl))) (fun _ _ _ _ _ => (dts_one (dt_not (dt_n (de_n (de_callH H_is_within CtxOk.all (hr.mono (by decide)) (da_cons (dv 2) (da_cons kI (da_cons (gI m_MOST_MARK) aNil))))))))) (fun _ _ _ _ _ => (dv 2))))))))))
theorem ok_are_marks (B : Bi K mg) (H_is_within : HasFn P w K mg base 1 "is_within" CT F_is_within) {fa : Addr} {fd : FuncData} (FF : FunD K "are_marks" "are_marks" (defArgs s_are_marks) (defBody s_are_marks) (defScope s_are_marks) [] [] fa fd) (hm : mg "are_marks" = some (.ref fa)) : HasFn P w K mg base 2 "are_marks" CT F_are_marks :=
  ⟨fa, fd, ["worlds", "thing"], fn_are_marks B H_is_within FF, hm, FF.kp, FF.bindsN fun _ _ _ _ _ _ us hl => match us, hl with | [_, _], _ => rfl⟩
theorem sc_is_hall : FnScope ["thing", "one"] ["thing"] (defScope s_is_hall) := ⟨rfl, rfl, rfl, by decide +kernel, rfl, by decide +kernel, by decide +kernel⟩
def sem_is_hall : Ro → Option Out :=
  (sq (ifS (tOrD (tNotD (tru (toB isT (rdS 0)))) (tOrD (asB (bi dNe (un dLen (rdS 0)) (cI 2))) (tNotD (tru (callF F_is_within (consD (bi dIx (rdS 0) (cI 0)) (consD (cI 1) (consD (cI 8) eNil)))))))) (ret (cB false)) nxt)
  (sq (ifS (tOrD (tNotD (tru (toB isT (bi dIx (rdS 0) (cI 1))))) (tNotD (asB (chn dLe dLe (cI 2) (un dLen (bi dIx (rdS 0) (cI 1))) (cI 4))))) (ret (cB false)) nxt)
  (ret (vNotD (asL (lc [1] (asItm (bi dIx (rdS 0) (cI 1))) (bN 1) (tNotD (tru (callF F_are_marks (consD (bi dIx (rdS 0) (cI 0)) (consD (rdS 1) eNil))))) (rdS 1)))))))
def F_is_hall : List D → Option Res := fnD 1 2 sem_is_hall
theorem fn_is_hall (B : Bi K mg) (H_is_within : HasFn P w K mg base 1 "is_within" CT F_is_within) (H_are_marks : HasFn P w K mg base 2 "are_marks" CT F_are_marks) {fa : Addr} {fd : FuncData} (FF : FunD K "is_hall" "is_hall" (defArgs s_is_hall) (defBody s_is_hall) (defScope s_is_hall) [] [] fa fd) : FnOk P w K mg base (L2.CX P w) 3 fa fd ["thing"] (spD K CT F_is_hall) := by
  obtain ⟨t_MOST_WORLDS, m_MOST_WORLDS⟩ := B.k_MOST_WORLDS
  obtain ⟨t_MOST_HANDS, m_MOST_HANDS⟩ := B.k_MOST_HANDS
  refine fn_def (k := 2) FF sc_is_hall fun cdv A outer s H E hr => ?_
  exact (dss_cons (ds_if (PW.pt (dw_or (dt_not (dt_n (de_n (de_isi kit_tuple (by decide +kernel) rfl B.isinstance rfl B.tuple (dv 0))))) (dw_or (dt_cmp (op_neDD hr.units) (de_len rfl B.len (dv 0)) kI (nomark _)) (dw_or1 (dt_not (dt_n (de_n (de_callH H_is_within CtxOk.all (hr.mono (by decide)) (da_cons (de_ix (dv 0) kI) (da_cons kI (da_cons (gI m_MOST_WORLDS) aNil))))))))))) (dss_one (ds_retN (de_n kB))) dss_nil)
  (dss_cons (ds_if (PW.pt (dw_or (dt_not (dt_n (de_n (de_isi kit_tuple (by decide +kernel) rfl B.isinstance rfl B.tuple (de_ix (dv 0) kI))))) (dw_or1 (dt_not (dt_chain op_leD op_leD kI (de_len rfl B.len (de_ix (dv 0) kI)) (gI m_MOST_HANDS)))))) (dss_one (ds_retN (de_n kB))) dss_nil)
  (dss_one (ds_retN (de_n (de_not (de_n (df_de (df_lc (own := [("one", 1)]) CtxOk.all rfl sc_is_hall.nd (di_any (de_ix (dv 0) kI)) (blkOk_by (by kernel_rfl)) (by decide) (fun _ _ _ _ _ => (dg_name (i := 1) sc_is_hall.nd rfl (by first | exact Or.inl rfl | exact Or.inr rfl))) (fun _ _ _ _ _ => (dts_one (dt_not (dt_n (de_n (de_callH H_are_marks CtxOk.all (hr.mono (by decide)) (da_cons (de_ix (dv 0) kI) (da_cons (dv 1) aNil)))))))) (fun _ _ _ _ _ => (dv 1)))))))))))
theorem ok_is_hall (B : Bi K mg) (H_is_within : HasFn P w K mg base 1 "is_within" CT F_is_within) (H_are_marks : HasFn P w K mg base 2 "are_marks" CT F_are_marks) {fa : Addr} {fd : FuncData} (FF : FunD K "is_hall" "is_hall" (defArgs s_is_hall) (defBody s_is_hall) (defScope s_is_hall) [] [] fa fd) (hm : mg "is_hall" = some (.ref fa)) : HasFn P w K mg base 3 "is_hall" CT F_is_hall :=
  ⟨fa, fd, ["thing"], fn_is_hall B H_is_within H_are_marks FF, hm, FF.kp, FF.bindsN fun _ _ _ _ _ _ us hl => match us, hl with | [_], _ => rfl⟩
theorem sc_look : FnScope ["hall"] ["hall"] (defScope s_look) := ⟨rfl, rfl, rfl, by decide +kernel, rfl, by decide +kernel, by decide +kernel⟩
def sem_look : Ro → Option Out :=
  (ifS (tNotD (tru (callF F_is_hall (consD (rdS 0) eNil)))) (rai ⟨"BadHall", none⟩) nxt)
def F_look : List D → Option Res := fnD 1 1 sem_look
theorem fn_look (B : Bi K mg) (H_is_hall : HasFn P w K mg base 3 "is_hall" CT F_is_hall) {fa : Addr} {fd : FuncData} (FF : FunD K "look" "look" (defArgs s_look) (defBody s_look) (defScope s_look) [] [] fa fd) : FnOk P w K mg base (L2.CX P w) 4 fa fd ["hall"] (spD K CT F_look) := by
  refine fn_def (k := 3) FF sc_look fun cdv A outer s H E hr => ?_
  exact (dss_one (ds_if (dt_not (dt_n (de_n (de_callH H_is_hall CtxOk.all (hr.mono (by decide)) (da_cons (dv 0) aNil))))) (dss_one (ds_raise (takes_of rfl rfl rfl rfl) rfl (B.x.ex "BadHall" (by decide)) rfl)) dss_nil))
theorem ok_look (B : Bi K mg) (H_is_hall : HasFn P w K mg base 3 "is_hall" CT F_is_hall) {fa : Addr} {fd : FuncData} (FF : FunD K "look" "look" (defArgs s_look) (defBody s_look) (defScope s_look) [] [] fa fd) (hm : mg "look" = some (.ref fa)) : HasFn P w K mg base 4 "look" CT F_look :=
  ⟨fa, fd, ["hall"], fn_look B H_is_hall FF, hm, FF.kp, FF.bindsN fun _ _ _ _ _ _ us hl => match us, hl with | [_], _ => rfl⟩
theorem sc_all_worlds : FnScope ["hall"] ["hall"] (defScope s_all_worlds) := ⟨rfl, rfl, rfl, by decide +kernel, rfl, by decide +kernel, by decide +kernel⟩
def sem_all_worlds : Ro → Option Out :=
  (ret (tRng1 (bi dIx (rdS 0) (cI 0))))
def F_all_worlds : List D → Option Res := fnD 1 1 sem_all_worlds
theorem fn_all_worlds (B : Bi K mg)  {fa : Addr} {fd : FuncData} (FF : FunD K "all_worlds" "all_worlds" (defArgs s_all_worlds) (defBody s_all_worlds) (defScope s_all_worlds) [] [] fa fd) : FnOk P w K mg base (L2.CX P w) 1 fa fd ["hall"] (spD K CT F_all_worlds) := by
  refine fn_def (k := 0) FF sc_all_worlds fun cdv A outer s H E hr => ?_
  exact (dss_one (ds_retN (de_n (de_tupRange rfl rfl B.tuple rfl B.range (de_ix (dv 0) kI)))))
theorem ok_all_worlds (B : Bi K mg)  {fa : Addr} {fd : FuncData} (FF : FunD K "all_worlds" "all_worlds" (defArgs s_all_worlds) (defBody s_all_worlds) (defScope s_all_worlds) [] [] fa fd) (hm : mg "all_worlds" = some (.ref fa)) : HasFn P w K mg base 1 "all_worlds" CT F_all_worlds :=
  ⟨fa, fd, ["hall"], fn_all_worlds B  FF, hm, FF.kp, FF.bindsN fun _ _ _ _ _ _ us hl => match us, hl with | [_], _ => rfl⟩
theorem sc_is_rest : FnScope ["hall", "thing", "one", "other"] ["hall", "thing"] (defScope s_is_rest) := ⟨rfl, rfl, rfl, by decide +kernel, rfl, by decide +kernel, by decide +kernel⟩
def sem_is_rest : Ro → Option Out :=
  (sq (ifS (tOrD (tNotD (tru (toB isT (rdS 1)))) (tOrD (tNotD (tru (rdS 1))) (tru (asL (lc [2] (asItm (rdS 1)) (bN 2) (tNotD (tru (callF F_is_within (consD (rdS 2) (consD (cI 0) (consD (bi dSub (bi dIx (rdS 0) (cI 0)) (cI 1)) eNil)))))) (rdS 2)))))) (ret (cB false)) nxt)
  (ret (vNotD (asL (lc [2, 3] (zp (rdS 1) (slc (rdS 1) (asI (cI 1)) oNone)) (bT 2 (bCons (bN 2) (bCons (bN 3) bNil))) (asB (bi dGe (rdS 2) (rdS 3))) (cI 1))))))
def F_is_rest : List D → Option Res := fnD 2 4 sem_is_rest
theorem fn_is_rest (B : Bi K mg) (H_is_within : HasFn P w K mg base 1 "is_within" CT F_is_within) {fa : Addr} {fd : FuncData} (FF : FunD K "is_rest" "is_rest" (defArgs s_is_rest) (defBody s_is_rest) (defScope s_is_rest) [] [] fa fd) : FnOk P w K mg base (L2.CX P w) 2 fa fd ["hall", "thing"] (spD K CT F_is_rest) := by
  refine fn_def (k := 1) FF sc_is_rest fun cdv A outer s H E hr => ?_
  exact (dss_cons (ds_if (PW.pt (dw_or (dt_not (dt_n (de_n (de_isi kit_tuple (by decide +kernel) rfl B.isinstance rfl B.tuple (dv 1))))) (dw_or (dt_not (dt_n (de_n (dv 1)))) (dw_or1 (dt_n (de_n (df_de (df_lc (own := [("one", 2)]) CtxOk.all rfl sc_is_rest.nd (di_any (dv 1)) (blkOk_by (by kernel_rfl)) (by decide) (fun _ _ _ _ _ => (dg_name (i := 2) sc_is_rest.nd rfl (by first | exact Or.inl rfl | exact Or.inr rfl))) (fun _ _ _ _ _ => (dts_one (dt_not (dt_n (de_n (de_callH H_is_within CtxOk.all (hr.mono (by decide)) (da_cons (dv 2) (da_cons kI (da_cons (de_op op_subD (de_ix (dv 0) kI) kI) aNil))))))))) (fun _ _ _ _ _ => (dv 2)))))))))) (dss_one (ds_retN (de_n kB))) dss_nil)
  (dss_one (ds_retN (de_n (de_not (de_n (df_de (df_lc (own := [("one", 2), ("other", 3)]) CtxOk.all rfl sc_is_rest.nd (di_zip rfl B.zip (dv 1) (de_slice (dv 1) (do_some kI) oN)) (blkOk_by (by kernel_rfl)) (by decide) (fun _ _ _ _ _ => (dg_tup rfl (dgs_cons (dg_name (i := 2) sc_is_rest.nd rfl (by first | exact Or.inl rfl | exact Or.inr rfl)) (dgs_cons (dg_name (i := 3) sc_is_rest.nd rfl (by first | exact Or.inl rfl | exact Or.inr rfl)) dgs_nil)))) (fun _ _ _ _ _ => (dts_one (dt_cmp op_geD (dv 2) (dv 3) (nomark _)))) (fun _ _ _ _ _ => kI)))))))))
theorem ok_is_rest (B : Bi K mg) (H_is_within : HasFn P w K mg base 1 "is_within" CT F_is_within) {fa : Addr} {fd : FuncData} (FF : FunD K "is_rest" "is_rest" (defArgs s_is_rest) (defBody s_is_rest) (defScope s_is_rest) [] [] fa fd) (hm : mg "is_rest" = some (.ref fa)) : HasFn P w K mg base 2 "is_rest" CT F_is_rest :=
  ⟨fa, fd, ["hall", "thing"], fn_is_rest B H_is_within FF, hm, FF.kp, FF.bindsN fun _ _ _ _ _ _ us hl => match us, hl with | [_, _], _ => rfl⟩
theorem sc_look_rest : FnScope ["hall", "rest"] ["hall", "rest"] (defScope s_look_rest) := ⟨rfl, rfl, rfl, by decide +kernel, rfl, by decide +kernel, by decide +kernel⟩
def sem_look_rest : Ro → Option Out :=
  (sq (exS (callX F_look (consD (rdS 0) eNil)) fun _ ρ => some (.nx ρ))
  (ifS (tNotD (tru (callF F_is_rest (consD (rdS 0) (consD (rdS 1) eNil))))) (rai ⟨"BadRest", none⟩) nxt))
def F_look_rest : List D → Option Res := fnD 2 2 sem_look_rest
theorem fn_look_rest (B : Bi K mg) (H_look : HasFn P w K mg base 4 "look" CT F_look) (H_is_rest : HasFn P w K mg base 2 "is_rest" CT F_is_rest) {fa : Addr} {fd : FuncData} (FF : FunD K "look_rest" "look_rest" (defArgs s_look_rest) (defBody s_look_rest) (defScope s_look_rest) [] [] fa fd) : FnOk P w K mg base (L2.CX P w) 5 fa fd ["hall", "rest"] (spD K CT F_look_rest) := by
  refine fn_def (k := 4) FF sc_look_rest fun cdv A outer s H E hr => ?_
  exact (dss_cons (dsx_expr (dx_callH (takes_of rfl rfl rfl rfl) H_look CtxOk.all (hr.mono (by decide)) (da_cons (dv 0) aNil)))
  (dss_one (ds_if (dt_not (dt_n (de_n (de_callH H_is_rest CtxOk.all (hr.mono (by decide)) (da_cons (dv 0) (da_cons (dv 1) aNil)))))) (dss_one (ds_raise (takes_of rfl rfl rfl rfl) rfl (B.x.ex "BadRest" (by decide)) rfl)) dss_nil)))
theorem ok_look_rest (B : Bi K mg) (H_look : HasFn P w K mg base 4 "look" CT F_look) (H_is_rest : HasFn P w K mg base 2 "is_rest" CT F_is_rest) {fa : Addr} {fd : FuncData} (FF : FunD K "look_rest" "look_rest" (defArgs s_look_rest) (defBody s_look_rest) (defScope s_look_rest) [] [] fa fd) (hm : mg "look_rest" = some (.ref fa)) : HasFn P w K mg base 5 "look_rest" CT F_look_rest :=
  ⟨fa, fd, ["hall", "rest"], fn_look_rest B H_look H_is_rest FF, hm, FF.kp, FF.bindsN fun _ _ _ _ _ _ us hl => match us, hl with | [_, _], _ => rfl⟩
theorem sc_look_hand : FnScope ["hall", "hand"] ["hall", "hand"] (defScope s_look_hand) := ⟨rfl, rfl, rfl, by decide +kernel, rfl, by decide +kernel, by decide +kernel⟩
def sem_look_hand : Ro → Option Out :=
  (ifS (tNotD (tru (callF F_is_within (consD (rdS 1) (consD (cI 0) (consD (bi dSub (un dLen (bi dIx (rdS 0) (cI 1))) (cI 1)) eNil)))))) (rai ⟨"BadHand", none⟩) nxt)
def F_look_hand : List D → Option Res := fnD 2 2 sem_look_hand
theorem fn_look_hand (B : Bi K mg) (H_is_within : HasFn P w K mg base 1 "is_within" CT F_is_within) {fa : Addr} {fd : FuncData} (FF : FunD K "look_hand" "look_hand" (defArgs s_look_hand) (defBody s_look_hand) (defScope s_look_hand) [] [] fa fd) : FnOk P w K mg base (L2.CX P w) 2 fa fd ["hall", "hand"] (spD K CT F_look_hand) := by
  refine fn_def (k := 1) FF sc_look_hand fun cdv A outer s H E hr => ?_
  exact (dss_one (ds_if (dt_not (dt_n (de_n (de_callH H_is_within CtxOk.all (hr.mono (by decide)) (da_cons (dv 1) (da_cons kI (da_cons (de_op op_subD (de_len rfl B.len (de_ix (dv 0) kI)) kI) aNil))))))) (dss_one (ds_raise (takes_of rfl rfl rfl rfl) rfl (B.x.ex "BadHand" (by decide)) rfl)) dss_nil))
theorem ok_look_hand (B : Bi K mg) (H_is_within : HasFn P w K mg base 1 "is_within" CT F_is_within) {fa : Addr} {fd : FuncData} (FF : FunD K "look_hand" "look_hand" (defArgs s_look_hand) (defBody s_look_hand) (defScope s_look_hand) [] [] fa fd) (hm : mg "look_hand" = some (.ref fa)) : HasFn P w K mg base 2 "look_hand" CT F_look_hand :=
  ⟨fa, fd, ["hall", "hand"], fn_look_hand B H_is_within FF, hm, FF.kp, FF.bindsN fun _ _ _ _ _ _ us hl => match us, hl with | [_, _], _ => rfl⟩
theorem sc_cell_of : FnScope ["hall", "rest", "hand", "world", "view", "one"] ["hall", "rest", "hand", "world"] (defScope s_cell_of) := ⟨rfl, rfl, rfl, by decide +kernel, rfl, by decide +kernel, by decide +kernel⟩
def sem_cell_of : Ro → Option Out :=
  (sq (setS 4 (bi dIx (bi dIx (rdS 0) (cI 1)) (rdS 2)))
  (ret (asT (asItems (asL (lc [5] (asItm (rdS 1)) (bN 5) (asB (bi dEq (bi dIx (rdS 4) (rdS 5)) (bi dIx (rdS 4) (rdS 3)))) (rdS 5)))))))
def F_cell_of : List D → Option Res := fnD 4 6 sem_cell_of
theorem fn_cell_of (B : Bi K mg)  {fa : Addr} {fd : FuncData} (FF : FunD K "cell_of" "cell_of" (defArgs s_cell_of) (defBody s_cell_of) (defScope s_cell_of) [] [] fa fd) : FnOk P w K mg base (L2.CX P w) 1 fa fd ["hall", "rest", "hand", "world"] (spD K CT F_cell_of) := by
  refine fn_def (k := 0) FF sc_cell_of fun cdv A outer s H E hr => ?_
  exact (dss_cons (ds_set (i := 4) sc_cell_of.nd rfl (by first | exact Or.inl rfl | exact Or.inr rfl) (de_ix (de_ix (dv 0) kI) (dv 2)))
  (dss_one (ds_retN (de_n (de_tuple rfl B.tuple (de_items (df_de (df_lc (own := [("one", 5)]) CtxOk.all rfl sc_cell_of.nd (di_any (dv 1)) (blkOk_by (by kernel_rfl)) (by decide) (fun _ _ _ _ _ => (dg_name (i := 5) sc_cell_of.nd rfl (by first | exact Or.inl rfl | exact Or.inr rfl))) (fun _ _ _ _ _ => (dts_one (dt_cmp (op_eqDD hr.units) (de_ix (dv 4) (dv 5)) (de_ix (dv 4) (dv 3)) (nomark _)))) (fun _ _ _ _ _ => (dv 5))))))))))
theorem ok_cell_of (B : Bi K mg)  {fa : Addr} {fd : FuncData} (FF : FunD K "cell_of" "cell_of" (defArgs s_cell_of) (defBody s_cell_of) (defScope s_cell_of) [] [] fa fd) (hm : mg "cell_of" = some (.ref fa)) : HasFn P w K mg base 1 "cell_of" CT F_cell_of :=
  ⟨fa, fd, ["hall", "rest", "hand", "world"], fn_cell_of B  FF, hm, FF.kp, FF.bindsN fun _ _ _ _ _ _ us hl => match us, hl with | [_, _, _, _], _ => rfl⟩
theorem sc_cells_of : FnScope ["hall", "rest", "hand", "found", "world", "cell"] ["hall", "rest", "hand"] (defScope s_cells_of) := ⟨rfl, rfl, rfl, by decide +kernel, rfl, by decide +kernel, by decide +kernel⟩
def sem_cells_of : Ro → Option Out :=
  (sq (setO 3 (mkL eNil))
  (sq (forS (asItm (rdS 1)) (bN 4) (sq (setS 5 (callF F_cell_of (consD (rdS 0) (consD (rdS 1) (consD (rdS 2) (consD (rdS 4) eNil))))))
  (ifS (asB (bi dNin (rdS 5) (asL (rdO 3)))) (appS 3 (rdS 5)) nxt)))
  (ret (asL (rdO 3)))))
def F_cells_of : List D → Option Res := fnD 3 6 sem_cells_of
theorem fn_cells_of (B : Bi K mg) (H_cell_of : HasFn P w K mg base 1 "cell_of" CT F_cell_of) {fa : Addr} {fd : FuncData} (FF : FunD K "cells_of" "cells_of" (defArgs s_cells_of) (defBody s_cells_of) (defScope s_cells_of) [] [] fa fd) : FnOk P w K mg base (L2.CX P w) 2 fa fd ["hall", "rest", "hand"] (spD K CT F_cells_of) := by
  refine fn_def (k := 1) FF sc_cells_of fun cdv A outer s H E hr => ?_
  exact (dss_cons (ds_own sc_cells_of.nd rfl (by first | exact Or.inl rfl | exact Or.inr rfl) (df_lst aNil))
  (dss_cons (ds_for (passes_of rfl) rfl (di_any (dv 1)) (dg_name (i := 4) sc_cells_of.nd rfl (by first | exact Or.inl rfl | exact Or.inr rfl)) (dss_cons (ds_set (i := 5) sc_cells_of.nd rfl (by first | exact Or.inl rfl | exact Or.inr rfl) (de_callH H_cell_of CtxOk.all (hr.mono (by decide)) (da_cons (dv 0) (da_cons (dv 1) (da_cons (dv 2) (da_cons (dv 4) aNil))))))
  (dss_one (ds_if (dtn_cmp (op_ninDD (have h65 := hu65 hr; h65)) (de_n (dv 5)) (dvO 3) (by rfl)) (dss_one (ds_append 3 (dv 5))) dss_nil))))
  (dss_one (ds_retN (dvO 3)))))
theorem ok_cells_of (B : Bi K mg) (H_cell_of : HasFn P w K mg base 1 "cell_of" CT F_cell_of) {fa : Addr} {fd : FuncData} (FF : FunD K "cells_of" "cells_of" (defArgs s_cells_of) (defBody s_cells_of) (defScope s_cells_of) [] [] fa fd) (hm : mg "cells_of" = some (.ref fa)) : HasFn P w K mg base 2 "cells_of" CT F_cells_of :=
  ⟨fa, fd, ["hall", "rest", "hand"], fn_cells_of B H_cell_of FF, hm, FF.kp, FF.bindsN fun _ _ _ _ _ _ us hl => match us, hl with | [_, _, _], _ => rfl⟩
theorem sc_cells : FnScope ["hall", "rest", "hand"] ["hall", "rest", "hand"] (defScope s_cells) := ⟨rfl, rfl, rfl, by decide +kernel, rfl, by decide +kernel, by decide +kernel⟩
def sem_cells : Ro → Option Out :=
  (sq (exS (callX F_look_rest (consD (rdS 0) (consD (rdS 1) eNil))) fun _ ρ => some (.nx ρ))
  (sq (exS (callX F_look_hand (consD (rdS 0) (consD (rdS 2) eNil))) fun _ ρ => some (.nx ρ))
  (ret (callF F_cells_of (consD (rdS 0) (consD (rdS 1) (consD (rdS 2) eNil)))))))
def F_cells : List D → Option Res := fnD 3 3 sem_cells
theorem fn_cells (B : Bi K mg) (H_look_rest : HasFn P w K mg base 5 "look_rest" CT F_look_rest) (H_look_hand : HasFn P w K mg base 2 "look_hand" CT F_look_hand) (H_cells_of : HasFn P w K mg base 2 "cells_of" CT F_cells_of) {fa : Addr} {fd : FuncData} (FF : FunD K "cells" "cells" (defArgs s_cells) (defBody s_cells) (defScope s_cells) [] [] fa fd) : FnOk P w K mg base (L2.CX P w) 6 fa fd ["hall", "rest", "hand"] (spD K CT F_cells) := by
  refine fn_def (k := 5) FF sc_cells fun cdv A outer s H E hr => ?_
  exact (dss_cons (dsx_expr (dx_callH (takes_of rfl rfl rfl rfl) H_look_rest CtxOk.all (hr.mono (by decide)) (da_cons (dv 0) (da_cons (dv 1) aNil))))
  (dss_cons (dsx_expr (dx_callH (takes_of rfl rfl rfl rfl) H_look_hand CtxOk.all (hr.mono (by decide)) (da_cons (dv 0) (da_cons (dv 2) aNil))))
  (dss_one (ds_retN (de_n (de_callH H_cells_of CtxOk.all (hr.mono (by decide)) (da_cons (dv 0) (da_cons (dv 1) (da_cons (dv 2) aNil)))))))))
theorem ok_cells (B : Bi K mg) (H_look_rest : HasFn P w K mg base 5 "look_rest" CT F_look_rest) (H_look_hand : HasFn P w K mg base 2 "look_hand" CT F_look_hand) (H_cells_of : HasFn P w K mg base 2 "cells_of" CT F_cells_of) {fa : Addr} {fd : FuncData} (FF : FunD K "cells" "cells" (defArgs s_cells) (defBody s_cells) (defScope s_cells) [] [] fa fd) (hm : mg "cells" = some (.ref fa)) : HasFn P w K mg base 6 "cells" CT F_cells :=
  ⟨fa, fd, ["hall", "rest", "hand"], fn_cells B H_look_rest H_look_hand H_cells_of FF, hm, FF.kp, FF.bindsN fun _ _ _ _ _ _ us hl => match us, hl with | [_, _, _], _ => rfl⟩
theorem sc_thought_of : FnScope ["hall", "rest", "hand", "question", "world", "one"] ["hall", "rest", "hand", "question", "world"] (defScope s_thought_of) := ⟨rfl, rfl, rfl, by decide +kernel, rfl, by decide +kernel, by decide +kernel⟩
def sem_thought_of : Ro → Option Out :=
  (ret (asL (srtU (few (lc [5] (asItm (callF F_cell_of (consD (rdS 0) (consD (rdS 1) (consD (rdS 2) (consD (rdS 4) eNil)))))) (bN 5) yes (bi dIx (rdS 3) (rdS 5)))))))
def F_thought_of : List D → Option Res := fnD 5 6 sem_thought_of
theorem fn_thought_of (B : Bi K mg) (H_cell_of : HasFn P w K mg base 1 "cell_of" CT F_cell_of) {fa : Addr} {fd : FuncData} (FF : FunD K "thought_of" "thought_of" (defArgs s_thought_of) (defBody s_thought_of) (defScope s_thought_of) [] [] fa fd) : FnOk P w K mg base (L2.CX P w) 2 fa fd ["hall", "rest", "hand", "question", "world"] (spD K CT F_thought_of) := by
  refine fn_def (k := 1) FF sc_thought_of fun cdv A outer s H E hr => ?_
  exact (dss_one (ds_retN (de_n (df_de (df_sortU rfl rfl B.sorted (du_sc (own := [("one", 5)]) CtxOk.all rfl sc_thought_of.nd (di_any (de_callH H_cell_of CtxOk.all (hr.mono (by decide)) (da_cons (dv 0) (da_cons (dv 1) (da_cons (dv 2) (da_cons (dv 4) aNil)))))) (blkOk_by (by kernel_rfl)) (by decide) (fun _ _ _ _ _ => (dg_name (i := 5) sc_thought_of.nd rfl (by first | exact Or.inl rfl | exact Or.inr rfl))) (fun _ _ _ _ _ => dts_nil) (fun _ _ _ _ _ => (de_ix (dv 3) (dv 5)))))))))
theorem ok_thought_of (B : Bi K mg) (H_cell_of : HasFn P w K mg base 1 "cell_of" CT F_cell_of) {fa : Addr} {fd : FuncData} (FF : FunD K "thought_of" "thought_of" (defArgs s_thought_of) (defBody s_thought_of) (defScope s_thought_of) [] [] fa fd) (hm : mg "thought_of" = some (.ref fa)) : HasFn P w K mg base 2 "thought_of" CT F_thought_of :=
  ⟨fa, fd, ["hall", "rest", "hand", "question", "world"], fn_thought_of B H_cell_of FF, hm, FF.kp, FF.bindsN fun _ _ _ _ _ _ us hl => match us, hl with | [_, _, _, _, _], _ => rfl⟩
theorem sc_look_question : FnScope ["hall", "question"] ["hall", "question"] (defScope s_look_question) := ⟨rfl, rfl, rfl, by decide +kernel, rfl, by decide +kernel, by decide +kernel⟩
def sem_look_question : Ro → Option Out :=
  (ifS (tNotD (tru (callF F_are_marks (consD (bi dIx (rdS 0) (cI 0)) (consD (rdS 1) eNil))))) (rai ⟨"BadQuestion", none⟩) nxt)
def F_look_question : List D → Option Res := fnD 2 2 sem_look_question
theorem fn_look_question (B : Bi K mg) (H_are_marks : HasFn P w K mg base 2 "are_marks" CT F_are_marks) {fa : Addr} {fd : FuncData} (FF : FunD K "look_question" "look_question" (defArgs s_look_question) (defBody s_look_question) (defScope s_look_question) [] [] fa fd) : FnOk P w K mg base (L2.CX P w) 3 fa fd ["hall", "question"] (spD K CT F_look_question) := by
  refine fn_def (k := 2) FF sc_look_question fun cdv A outer s H E hr => ?_
  exact (dss_one (ds_if (dt_not (dt_n (de_n (de_callH H_are_marks CtxOk.all (hr.mono (by decide)) (da_cons (de_ix (dv 0) kI) (da_cons (dv 1) aNil)))))) (dss_one (ds_raise (takes_of rfl rfl rfl rfl) rfl (B.x.ex "BadQuestion" (by decide)) rfl)) dss_nil))
theorem ok_look_question (B : Bi K mg) (H_are_marks : HasFn P w K mg base 2 "are_marks" CT F_are_marks) {fa : Addr} {fd : FuncData} (FF : FunD K "look_question" "look_question" (defArgs s_look_question) (defBody s_look_question) (defScope s_look_question) [] [] fa fd) (hm : mg "look_question" = some (.ref fa)) : HasFn P w K mg base 3 "look_question" CT F_look_question :=
  ⟨fa, fd, ["hall", "question"], fn_look_question B H_are_marks FF, hm, FF.kp, FF.bindsN fun _ _ _ _ _ _ us hl => match us, hl with | [_, _], _ => rfl⟩
theorem sc_look_all : FnScope ["hall", "rest", "hand", "question"] ["hall", "rest", "hand", "question"] (defScope s_look_all) := ⟨rfl, rfl, rfl, by decide +kernel, rfl, by decide +kernel, by decide +kernel⟩
def sem_look_all : Ro → Option Out :=
  (sq (exS (callX F_look_rest (consD (rdS 0) (consD (rdS 1) eNil))) fun _ ρ => some (.nx ρ))
  (sq (exS (callX F_look_hand (consD (rdS 0) (consD (rdS 2) eNil))) fun _ ρ => some (.nx ρ))
  (exS (callX F_look_question (consD (rdS 0) (consD (rdS 3) eNil))) fun _ ρ => some (.nx ρ))))
def F_look_all : List D → Option Res := fnD 4 4 sem_look_all
theorem fn_look_all (B : Bi K mg) (H_look_rest : HasFn P w K mg base 5 "look_rest" CT F_look_rest) (H_look_hand : HasFn P w K mg base 2 "look_hand" CT F_look_hand) (H_look_question : HasFn P w K mg base 3 "look_question" CT F_look_question) {fa : Addr} {fd : FuncData} (FF : FunD K "look_all" "look_all" (defArgs s_look_all) (defBody s_look_all) (defScope s_look_all) [] [] fa fd) : FnOk P w K mg base (L2.CX P w) 6 fa fd ["hall", "rest", "hand", "question"] (spD K CT F_look_all) := by
  refine fn_def (k := 5) FF sc_look_all fun cdv A outer s H E hr => ?_
  exact (dss_cons (dsx_expr (dx_callH (takes_of rfl rfl rfl rfl) H_look_rest CtxOk.all (hr.mono (by decide)) (da_cons (dv 0) (da_cons (dv 1) aNil))))
  (dss_cons (dsx_expr (dx_callH (takes_of rfl rfl rfl rfl) H_look_hand CtxOk.all (hr.mono (by decide)) (da_cons (dv 0) (da_cons (dv 2) aNil))))
  (dss_one (dsx_expr (dx_callH (takes_of rfl rfl rfl rfl) H_look_question CtxOk.all (hr.mono (by decide)) (da_cons (dv 0) (da_cons (dv 3) aNil)))))))
theorem ok_look_all (B : Bi K mg) (H_look_rest : HasFn P w K mg base 5 "look_rest" CT F_look_rest) (H_look_hand : HasFn P w K mg base 2 "look_hand" CT F_look_hand) (H_look_question : HasFn P w K mg base 3 "look_question" CT F_look_question) {fa : Addr} {fd : FuncData} (FF : FunD K "look_all" "look_all" (defArgs s_look_all) (defBody s_look_all) (defScope s_look_all) [] [] fa fd) (hm : mg "look_all" = some (.ref fa)) : HasFn P w K mg base 6 "look_all" CT F_look_all :=
  ⟨fa, fd, ["hall", "rest", "hand", "question"], fn_look_all B H_look_rest H_look_hand H_look_question FF, hm, FF.kp, FF.bindsN fun _ _ _ _ _ _ us hl => match us, hl with | [_, _, _, _], _ => rfl⟩
theorem sc_thought : FnScope ["hall", "rest", "hand", "question", "world"] ["hall", "rest", "hand", "question"] (defScope s_thought) := ⟨rfl, rfl, rfl, by decide +kernel, rfl, by decide +kernel, by decide +kernel⟩
def sem_thought : Ro → Option Out :=
  (sq (exS (callX F_look_all (consD (rdS 0) (consD (rdS 1) (consD (rdS 2) (consD (rdS 3) eNil))))) fun _ ρ => some (.nx ρ))
  (ret (asL (lc [4] (asItm (rdS 1)) (bN 4) yes (callF F_thought_of (consD (rdS 0) (consD (rdS 1) (consD (rdS 2) (consD (rdS 3) (consD (rdS 4) eNil))))))))))
def F_thought : List D → Option Res := fnD 4 5 sem_thought
theorem fn_thought (B : Bi K mg) (H_thought_of : HasFn P w K mg base 2 "thought_of" CT F_thought_of) (H_look_all : HasFn P w K mg base 6 "look_all" CT F_look_all) {fa : Addr} {fd : FuncData} (FF : FunD K "thought" "thought" (defArgs s_thought) (defBody s_thought) (defScope s_thought) [] [] fa fd) : FnOk P w K mg base (L2.CX P w) 7 fa fd ["hall", "rest", "hand", "question"] (spD K CT F_thought) := by
  refine fn_def (k := 6) FF sc_thought fun cdv A outer s H E hr => ?_
  exact (dss_cons (dsx_expr (dx_callH (takes_of rfl rfl rfl rfl) H_look_all CtxOk.all (hr.mono (by decide)) (da_cons (dv 0) (da_cons (dv 1) (da_cons (dv 2) (da_cons (dv 3) aNil))))))
  (dss_one (ds_retN (de_n (df_de (df_lc (own := [("world", 4)]) CtxOk.all rfl sc_thought.nd (di_any (dv 1)) (blkOk_by (by kernel_rfl)) (by decide) (fun _ _ _ _ _ => (dg_name (i := 4) sc_thought.nd rfl (by first | exact Or.inl rfl | exact Or.inr rfl))) (fun _ _ _ _ _ => dts_nil) (fun _ _ _ _ _ => (de_callH H_thought_of CtxOk.all (hr.mono (by decide)) (da_cons (dv 0) (da_cons (dv 1) (da_cons (dv 2) (da_cons (dv 3) (da_cons (dv 4) aNil)))))))))))))
theorem ok_thought (B : Bi K mg) (H_thought_of : HasFn P w K mg base 2 "thought_of" CT F_thought_of) (H_look_all : HasFn P w K mg base 6 "look_all" CT F_look_all) {fa : Addr} {fd : FuncData} (FF : FunD K "thought" "thought" (defArgs s_thought) (defBody s_thought) (defScope s_thought) [] [] fa fd) (hm : mg "thought" = some (.ref fa)) : HasFn P w K mg base 7 "thought" CT F_thought :=
  ⟨fa, fd, ["hall", "rest", "hand", "question"], fn_thought B H_thought_of H_look_all FF, hm, FF.kp, FF.bindsN fun _ _ _ _ _ _ us hl => match us, hl with | [_, _, _, _], _ => rfl⟩
theorem sc_known_in : FnScope ["hall", "rest", "hand", "question", "world"] ["hall", "rest", "hand", "question"] (defScope s_known_in) := ⟨rfl, rfl, rfl, by decide +kernel, rfl, by decide +kernel, by decide +kernel⟩
def sem_known_in : Ro → Option Out :=
  (ret (asL (lc [4] (asItm (rdS 1)) (bN 4) (asB (bi dEq (un dLen (callF F_thought_of (consD (rdS 0) (consD (rdS 1) (consD (rdS 2) (consD (rdS 3) (consD (rdS 4) eNil))))))) (cI 1))) (rdS 4))))
def F_known_in : List D → Option Res := fnD 4 5 sem_known_in
theorem fn_known_in (B : Bi K mg) (H_thought_of : HasFn P w K mg base 2 "thought_of" CT F_thought_of) {fa : Addr} {fd : FuncData} (FF : FunD K "known_in" "known_in" (defArgs s_known_in) (defBody s_known_in) (defScope s_known_in) [] [] fa fd) : FnOk P w K mg base (L2.CX P w) 3 fa fd ["hall", "rest", "hand", "question"] (spD K CT F_known_in) := by
  refine fn_def (k := 2) FF sc_known_in fun cdv A outer s H E hr => ?_
  exact (dss_one (ds_retN (de_n (df_de (df_lc (own := [("world", 4)]) CtxOk.all rfl sc_known_in.nd (di_any (dv 1)) (blkOk_by (by kernel_rfl)) (by decide) (fun _ _ _ _ _ => (dg_name (i := 4) sc_known_in.nd rfl (by first | exact Or.inl rfl | exact Or.inr rfl))) (fun _ _ _ _ _ => (dts_one (dt_cmp (op_eqDD hr.units) (de_len rfl B.len (de_callH H_thought_of CtxOk.all (hr.mono (by decide)) (da_cons (dv 0) (da_cons (dv 1) (da_cons (dv 2) (da_cons (dv 3) (da_cons (dv 4) aNil))))))) kI (nomark _)))) (fun _ _ _ _ _ => (dv 4)))))))
theorem ok_known_in (B : Bi K mg) (H_thought_of : HasFn P w K mg base 2 "thought_of" CT F_thought_of) {fa : Addr} {fd : FuncData} (FF : FunD K "known_in" "known_in" (defArgs s_known_in) (defBody s_known_in) (defScope s_known_in) [] [] fa fd) (hm : mg "known_in" = some (.ref fa)) : HasFn P w K mg base 3 "known_in" CT F_known_in :=
  ⟨fa, fd, ["hall", "rest", "hand", "question"], fn_known_in B H_thought_of FF, hm, FF.kp, FF.bindsN fun _ _ _ _ _ _ us hl => match us, hl with | [_, _, _, _], _ => rfl⟩
theorem sc_all_know : FnScope ["hall", "rest", "here", "found", "world", "unsure", "hand", "one"] ["hall", "rest", "here"] (defScope s_all_know) := ⟨rfl, rfl, rfl, by decide +kernel, rfl, by decide +kernel, by decide +kernel⟩
def sem_all_know : Ro → Option Out :=
  (sq (setO 3 (mkL eNil))
  (sq (forS (asItm (rdS 1)) (bN 4) (sq (setO 5 (mkL eNil))
  (sq (forS (rng1 (un dLen (bi dIx (rdS 0) (cI 1)))) (bN 6) (extS 5 (asL (lc [7] (asItm (callF F_cell_of (consD (rdS 0) (consD (rdS 1) (consD (rdS 6) (consD (rdS 4) eNil)))))) (bN 7) (asB (bi dNin (rdS 7) (rdS 2))) (rdS 7)))))
  (ifS (tNotD (tru (asL (rdO 5)))) (appS 3 (rdS 4)) nxt))))
  (ret (asL (rdO 3)))))
def F_all_know : List D → Option Res := fnD 3 8 sem_all_know
theorem fn_all_know (B : Bi K mg) (H_cell_of : HasFn P w K mg base 1 "cell_of" CT F_cell_of) {fa : Addr} {fd : FuncData} (FF : FunD K "all_know" "all_know" (defArgs s_all_know) (defBody s_all_know) (defScope s_all_know) [] [] fa fd) : FnOk P w K mg base (L2.CX P w) 2 fa fd ["hall", "rest", "here"] (spD K CT F_all_know) := by
  refine fn_def (k := 1) FF sc_all_know fun cdv A outer s H E hr => ?_
  exact (dss_cons (ds_own sc_all_know.nd rfl (by first | exact Or.inl rfl | exact Or.inr rfl) (df_lst aNil))
  (dss_cons (ds_for (passes_of rfl) rfl (di_any (dv 1)) (dg_name (i := 4) sc_all_know.nd rfl (by first | exact Or.inl rfl | exact Or.inr rfl)) (dss_cons (ds_own sc_all_know.nd rfl (by first | exact Or.inl rfl | exact Or.inr rfl) (df_lst aNil))
  (dss_cons (ds_for (passes_of rfl) rfl (di_range1 rfl B.range (de_len rfl B.len (de_ix (dv 0) kI))) (dg_name (i := 6) sc_all_know.nd rfl (by first | exact Or.inl rfl | exact Or.inr rfl)) (dss_one (ds_extend 5 (df_de (df_lc (own := [("one", 7)]) CtxOk.all rfl sc_all_know.nd (di_any (de_callH H_cell_of CtxOk.all (hr.mono (by decide)) (da_cons (dv 0) (da_cons (dv 1) (da_cons (dv 6) (da_cons (dv 4) aNil)))))) (blkOk_by (by kernel_rfl)) (by decide) (fun _ _ _ _ _ => (dg_name (i := 7) sc_all_know.nd rfl (by first | exact Or.inl rfl | exact Or.inr rfl))) (fun _ _ _ _ _ => (dts_one (dt_cmp (op_ninDD (have h65 := hu65 hr; h65)) (dv 7) (dv 2) (by rfl)))) (fun _ _ _ _ _ => (dv 7)))))))
  (dss_one (ds_if (dt_not (dt_n (dvO 5))) (dss_one (ds_append 3 (dv 4))) dss_nil)))))
  (dss_one (ds_retN (dvO 3)))))
theorem ok_all_know (B : Bi K mg) (H_cell_of : HasFn P w K mg base 1 "cell_of" CT F_cell_of) {fa : Addr} {fd : FuncData} (FF : FunD K "all_know" "all_know" (defArgs s_all_know) (defBody s_all_know) (defScope s_all_know) [] [] fa fd) (hm : mg "all_know" = some (.ref fa)) : HasFn P w K mg base 2 "all_know" CT F_all_know :=
  ⟨fa, fd, ["hall", "rest", "here"], fn_all_know B H_cell_of FF, hm, FF.kp, FF.bindsN fun _ _ _ _ _ _ us hl => match us, hl with | [_, _, _], _ => rfl⟩
theorem sc_all_knowing : FnScope ["hall", "rest", "question", "found", "hand", "known", "world"] ["hall", "rest", "question"] (defScope s_all_knowing) := ⟨rfl, rfl, rfl, by decide +kernel, rfl, by decide +kernel, by decide +kernel⟩
def sem_all_knowing : Ro → Option Out :=
  (sq (setS 3 (asL (asItems (rdS 1))))
  (sq (forS (rng1 (un dLen (bi dIx (rdS 0) (cI 1)))) (bN 4) (sq (setS 5 (callF F_known_in (consD (rdS 0) (consD (rdS 1) (consD (rdS 4) (consD (rdS 2) eNil))))))
  (setS 3 (asL (lc [6] (asItm (rdS 3)) (bN 6) (asB (bi dInc (rdS 6) (rdS 5))) (rdS 6))))))
  (ret (rdS 3))))
def F_all_knowing : List D → Option Res := fnD 3 7 sem_all_knowing
theorem fn_all_knowing (B : Bi K mg) (H_known_in : HasFn P w K mg base 3 "known_in" CT F_known_in) {fa : Addr} {fd : FuncData} (FF : FunD K "all_knowing" "all_knowing" (defArgs s_all_knowing) (defBody s_all_knowing) (defScope s_all_knowing) [] [] fa fd) : FnOk P w K mg base (L2.CX P w) 4 fa fd ["hall", "rest", "question"] (spD K CT F_all_knowing) := by
  refine fn_def (k := 3) FF sc_all_knowing fun cdv A outer s H E hr => ?_
  exact (dss_cons (ds_set (i := 3) sc_all_knowing.nd rfl (by first | exact Or.inl rfl | exact Or.inr rfl) (df_de (df_list rfl B.list (de_items (dv 1)))))
  (dss_cons (ds_for (passes_of rfl) rfl (di_range1 rfl B.range (de_len rfl B.len (de_ix (dv 0) kI))) (dg_name (i := 4) sc_all_knowing.nd rfl (by first | exact Or.inl rfl | exact Or.inr rfl)) (dss_cons (ds_set (i := 5) sc_all_knowing.nd rfl (by first | exact Or.inl rfl | exact Or.inr rfl) (de_callH H_known_in CtxOk.all (hr.mono (by decide)) (da_cons (dv 0) (da_cons (dv 1) (da_cons (dv 4) (da_cons (dv 2) aNil))))))
  (dss_one (ds_setLc (i := 3) (own := [("world", 6)]) CtxOk.all rfl sc_all_knowing.nd rfl rfl (sw_true rfl rfl rfl (by decide +kernel)) (di_any (dv 3)) (blkOk_by (by kernel_rfl)) (by decide) (fun _ _ _ _ _ => (dg_name (i := 6) sc_all_knowing.nd rfl (by first | exact Or.inl rfl | exact Or.inr rfl))) (fun _ _ _ _ _ => (dts_one (dt_cmp (op_inDD (have h65 := hu65 hr; h65)) (dv 6) (dv 5) (by rfl)))) (fun _ _ _ _ _ => (dv 6))))))
  (dss_one (ds_retN (de_n (dv 3))))))
theorem ok_all_knowing (B : Bi K mg) (H_known_in : HasFn P w K mg base 3 "known_in" CT F_known_in) {fa : Addr} {fd : FuncData} (FF : FunD K "all_knowing" "all_knowing" (defArgs s_all_knowing) (defBody s_all_knowing) (defScope s_all_knowing) [] [] fa fd) (hm : mg "all_knowing" = some (.ref fa)) : HasFn P w K mg base 4 "all_knowing" CT F_all_knowing :=
  ⟨fa, fd, ["hall", "rest", "question"], fn_all_knowing B H_known_in FF, hm, FF.kp, FF.bindsN fun _ _ _ _ _ _ us hl => match us, hl with | [_, _, _], _ => rfl⟩
theorem sc_deep : FnScope ["hall", "rest", "question", "times", "here", "time"] ["hall", "rest", "question", "times"] (defScope s_deep) := ⟨rfl, rfl, rfl, by decide +kernel, rfl, by decide +kernel, by decide +kernel⟩
def sem_deep : Ro → Option Out :=
  (sq (exS (callX F_look_rest (consD (rdS 0) (consD (rdS 1) eNil))) fun _ ρ => some (.nx ρ))
  (sq (exS (callX F_look_question (consD (rdS 0) (consD (rdS 2) eNil))) fun _ ρ => some (.nx ρ))
  (sq (ifS (tNotD (tru (callF F_is_within (consD (rdS 3) (consD (cI 1) (consD (cI 9) eNil)))))) (rai ⟨"BadCount", none⟩) nxt)
  (sq (setS 4 (callF F_all_knowing (consD (rdS 0) (consD (rdS 1) (consD (rdS 2) eNil)))))
  (sq (forS (rng1 (bi dSub (rdS 3) (cI 1))) (bN 5) (setS 4 (callF F_all_know (consD (rdS 0) (consD (rdS 1) (consD (rdS 4) eNil))))))
  (ret (rdS 4)))))))
def F_deep : List D → Option Res := fnD 4 6 sem_deep
theorem fn_deep (B : Bi K mg) (H_is_within : HasFn P w K mg base 1 "is_within" CT F_is_within) (H_look_rest : HasFn P w K mg base 5 "look_rest" CT F_look_rest) (H_look_question : HasFn P w K mg base 3 "look_question" CT F_look_question) (H_all_know : HasFn P w K mg base 2 "all_know" CT F_all_know) (H_all_knowing : HasFn P w K mg base 4 "all_knowing" CT F_all_knowing) {fa : Addr} {fd : FuncData} (FF : FunD K "deep" "deep" (defArgs s_deep) (defBody s_deep) (defScope s_deep) [] [] fa fd) : FnOk P w K mg base (L2.CX P w) 6 fa fd ["hall", "rest", "question", "times"] (spD K CT F_deep) := by
  refine fn_def (k := 5) FF sc_deep fun cdv A outer s H E hr => ?_
  exact (dss_cons (dsx_expr (dx_callH (takes_of rfl rfl rfl rfl) H_look_rest CtxOk.all (hr.mono (by decide)) (da_cons (dv 0) (da_cons (dv 1) aNil))))
  (dss_cons (dsx_expr (dx_callH (takes_of rfl rfl rfl rfl) H_look_question CtxOk.all (hr.mono (by decide)) (da_cons (dv 0) (da_cons (dv 2) aNil))))
  (dss_cons (ds_if (dt_not (dt_n (de_n (de_callH H_is_within CtxOk.all (hr.mono (by decide)) (da_cons (dv 3) (da_cons kI (da_cons kI aNil))))))) (dss_one (ds_raise (takes_of rfl rfl rfl rfl) rfl (B.x.ex "BadCount" (by decide)) rfl)) dss_nil)
  (dss_cons (ds_set (i := 4) sc_deep.nd rfl (by first | exact Or.inl rfl | exact Or.inr rfl) (de_callH H_all_knowing CtxOk.all (hr.mono (by decide)) (da_cons (dv 0) (da_cons (dv 1) (da_cons (dv 2) aNil)))))
  (dss_cons (ds_for (passes_of rfl) rfl (di_range1 rfl B.range (de_op op_subD (dv 3) kI)) (dg_name (i := 5) sc_deep.nd rfl (by first | exact Or.inl rfl | exact Or.inr rfl)) (dss_one (ds_set (i := 4) sc_deep.nd rfl (by first | exact Or.inl rfl | exact Or.inr rfl) (de_callH H_all_know CtxOk.all (hr.mono (by decide)) (da_cons (dv 0) (da_cons (dv 1) (da_cons (dv 4) aNil)))))))
  (dss_one (ds_retN (de_n (dv 4)))))))))
theorem ok_deep (B : Bi K mg) (H_is_within : HasFn P w K mg base 1 "is_within" CT F_is_within) (H_look_rest : HasFn P w K mg base 5 "look_rest" CT F_look_rest) (H_look_question : HasFn P w K mg base 3 "look_question" CT F_look_question) (H_all_know : HasFn P w K mg base 2 "all_know" CT F_all_know) (H_all_knowing : HasFn P w K mg base 4 "all_knowing" CT F_all_knowing) {fa : Addr} {fd : FuncData} (FF : FunD K "deep" "deep" (defArgs s_deep) (defBody s_deep) (defScope s_deep) [] [] fa fd) (hm : mg "deep" = some (.ref fa)) : HasFn P w K mg base 6 "deep" CT F_deep :=
  ⟨fa, fd, ["hall", "rest", "question", "times"], fn_deep B H_is_within H_look_rest H_look_question H_all_know H_all_knowing FF, hm, FF.kp, FF.bindsN fun _ _ _ _ _ _ us hl => match us, hl with | [_, _, _, _], _ => rfl⟩
theorem sc_marks_at : FnScope ["hall", "rest", "hand", "world"] ["hall", "rest", "hand"] (defScope s_marks_at) := ⟨rfl, rfl, rfl, by decide +kernel, rfl, by decide +kernel, by decide +kernel⟩
def sem_marks_at : Ro → Option Out :=
  (ret (asL (srtU (few (lc [3] (asItm (rdS 1)) (bN 3) yes (bi dIx (bi dIx (bi dIx (rdS 0) (cI 1)) (rdS 2)) (rdS 3)))))))
def F_marks_at : List D → Option Res := fnD 3 4 sem_marks_at
theorem fn_marks_at (B : Bi K mg)  {fa : Addr} {fd : FuncData} (FF : FunD K "marks_at" "marks_at" (defArgs s_marks_at) (defBody s_marks_at) (defScope s_marks_at) [] [] fa fd) : FnOk P w K mg base (L2.CX P w) 1 fa fd ["hall", "rest", "hand"] (spD K CT F_marks_at) := by
  refine fn_def (k := 0) FF sc_marks_at fun cdv A outer s H E hr => ?_
  exact (dss_one (ds_retN (de_n (df_de (df_sortU rfl rfl B.sorted (du_sc (own := [("world", 3)]) CtxOk.all rfl sc_marks_at.nd (di_any (dv 1)) (blkOk_by (by kernel_rfl)) (by decide) (fun _ _ _ _ _ => (dg_name (i := 3) sc_marks_at.nd rfl (by first | exact Or.inl rfl | exact Or.inr rfl))) (fun _ _ _ _ _ => dts_nil) (fun _ _ _ _ _ => (de_ix (de_ix (de_ix (dv 0) kI) (dv 2)) (dv 3)))))))))
theorem ok_marks_at (B : Bi K mg)  {fa : Addr} {fd : FuncData} (FF : FunD K "marks_at" "marks_at" (defArgs s_marks_at) (defBody s_marks_at) (defScope s_marks_at) [] [] fa fd) (hm : mg "marks_at" = some (.ref fa)) : HasFn P w K mg base 1 "marks_at" CT F_marks_at :=
  ⟨fa, fd, ["hall", "rest", "hand"], fn_marks_at B  FF, hm, FF.kp, FF.bindsN fun _ _ _ _ _ _ us hl => match us, hl with | [_, _, _], _ => rfl⟩
theorem sc_partings : FnScope ["marks", "found", "rest", "at", "one"] ["marks"] (defScope s_partings) := ⟨rfl, rfl, rfl, by decide +kernel, rfl, by decide +kernel, by decide +kernel⟩
def sem_partings (self : List D → Option Res) : Ro → Option Out :=
  (sq (ifS (tNotD (tru (rdS 0))) (ret (asL (mkL (consD (mkT eNil) eNil)))) nxt)
  (sq (setO 1 (mkL eNil))
  (sq (forS (asItm (callF self (consD (slc (rdS 0) (asI (cI 1)) oNone) eNil))) (bN 2) (sq (appS 1 (bi dAdd (mkT (consD (mkT (consD (bi dIx (rdS 0) (cI 0)) eNil)) eNil)) (rdS 2)))
  (forS (enu (rdS 2)) (bT 2 (bCons (bN 3) (bCons (bN 4) bNil))) (appS 1 (bi dAdd (bi dAdd (mkT (consD (bi dAdd (mkT (consD (bi dIx (rdS 0) (cI 0)) eNil)) (rdS 4)) eNil)) (slc (rdS 2) oNone (asI (rdS 3)))) (slc (rdS 2) (asI (bi dAdd (rdS 3) (cI 1))) oNone))))))
  (ret (asL (srtL (rdO 1)))))))
def F_partings : Nat → List D → Option Res
  | 0 => noF
  | k + 1 => fnD 1 5 (sem_partings (F_partings k))
theorem ok_partings (B : Bi K mg)  {fa : Addr} {fd : FuncData} (FF : FunD K "partings" "partings" (defArgs s_partings) (defBody s_partings) (defScope s_partings) [] [] fa fd) (hm : mg "partings" = some (.ref fa)) : ∀ n : Nat, HasFn P w K mg base (1 + n) "partings" CT (F_partings n)
  | 0 => has_none (ps := ["marks"]) hm FF.kp (FF.bindsN fun _ _ _ _ _ _ us hl => match us, hl with | [_], _ => rfl)
  | n + 1 => by
    have H_self := ok_partings B  FF hm n
    refine ⟨fa, fd, ["marks"], ?_, hm, FF.kp, FF.bindsN fun _ _ _ _ _ _ us hl => match us, hl with | [_], _ => rfl⟩
    refine fn_def (k := 1 + n) FF sc_partings fun cdv A outer s H E hr => ?_
    exact (dss_cons (ds_if (dt_not (dt_n (de_n (dv 0)))) (dss_one (ds_retN (de_n (de_lst (da_cons (de_tup aNil) aNil))))) dss_nil)
  (dss_cons (ds_own sc_partings.nd rfl (by first | exact Or.inl rfl | exact Or.inr rfl) (df_lst aNil))
  (dss_cons (ds_for (passes_of rfl) rfl (di_any (de_callH H_self CtxOk.all (hr.mono (by omega)) (da_cons (de_slice (dv 0) (do_some kI) oN) aNil))) (dg_name (i := 2) sc_partings.nd rfl (by first | exact Or.inl rfl | exact Or.inr rfl)) (dss_cons (ds_append 1 (de_op op_addD (de_tup (da_cons (de_tup (da_cons (de_ix (dv 0) kI) aNil)) aNil)) (dv 2)))
  (dss_one (ds_for (passes_of rfl) rfl (di_enum rfl B.enumerate (dv 2)) (dg_tup rfl (dgs_cons (dg_name (i := 3) sc_partings.nd rfl (by first | exact Or.inl rfl | exact Or.inr rfl)) (dgs_cons (dg_name (i := 4) sc_partings.nd rfl (by first | exact Or.inl rfl | exact Or.inr rfl)) dgs_nil))) (dss_one (ds_append 1 (de_op op_addD (de_op op_addD (de_tup (da_cons (de_op op_addD (de_tup (da_cons (de_ix (dv 0) kI) aNil)) (dv 4)) aNil)) (de_slice (dv 2) oN (do_some (dv 3)))) (de_slice (dv 2) (do_some (de_op op_addD (dv 3) kI)) oN))))))))
  (dss_one (ds_retN (de_n (df_de (df_sortD (have h65 := hu65 hr; h65) rfl B.sorted (dq_own 1)))))))))
theorem sc_words_of : FnScope ["hall", "rest", "hand", "one"] ["hall", "rest", "hand"] (defScope s_words_of) := ⟨rfl, rfl, rfl, by decide +kernel, rfl, by decide +kernel, by decide +kernel⟩
def sem_words_of : Ro → Option Out :=
  (ret (asL (lc [3] (asItm (callF (F_partings 6) (consD (callF F_marks_at (consD (rdS 0) (consD (rdS 1) (consD (rdS 2) eNil)))) eNil))) (bN 3) (asB (bi dGt (un dLen (rdS 3)) (cI 1))) (rdS 3))))
def F_words_of : List D → Option Res := fnD 3 4 sem_words_of
theorem fn_words_of (B : Bi K mg) (H_marks_at : HasFn P w K mg base 1 "marks_at" CT F_marks_at) (H_partings : HasFn P w K mg base 7 "partings" CT (F_partings 6)) {fa : Addr} {fd : FuncData} (FF : FunD K "words_of" "words_of" (defArgs s_words_of) (defBody s_words_of) (defScope s_words_of) [] [] fa fd) : FnOk P w K mg base (L2.CX P w) 8 fa fd ["hall", "rest", "hand"] (spD K CT F_words_of) := by
  refine fn_def (k := 7) FF sc_words_of fun cdv A outer s H E hr => ?_
  exact (dss_one (ds_retN (de_n (df_de (df_lc (own := [("one", 3)]) CtxOk.all rfl sc_words_of.nd (di_any (de_callH H_partings CtxOk.all (hr.mono (by decide)) (da_cons (de_callH H_marks_at CtxOk.all (hr.mono (by decide)) (da_cons (dv 0) (da_cons (dv 1) (da_cons (dv 2) aNil)))) aNil))) (blkOk_by (by kernel_rfl)) (by decide) (fun _ _ _ _ _ => (dg_name (i := 3) sc_words_of.nd rfl (by first | exact Or.inl rfl | exact Or.inr rfl))) (fun _ _ _ _ _ => (dts_one (dt_cmp op_gtD (de_len rfl B.len (dv 3)) kI (nomark _)))) (fun _ _ _ _ _ => (dv 3)))))))
theorem ok_words_of (B : Bi K mg) (H_marks_at : HasFn P w K mg base 1 "marks_at" CT F_marks_at) (H_partings : HasFn P w K mg base 7 "partings" CT (F_partings 6)) {fa : Addr} {fd : FuncData} (FF : FunD K "words_of" "words_of" (defArgs s_words_of) (defBody s_words_of) (defScope s_words_of) [] [] fa fd) (hm : mg "words_of" = some (.ref fa)) : HasFn P w K mg base 8 "words_of" CT F_words_of :=
  ⟨fa, fd, ["hall", "rest", "hand"], fn_words_of B H_marks_at H_partings FF, hm, FF.kp, FF.bindsN fun _ _ _ _ _ _ us hl => match us, hl with | [_, _, _], _ => rfl⟩
theorem sc_is_word : FnScope ["hall", "rest", "hand", "thing", "some", "one"] ["hall", "rest", "hand", "thing"] (defScope s_is_word) := ⟨rfl, rfl, rfl, by decide +kernel, rfl, by decide +kernel, by decide +kernel⟩
def sem_is_word : Ro → Option Out :=
  (sq (ifS (tOrD (tNotD (tru (toB isT (rdS 3)))) (tru (asL (lc [5] (asItm (rdS 3)) (bN 5) (tNotD (tru (toB isT (rdS 5)))) (rdS 5))))) (ret (cB false)) nxt)
  (sq (setO 4 (mkL eNil))
  (sq (forS (asItm (rdS 3)) (bN 5) (extS 4 (rdS 5)))
  (sq (frz 4)
  (sq (ifS (tru (asL (lc [5] (asItm (rdS 4)) (bN 5) (tOrD (tNotD (tru (toB isI (rdS 5)))) (tru (toB isB (rdS 5)))) (rdS 5)))) (ret (cB false)) nxt)
  (ret (bi dInc (rdS 3) (callF F_words_of (consD (rdS 0) (consD (rdS 1) (consD (rdS 2) eNil)))))))))))
def F_is_word : List D → Option Res := fnD 4 6 sem_is_word
theorem fn_is_word (B : Bi K mg) (H_words_of : HasFn P w K mg base 8 "words_of" CT F_words_of) {fa : Addr} {fd : FuncData} (FF : FunD K "is_word" "is_word" (defArgs s_is_word) (defBody s_is_word) (defScope s_is_word) [] [] fa fd) : FnOk P w K mg base (L2.CX P w) 9 fa fd ["hall", "rest", "hand", "thing"] (spD K CT F_is_word) := by
  refine fn_def (k := 8) FF sc_is_word fun cdv A outer s H E hr => ?_
  exact (dss_cons (ds_if (PW.pt (dw_or (dt_not (dt_n (de_n (de_isi kit_tuple (by decide +kernel) rfl B.isinstance rfl B.tuple (dv 3))))) (dw_or1 (dt_n (de_n (df_de (df_lc (own := [("one", 5)]) CtxOk.all rfl sc_is_word.nd (di_any (dv 3)) (blkOk_by (by kernel_rfl)) (by decide) (fun _ _ _ _ _ => (dg_name (i := 5) sc_is_word.nd rfl (by first | exact Or.inl rfl | exact Or.inr rfl))) (fun _ _ _ _ _ => (dts_one (dt_not (dt_n (de_n (de_isi kit_tuple (by decide +kernel) rfl B.isinstance rfl B.tuple (dv 5))))))) (fun _ _ _ _ _ => (dv 5))))))))) (dss_one (ds_retN (de_n kB))) dss_nil)
  (dss_cons (ds_own sc_is_word.nd rfl (by first | exact Or.inl rfl | exact Or.inr rfl) (df_lst aNil))
  (dss_cons (ds_for (passes_of rfl) rfl (di_any (dv 3)) (dg_name (i := 5) sc_is_word.nd rfl (by first | exact Or.inl rfl | exact Or.inr rfl)) (dss_one (ds_extend 4 (dv 5))))
  (dss_frz 4
  (dss_cons (ds_if (dt_n (de_n (df_de (df_lc (own := [("one", 5)]) CtxOk.all rfl sc_is_word.nd (di_any (dv 4)) (blkOk_by (by kernel_rfl)) (by decide) (fun _ _ _ _ _ => (dg_name (i := 5) sc_is_word.nd rfl (by first | exact Or.inl rfl | exact Or.inr rfl))) (fun _ _ _ _ _ => (dts_one (PW.pt (dw_or (dt_not (dt_n (de_n (de_isi kit_int (by decide +kernel) rfl B.isinstance rfl B.int (dv 5))))) (dw_or1 (dt_n (de_n (de_isi kit_bool (by decide +kernel) rfl B.isinstance rfl B.bool (dv 5))))))))) (fun _ _ _ _ _ => (dv 5)))))) (dss_one (ds_retN (de_n kB))) dss_nil)
  (dss_one (ds_retN (de_n (de_cmp (op_inDD (have h65 := hu65 hr; h65)) (dv 3) (de_callH H_words_of CtxOk.all (hr.mono (by decide)) (da_cons (dv 0) (da_cons (dv 1) (da_cons (dv 2) aNil)))) (by rfl))))))))))
theorem ok_is_word (B : Bi K mg) (H_words_of : HasFn P w K mg base 8 "words_of" CT F_words_of) {fa : Addr} {fd : FuncData} (FF : FunD K "is_word" "is_word" (defArgs s_is_word) (defBody s_is_word) (defScope s_is_word) [] [] fa fd) (hm : mg "is_word" = some (.ref fa)) : HasFn P w K mg base 9 "is_word" CT F_is_word :=
  ⟨fa, fd, ["hall", "rest", "hand", "thing"], fn_is_word B H_words_of FF, hm, FF.kp, FF.bindsN fun _ _ _ _ _ _ us hl => match us, hl with | [_, _, _, _], _ => rfl⟩
theorem sc_rest_of : FnScope ["hall", "rest", "hand", "some", "world"] ["hall", "rest", "hand", "some"] (defScope s_rest_of) := ⟨rfl, rfl, rfl, by decide +kernel, rfl, by decide +kernel, by decide +kernel⟩
def sem_rest_of : Ro → Option Out :=
  (ret (asT (asItems (asL (lc [4] (asItm (rdS 1)) (bN 4) (asB (bi dInc (bi dIx (bi dIx (bi dIx (rdS 0) (cI 1)) (rdS 2)) (rdS 4)) (rdS 3))) (rdS 4))))))
def F_rest_of : List D → Option Res := fnD 4 5 sem_rest_of
theorem fn_rest_of (B : Bi K mg)  {fa : Addr} {fd : FuncData} (FF : FunD K "rest_of" "rest_of" (defArgs s_rest_of) (defBody s_rest_of) (defScope s_rest_of) [] [] fa fd) : FnOk P w K mg base (L2.CX P w) 1 fa fd ["hall", "rest", "hand", "some"] (spD K CT F_rest_of) := by
  refine fn_def (k := 0) FF sc_rest_of fun cdv A outer s H E hr => ?_
  exact (dss_one (ds_retN (de_n (de_tuple rfl B.tuple (de_items (df_de (df_lc (own := [("world", 4)]) CtxOk.all rfl sc_rest_of.nd (di_any (dv 1)) (blkOk_by (by kernel_rfl)) (by decide) (fun _ _ _ _ _ => (dg_name (i := 4) sc_rest_of.nd rfl (by first | exact Or.inl rfl | exact Or.inr rfl))) (fun _ _ _ _ _ => (dts_one (dt_cmp (op_inDD (have h65 := hu65 hr; h65)) (de_ix (de_ix (de_ix (dv 0) kI) (dv 2)) (dv 4)) (dv 3) (by rfl)))) (fun _ _ _ _ _ => (dv 4)))))))))
theorem ok_rest_of (B : Bi K mg)  {fa : Addr} {fd : FuncData} (FF : FunD K "rest_of" "rest_of" (defArgs s_rest_of) (defBody s_rest_of) (defScope s_rest_of) [] [] fa fd) (hm : mg "rest_of" = some (.ref fa)) : HasFn P w K mg base 1 "rest_of" CT F_rest_of :=
  ⟨fa, fd, ["hall", "rest", "hand", "some"], fn_rest_of B  FF, hm, FF.kp, FF.bindsN fun _ _ _ _ _ _ us hl => match us, hl with | [_, _, _, _], _ => rfl⟩
theorem sc_parts_of : FnScope ["hall", "rest", "hand", "word", "some"] ["hall", "rest", "hand", "word"] (defScope s_parts_of) := ⟨rfl, rfl, rfl, by decide +kernel, rfl, by decide +kernel, by decide +kernel⟩
def sem_parts_of : Ro → Option Out :=
  (ret (asL (lc [4] (asItm (rdS 3)) (bN 4) yes (callF F_rest_of (consD (rdS 0) (consD (rdS 1) (consD (rdS 2) (consD (rdS 4) eNil))))))))
def F_parts_of : List D → Option Res := fnD 4 5 sem_parts_of
theorem fn_parts_of (B : Bi K mg) (H_rest_of : HasFn P w K mg base 1 "rest_of" CT F_rest_of) {fa : Addr} {fd : FuncData} (FF : FunD K "parts_of" "parts_of" (defArgs s_parts_of) (defBody s_parts_of) (defScope s_parts_of) [] [] fa fd) : FnOk P w K mg base (L2.CX P w) 2 fa fd ["hall", "rest", "hand", "word"] (spD K CT F_parts_of) := by
  refine fn_def (k := 1) FF sc_parts_of fun cdv A outer s H E hr => ?_
  exact (dss_one (ds_retN (de_n (df_de (df_lc (own := [("some", 4)]) CtxOk.all rfl sc_parts_of.nd (di_any (dv 3)) (blkOk_by (by kernel_rfl)) (by decide) (fun _ _ _ _ _ => (dg_name (i := 4) sc_parts_of.nd rfl (by first | exact Or.inl rfl | exact Or.inr rfl))) (fun _ _ _ _ _ => dts_nil) (fun _ _ _ _ _ => (de_callH H_rest_of CtxOk.all (hr.mono (by decide)) (da_cons (dv 0) (da_cons (dv 1) (da_cons (dv 2) (da_cons (dv 4) aNil)))))))))))
theorem ok_parts_of (B : Bi K mg) (H_rest_of : HasFn P w K mg base 1 "rest_of" CT F_rest_of) {fa : Addr} {fd : FuncData} (FF : FunD K "parts_of" "parts_of" (defArgs s_parts_of) (defBody s_parts_of) (defScope s_parts_of) [] [] fa fd) (hm : mg "parts_of" = some (.ref fa)) : HasFn P w K mg base 2 "parts_of" CT F_parts_of :=
  ⟨fa, fd, ["hall", "rest", "hand", "word"], fn_parts_of B H_rest_of FF, hm, FF.kp, FF.bindsN fun _ _ _ _ _ _ us hl => match us, hl with | [_, _, _, _], _ => rfl⟩
theorem sc_look_word : FnScope ["hall", "rest", "hand", "word"] ["hall", "rest", "hand", "word"] (defScope s_look_word) := ⟨rfl, rfl, rfl, by decide +kernel, rfl, by decide +kernel, by decide +kernel⟩
def sem_look_word : Ro → Option Out :=
  (sq (exS (callX F_look_rest (consD (rdS 0) (consD (rdS 1) eNil))) fun _ ρ => some (.nx ρ))
  (sq (exS (callX F_look_hand (consD (rdS 0) (consD (rdS 2) eNil))) fun _ ρ => some (.nx ρ))
  (ifS (tNotD (tru (callF F_is_word (consD (rdS 0) (consD (rdS 1) (consD (rdS 2) (consD (rdS 3) eNil))))))) (rai ⟨"BadWord", none⟩) nxt)))
def F_look_word : List D → Option Res := fnD 4 4 sem_look_word
theorem fn_look_word (B : Bi K mg) (H_look_rest : HasFn P w K mg base 5 "look_rest" CT F_look_rest) (H_look_hand : HasFn P w K mg base 2 "look_hand" CT F_look_hand) (H_is_word : HasFn P w K mg base 9 "is_word" CT F_is_word) {fa : Addr} {fd : FuncData} (FF : FunD K "look_word" "look_word" (defArgs s_look_word) (defBody s_look_word) (defScope s_look_word) [] [] fa fd) : FnOk P w K mg base (L2.CX P w) 10 fa fd ["hall", "rest", "hand", "word"] (spD K CT F_look_word) := by
  refine fn_def (k := 9) FF sc_look_word fun cdv A outer s H E hr => ?_
  exact (dss_cons (dsx_expr (dx_callH (takes_of rfl rfl rfl rfl) H_look_rest CtxOk.all (hr.mono (by decide)) (da_cons (dv 0) (da_cons (dv 1) aNil))))
  (dss_cons (dsx_expr (dx_callH (takes_of rfl rfl rfl rfl) H_look_hand CtxOk.all (hr.mono (by decide)) (da_cons (dv 0) (da_cons (dv 2) aNil))))
  (dss_one (ds_if (dt_not (dt_n (de_n (de_callH H_is_word CtxOk.all (hr.mono (by decide)) (da_cons (dv 0) (da_cons (dv 1) (da_cons (dv 2) (da_cons (dv 3) aNil)))))))) (dss_one (ds_raise (takes_of rfl rfl rfl rfl) rfl (B.x.ex "BadWord" (by decide)) rfl)) dss_nil))))
theorem ok_look_word (B : Bi K mg) (H_look_rest : HasFn P w K mg base 5 "look_rest" CT F_look_rest) (H_look_hand : HasFn P w K mg base 2 "look_hand" CT F_look_hand) (H_is_word : HasFn P w K mg base 9 "is_word" CT F_is_word) {fa : Addr} {fd : FuncData} (FF : FunD K "look_word" "look_word" (defArgs s_look_word) (defBody s_look_word) (defScope s_look_word) [] [] fa fd) (hm : mg "look_word" = some (.ref fa)) : HasFn P w K mg base 10 "look_word" CT F_look_word :=
  ⟨fa, fd, ["hall", "rest", "hand", "word"], fn_look_word B H_look_rest H_look_hand H_is_word FF, hm, FF.kp, FF.bindsN fun _ _ _ _ _ _ us hl => match us, hl with | [_, _, _, _], _ => rfl⟩
theorem sc_parts : FnScope ["hall", "rest", "hand", "word"] ["hall", "rest", "hand", "word"] (defScope s_parts) := ⟨rfl, rfl, rfl, by decide +kernel, rfl, by decide +kernel, by decide +kernel⟩
def sem_parts : Ro → Option Out :=
  (sq (exS (callX F_look_word (consD (rdS 0) (consD (rdS 1) (consD (rdS 2) (consD (rdS 3) eNil))))) fun _ ρ => some (.nx ρ))
  (ret (callF F_parts_of (consD (rdS 0) (consD (rdS 1) (consD (rdS 2) (consD (rdS 3) eNil)))))))
def F_parts : List D → Option Res := fnD 4 4 sem_parts
theorem fn_parts (B : Bi K mg) (H_parts_of : HasFn P w K mg base 2 "parts_of" CT F_parts_of) (H_look_word : HasFn P w K mg base 10 "look_word" CT F_look_word) {fa : Addr} {fd : FuncData} (FF : FunD K "parts" "parts" (defArgs s_parts) (defBody s_parts) (defScope s_parts) [] [] fa fd) : FnOk P w K mg base (L2.CX P w) 11 fa fd ["hall", "rest", "hand", "word"] (spD K CT F_parts) := by
  refine fn_def (k := 10) FF sc_parts fun cdv A outer s H E hr => ?_
  exact (dss_cons (dsx_expr (dx_callH (takes_of rfl rfl rfl rfl) H_look_word CtxOk.all (hr.mono (by decide)) (da_cons (dv 0) (da_cons (dv 1) (da_cons (dv 2) (da_cons (dv 3) aNil))))))
  (dss_one (ds_retN (de_n (de_callH H_parts_of CtxOk.all (hr.mono (by decide)) (da_cons (dv 0) (da_cons (dv 1) (da_cons (dv 2) (da_cons (dv 3) aNil)))))))))
theorem ok_parts (B : Bi K mg) (H_parts_of : HasFn P w K mg base 2 "parts_of" CT F_parts_of) (H_look_word : HasFn P w K mg base 10 "look_word" CT F_look_word) {fa : Addr} {fd : FuncData} (FF : FunD K "parts" "parts" (defArgs s_parts) (defBody s_parts) (defScope s_parts) [] [] fa fd) (hm : mg "parts" = some (.ref fa)) : HasFn P w K mg base 11 "parts" CT F_parts :=
  ⟨fa, fd, ["hall", "rest", "hand", "word"], fn_parts B H_parts_of H_look_word FF, hm, FF.kp, FF.bindsN fun _ _ _ _ _ _ us hl => match us, hl with | [_, _, _, _], _ => rfl⟩
theorem sc_is_wish : FnScope ["hall", "thing"] ["hall", "thing"] (defScope s_is_wish) := ⟨rfl, rfl, rfl, by decide +kernel, rfl, by decide +kernel, by decide +kernel⟩
def sem_is_wish : Ro → Option Out :=
  (sq (ifS (tOrD (tNotD (tru (toB isT (rdS 1)))) (tOrD (asB (bi dNe (un dLen (rdS 1)) (cI 3))) (tOrD (tNotD (tru (toB isS (bi dIx (rdS 1) (cI 0))))) (asB (bi dNin (bi dIx (rdS 1) (cI 0)) (cD (.tuple [(.str "learn"), (.str "hide"), (.str "dark")]))))))) (ret (cB false)) nxt)
  (ret (vAndD (callF F_is_within (consD (bi dIx (rdS 1) (cI 1)) (consD (cI 0) (consD (bi dSub (un dLen (bi dIx (rdS 0) (cI 1))) (cI 1)) eNil)))) (callF F_are_marks (consD (bi dIx (rdS 0) (cI 0)) (consD (bi dIx (rdS 1) (cI 2)) eNil))))))
def F_is_wish : List D → Option Res := fnD 2 2 sem_is_wish
theorem fn_is_wish (B : Bi K mg) (H_is_within : HasFn P w K mg base 1 "is_within" CT F_is_within) (H_are_marks : HasFn P w K mg base 2 "are_marks" CT F_are_marks) {fa : Addr} {fd : FuncData} (FF : FunD K "is_wish" "is_wish" (defArgs s_is_wish) (defBody s_is_wish) (defScope s_is_wish) [] [] fa fd) : FnOk P w K mg base (L2.CX P w) 3 fa fd ["hall", "thing"] (spD K CT F_is_wish) := by
  obtain ⟨m_WISHES, r0_WISHES⟩ := B.k_WISHES
  have r_WISHES := rc_WISHES r0_WISHES
  refine fn_def (k := 2) FF sc_is_wish fun cdv A outer s H E hr => ?_
  exact (dss_cons (ds_if (PW.pt (dw_or (dt_not (dt_n (de_n (de_isi kit_tuple (by decide +kernel) rfl B.isinstance rfl B.tuple (dv 1))))) (dw_or (dt_cmp (op_neDD hr.units) (de_len rfl B.len (dv 1)) kI (nomark _)) (dw_or (dt_not (dt_n (de_n (de_isi kit_str (by decide +kernel) rfl B.isinstance rfl B.str (de_ix (dv 1) kI))))) (dw_or1 (dt_cmp (op_ninDD (have h65 := hu65 hr; h65)) (de_ix (dv 1) kI) (gD (v := .ref (He.ga K "WISHES")) m_WISHES rfl r_WISHES) (by rfl))))))) (dss_one (ds_retN (de_n kB))) dss_nil)
  (dss_one (ds_retN (de_n (de_and (de_callH H_is_within CtxOk.all (hr.mono (by decide)) (da_cons (de_ix (dv 1) kI) (da_cons kI (da_cons (de_op op_subD (de_len rfl B.len (de_ix (dv 0) kI)) kI) aNil)))) (de_and1 (de_callH H_are_marks CtxOk.all (hr.mono (by decide)) (da_cons (de_ix (dv 0) kI) (da_cons (de_ix (dv 1) kI) aNil)))))))))
theorem ok_is_wish (B : Bi K mg) (H_is_within : HasFn P w K mg base 1 "is_within" CT F_is_within) (H_are_marks : HasFn P w K mg base 2 "are_marks" CT F_are_marks) {fa : Addr} {fd : FuncData} (FF : FunD K "is_wish" "is_wish" (defArgs s_is_wish) (defBody s_is_wish) (defScope s_is_wish) [] [] fa fd) (hm : mg "is_wish" = some (.ref fa)) : HasFn P w K mg base 3 "is_wish" CT F_is_wish :=
  ⟨fa, fd, ["hall", "thing"], fn_is_wish B H_is_within H_are_marks FF, hm, FF.kp, FF.bindsN fun _ _ _ _ _ _ us hl => match us, hl with | [_, _], _ => rfl⟩
theorem sc_is_aim_of : FnScope ["hall", "thing", "one"] ["hall", "thing"] (defScope s_is_aim_of) := ⟨rfl, rfl, rfl, by decide +kernel, rfl, by decide +kernel, by decide +kernel⟩
def sem_is_aim_of : Ro → Option Out :=
  (sq (ifS (tOrD (tNotD (tru (toB isT (rdS 1)))) (asB (bi dGt (un dLen (rdS 1)) (cI 4)))) (ret (cB false)) nxt)
  (ret (vNotD (asL (lc [2] (asItm (rdS 1)) (bN 2) (tNotD (tru (callF F_is_wish (consD (rdS 0) (consD (rdS 2) eNil))))) (rdS 2))))))
def F_is_aim_of : List D → Option Res := fnD 2 3 sem_is_aim_of
theorem fn_is_aim_of (B : Bi K mg) (H_is_wish : HasFn P w K mg base 3 "is_wish" CT F_is_wish) {fa : Addr} {fd : FuncData} (FF : FunD K "is_aim_of" "is_aim_of" (defArgs s_is_aim_of) (defBody s_is_aim_of) (defScope s_is_aim_of) [] [] fa fd) : FnOk P w K mg base (L2.CX P w) 4 fa fd ["hall", "thing"] (spD K CT F_is_aim_of) := by
  obtain ⟨t_MOST_WISHES, m_MOST_WISHES⟩ := B.k_MOST_WISHES
  refine fn_def (k := 3) FF sc_is_aim_of fun cdv A outer s H E hr => ?_
  exact (dss_cons (ds_if (PW.pt (dw_or (dt_not (dt_n (de_n (de_isi kit_tuple (by decide +kernel) rfl B.isinstance rfl B.tuple (dv 1))))) (dw_or1 (dt_cmp op_gtD (de_len rfl B.len (dv 1)) (gI m_MOST_WISHES) (nomark _))))) (dss_one (ds_retN (de_n kB))) dss_nil)
  (dss_one (ds_retN (de_n (de_not (de_n (df_de (df_lc (own := [("one", 2)]) CtxOk.all rfl sc_is_aim_of.nd (di_any (dv 1)) (blkOk_by (by kernel_rfl)) (by decide) (fun _ _ _ _ _ => (dg_name (i := 2) sc_is_aim_of.nd rfl (by first | exact Or.inl rfl | exact Or.inr rfl))) (fun _ _ _ _ _ => (dts_one (dt_not (dt_n (de_n (de_callH H_is_wish CtxOk.all (hr.mono (by decide)) (da_cons (dv 0) (da_cons (dv 2) aNil)))))))) (fun _ _ _ _ _ => (dv 2))))))))))
theorem ok_is_aim_of (B : Bi K mg) (H_is_wish : HasFn P w K mg base 3 "is_wish" CT F_is_wish) {fa : Addr} {fd : FuncData} (FF : FunD K "is_aim_of" "is_aim_of" (defArgs s_is_aim_of) (defBody s_is_aim_of) (defScope s_is_aim_of) [] [] fa fd) (hm : mg "is_aim_of" = some (.ref fa)) : HasFn P w K mg base 4 "is_aim_of" CT F_is_aim_of :=
  ⟨fa, fd, ["hall", "thing"], fn_is_aim_of B H_is_wish FF, hm, FF.kp, FF.bindsN fun _ _ _ _ _ _ us hl => match us, hl with | [_, _], _ => rfl⟩
theorem sc_look_aim : FnScope ["hall", "aim"] ["hall", "aim"] (defScope s_look_aim) := ⟨rfl, rfl, rfl, by decide +kernel, rfl, by decide +kernel, by decide +kernel⟩
def sem_look_aim : Ro → Option Out :=
  (sq (exS (callX F_look (consD (rdS 0) eNil)) fun _ ρ => some (.nx ρ))
  (ifS (tNotD (tru (callF F_is_aim_of (consD (rdS 0) (consD (rdS 1) eNil))))) (rai ⟨"BadAim", none⟩) nxt))
def F_look_aim : List D → Option Res := fnD 2 2 sem_look_aim
theorem fn_look_aim (B : Bi K mg) (H_look : HasFn P w K mg base 4 "look" CT F_look) (H_is_aim_of : HasFn P w K mg base 4 "is_aim_of" CT F_is_aim_of) {fa : Addr} {fd : FuncData} (FF : FunD K "look_aim" "look_aim" (defArgs s_look_aim) (defBody s_look_aim) (defScope s_look_aim) [] [] fa fd) : FnOk P w K mg base (L2.CX P w) 5 fa fd ["hall", "aim"] (spD K CT F_look_aim) := by
  refine fn_def (k := 4) FF sc_look_aim fun cdv A outer s H E hr => ?_
  exact (dss_cons (dsx_expr (dx_callH (takes_of rfl rfl rfl rfl) H_look CtxOk.all (hr.mono (by decide)) (da_cons (dv 0) aNil)))
  (dss_one (ds_if (dt_not (dt_n (de_n (de_callH H_is_aim_of CtxOk.all (hr.mono (by decide)) (da_cons (dv 0) (da_cons (dv 1) aNil)))))) (dss_one (ds_raise (takes_of rfl rfl rfl rfl) rfl (B.x.ex "BadAim" (by decide)) rfl)) dss_nil)))
theorem ok_look_aim (B : Bi K mg) (H_look : HasFn P w K mg base 4 "look" CT F_look) (H_is_aim_of : HasFn P w K mg base 4 "is_aim_of" CT F_is_aim_of) {fa : Addr} {fd : FuncData} (FF : FunD K "look_aim" "look_aim" (defArgs s_look_aim) (defBody s_look_aim) (defScope s_look_aim) [] [] fa fd) (hm : mg "look_aim" = some (.ref fa)) : HasFn P w K mg base 5 "look_aim" CT F_look_aim :=
  ⟨fa, fd, ["hall", "aim"], fn_look_aim B H_look H_is_aim_of FF, hm, FF.kp, FF.bindsN fun _ _ _ _ _ _ us hl => match us, hl with | [_, _], _ => rfl⟩
theorem sc_is_kept : FnScope ["hall", "rest", "wish", "every", "known", "world", "word", "hand", "question"] ["hall", "rest", "wish"] (defScope s_is_kept) := ⟨rfl, rfl, rfl, by decide +kernel, rfl, by decide +kernel, by decide +kernel⟩
def sem_is_kept : Ro → Option Out :=
  (sq (setG (rdS 2) (bT 3 (bCons (bN 6) (bCons (bN 7) (bCons (bN 8) bNil)))))
  (sq (setS 3 (callF F_all_worlds (consD (rdS 0) eNil)))
  (sq (setS 4 (callF F_known_in (consD (rdS 0) (consD (rdS 1) (consD (rdS 7) (consD (rdS 8) eNil))))))
  (sq (ifS (asB (bi dEq (rdS 6) (cS "learn"))) (ret (bi dEq (un dLen (rdS 4)) (un dLen (rdS 1)))) nxt)
  (sq (ifS (asB (bi dEq (rdS 6) (cS "hide"))) (ret (vNotD (asL (lc [5] (asItm (rdS 4)) (bN 5) (asB (bi dNin (rdS 5) (callF F_known_in (consD (rdS 0) (consD (rdS 3) (consD (rdS 7) (consD (rdS 8) eNil))))))) (rdS 5))))) nxt)
  (sq (forS (asItm (rdS 1)) (bN 5) (ifS (asB (bi dNe (callF F_thought_of (consD (rdS 0) (consD (rdS 1) (consD (rdS 7) (consD (rdS 8) (consD (rdS 5) eNil)))))) (callF F_thought_of (consD (rdS 0) (consD (rdS 3) (consD (rdS 7) (consD (rdS 8) (consD (rdS 5) eNil)))))))) (ret (cB false)) nxt))
  (ret (cB true))))))))
def F_is_kept : List D → Option Res := fnD 3 9 sem_is_kept
theorem fn_is_kept (B : Bi K mg) (H_all_worlds : HasFn P w K mg base 1 "all_worlds" CT F_all_worlds) (H_thought_of : HasFn P w K mg base 2 "thought_of" CT F_thought_of) (H_known_in : HasFn P w K mg base 3 "known_in" CT F_known_in) {fa : Addr} {fd : FuncData} (FF : FunD K "is_kept" "is_kept" (defArgs s_is_kept) (defBody s_is_kept) (defScope s_is_kept) [] [] fa fd) : FnOk P w K mg base (L2.CX P w) 4 fa fd ["hall", "rest", "wish"] (spD K CT F_is_kept) := by
  refine fn_def (k := 3) FF sc_is_kept fun cdv A outer s H E hr => ?_
  exact (dss_cons (ds_asg (dv 2) (dg_tup rfl (dgs_cons (dg_name (i := 6) sc_is_kept.nd rfl (by first | exact Or.inl rfl | exact Or.inr rfl)) (dgs_cons (dg_name (i := 7) sc_is_kept.nd rfl (by first | exact Or.inl rfl | exact Or.inr rfl)) (dgs_cons (dg_name (i := 8) sc_is_kept.nd rfl (by first | exact Or.inl rfl | exact Or.inr rfl)) dgs_nil)))))
  (dss_cons (ds_set (i := 3) sc_is_kept.nd rfl (by first | exact Or.inl rfl | exact Or.inr rfl) (de_callH H_all_worlds CtxOk.all (hr.mono (by decide)) (da_cons (dv 0) aNil)))
  (dss_cons (ds_set (i := 4) sc_is_kept.nd rfl (by first | exact Or.inl rfl | exact Or.inr rfl) (de_callH H_known_in CtxOk.all (hr.mono (by decide)) (da_cons (dv 0) (da_cons (dv 1) (da_cons (dv 7) (da_cons (dv 8) aNil))))))
  (dss_cons (ds_if (dt_cmp (op_eqDD hr.units) (dv 6) kS (nomark _)) (dss_one (ds_retN (de_n (de_cmp (op_eqDD hr.units) (de_len rfl B.len (dv 4)) (de_len rfl B.len (dv 1)) (nomark _))))) dss_nil)
  (dss_cons (ds_if (dt_cmp (op_eqDD hr.units) (dv 6) kS (nomark _)) (dss_one (ds_retN (de_n (de_not (de_n (df_de (df_lc (own := [("world", 5)]) CtxOk.all rfl sc_is_kept.nd (di_any (dv 4)) (blkOk_by (by kernel_rfl)) (by decide) (fun _ _ _ _ _ => (dg_name (i := 5) sc_is_kept.nd rfl (by first | exact Or.inl rfl | exact Or.inr rfl))) (fun _ _ _ _ _ => (dts_one (dt_cmp (op_ninDD (have h65 := hu65 hr; h65)) (dv 5) (de_callH H_known_in CtxOk.all (hr.mono (by decide)) (da_cons (dv 0) (da_cons (dv 3) (da_cons (dv 7) (da_cons (dv 8) aNil))))) (by rfl)))) (fun _ _ _ _ _ => (dv 5))))))))) dss_nil)
  (dss_cons (ds_for (passes_of rfl) rfl (di_any (dv 1)) (dg_name (i := 5) sc_is_kept.nd rfl (by first | exact Or.inl rfl | exact Or.inr rfl)) (dss_one (ds_if (dt_cmp (op_neDD hr.units) (de_callH H_thought_of CtxOk.all (hr.mono (by decide)) (da_cons (dv 0) (da_cons (dv 1) (da_cons (dv 7) (da_cons (dv 8) (da_cons (dv 5) aNil)))))) (de_callH H_thought_of CtxOk.all (hr.mono (by decide)) (da_cons (dv 0) (da_cons (dv 3) (da_cons (dv 7) (da_cons (dv 8) (da_cons (dv 5) aNil)))))) (nomark _)) (dss_one (ds_retN (de_n kB))) dss_nil)))
  (dss_one (ds_retN (de_n kB)))))))))
theorem ok_is_kept (B : Bi K mg) (H_all_worlds : HasFn P w K mg base 1 "all_worlds" CT F_all_worlds) (H_thought_of : HasFn P w K mg base 2 "thought_of" CT F_thought_of) (H_known_in : HasFn P w K mg base 3 "known_in" CT F_known_in) {fa : Addr} {fd : FuncData} (FF : FunD K "is_kept" "is_kept" (defArgs s_is_kept) (defBody s_is_kept) (defScope s_is_kept) [] [] fa fd) (hm : mg "is_kept" = some (.ref fa)) : HasFn P w K mg base 4 "is_kept" CT F_is_kept :=
  ⟨fa, fd, ["hall", "rest", "wish"], fn_is_kept B H_all_worlds H_thought_of H_known_in FF, hm, FF.kp, FF.bindsN fun _ _ _ _ _ _ us hl => match us, hl with | [_, _, _], _ => rfl⟩
theorem sc_broken_of : FnScope ["hall", "rest", "aim", "at", "wish"] ["hall", "rest", "aim"] (defScope s_broken_of) := ⟨rfl, rfl, rfl, by decide +kernel, rfl, by decide +kernel, by decide +kernel⟩
def sem_broken_of : Ro → Option Out :=
  (ret (asL (lc [3, 4] (enu (rdS 2)) (bT 2 (bCons (bN 3) (bCons (bN 4) bNil))) (tAndD (asB (bi dNe (bi dIx (rdS 4) (cI 0)) (cS "learn"))) (tNotD (tru (callF F_is_kept (consD (rdS 0) (consD (rdS 1) (consD (rdS 4) eNil))))))) (rdS 3))))
def F_broken_of : List D → Option Res := fnD 3 5 sem_broken_of
theorem fn_broken_of (B : Bi K mg) (H_is_kept : HasFn P w K mg base 4 "is_kept" CT F_is_kept) {fa : Addr} {fd : FuncData} (FF : FunD K "broken_of" "broken_of" (defArgs s_broken_of) (defBody s_broken_of) (defScope s_broken_of) [] [] fa fd) : FnOk P w K mg base (L2.CX P w) 5 fa fd ["hall", "rest", "aim"] (spD K CT F_broken_of) := by
  refine fn_def (k := 4) FF sc_broken_of fun cdv A outer s H E hr => ?_
  exact (dss_one (ds_retN (de_n (df_de (df_lc (own := [("at", 3), ("wish", 4)]) CtxOk.all rfl sc_broken_of.nd (di_enum rfl B.enumerate (dv 2)) (blkOk_by (by kernel_rfl)) (by decide) (fun _ _ _ _ _ => (dg_tup rfl (dgs_cons (dg_name (i := 3) sc_broken_of.nd rfl (by first | exact Or.inl rfl | exact Or.inr rfl)) (dgs_cons (dg_name (i := 4) sc_broken_of.nd rfl (by first | exact Or.inl rfl | exact Or.inr rfl)) dgs_nil)))) (fun _ _ _ _ _ => (dts_one (PW.pt (dw_and (dt_cmp (op_neDD hr.units) (de_ix (dv 4) kI) kS (nomark _)) (dw_and1 (dt_not (dt_n (de_n (de_callH H_is_kept CtxOk.all (hr.mono (by decide)) (da_cons (dv 0) (da_cons (dv 1) (da_cons (dv 4) aNil)))))))))))) (fun _ _ _ _ _ => (dv 3)))))))
theorem ok_broken_of (B : Bi K mg) (H_is_kept : HasFn P w K mg base 4 "is_kept" CT F_is_kept) {fa : Addr} {fd : FuncData} (FF : FunD K "broken_of" "broken_of" (defArgs s_broken_of) (defBody s_broken_of) (defScope s_broken_of) [] [] fa fd) (hm : mg "broken_of" = some (.ref fa)) : HasFn P w K mg base 5 "broken_of" CT F_broken_of :=
  ⟨fa, fd, ["hall", "rest", "aim"], fn_broken_of B H_is_kept FF, hm, FF.kp, FF.bindsN fun _ _ _ _ _ _ us hl => match us, hl with | [_, _, _], _ => rfl⟩
theorem sc_lacking_of : FnScope ["hall", "rest", "aim", "at", "wish"] ["hall", "rest", "aim"] (defScope s_lacking_of) := ⟨rfl, rfl, rfl, by decide +kernel, rfl, by decide +kernel, by decide +kernel⟩
def sem_lacking_of : Ro → Option Out :=
  (ret (asL (lc [3, 4] (enu (rdS 2)) (bT 2 (bCons (bN 3) (bCons (bN 4) bNil))) (tAndD (asB (bi dEq (bi dIx (rdS 4) (cI 0)) (cS "learn"))) (tNotD (tru (callF F_is_kept (consD (rdS 0) (consD (rdS 1) (consD (rdS 4) eNil))))))) (rdS 3))))
def F_lacking_of : List D → Option Res := fnD 3 5 sem_lacking_of
theorem fn_lacking_of (B : Bi K mg) (H_is_kept : HasFn P w K mg base 4 "is_kept" CT F_is_kept) {fa : Addr} {fd : FuncData} (FF : FunD K "lacking_of" "lacking_of" (defArgs s_lacking_of) (defBody s_lacking_of) (defScope s_lacking_of) [] [] fa fd) : FnOk P w K mg base (L2.CX P w) 5 fa fd ["hall", "rest", "aim"] (spD K CT F_lacking_of) := by
  refine fn_def (k := 4) FF sc_lacking_of fun cdv A outer s H E hr => ?_
  exact (dss_one (ds_retN (de_n (df_de (df_lc (own := [("at", 3), ("wish", 4)]) CtxOk.all rfl sc_lacking_of.nd (di_enum rfl B.enumerate (dv 2)) (blkOk_by (by kernel_rfl)) (by decide) (fun _ _ _ _ _ => (dg_tup rfl (dgs_cons (dg_name (i := 3) sc_lacking_of.nd rfl (by first | exact Or.inl rfl | exact Or.inr rfl)) (dgs_cons (dg_name (i := 4) sc_lacking_of.nd rfl (by first | exact Or.inl rfl | exact Or.inr rfl)) dgs_nil)))) (fun _ _ _ _ _ => (dts_one (PW.pt (dw_and (dt_cmp (op_eqDD hr.units) (de_ix (dv 4) kI) kS (nomark _)) (dw_and1 (dt_not (dt_n (de_n (de_callH H_is_kept CtxOk.all (hr.mono (by decide)) (da_cons (dv 0) (da_cons (dv 1) (da_cons (dv 4) aNil)))))))))))) (fun _ _ _ _ _ => (dv 3)))))))
theorem ok_lacking_of (B : Bi K mg) (H_is_kept : HasFn P w K mg base 4 "is_kept" CT F_is_kept) {fa : Addr} {fd : FuncData} (FF : FunD K "lacking_of" "lacking_of" (defArgs s_lacking_of) (defBody s_lacking_of) (defScope s_lacking_of) [] [] fa fd) (hm : mg "lacking_of" = some (.ref fa)) : HasFn P w K mg base 5 "lacking_of" CT F_lacking_of :=
  ⟨fa, fd, ["hall", "rest", "aim"], fn_lacking_of B H_is_kept FF, hm, FF.kp, FF.bindsN fun _ _ _ _ _ _ us hl => match us, hl with | [_, _, _], _ => rfl⟩
theorem sc_is_talk_at : FnScope ["hall", "rest", "thing", "part", "talk"] ["hall", "rest", "thing"] (defScope s_is_talk_at) := ⟨rfl, rfl, rfl, by decide +kernel, rfl, by decide +kernel, by decide +kernel⟩
def sem_is_talk_at (self : List D → Option Res) : Ro → Option Out :=
  (sq (ifS (tOrD (tNotD (tru (toB isT (rdS 2)))) (tOrD (tNotD (tru (rdS 2))) (tNotD (tru (toB isS (bi dIx (rdS 2) (cI 0))))))) (ret (cB false)) nxt)
  (sq (ifS (asB (bi dEq (bi dIx (rdS 2) (cI 0)) (cS "end"))) (ret (bi dEq (un dLen (rdS 2)) (cI 1))) nxt)
  (sq (ifS (tOrD (asB (bi dNe (bi dIx (rdS 2) (cI 0)) (cS "say"))) (tOrD (asB (bi dNe (un dLen (rdS 2)) (cI 4))) (tNotD (tru (callF F_is_within (consD (bi dIx (rdS 2) (cI 1)) (consD (cI 0) (consD (bi dSub (un dLen (bi dIx (rdS 0) (cI 1))) (cI 1)) eNil)))))))) (ret (cB false)) nxt)
  (sq (ifS (tOrD (tNotD (tru (callF F_is_word (consD (rdS 0) (consD (rdS 1) (consD (bi dIx (rdS 2) (cI 1)) (consD (bi dIx (rdS 2) (cI 2)) eNil))))))) (tNotD (tru (toB isT (bi dIx (rdS 2) (cI 3)))))) (ret (cB false)) nxt)
  (sq (ifS (asB (bi dNe (un dLen (bi dIx (rdS 2) (cI 3))) (un dLen (bi dIx (rdS 2) (cI 2))))) (ret (cB false)) nxt)
  (sq (forS (zp (callF F_parts_of (consD (rdS 0) (consD (rdS 1) (consD (bi dIx (rdS 2) (cI 1)) (consD (bi dIx (rdS 2) (cI 2)) eNil))))) (bi dIx (rdS 2) (cI 3))) (bT 2 (bCons (bN 3) (bCons (bN 4) bNil))) (ifS (tNotD (tru (callF self (consD (rdS 0) (consD (rdS 3) (consD (rdS 4) eNil)))))) (ret (cB false)) nxt))
  (ret (cB true))))))))
def F_is_talk_at : Nat → List D → Option Res
  | 0 => noF
  | k + 1 => fnD 3 5 (sem_is_talk_at (F_is_talk_at k))
theorem ok_is_talk_at (B : Bi K mg) (H_is_within : HasFn P w K mg base 1 "is_within" CT F_is_within) (H_is_word : HasFn P w K mg base 9 "is_word" CT F_is_word) (H_parts_of : HasFn P w K mg base 2 "parts_of" CT F_parts_of) {fa : Addr} {fd : FuncData} (FF : FunD K "is_talk_at" "is_talk_at" (defArgs s_is_talk_at) (defBody s_is_talk_at) (defScope s_is_talk_at) [] [] fa fd) (hm : mg "is_talk_at" = some (.ref fa)) : ∀ n : Nat, HasFn P w K mg base (10 + n) "is_talk_at" CT (F_is_talk_at n)
  | 0 => has_none (ps := ["hall", "rest", "thing"]) hm FF.kp (FF.bindsN fun _ _ _ _ _ _ us hl => match us, hl with | [_, _, _], _ => rfl)
  | n + 1 => by
    have H_self := ok_is_talk_at B H_is_within H_is_word H_parts_of FF hm n
    refine ⟨fa, fd, ["hall", "rest", "thing"], ?_, hm, FF.kp, FF.bindsN fun _ _ _ _ _ _ us hl => match us, hl with | [_, _, _], _ => rfl⟩
    refine fn_def (k := 10 + n) FF sc_is_talk_at fun cdv A outer s H E hr => ?_
    exact (dss_cons (ds_if (PW.pt (dw_or (dt_not (dt_n (de_n (de_isi kit_tuple (by decide +kernel) rfl B.isinstance rfl B.tuple (dv 2))))) (dw_or (dt_not (dt_n (de_n (dv 2)))) (dw_or1 (dt_not (dt_n (de_n (de_isi kit_str (by decide +kernel) rfl B.isinstance rfl B.str (de_ix (dv 2) kI))))))))) (dss_one (ds_retN (de_n kB))) dss_nil)
  (dss_cons (ds_if (dt_cmp (op_eqDD hr.units) (de_ix (dv 2) kI) kS (nomark _)) (dss_one (ds_retN (de_n (de_cmp (op_eqDD hr.units) (de_len rfl B.len (dv 2)) kI (nomark _))))) dss_nil)
  (dss_cons (ds_if (PW.pt (dw_or (dt_cmp (op_neDD hr.units) (de_ix (dv 2) kI) kS (nomark _)) (dw_or (dt_cmp (op_neDD hr.units) (de_len rfl B.len (dv 2)) kI (nomark _)) (dw_or1 (dt_not (dt_n (de_n (de_callH H_is_within CtxOk.all (hr.mono (by omega)) (da_cons (de_ix (dv 2) kI) (da_cons kI (da_cons (de_op op_subD (de_len rfl B.len (de_ix (dv 0) kI)) kI) aNil))))))))))) (dss_one (ds_retN (de_n kB))) dss_nil)
  (dss_cons (ds_if (PW.pt (dw_or (dt_not (dt_n (de_n (de_callH H_is_word CtxOk.all (hr.mono (by omega)) (da_cons (dv 0) (da_cons (dv 1) (da_cons (de_ix (dv 2) kI) (da_cons (de_ix (dv 2) kI) aNil)))))))) (dw_or1 (dt_not (dt_n (de_n (de_isi kit_tuple (by decide +kernel) rfl B.isinstance rfl B.tuple (de_ix (dv 2) kI)))))))) (dss_one (ds_retN (de_n kB))) dss_nil)
  (dss_cons (ds_if (dt_cmp (op_neDD hr.units) (de_len rfl B.len (de_ix (dv 2) kI)) (de_len rfl B.len (de_ix (dv 2) kI)) (nomark _)) (dss_one (ds_retN (de_n kB))) dss_nil)
  (dss_cons (ds_for (passes_of rfl) rfl (di_zip rfl B.zip (de_callH H_parts_of CtxOk.all (hr.mono (by omega)) (da_cons (dv 0) (da_cons (dv 1) (da_cons (de_ix (dv 2) kI) (da_cons (de_ix (dv 2) kI) aNil))))) (de_ix (dv 2) kI)) (dg_tup rfl (dgs_cons (dg_name (i := 3) sc_is_talk_at.nd rfl (by first | exact Or.inl rfl | exact Or.inr rfl)) (dgs_cons (dg_name (i := 4) sc_is_talk_at.nd rfl (by first | exact Or.inl rfl | exact Or.inr rfl)) dgs_nil))) (dss_one (ds_if (dt_not (dt_n (de_n (de_callH H_self CtxOk.all (hr.mono (by omega)) (da_cons (dv 0) (da_cons (dv 3) (da_cons (dv 4) aNil))))))) (dss_one (ds_retN (de_n kB))) dss_nil)))
  (dss_one (ds_retN (de_n kB)))))))))
theorem sc_look_talk : FnScope ["hall", "talk"] ["hall", "talk"] (defScope s_look_talk) := ⟨rfl, rfl, rfl, by decide +kernel, rfl, by decide +kernel, by decide +kernel⟩
def sem_look_talk : Ro → Option Out :=
  (ifS (tNotD (tru (callF (F_is_talk_at 6) (consD (rdS 0) (consD (callF F_all_worlds (consD (rdS 0) eNil)) (consD (rdS 1) eNil)))))) (rai ⟨"BadTalk", none⟩) nxt)
def F_look_talk : List D → Option Res := fnD 2 2 sem_look_talk
theorem fn_look_talk (B : Bi K mg) (H_all_worlds : HasFn P w K mg base 1 "all_worlds" CT F_all_worlds) (H_is_talk_at : HasFn P w K mg base 16 "is_talk_at" CT (F_is_talk_at 6)) {fa : Addr} {fd : FuncData} (FF : FunD K "look_talk" "look_talk" (defArgs s_look_talk) (defBody s_look_talk) (defScope s_look_talk) [] [] fa fd) : FnOk P w K mg base (L2.CX P w) 17 fa fd ["hall", "talk"] (spD K CT F_look_talk) := by
  refine fn_def (k := 16) FF sc_look_talk fun cdv A outer s H E hr => ?_
  exact (dss_one (ds_if (dt_not (dt_n (de_n (de_callH H_is_talk_at CtxOk.all (hr.mono (by decide)) (da_cons (dv 0) (da_cons (de_callH H_all_worlds CtxOk.all (hr.mono (by decide)) (da_cons (dv 0) aNil)) (da_cons (dv 1) aNil))))))) (dss_one (ds_raise (takes_of rfl rfl rfl rfl) rfl (B.x.ex "BadTalk" (by decide)) rfl)) dss_nil))
theorem ok_look_talk (B : Bi K mg) (H_all_worlds : HasFn P w K mg base 1 "all_worlds" CT F_all_worlds) (H_is_talk_at : HasFn P w K mg base 16 "is_talk_at" CT (F_is_talk_at 6)) {fa : Addr} {fd : FuncData} (FF : FunD K "look_talk" "look_talk" (defArgs s_look_talk) (defBody s_look_talk) (defScope s_look_talk) [] [] fa fd) (hm : mg "look_talk" = some (.ref fa)) : HasFn P w K mg base 17 "look_talk" CT F_look_talk :=
  ⟨fa, fd, ["hall", "talk"], fn_look_talk B H_all_worlds H_is_talk_at FF, hm, FF.kp, FF.bindsN fun _ _ _ _ _ _ us hl => match us, hl with | [_, _], _ => rfl⟩
theorem sc_rests_of : FnScope ["hall", "rest", "talk", "found", "part", "then"] ["hall", "rest", "talk"] (defScope s_rests_of) := ⟨rfl, rfl, rfl, by decide +kernel, rfl, by decide +kernel, by decide +kernel⟩
def sem_rests_of (self : List D → Option Res) : Ro → Option Out :=
  (sq (ifS (asB (bi dEq (bi dIx (rdS 2) (cI 0)) (cS "end"))) (ret (asL (mkL (consD (mkT (consD (rdS 1) (consD (cB true) eNil))) eNil)))) nxt)
  (sq (setO 3 (mkL (consD (mkT (consD (rdS 1) (consD (cB false) eNil))) eNil)))
  (sq (forS (zp (callF F_parts_of (consD (rdS 0) (consD (rdS 1) (consD (bi dIx (rdS 2) (cI 1)) (consD (bi dIx (rdS 2) (cI 2)) eNil))))) (bi dIx (rdS 2) (cI 3))) (bT 2 (bCons (bN 4) (bCons (bN 5) bNil))) (extS 3 (callF self (consD (rdS 0) (consD (rdS 4) (consD (rdS 5) eNil))))))
  (ret (asL (rdO 3))))))
def F_rests_of : Nat → List D → Option Res
  | 0 => noF
  | k + 1 => fnD 3 6 (sem_rests_of (F_rests_of k))
theorem ok_rests_of (B : Bi K mg) (H_parts_of : HasFn P w K mg base 2 "parts_of" CT F_parts_of) {fa : Addr} {fd : FuncData} (FF : FunD K "rests_of" "rests_of" (defArgs s_rests_of) (defBody s_rests_of) (defScope s_rests_of) [] [] fa fd) (hm : mg "rests_of" = some (.ref fa)) : ∀ n : Nat, HasFn P w K mg base (3 + n) "rests_of" CT (F_rests_of n)
  | 0 => has_none (ps := ["hall", "rest", "talk"]) hm FF.kp (FF.bindsN fun _ _ _ _ _ _ us hl => match us, hl with | [_, _, _], _ => rfl)
  | n + 1 => by
    have H_self := ok_rests_of B H_parts_of FF hm n
    refine ⟨fa, fd, ["hall", "rest", "talk"], ?_, hm, FF.kp, FF.bindsN fun _ _ _ _ _ _ us hl => match us, hl with | [_, _, _], _ => rfl⟩
    refine fn_def (k := 3 + n) FF sc_rests_of fun cdv A outer s H E hr => ?_
    exact (dss_cons (ds_if (dt_cmp (op_eqDD hr.units) (de_ix (dv 2) kI) kS (nomark _)) (dss_one (ds_retN (de_n (de_lst (da_cons (de_tup (da_cons (dv 1) (da_cons kB aNil))) aNil))))) dss_nil)
  (dss_cons (ds_own sc_rests_of.nd rfl (by first | exact Or.inl rfl | exact Or.inr rfl) (df_lst (da_cons (de_tup (da_cons (dv 1) (da_cons kB aNil))) aNil)))
  (dss_cons (ds_for (passes_of rfl) rfl (di_zip rfl B.zip (de_callH H_parts_of CtxOk.all (hr.mono (by omega)) (da_cons (dv 0) (da_cons (dv 1) (da_cons (de_ix (dv 2) kI) (da_cons (de_ix (dv 2) kI) aNil))))) (de_ix (dv 2) kI)) (dg_tup rfl (dgs_cons (dg_name (i := 4) sc_rests_of.nd rfl (by first | exact Or.inl rfl | exact Or.inr rfl)) (dgs_cons (dg_name (i := 5) sc_rests_of.nd rfl (by first | exact Or.inl rfl | exact Or.inr rfl)) dgs_nil))) (dss_one (ds_extend 3 (de_callH H_self CtxOk.all (hr.mono (by omega)) (da_cons (dv 0) (da_cons (dv 4) (da_cons (dv 5) aNil)))))))
  (dss_one (ds_retN (dvO 3))))))
theorem sc_ends : FnScope ["hall", "talk", "rest", "is_end"] ["hall", "talk"] (defScope s_ends) := ⟨rfl, rfl, rfl, by decide +kernel, rfl, by decide +kernel, by decide +kernel⟩
def sem_ends : Ro → Option Out :=
  (sq (exS (callX F_look (consD (rdS 0) eNil)) fun _ ρ => some (.nx ρ))
  (sq (exS (callX F_look_talk (consD (rdS 0) (consD (rdS 1) eNil))) fun _ ρ => some (.nx ρ))
  (ret (asL (lc [2, 3] (asItm (callF (F_rests_of 6) (consD (rdS 0) (consD (callF F_all_worlds (consD (rdS 0) eNil)) (consD (rdS 1) eNil))))) (bT 2 (bCons (bN 2) (bCons (bN 3) bNil))) (tru (rdS 3)) (rdS 2))))))
def F_ends : List D → Option Res := fnD 2 4 sem_ends
theorem fn_ends (B : Bi K mg) (H_look : HasFn P w K mg base 4 "look" CT F_look) (H_all_worlds : HasFn P w K mg base 1 "all_worlds" CT F_all_worlds) (H_look_talk : HasFn P w K mg base 17 "look_talk" CT F_look_talk) (H_rests_of : HasFn P w K mg base 9 "rests_of" CT (F_rests_of 6)) {fa : Addr} {fd : FuncData} (FF : FunD K "ends" "ends" (defArgs s_ends) (defBody s_ends) (defScope s_ends) [] [] fa fd) : FnOk P w K mg base (L2.CX P w) 18 fa fd ["hall", "talk"] (spD K CT F_ends) := by
  refine fn_def (k := 17) FF sc_ends fun cdv A outer s H E hr => ?_
  exact (dss_cons (dsx_expr (dx_callH (takes_of rfl rfl rfl rfl) H_look CtxOk.all (hr.mono (by decide)) (da_cons (dv 0) aNil)))
  (dss_cons (dsx_expr (dx_callH (takes_of rfl rfl rfl rfl) H_look_talk CtxOk.all (hr.mono (by decide)) (da_cons (dv 0) (da_cons (dv 1) aNil))))
  (dss_one (ds_retN (de_n (df_de (df_lc (own := [("rest", 2), ("is_end", 3)]) CtxOk.all rfl sc_ends.nd (di_any (de_callH H_rests_of CtxOk.all (hr.mono (by decide)) (da_cons (dv 0) (da_cons (de_callH H_all_worlds CtxOk.all (hr.mono (by decide)) (da_cons (dv 0) aNil)) (da_cons (dv 1) aNil))))) (blkOk_by (by kernel_rfl)) (by decide) (fun _ _ _ _ _ => (dg_tup rfl (dgs_cons (dg_name (i := 2) sc_ends.nd rfl (by first | exact Or.inl rfl | exact Or.inr rfl)) (dgs_cons (dg_name (i := 3) sc_ends.nd rfl (by first | exact Or.inl rfl | exact Or.inr rfl)) dgs_nil)))) (fun _ _ _ _ _ => (dts_one (dt_n (de_n (dv 3))))) (fun _ _ _ _ _ => (dv 2)))))))))
theorem ok_ends (B : Bi K mg) (H_look : HasFn P w K mg base 4 "look" CT F_look) (H_all_worlds : HasFn P w K mg base 1 "all_worlds" CT F_all_worlds) (H_look_talk : HasFn P w K mg base 17 "look_talk" CT F_look_talk) (H_rests_of : HasFn P w K mg base 9 "rests_of" CT (F_rests_of 6)) {fa : Addr} {fd : FuncData} (FF : FunD K "ends" "ends" (defArgs s_ends) (defBody s_ends) (defScope s_ends) [] [] fa fd) (hm : mg "ends" = some (.ref fa)) : HasFn P w K mg base 18 "ends" CT F_ends :=
  ⟨fa, fd, ["hall", "talk"], fn_ends B H_look H_all_worlds H_look_talk H_rests_of FF, hm, FF.kp, FF.bindsN fun _ _ _ _ _ _ us hl => match us, hl with | [_, _], _ => rfl⟩
structure SkB (K : PySem.W.Frag) (mg : Str → Option Value) : Prop where
  c : Cls K (He.ga K "Seeker")
  nh : NoAttr K (He.ga K "Seeker") "hall"
  na : NoAttr K (He.ga K "Seeker") "aim"
  nk : NoAttr K (He.ga K "Seeker") "known"
  mg : mg "Seeker" = some (.ref (He.ga K "Seeker"))
  M : Mk K (He.ga K "Seeker") (He.ma K (He.ga K "Seeker") "__init__")
  mt : Meth K (He.ga K "Seeker") "talk" (He.ma K (He.ga K "Seeker") "talk")
  mf : Meth K (He.ga K "Seeker") "found" (He.ma K (He.ga K "Seeker") "found")
  mb : Meth K (He.ga K "Seeker") "behind" (He.ma K (He.ga K "Seeker") "behind")
theorem sc_Seeker_init : FnScope ["self", "hall", "aim"] ["self", "hall", "aim"] (defScope s_Seeker_init) := ⟨rfl, rfl, rfl, by decide +kernel, rfl, by decide +kernel, by decide +kernel⟩
theorem sc_Seeker_talk : FnScope ["self", "rest", "many", "key"] ["self", "rest", "many"] (defScope s_Seeker_talk) := ⟨rfl, rfl, rfl, by decide +kernel, rfl, by decide +kernel, by decide +kernel⟩
theorem sc_Seeker_found : FnScope ["self", "rest", "many", "best", "hand", "word", "some"] ["self", "rest", "many"] (defScope s_Seeker_found) := ⟨rfl, rfl, rfl, by decide +kernel, rfl, by decide +kernel, by decide +kernel⟩
def sem_Seeker_found (hh aa : D) (fB : List D → Option Res) : Ro → Option Out :=
  (sq (ifS (tru (callF F_broken_of (consD (exAt 0 hh) (consD (rdS 1) (consD (exAt 0 aa) eNil))))) (ret cN) nxt)
  (sq (ifS (tNotD (tru (callF F_lacking_of (consD (exAt 0 hh) (consD (rdS 1) (consD (exAt 0 aa) eNil)))))) (ret (mkT (consD (cI 1) (consD (cD (.tuple [(.str "end")])) eNil)))) nxt)
  (sq (ifS (asB (bi dEq (rdS 2) (cI 0))) (ret cN) nxt)
  (sq (setS 3 cN)
  (sq (forS (rng1 (un dLen (bi dIx (exAt 0 hh) (cI 1)))) (bN 4) (forS (asItm (callF F_words_of (consD (exAt 0 hh) (consD (rdS 1) (consD (rdS 4) eNil))))) (bN 5) (sq (setS 6 (callM 0 fB (consD (rdS 1) (consD (rdS 2) (consD (rdS 4) (consD (rdS 5) eNil))))))
  (ifS (tAndD (asB (bi dNotN (rdS 6) cN)) (tOrD (asB (bi dIsN (rdS 3) cN)) (asB (bi dLt (bi dIx (rdS 6) (cI 0)) (bi dIx (rdS 3) (cI 0)))))) (setS 3 (rdS 6)) nxt))))
  (ret (rdS 3)))))))
theorem sc_Seeker_behind : FnScope ["self", "rest", "many", "hand", "word", "total", "talks", "part", "one"] ["self", "rest", "many", "hand", "word"] (defScope s_Seeker_behind) := ⟨rfl, rfl, rfl, by decide +kernel, rfl, by decide +kernel, by decide +kernel⟩
def sem_Seeker_behind (hh aa : D) (fT : List D → Option Res) : Ro → Option Out :=
  (sq (setS 5 (cI 0))
  (sq (setO 6 (mkL eNil))
  (sq (forS (asItm (callF F_parts_of (consD (exAt 0 hh) (consD (rdS 1) (consD (rdS 3) (consD (rdS 4) eNil)))))) (bN 7) (sq (setS 8 (callM 0 fT (consD (rdS 7) (consD (bi dSub (rdS 2) (cI 1)) eNil))))
  (sq (ifS (asB (bi dIsN (rdS 8) cN)) (ret cN) nxt)
  (sq (augA 5 (bi dIx (rdS 8) (cI 0)))
  (appS 6 (bi dIx (rdS 8) (cI 1)))))))
  (ret (mkT (consD (rdS 5) (consD (mkT (consD (cS "say") (consD (rdS 3) (consD (rdS 4) (consD (asT (rdO 6)) eNil))))) eNil)))))))
def bhF (hh aa : D) (fT : List D → Option Res) : List D → Option Res := fnM 5 8 (sem_Seeker_behind hh aa fT)
def fnF (hh aa : D) (fB : List D → Option Res) : List D → Option Res := fnM 3 6 (sem_Seeker_found hh aa fB)
def RS (hh aa : D) : List Int → Int → Option D := RR (bhF hh aa) (fnF hh aa)
def F_Seeker_talk (hh aa : D) : List D → Option Res := telR (RS hh aa) (qk 9)
theorem fn_Seeker_behind (B : Bi K mg) (SB : SkB K mg) (H_words_of : HasFn P w K mg base 8 "words_of" CT F_words_of) (H_parts_of : HasFn P w K mg base 2 "parts_of" CT F_parts_of) (H_broken_of : HasFn P w K mg base 5 "broken_of" CT F_broken_of) (H_lacking_of : HasFn P w K mg base 5 "lacking_of" CT F_lacking_of) {fa : Addr} {fd : FuncData} (FF : FunD K "behind" "Seeker.behind" (defArgs s_Seeker_behind) (defBody s_Seeker_behind) (defScope s_Seeker_behind) [] [] fa fd) (hh aa : D) {l : Nat} (hl : 8 ≤ l) {fT : List D → Option Res} (H_talk : HasM P w K mg base l (He.ga K "Seeker") "talk" (Sk K P w (He.ga K "Seeker") (RS hh aa) hh aa) fT) : FnOk P w K mg base (L2.CX P w) (l + 1) fa fd ["self", "rest", "many", "hand", "word"] (spM K (Sk K P w (He.ga K "Seeker") (RS hh aa) hh aa) (bhF hh aa fT)) := by
  refine fn_defM (k := l) FF sc_Seeker_behind fun cdv A outer s H E hr => ?_
  exact (dss_cons (ds_set (i := 5) sc_Seeker_behind.nd rfl (by first | exact Or.inl rfl | exact Or.inr rfl) kI)
  (dss_cons (ds_own sc_Seeker_behind.nd rfl (by first | exact Or.inl rfl | exact Or.inr rfl) (df_lst aNil))
  (dss_cons (ds_for (passes_of rfl) rfl (di_any (de_callH H_parts_of Sk.ok (hr.mono (by omega)) (da_cons (de_hall (i := 0) SB.c SB.nh) (da_cons (dv 1) (da_cons (dv 3) (da_cons (dv 4) aNil)))))) (dg_name (i := 7) sc_Seeker_behind.nd rfl (by first | exact Or.inl rfl | exact Or.inr rfl)) (dss_cons (ds_set (i := 8) sc_Seeker_behind.nd rfl (by first | exact Or.inl rfl | exact Or.inr rfl) (de_meth (i := 0) H_talk SB.c (hr.mono (by omega)) (da_cons (dv 7) (da_cons (de_op op_subD (dv 2) kI) aNil))))
  (dss_cons (ds_if (dt_cmp op_isND (dv 8) kN (nomark _)) (dss_one (ds_retN (de_n kN))) dss_nil)
  (dss_cons (ds_augA (i := 5) sc_Seeker_behind.nd rfl (by first | exact Or.inl rfl | exact Or.inr rfl) (de_ix (dv 8) kI))
  (dss_one (ds_append 6 (de_ix (dv 8) kI)))))))
  (dss_one (ds_retN (de_n (de_tup (da_cons (dv 5) (da_cons (de_tup (da_cons kS (da_cons (dv 3) (da_cons (dv 4) (da_cons (de_tuple rfl B.tuple (dvL 6)) aNil))))) aNil)))))))))
theorem fn_Seeker_found (B : Bi K mg) (SB : SkB K mg) (H_words_of : HasFn P w K mg base 8 "words_of" CT F_words_of) (H_parts_of : HasFn P w K mg base 2 "parts_of" CT F_parts_of) (H_broken_of : HasFn P w K mg base 5 "broken_of" CT F_broken_of) (H_lacking_of : HasFn P w K mg base 5 "lacking_of" CT F_lacking_of) {fa : Addr} {fd : FuncData} (FF : FunD K "found" "Seeker.found" (defArgs s_Seeker_found) (defBody s_Seeker_found) (defScope s_Seeker_found) [] [] fa fd) (hh aa : D) {l : Nat} (hl : 8 ≤ l) {fB : List D → Option Res} (H_behind : HasM P w K mg base l (He.ga K "Seeker") "behind" (Sk K P w (He.ga K "Seeker") (RS hh aa) hh aa) fB) : FnOk P w K mg base (L2.CX P w) (l + 1) fa fd ["self", "rest", "many"] (spM K (Sk K P w (He.ga K "Seeker") (RS hh aa) hh aa) (fnF hh aa fB)) := by
  obtain ⟨m_END, r0_END⟩ := B.k_END
  have r_END := rc_END r0_END
  refine fn_defM (k := l) FF sc_Seeker_found fun cdv A outer s H E hr => ?_
  exact (dss_cons (ds_if (dt_n (de_n (de_callH H_broken_of Sk.ok (hr.mono (by omega)) (da_cons (de_hall (i := 0) SB.c SB.nh) (da_cons (dv 1) (da_cons (de_aim (i := 0) SB.c SB.na) aNil)))))) (dss_one (ds_retN (de_n kN))) dss_nil)
  (dss_cons (ds_if (dt_not (dt_n (de_n (de_callH H_lacking_of Sk.ok (hr.mono (by omega)) (da_cons (de_hall (i := 0) SB.c SB.nh) (da_cons (dv 1) (da_cons (de_aim (i := 0) SB.c SB.na) aNil))))))) (dss_one (ds_retN (de_n (de_tup (da_cons kI (da_cons (gD (v := .ref (He.ga K "END")) m_END rfl r_END) aNil)))))) dss_nil)
  (dss_cons (ds_if (dt_cmp (op_eqDD hr.units) (dv 2) kI (nomark _)) (dss_one (ds_retN (de_n kN))) dss_nil)
  (dss_cons (ds_set (i := 3) sc_Seeker_found.nd rfl (by first | exact Or.inl rfl | exact Or.inr rfl) kN)
  (dss_cons (ds_for (passes_of rfl) rfl (di_range1 rfl B.range (de_len rfl B.len (de_ix (de_hall (i := 0) SB.c SB.nh) kI))) (dg_name (i := 4) sc_Seeker_found.nd rfl (by first | exact Or.inl rfl | exact Or.inr rfl)) (dss_one (ds_for (passes_of rfl) rfl (di_any (de_callH H_words_of Sk.ok (hr.mono (by omega)) (da_cons (de_hall (i := 0) SB.c SB.nh) (da_cons (dv 1) (da_cons (dv 4) aNil))))) (dg_name (i := 5) sc_Seeker_found.nd rfl (by first | exact Or.inl rfl | exact Or.inr rfl)) (dss_cons (ds_set (i := 6) sc_Seeker_found.nd rfl (by first | exact Or.inl rfl | exact Or.inr rfl) (de_meth (i := 0) H_behind SB.c (hr.mono (by omega)) (da_cons (dv 1) (da_cons (dv 2) (da_cons (dv 4) (da_cons (dv 5) aNil))))))
  (dss_one (ds_if (PW.pt (dw_and (dt_cmp op_notND (dv 6) kN (nomark _)) (dw_and1 (PW.pt (dw_or (dt_cmp op_isND (dv 3) kN (nomark _)) (dw_or1 (dt_cmp op_ltD (de_ix (dv 6) kI) (de_ix (dv 3) kI) (nomark _)))))))) (dss_one (ds_set (i := 3) sc_Seeker_found.nd rfl (by first | exact Or.inl rfl | exact Or.inr rfl) (dv 6))) dss_nil))))))
  (dss_one (ds_retN (de_n (dv 3)))))))))
theorem ok_Seeker (B : Bi K mg) (SB : SkB K mg) (H_words_of : HasFn P w K mg base 8 "words_of" CT F_words_of) (H_parts_of : HasFn P w K mg base 2 "parts_of" CT F_parts_of) (H_broken_of : HasFn P w K mg base 5 "broken_of" CT F_broken_of) (H_lacking_of : HasFn P w K mg base 5 "lacking_of" CT F_lacking_of) {gt gf gb : FuncData} (FFt : FunD K "talk" "Seeker.talk" (defArgs s_Seeker_talk) (defBody s_Seeker_talk) (defScope s_Seeker_talk) [] [] (He.ma K (He.ga K "Seeker") "talk") gt) (FFf : FunD K "found" "Seeker.found" (defArgs s_Seeker_found) (defBody s_Seeker_found) (defScope s_Seeker_found) [] [] (He.ma K (He.ga K "Seeker") "found") gf) (FFb : FunD K "behind" "Seeker.behind" (defArgs s_Seeker_behind) (defBody s_Seeker_behind) (defScope s_Seeker_behind) [] [] (He.ma K (He.ga K "Seeker") "behind") gb) : HasMM P w K mg base 35 (He.ga K "Seeker") "talk" (fun hh aa => (Sk K P w (He.ga K "Seeker") (RS hh aa) hh aa)) F_Seeker_talk := by
  have bt : Binds K gt ["self", "rest", "many"] [] := FFt.bindsN fun _ _ _ _ _ _ us hl => match us, hl with | [_, _, _], _ => rfl
  have bf : Binds K gf ["self", "rest", "many"] [] := FFf.bindsN fun _ _ _ _ _ _ us hl => match us, hl with | [_, _, _], _ => rfl
  have bb : Binds K gb ["self", "rest", "many", "hand", "word"] [] := FFb.bindsN fun _ _ _ _ _ _ us hl => match us, hl with | [_, _, _, _, _], _ => rfl
  refine ⟨_, gt, ["self", "rest", "many"], fun hh aa => ?_, SB.mt, bt⟩
  exact (sk_rec (bh := bhF hh aa) (fn := fnF hh aa) 8 (fun l T hl hT => fn_Seeker_found B SB H_words_of H_parts_of H_broken_of H_lacking_of FFf hh aa (by omega) ⟨_, gb, _, fn_Seeker_behind B SB H_words_of H_parts_of H_broken_of H_lacking_of FFb hh aa hl ⟨_, gt, _, hT, SB.mt, bt⟩, SB.mb, bb⟩) (fun l q Ff hF hR => fn_talk FFt sc_Seeker_talk rfl rfl rfl rfl (fun _ => rfl) SB.c SB.nk ⟨_, gf, _, hF, SB.mf, bf⟩ hR (fun _ _ _ h => RR_tup h)) 9).1
theorem ok_Seeker_init (SB : SkB K mg) {gi : FuncData} (FFi : FunD K "__init__" "Seeker.__init__" (defArgs s_Seeker_init) (defBody s_Seeker_init) (defScope s_Seeker_init) [] [] (He.ma K (He.ga K "Seeker") "__init__") gi) : ∃ fdi psi, FnOk P w K mg base (L2.CX P w) 1 (He.ma K (He.ga K "Seeker") "__init__") fdi psi (spI P w (He.ga K "Seeker")) ∧ Binds K fdi psi [] :=
  ⟨gi, ["self", "hall", "aim"], fn_init (k := 0) FFi sc_Seeker_init rfl rfl rfl SB.c SB.nh SB.na SB.nk, FFi.bindsN fun _ _ _ _ _ _ us hl => match us, hl with | [_, _, _], _ => rfl⟩
theorem sc_best : FnScope ["hall", "aim", "seeker", "many", "found"] ["hall", "aim"] (defScope s_best) := ⟨rfl, rfl, rfl, by decide +kernel, rfl, by decide +kernel, by decide +kernel⟩
def sem_best : Ro → Option Out :=
  (sq (exS (callX F_look_aim (consD (rdS 0) (consD (rdS 1) eNil))) fun _ ρ => some (.nx ρ))
  (newS 2 (consD (rdS 0) (consD (rdS 1) eNil)) (fun hh aa => (sq (forS (rng1 (bi dIx (rdS 0) (cI 0))) (bN 3) (sq (setS 4 (callM 2 (F_Seeker_talk hh aa) (consD (callF F_all_worlds (consD (rdS 0) eNil)) (consD (rdS 3) eNil))))
  (ifS (asB (bi dNotN (rdS 4) cN)) (ret (bi dIx (rdS 4) (cI 1))) nxt)))
  (ret cN)))))
def F_best : List D → Option Res := fnD 2 5 sem_best
theorem fn_best (B : Bi K mg) (H_all_worlds : HasFn P w K mg base 1 "all_worlds" CT F_all_worlds) (H_look_aim : HasFn P w K mg base 5 "look_aim" CT F_look_aim) (SB : SkB K mg) (H_skk : HasMM P w K mg base 35 (He.ga K "Seeker") "talk" (fun hh aa => (Sk K P w (He.ga K "Seeker") (RS hh aa) hh aa)) F_Seeker_talk) (H_init : ∃ fdi psi, FnOk P w K mg base (L2.CX P w) 1 (He.ma K (He.ga K "Seeker") "__init__") fdi psi (spI P w (He.ga K "Seeker")) ∧ Binds K fdi psi []) {fa : Addr} {fd : FuncData} (FF : FunD K "best" "best" (defArgs s_best) (defBody s_best) (defScope s_best) [] [] fa fd) : FnOk P w K mg base (L2.CX P w) 36 fa fd ["hall", "aim"] (spD K CT F_best) := by
  obtain ⟨fdi, psi, F_init, hb_init⟩ := H_init
  have M_Seeker := SB.M
  have H_sk := fun hh aa => H_skk.at hh aa
  refine fn_def (k := 35) FF sc_best fun cdv A outer s H E hr => ?_
  exact (dss_cons (dsx_expr (dx_callH (takes_of rfl rfl rfl rfl) H_look_aim CtxOk.all (hr.mono (by decide)) (da_cons (dv 0) (da_cons (dv 1) aNil))))
  (dss_new (i := 2) (R := RS) sc_best.nd rfl (by first | exact Or.inl rfl | exact Or.inr rfl) M_Seeker F_init hb_init SB.mg (hr.mono (by decide)) (da_cons (dv 0) (da_cons (dv 1) aNil)) (fun hh aa => (dss_cons (ds_for (passes_of rfl) rfl (di_range1 rfl B.range (de_ix (dv 0) kI)) (dg_name (i := 3) sc_best.nd rfl (by first | exact Or.inl rfl | exact Or.inr rfl)) (dss_cons (ds_set (i := 4) sc_best.nd rfl (by first | exact Or.inl rfl | exact Or.inr rfl) (de_meth (i := 2) (H_sk hh aa) SB.c (hr.mono (by decide)) (da_cons (de_callH H_all_worlds Sk.ok (hr.mono (by decide)) (da_cons (dv 0) aNil)) (da_cons (dv 3) aNil))))
  (dss_one (ds_if (dt_cmp op_notND (dv 4) kN (nomark _)) (dss_one (ds_retN (de_n (de_ix (dv 4) kI)))) dss_nil))))
  (dss_one (ds_retN (de_n kN)))))))
theorem ok_best (B : Bi K mg) (H_all_worlds : HasFn P w K mg base 1 "all_worlds" CT F_all_worlds) (H_look_aim : HasFn P w K mg base 5 "look_aim" CT F_look_aim) (SB : SkB K mg) (H_skk : HasMM P w K mg base 35 (He.ga K "Seeker") "talk" (fun hh aa => (Sk K P w (He.ga K "Seeker") (RS hh aa) hh aa)) F_Seeker_talk) (H_init : ∃ fdi psi, FnOk P w K mg base (L2.CX P w) 1 (He.ma K (He.ga K "Seeker") "__init__") fdi psi (spI P w (He.ga K "Seeker")) ∧ Binds K fdi psi []) {fa : Addr} {fd : FuncData} (FF : FunD K "best" "best" (defArgs s_best) (defBody s_best) (defScope s_best) [] [] fa fd) (hm : mg "best" = some (.ref fa)) : HasFn P w K mg base 36 "best" CT F_best :=
  ⟨fa, fd, ["hall", "aim"], fn_best B H_all_worlds H_look_aim SB H_skk H_init FF, hm, FF.kp, FF.bindsN fun _ _ _ _ _ _ us hl => match us, hl with | [_, _], _ => rfl⟩
theorem sc_look_count : FnScope ["many"] ["many"] (defScope s_look_count) := ⟨rfl, rfl, rfl, by decide +kernel, rfl, by decide +kernel, by decide +kernel⟩
def sem_look_count : Ro → Option Out :=
  (ifS (tNotD (tru (callF F_is_within (consD (rdS 0) (consD (cI 0) (consD (cI 8) eNil)))))) (rai ⟨"BadCount", none⟩) nxt)
def F_look_count : List D → Option Res := fnD 1 1 sem_look_count
theorem fn_look_count (B : Bi K mg) (H_is_within : HasFn P w K mg base 1 "is_within" CT F_is_within) {fa : Addr} {fd : FuncData} (FF : FunD K "look_count" "look_count" (defArgs s_look_count) (defBody s_look_count) (defScope s_look_count) [] [] fa fd) : FnOk P w K mg base (L2.CX P w) 2 fa fd ["many"] (spD K CT F_look_count) := by
  obtain ⟨t_MOST_WORLDS, m_MOST_WORLDS⟩ := B.k_MOST_WORLDS
  refine fn_def (k := 1) FF sc_look_count fun cdv A outer s H E hr => ?_
  exact (dss_one (ds_if (dt_not (dt_n (de_n (de_callH H_is_within CtxOk.all (hr.mono (by decide)) (da_cons (dv 0) (da_cons kI (da_cons (gI m_MOST_WORLDS) aNil))))))) (dss_one (ds_raise (takes_of rfl rfl rfl rfl) rfl (B.x.ex "BadCount" (by decide)) rfl)) dss_nil))
theorem ok_look_count (B : Bi K mg) (H_is_within : HasFn P w K mg base 1 "is_within" CT F_is_within) {fa : Addr} {fd : FuncData} (FF : FunD K "look_count" "look_count" (defArgs s_look_count) (defBody s_look_count) (defScope s_look_count) [] [] fa fd) (hm : mg "look_count" = some (.ref fa)) : HasFn P w K mg base 2 "look_count" CT F_look_count :=
  ⟨fa, fd, ["many"], fn_look_count B H_is_within FF, hm, FF.kp, FF.bindsN fun _ _ _ _ _ _ us hl => match us, hl with | [_], _ => rfl⟩
theorem sc_all_words : FnScope ["hall", "rest", "hand", "word"] ["hall", "rest"] (defScope s_all_words) := ⟨rfl, rfl, rfl, by decide +kernel, rfl, by decide +kernel, by decide +kernel⟩
def sem_all_words : Ro → Option Out :=
  (ret (asL (lc2 [2, 3] [3] (rng1 (un dLen (bi dIx (rdS 0) (cI 1)))) (bN 2) (asItm (callF F_words_of (consD (rdS 0) (consD (rdS 1) (consD (rdS 2) eNil))))) (bN 3) (mkT (consD (rdS 2) (consD (rdS 3) eNil))))))
def F_all_words : List D → Option Res := fnD 2 4 sem_all_words
theorem fn_all_words (B : Bi K mg) (H_words_of : HasFn P w K mg base 8 "words_of" CT F_words_of) {fa : Addr} {fd : FuncData} (FF : FunD K "all_words" "all_words" (defArgs s_all_words) (defBody s_all_words) (defScope s_all_words) [] [] fa fd) : FnOk P w K mg base (L2.CX P w) 9 fa fd ["hall", "rest"] (spD K CT F_all_words) := by
  refine fn_def (k := 8) FF sc_all_words fun cdv A outer s H E hr => ?_
  exact (dss_one (ds_retN (de_n (df_de (df_lc2 (own := [("hand", 2), ("word", 3)]) (vs1 := [3]) CtxOk.all rfl sc_all_words.nd (di_range1 rfl B.range (de_len rfl B.len (de_ix (dv 0) kI))) (blkOk_by (by kernel_rfl)) (by decide) (by decide) (by decide) (fun _ _ _ _ _ => (dg_name (i := 2) sc_all_words.nd rfl (by first | exact Or.inl rfl | exact Or.inr rfl))) (fun _ _ _ _ _ => (di_any (de_callH H_words_of CtxOk.all (hr.mono (by decide)) (da_cons (dv 0) (da_cons (dv 1) (da_cons (dv 2) aNil)))))) (fun _ _ _ _ _ => (dg_name (i := 3) sc_all_words.nd rfl (by first | exact Or.inl rfl | exact Or.inr rfl))) (fun _ _ _ _ _ => (de_tup (da_cons (dv 2) (da_cons (dv 3) aNil)))))))))
theorem ok_all_words (B : Bi K mg) (H_words_of : HasFn P w K mg base 8 "words_of" CT F_words_of) {fa : Addr} {fd : FuncData} (FF : FunD K "all_words" "all_words" (defArgs s_all_words) (defBody s_all_words) (defScope s_all_words) [] [] fa fd) (hm : mg "all_words" = some (.ref fa)) : HasFn P w K mg base 9 "all_words" CT F_all_words :=
  ⟨fa, fd, ["hall", "rest"], fn_all_words B H_words_of FF, hm, FF.kp, FF.bindsN fun _ _ _ _ _ _ us hl => match us, hl with | [_, _], _ => rfl⟩
theorem sc_reason : FnScope ["seeker", "rest", "many", "some", "found", "hall", "aim", "hand", "word", "parts", "at", "part"] ["seeker", "rest", "many"] (defScope s_reason) := ⟨rfl, rfl, rfl, by decide +kernel, rfl, by decide +kernel, by decide +kernel⟩
def sem_reason (hh aa : D) : Ro → Option Out :=
  (sq (parS 5 6 (exAt 0 hh) (exAt 0 aa))
  (sq (setS 3 (callF F_broken_of (consD (rdS 5) (consD (rdS 1) (consD (rdS 6) eNil)))))
  (sq (ifS (tru (rdS 3)) (ret (mkT (consD (cS "broken") (consD (bi dIx (rdS 3) (cI 0)) eNil)))) nxt)
  (sq (ifS (asB (bi dEq (rdS 2) (cI 0))) (ret (mkT (consD (cS "lacks") (consD (bi dIx (callF F_lacking_of (consD (rdS 5) (consD (rdS 1) (consD (rdS 6) eNil)))) (cI 0)) eNil)))) nxt)
  (sq (setO 4 (mkL eNil))
  (sq (forS (asItm (callF F_all_words (consD (rdS 5) (consD (rdS 1) eNil)))) (bT 2 (bCons (bN 7) (bCons (bN 8) bNil))) (sq (setS 9 (callF F_parts_of (consD (rdS 5) (consD (rdS 1) (consD (rdS 7) (consD (rdS 8) eNil))))))
  (appS 4 (bi dIx (asL (lc [10, 11] (enu (rdS 9)) (bT 2 (bCons (bN 10) (bCons (bN 11) bNil))) (asB (bi dIsN (callM 0 (F_Seeker_talk hh aa) (consD (rdS 11) (consD (bi dSub (rdS 2) (cI 1)) eNil))) cN)) (rdS 10))) (cI 0)))))
  (ret (mkT (consD (cS "words") (consD (asT (rdO 4)) eNil))))))))))
def F_reason (hh aa : D) : List (Option D) → Option Res := fnO 3 12 (sem_reason hh aa)
theorem ok_reason (B : Bi K mg) (H_parts_of : HasFn P w K mg base 2 "parts_of" CT F_parts_of) (H_broken_of : HasFn P w K mg base 5 "broken_of" CT F_broken_of) (H_lacking_of : HasFn P w K mg base 5 "lacking_of" CT F_lacking_of) (SB : SkB K mg) (H_skk : HasMM P w K mg base 35 (He.ga K "Seeker") "talk" (fun hh aa => (Sk K P w (He.ga K "Seeker") (RS hh aa) hh aa)) F_Seeker_talk) (H_init : ∃ fdi psi, FnOk P w K mg base (L2.CX P w) 1 (He.ma K (He.ga K "Seeker") "__init__") fdi psi (spI P w (He.ga K "Seeker")) ∧ Binds K fdi psi []) (H_all_words : HasFn P w K mg base 9 "all_words" CT F_all_words) {fa : Addr} {fd : FuncData} (FF : FunD K "reason" "reason" (defArgs s_reason) (defBody s_reason) (defScope s_reason) [] [] fa fd) (hm : mg "reason" = some (.ref fa)) : ∀ hh aa, HasO P w K mg base 36 "reason" (Sk K P w (He.ga K "Seeker") (RS hh aa) hh aa) (F_reason hh aa) := by
  intro hh aa
  obtain ⟨fdi, psi, F_init, hb_init⟩ := H_init
  have M_Seeker := SB.M
  have H_sk := fun hh aa => H_skk.at hh aa
  refine ⟨fa, fd, ["seeker", "rest", "many"], ?_, hm, FF.kp, FF.bindsN fun _ _ _ _ _ _ us hl => match us, hl with | [_, _, _], _ => rfl⟩
  refine fn_defO (k := 35) FF sc_reason fun cdv A outer s H E hr => ?_
  exact (dss_cons (ds_par (i := 5) (j := 6) rfl sc_reason.nd rfl rfl (by decide) rfl rfl (de_hall (i := 0) SB.c SB.nh) (de_aim (i := 0) SB.c SB.na) (by rfl))
  (dss_cons (ds_set (i := 3) sc_reason.nd rfl (by first | exact Or.inl rfl | exact Or.inr rfl) (de_callH H_broken_of Sk.ok (hr.mono (by decide)) (da_cons (dv 5) (da_cons (dv 1) (da_cons (dv 6) aNil)))))
  (dss_cons (ds_if (dt_n (de_n (dv 3))) (dss_one (ds_retN (de_n (de_tup (da_cons kS (da_cons (de_ix (dv 3) kI) aNil)))))) dss_nil)
  (dss_cons (ds_if (dt_cmp (op_eqDD hr.units) (dv 2) kI (nomark _)) (dss_one (ds_retN (de_n (de_tup (da_cons kS (da_cons (de_ix (de_callH H_lacking_of Sk.ok (hr.mono (by decide)) (da_cons (dv 5) (da_cons (dv 1) (da_cons (dv 6) aNil)))) kI) aNil)))))) dss_nil)
  (dss_cons (ds_own sc_reason.nd rfl (by first | exact Or.inl rfl | exact Or.inr rfl) (df_lst aNil))
  (dss_cons (ds_for (passes_of rfl) rfl (di_any (de_callH H_all_words Sk.ok (hr.mono (by decide)) (da_cons (dv 5) (da_cons (dv 1) aNil)))) (dg_tup rfl (dgs_cons (dg_name (i := 7) sc_reason.nd rfl (by first | exact Or.inl rfl | exact Or.inr rfl)) (dgs_cons (dg_name (i := 8) sc_reason.nd rfl (by first | exact Or.inl rfl | exact Or.inr rfl)) dgs_nil))) (dss_cons (ds_set (i := 9) sc_reason.nd rfl (by first | exact Or.inl rfl | exact Or.inr rfl) (de_callH H_parts_of Sk.ok (hr.mono (by decide)) (da_cons (dv 5) (da_cons (dv 1) (da_cons (dv 7) (da_cons (dv 8) aNil))))))
  (dss_one (ds_append 4 (de_ix (df_de (df_lc (own := [("at", 10), ("part", 11)]) Sk.ok rfl sc_reason.nd (di_enum rfl B.enumerate (dv 9)) (blkOk_by (by kernel_rfl)) (by decide) (fun _ _ _ _ _ => (dg_tup rfl (dgs_cons (dg_name (i := 10) sc_reason.nd rfl (by first | exact Or.inl rfl | exact Or.inr rfl)) (dgs_cons (dg_name (i := 11) sc_reason.nd rfl (by first | exact Or.inl rfl | exact Or.inr rfl)) dgs_nil)))) (fun _ _ _ _ _ => (dts_one (dt_cmp op_isND (de_meth (i := 0) (H_sk hh aa) SB.c (hr.mono (by decide)) (da_cons (dv 11) (da_cons (de_op op_subD (dv 2) kI) aNil))) kN (nomark _)))) (fun _ _ _ _ _ => (dv 10)))) kI)))))
  (dss_one (ds_retN (de_n (de_tup (da_cons kS (da_cons (de_tuple rfl B.tuple (dvL 4)) aNil))))))))))))
theorem sc_paper_of : FnScope ["seeker", "rest", "many", "found", "waiting", "here", "left", "why", "at", "hand", "word"] ["seeker", "rest", "many"] (defScope s_paper_of) := ⟨rfl, rfl, rfl, by decide +kernel, rfl, by decide +kernel, by decide +kernel⟩
def sem1_paper_of (hh aa : D) (dd : Addr) : Ro → Kv → Option (Ou Kv) :=
  (up (setO 4 (mkL (consD (mkT (consD (rdS 1) (consD (rdS 2) eNil))) eNil))))
def sem2_paper_of (hh aa : D) (dd : Addr) : Ro → Kv → Option (Ou Kv) :=
  (fun ρ s => whO (tru (asL (rdO 4))) (sqO (up (popG 4 (bT 2 (bCons (bN 5) (bCons (bN 6) bNil)))))
  (ifOS (fun kvs => (inD (isAd 3 dd) true kvs (mkT (consD (rdS 5) (consD (rdS 6) eNil))))) (sqO (up (setS 7 (callO (F_reason hh aa) (oObj 0 (oDat (rdS 5) (oDat (rdS 6) oNil))))))
  (sqO (dput (fun _ => (isAd 3 dd)) (fun k => k) (fun _ k => k) (mkT (consD (rdS 5) (consD (rdS 6) eNil))) (rdS 7))
  (up (ifS (asB (bi dEq (bi dIx (rdS 7) (cI 0)) (cS "words"))) (forS (zp (callF F_all_words (consD (exAt 0 hh) (consD (rdS 5) eNil))) (bi dIx (rdS 7) (cI 1))) (bT 2 (bCons (bT 2 (bCons (bN 9) (bCons (bN 10) bNil))) (bCons (bN 8) bNil))) (appS 4 (mkT (consD (bi dIx (callF F_parts_of (consD (exAt 0 hh) (consD (rdS 5) (consD (rdS 9) (consD (rdS 10) eNil))))) (rdS 8)) (consD (bi dSub (rdS 6) (cI 1)) eNil))))) nxt)))) nxtO)) 64 ρ s)
noncomputable def F_paper_of (hh aa : D) : List (Option D) → Option Kv := fnP 3 11 3 (fun dd => sqO (sem1_paper_of hh aa dd) (sem2_paper_of hh aa dd))
theorem ok_paper_of (B : Bi K mg) (H_parts_of : HasFn P w K mg base 2 "parts_of" CT F_parts_of) (SB : SkB K mg) (H_skk : HasMM P w K mg base 35 (He.ga K "Seeker") "talk" (fun hh aa => (Sk K P w (He.ga K "Seeker") (RS hh aa) hh aa)) F_Seeker_talk) (H_init : ∃ fdi psi, FnOk P w K mg base (L2.CX P w) 1 (He.ma K (He.ga K "Seeker") "__init__") fdi psi (spI P w (He.ga K "Seeker")) ∧ Binds K fdi psi []) (H_all_words : HasFn P w K mg base 9 "all_words" CT F_all_words) (H_reason : ∀ hh aa, HasO P w K mg base 36 "reason" (Sk K P w (He.ga K "Seeker") (RS hh aa) hh aa) (F_reason hh aa)) {fa : Addr} {fd : FuncData} (FF : FunD K "paper_of" "paper_of" (defArgs s_paper_of) (defBody s_paper_of) (defScope s_paper_of) [] [] fa fd) (hm : mg "paper_of" = some (.ref fa)) : ∀ hh aa, HasP P w K mg base 37 "paper_of" (Sk K P w (He.ga K "Seeker") (RS hh aa) hh aa) (F_paper_of hh aa) := by
  intro hh aa
  obtain ⟨fdi, psi, F_init, hb_init⟩ := H_init
  have M_Seeker := SB.M
  have H_sk := fun hh aa => H_skk.at hh aa
  refine ⟨fa, fd, ["seeker", "rest", "many"], ?_, hm, FF.kp, FF.bindsN fun _ _ _ _ _ _ us hl => match us, hl with | [_, _, _], _ => rfl⟩
  have z := fn_defP (P := P) (w := w) (mg := mg) (base := base) (k := 36) (i := 3) (nm := "found") (N := ["seeker", "rest", "many", "found", "waiting", "here", "left", "why", "at", "hand", "word"]) (ps := ["seeker", "rest", "many"]) (C := (Sk K P w (He.ga K "Seeker") (RS hh aa) hh aa)) (g1 := sem1_paper_of hh aa) (g2 := sem2_paper_of hh aa) FF sc_paper_of Sk.dk rfl rfl (by decide) (h1 := fun cdv A outer s H E hr dd => (do_up (pk_c Sk.dk) (ds_own sc_paper_of.nd rfl (by first | exact Or.inl rfl | exact Or.inr rfl) (df_lst (da_cons (de_tup (da_cons (dv 1) (da_cons (dv 2) aNil))) aNil)))))
    (h2 := fun cdv A outer s H E hr dd => (do_while 64 (pk_c Sk.dk) (passes_of rfl) (dt_n (dvO 4)) (dos_cons (do_up (pk_c Sk.dk) (ds_popG 4 (dg_tup rfl (dgs_cons (dg_name (i := 5) sc_paper_of.nd rfl (by first | exact Or.inl rfl | exact Or.inr rfl)) (dgs_cons (dg_name (i := 6) sc_paper_of.nd rfl (by first | exact Or.inl rfl | exact Or.inr rfl)) dgs_nil)))))
  (dos_one (do_ifS (pk_a Sk.dk) (fun kvs => (dt_ninD (DkA.rr Sk.dk 3) (room10 hr) (de_tup (da_cons (dv 5) (da_cons (dv 6) aNil))))) (dos_cons (do_up (pk_c Sk.dk) (ds_set (i := 7) sc_paper_of.nd rfl (by first | exact Or.inl rfl | exact Or.inr rfl) (de_callO (H_reason hh aa) Sk.ok (hr.mono (by decide)) (dao_obj 0 (dao_dat (dv 5) (dao_dat (dv 6) dao_nil))))))
  (dos_cons (do_put (pk_put Sk.dk 3) (room10 hr) (pk_c Sk.dk) (de_tup (da_cons (dv 5) (da_cons (dv 6) aNil))) (dv 7))
  (dos_one (do_up (pk_c Sk.dk) (ds_if (dt_cmp (op_eqDD hr.units) (de_ix (dv 7) kI) kS (nomark _)) (dss_one (ds_for (passes_of rfl) rfl (di_zip rfl B.zip (de_callH H_all_words Sk.ok (hr.mono (by decide)) (da_cons (de_hall (i := 0) SB.c SB.nh) (da_cons (dv 5) aNil))) (de_ix (dv 7) kI)) (dg_tup rfl (dgs_cons (dg_tup rfl (dgs_cons (dg_name (i := 9) sc_paper_of.nd rfl (by first | exact Or.inl rfl | exact Or.inr rfl)) (dgs_cons (dg_name (i := 10) sc_paper_of.nd rfl (by first | exact Or.inl rfl | exact Or.inr rfl)) dgs_nil))) (dgs_cons (dg_name (i := 8) sc_paper_of.nd rfl (by first | exact Or.inl rfl | exact Or.inr rfl)) dgs_nil))) (dss_one (ds_append 4 (de_tup (da_cons (de_ix (de_callH H_parts_of Sk.ok (hr.mono (by decide)) (da_cons (de_hall (i := 0) SB.c SB.nh) (da_cons (dv 5) (da_cons (dv 9) (da_cons (dv 10) aNil))))) (dv 8)) (da_cons (de_op op_subD (dv 6) kI) aNil))))))) dss_nil))))) dos_nil)))))
  exact z
theorem sc_paper : FnScope ["hall", "aim", "many", "seeker", "found", "rest", "left"] ["hall", "aim", "many"] (defScope s_paper) := ⟨rfl, rfl, rfl, by decide +kernel, rfl, by decide +kernel, by decide +kernel⟩
def sem_paper : Ro → Option Out :=
  (sq (exS (callX F_look_aim (consD (rdS 0) (consD (rdS 1) eNil))) fun _ ρ => some (.nx ρ))
  (sq (exS (callX F_look_count (consD (rdS 2) eNil)) fun _ ρ => some (.nx ρ))
  (newS 3 (consD (rdS 0) (consD (rdS 1) eNil)) (fun hh aa => (sq (ifS (asB (bi dNotN (callM 3 (F_Seeker_talk hh aa) (consD (callF F_all_worlds (consD (rdS 0) eNil)) (consD (rdS 2) eNil))) cN)) (rai ⟨"Kept", none⟩) nxt)
  (papS 4 (F_paper_of hh aa) (oObj 3 (oDat (callF F_all_worlds (consD (rdS 0) eNil)) (oDat (rdS 2) oNil)))
  (fun kvs => (ret (asL (lc [5, 6] (asItm (asL (srtN (isXn 4) kvs))) (bT 2 (bCons (bN 5) (bCons (bN 6) bNil))) yes (mkT (consD (rdS 5) (consD (rdS 6) (consD (gtD (isXn 4) kvs (mkT (consD (rdS 5) (consD (rdS 6) eNil)))) eNil))))))))))))))
def F_paper : List D → Option Res := fnD 3 7 sem_paper
theorem fn_paper (B : Bi K mg) (H_all_worlds : HasFn P w K mg base 1 "all_worlds" CT F_all_worlds) (H_look_aim : HasFn P w K mg base 5 "look_aim" CT F_look_aim) (SB : SkB K mg) (H_skk : HasMM P w K mg base 35 (He.ga K "Seeker") "talk" (fun hh aa => (Sk K P w (He.ga K "Seeker") (RS hh aa) hh aa)) F_Seeker_talk) (H_init : ∃ fdi psi, FnOk P w K mg base (L2.CX P w) 1 (He.ma K (He.ga K "Seeker") "__init__") fdi psi (spI P w (He.ga K "Seeker")) ∧ Binds K fdi psi []) (H_look_count : HasFn P w K mg base 2 "look_count" CT F_look_count) (H_paper_of : ∀ hh aa, HasP P w K mg base 37 "paper_of" (Sk K P w (He.ga K "Seeker") (RS hh aa) hh aa) (F_paper_of hh aa)) {fa : Addr} {fd : FuncData} (FF : FunD K "paper" "paper" (defArgs s_paper) (defBody s_paper) (defScope s_paper) [] [] fa fd) : FnOk P w K mg base (L2.CX P w) 38 fa fd ["hall", "aim", "many"] (spD K CT F_paper) := by
  obtain ⟨fdi, psi, F_init, hb_init⟩ := H_init
  have M_Seeker := SB.M
  have H_sk := fun hh aa => H_skk.at hh aa
  refine fn_def (k := 37) FF sc_paper fun cdv A outer s H E hr => ?_
  exact (dss_cons (dsx_expr (dx_callH (takes_of rfl rfl rfl rfl) H_look_aim CtxOk.all (hr.mono (by decide)) (da_cons (dv 0) (da_cons (dv 1) aNil))))
  (dss_cons (dsx_expr (dx_callH (takes_of rfl rfl rfl rfl) H_look_count CtxOk.all (hr.mono (by decide)) (da_cons (dv 2) aNil)))
  (dss_new (i := 3) (R := RS) sc_paper.nd rfl (by first | exact Or.inl rfl | exact Or.inr rfl) M_Seeker F_init hb_init SB.mg (hr.mono (by decide)) (da_cons (dv 0) (da_cons (dv 1) aNil)) (fun hh aa => (dss_cons (ds_if (dt_cmp op_notND (de_meth (i := 3) (H_sk hh aa) SB.c (hr.mono (by decide)) (da_cons (de_callH H_all_worlds Sk.ok (hr.mono (by decide)) (da_cons (dv 0) aNil)) (da_cons (dv 2) aNil))) kN (nomark _)) (dss_one (ds_raise (takes_of rfl rfl rfl rfl) rfl (B.x.ex "Kept" (by decide)) rfl)) dss_nil)
  (dss_pap (i := 4) sc_paper.nd rfl (by first | exact Or.inl rfl | exact Or.inr rfl) (H_paper_of hh aa) Sk.dk (hr.mono (by decide)) (dao_obj 3 (dao_dat (de_callH H_all_worlds Sk.ok (hr.mono (by decide)) (da_cons (dv 0) aNil)) (dao_dat (dv 2) dao_nil)))
  (fun kvs => (dss_one (ds_retN (de_n (df_de (df_lc (own := [("rest", 5), ("left", 6)]) Dz.ok rfl sc_paper.nd (di_any (df_de (df_sortN (Dz.rr 4) (by rfl) (have h65 := hu65 hr; h65) (by rfl) B.sorted))) (blkOk_by (by kernel_rfl)) (by decide) (fun _ _ _ _ _ => (dg_tup rfl (dgs_cons (dg_name (i := 5) sc_paper.nd rfl (by first | exact Or.inl rfl | exact Or.inr rfl)) (dgs_cons (dg_name (i := 6) sc_paper.nd rfl (by first | exact Or.inl rfl | exact Or.inr rfl)) dgs_nil)))) (fun _ _ _ _ _ => dts_nil) (fun _ _ _ _ _ => (de_tup (da_cons (dv 5) (da_cons (dv 6) (da_cons (de_getD (Dz.rr 4) (room10 hr) (de_tup (da_cons (dv 5) (da_cons (dv 6) aNil)))) aNil)))))))))))))))))
theorem ok_paper (B : Bi K mg) (H_all_worlds : HasFn P w K mg base 1 "all_worlds" CT F_all_worlds) (H_look_aim : HasFn P w K mg base 5 "look_aim" CT F_look_aim) (SB : SkB K mg) (H_skk : HasMM P w K mg base 35 (He.ga K "Seeker") "talk" (fun hh aa => (Sk K P w (He.ga K "Seeker") (RS hh aa) hh aa)) F_Seeker_talk) (H_init : ∃ fdi psi, FnOk P w K mg base (L2.CX P w) 1 (He.ma K (He.ga K "Seeker") "__init__") fdi psi (spI P w (He.ga K "Seeker")) ∧ Binds K fdi psi []) (H_look_count : HasFn P w K mg base 2 "look_count" CT F_look_count) (H_paper_of : ∀ hh aa, HasP P w K mg base 37 "paper_of" (Sk K P w (He.ga K "Seeker") (RS hh aa) hh aa) (F_paper_of hh aa)) {fa : Addr} {fd : FuncData} (FF : FunD K "paper" "paper" (defArgs s_paper) (defBody s_paper) (defScope s_paper) [] [] fa fd) (hm : mg "paper" = some (.ref fa)) : HasFn P w K mg base 38 "paper" CT F_paper :=
  ⟨fa, fd, ["hall", "aim", "many"], fn_paper B H_all_worlds H_look_aim SB H_skk H_init H_look_count H_paper_of FF, hm, FF.kp, FF.bindsN fun _ _ _ _ _ _ us hl => match us, hl with | [_, _, _], _ => rfl⟩
theorem sc_marks_in : FnScope ["word", "sign"] ["word"] (defScope s_marks_in) := ⟨rfl, rfl, rfl, by decide +kernel, rfl, by decide +kernel, by decide +kernel⟩
def sem_marks_in : Ro → Option Out :=
  (sq (ifS (tOrD (tNotD (asB (chn dLe dLe (cI 1) (un dLen (rdS 0)) (cI 8)))) (tru (asL (lc [1] (asItm (rdS 0)) (bN 1) (asB (bi dNin (rdS 1) (cS "0123"))) (rdS 1))))) (ret cN) nxt)
  (ret (asT (asItems (asL (lc [1] (asItm (rdS 0)) (bN 1) yes (bi dSIx (cS "0123") (rdS 1))))))))
def F_marks_in : List D → Option Res := fnD 1 2 sem_marks_in
theorem fn_marks_in (B : Bi K mg)  {fa : Addr} {fd : FuncData} (FF : FunD K "marks_in" "marks_in" (defArgs s_marks_in) (defBody s_marks_in) (defScope s_marks_in) [] [] fa fd) : FnOk P w K mg base (L2.CX P w) 1 fa fd ["word"] (spD K CT F_marks_in) := by
  obtain ⟨t_MOST_WORLDS, m_MOST_WORLDS⟩ := B.k_MOST_WORLDS
  obtain ⟨t_MARKS, m_MARKS⟩ := B.k_MARKS
  refine fn_def (k := 0) FF sc_marks_in fun cdv A outer s H E hr => ?_
  exact (dss_cons (ds_if (PW.pt (dw_or (dt_not (dt_chain op_leD op_leD kI (de_len rfl B.len (dv 0)) (gI m_MOST_WORLDS))) (dw_or1 (dt_n (de_n (df_de (df_lc (own := [("sign", 1)]) CtxOk.all rfl sc_marks_in.nd (di_any (dv 0)) (blkOk_by (by kernel_rfl)) (by decide) (fun _ _ _ _ _ => (dg_name (i := 1) sc_marks_in.nd rfl (by first | exact Or.inl rfl | exact Or.inr rfl))) (fun _ _ _ _ _ => (dts_one (dt_cmp (op_ninDD (have h65 := hu65 hr; h65)) (dv 1) (gS m_MARKS) (by rfl)))) (fun _ _ _ _ _ => (dv 1))))))))) (dss_one (ds_retN (de_n kN))) dss_nil)
  (dss_one (ds_retN (de_n (de_tuple rfl B.tuple (de_items (df_de (df_lc (own := [("sign", 1)]) CtxOk.all rfl sc_marks_in.nd (di_any (dv 0)) (blkOk_by (by kernel_rfl)) (by decide) (fun _ _ _ _ _ => (dg_name (i := 1) sc_marks_in.nd rfl (by first | exact Or.inl rfl | exact Or.inr rfl))) (fun _ _ _ _ _ => dts_nil) (fun _ _ _ _ _ => (de_six (gS m_MARKS) (dv 1)))))))))))
theorem ok_marks_in (B : Bi K mg)  {fa : Addr} {fd : FuncData} (FF : FunD K "marks_in" "marks_in" (defArgs s_marks_in) (defBody s_marks_in) (defScope s_marks_in) [] [] fa fd) (hm : mg "marks_in" = some (.ref fa)) : HasFn P w K mg base 1 "marks_in" CT F_marks_in :=
  ⟨fa, fd, ["word"], fn_marks_in B  FF, hm, FF.kp, FF.bindsN fun _ _ _ _ _ _ us hl => match us, hl with | [_], _ => rfl⟩
theorem sc_BadText_init : FnScope ["self", "line"] ["self", "line"] (defScope s_BadText_init) := ⟨rfl, rfl, rfl, by decide +kernel, rfl, by decide +kernel, by decide +kernel⟩
theorem ok_BadText_init (T : BtC K mg) {gi : FuncData} (FFi : FunD K "__init__" "BadText.__init__" (defArgs s_BadText_init) (defBody s_BadText_init) (defScope s_BadText_init) [] [] (He.ma K (He.ga K "BadText") "__init__") gi) : ∃ fd, FnOk P w K mg base (L2.CX P w) 1 (He.ma K (He.ga K "BadText") "__init__") fd ["self", "line"] (spB K (He.ga K "BadText")) ∧ Binds K fd ["self", "line"] [] :=
  ⟨gi, fn_btinit (k := 0) FFi sc_BadText_init rfl rfl T (fun _ _ => rfl) (fun _ => ⟨_, rfl⟩), FFi.bindsN fun _ _ _ _ _ _ us hl => match us, hl with | [_, _], _ => rfl⟩
theorem sc_read_hall : FnScope ["text", "views", "found", "number", "line", "words", "marks"] ["text"] (defScope s_read_hall) := ⟨rfl, rfl, rfl, by decide +kernel, rfl, by decide +kernel, by decide +kernel⟩
def sem_read_hall : Ro → Option Out :=
  (sq (ifS (tNotD (tru (toB isS (rdS 0)))) (raiL cN) nxt)
  (sq (setO 1 (mkL eNil))
  (sq (forS (enu (bi dSplit (rdS 0) (cS "\n"))) (bT 2 (bCons (bN 3) (bCons (bN 4) bNil))) (sq (setS 5 (bi dSplit (rdS 4) (cS " ")))
  (sq (setS 6 (vIf (tAndD (asB (bi dEq (un dLen (rdS 5)) (cI 2))) (asB (bi dEq (bi dIx (rdS 5) (cI 0)) (cS "hand")))) (callF F_marks_in (consD (bi dIx (rdS 5) (cI 1)) eNil)) cN))
  (sq (ifS (asB (bi dIsN (rdS 6) cN)) (raiL (rdS 3)) nxt)
  (appS 1 (rdS 6))))))
  (sq (setS 2 (mkT (consD (un dLen (ixL (rdO 1) (cI 0))) (consD (asT (rdO 1)) eNil))))
  (sq (ifS (tNotD (tru (callF F_is_hall (consD (rdS 2) eNil)))) (raiL cN) nxt)
  (ret (rdS 2)))))))
def F_read_hall : List D → Option Res := fnD 1 7 sem_read_hall
theorem fn_read_hall (B : Bi K mg) (H_is_hall : HasFn P w K mg base 3 "is_hall" CT F_is_hall) (H_marks_in : HasFn P w K mg base 1 "marks_in" CT F_marks_in) (H_bt : ∃ fd, FnOk P w K mg base (L2.CX P w) 1 (He.ma K (He.ga K "BadText") "__init__") fd ["self", "line"] (spB K (He.ga K "BadText")) ∧ Binds K fd ["self", "line"] []) {fa : Addr} {fd : FuncData} (FF : FunD K "read_hall" "read_hall" (defArgs s_read_hall) (defBody s_read_hall) (defScope s_read_hall) [] [] fa fd) : FnOk P w K mg base (L2.CX P w) 4 fa fd ["text"] (spD K CT F_read_hall) := by
  refine fn_def (k := 3) FF sc_read_hall fun cdv A outer s H E hr => ?_
  exact (dss_cons (ds_if (dt_not (dt_n (de_n (de_isi kit_str (by decide +kernel) rfl B.isinstance rfl B.str (dv 0))))) (dss_one (ds_raiseL (takes_of rfl rfl rfl rfl) rfl B.bt H_bt (hr.mono (by decide)) kN)) dss_nil)
  (dss_cons (ds_own sc_read_hall.nd rfl (by first | exact Or.inl rfl | exact Or.inr rfl) (df_lst aNil))
  (dss_cons (ds_for (passes_of rfl) rfl (di_enum rfl B.enumerate (de_split (dv 0) kS)) (dg_tup rfl (dgs_cons (dg_name (i := 3) sc_read_hall.nd rfl (by first | exact Or.inl rfl | exact Or.inr rfl)) (dgs_cons (dg_name (i := 4) sc_read_hall.nd rfl (by first | exact Or.inl rfl | exact Or.inr rfl)) dgs_nil))) (dss_cons (ds_set (i := 5) sc_read_hall.nd rfl (by first | exact Or.inl rfl | exact Or.inr rfl) (de_split (dv 4) kS))
  (dss_cons (ds_set (i := 6) sc_read_hall.nd rfl (by first | exact Or.inl rfl | exact Or.inr rfl) (de_ifExp (PW.pt (dw_and (dt_cmp (op_eqDD hr.units) (de_len rfl B.len (dv 5)) kI (nomark _)) (dw_and1 (dt_cmp (op_eqDD hr.units) (de_ix (dv 5) kI) kS (nomark _))))) (de_callH H_marks_in CtxOk.all (hr.mono (by decide)) (da_cons (de_ix (dv 5) kI) aNil)) kN))
  (dss_cons (ds_if (dt_cmp op_isND (dv 6) kN (nomark _)) (dss_one (ds_raiseL (takes_of rfl rfl rfl rfl) rfl B.bt H_bt (hr.mono (by decide)) (dv 3))) dss_nil)
  (dss_one (ds_append 1 (dv 6)))))))
  (dss_cons (ds_set (i := 2) sc_read_hall.nd rfl (by first | exact Or.inl rfl | exact Or.inr rfl) (de_tup (da_cons (de_len rfl B.len (de_ixL (dvL 1) kI)) (da_cons (de_tuple rfl B.tuple (dvL 1)) aNil))))
  (dss_cons (ds_if (dt_not (dt_n (de_n (de_callH H_is_hall CtxOk.all (hr.mono (by decide)) (da_cons (dv 2) aNil))))) (dss_one (ds_raiseL (takes_of rfl rfl rfl rfl) rfl B.bt H_bt (hr.mono (by decide)) kN)) dss_nil)
  (dss_one (ds_retN (de_n (dv 2)))))))))
theorem ok_read_hall (B : Bi K mg) (H_is_hall : HasFn P w K mg base 3 "is_hall" CT F_is_hall) (H_marks_in : HasFn P w K mg base 1 "marks_in" CT F_marks_in) (H_bt : ∃ fd, FnOk P w K mg base (L2.CX P w) 1 (He.ma K (He.ga K "BadText") "__init__") fd ["self", "line"] (spB K (He.ga K "BadText")) ∧ Binds K fd ["self", "line"] []) {fa : Addr} {fd : FuncData} (FF : FunD K "read_hall" "read_hall" (defArgs s_read_hall) (defBody s_read_hall) (defScope s_read_hall) [] [] fa fd) (hm : mg "read_hall" = some (.ref fa)) : HasFn P w K mg base 4 "read_hall" CT F_read_hall :=
  ⟨fa, fd, ["text"], fn_read_hall B H_is_hall H_marks_in H_bt FF, hm, FF.kp, FF.bindsN fun _ _ _ _ _ _ us hl => match us, hl with | [_], _ => rfl⟩
theorem sc_shrunk : FnScope ["hall", "world", "view"] ["hall", "world"] (defScope s_shrunk) := ⟨rfl, rfl, rfl, by decide +kernel, rfl, by decide +kernel, by decide +kernel⟩
def sem_shrunk : Ro → Option Out :=
  (sq (exS (callX F_look (consD (rdS 0) eNil)) fun _ ρ => some (.nx ρ))
  (sq (ifS (tOrD (tNotD (tru (callF F_is_within (consD (rdS 1) (consD (cI 0) (consD (bi dSub (bi dIx (rdS 0) (cI 0)) (cI 1)) eNil)))))) (asB (bi dEq (bi dIx (rdS 0) (cI 0)) (cI 1)))) (rai ⟨"BadWorld", none⟩) nxt)
  (ret (mkT (consD (bi dSub (bi dIx (rdS 0) (cI 0)) (cI 1)) (consD (asT (asItems (asL (lc [2] (asItm (bi dIx (rdS 0) (cI 1))) (bN 2) yes (bi dAdd (slc (rdS 2) oNone (asI (rdS 1))) (slc (rdS 2) (asI (bi dAdd (rdS 1) (cI 1))) oNone)))))) eNil))))))
def F_shrunk : List D → Option Res := fnD 2 3 sem_shrunk
theorem fn_shrunk (B : Bi K mg) (H_is_within : HasFn P w K mg base 1 "is_within" CT F_is_within) (H_look : HasFn P w K mg base 4 "look" CT F_look) {fa : Addr} {fd : FuncData} (FF : FunD K "shrunk" "shrunk" (defArgs s_shrunk) (defBody s_shrunk) (defScope s_shrunk) [] [] fa fd) : FnOk P w K mg base (L2.CX P w) 5 fa fd ["hall", "world"] (spD K CT F_shrunk) := by
  refine fn_def (k := 4) FF sc_shrunk fun cdv A outer s H E hr => ?_
  exact (dss_cons (dsx_expr (dx_callH (takes_of rfl rfl rfl rfl) H_look CtxOk.all (hr.mono (by decide)) (da_cons (dv 0) aNil)))
  (dss_cons (ds_if (PW.pt (dw_or (dt_not (dt_n (de_n (de_callH H_is_within CtxOk.all (hr.mono (by decide)) (da_cons (dv 1) (da_cons kI (da_cons (de_op op_subD (de_ix (dv 0) kI) kI) aNil))))))) (dw_or1 (dt_cmp (op_eqDD hr.units) (de_ix (dv 0) kI) kI (nomark _))))) (dss_one (ds_raise (takes_of rfl rfl rfl rfl) rfl (B.x.ex "BadWorld" (by decide)) rfl)) dss_nil)
  (dss_one (ds_retN (de_n (de_tup (da_cons (de_op op_subD (de_ix (dv 0) kI) kI) (da_cons (de_tuple rfl B.tuple (de_items (df_de (df_lc (own := [("view", 2)]) CtxOk.all rfl sc_shrunk.nd (di_any (de_ix (dv 0) kI)) (blkOk_by (by kernel_rfl)) (by decide) (fun _ _ _ _ _ => (dg_name (i := 2) sc_shrunk.nd rfl (by first | exact Or.inl rfl | exact Or.inr rfl))) (fun _ _ _ _ _ => dts_nil) (fun _ _ _ _ _ => (de_op op_addD (de_slice (dv 2) oN (do_some (dv 1))) (de_slice (dv 2) (do_some (de_op op_addD (dv 1) kI)) oN))))))) aNil))))))))
theorem ok_shrunk (B : Bi K mg) (H_is_within : HasFn P w K mg base 1 "is_within" CT F_is_within) (H_look : HasFn P w K mg base 4 "look" CT F_look) {fa : Addr} {fd : FuncData} (FF : FunD K "shrunk" "shrunk" (defArgs s_shrunk) (defBody s_shrunk) (defScope s_shrunk) [] [] fa fd) (hm : mg "shrunk" = some (.ref fa)) : HasFn P w K mg base 5 "shrunk" CT F_shrunk :=
  ⟨fa, fd, ["hall", "world"], fn_shrunk B H_is_within H_look FF, hm, FF.kp, FF.bindsN fun _ _ _ _ _ _ us hl => match us, hl with | [_, _], _ => rfl⟩
theorem sc_z_law_cell : FnScope ["script", "k"] ["script", "k"] (defScope s_z_law_cell) := ⟨rfl, rfl, rfl, by decide +kernel, rfl, by decide +kernel, by decide +kernel⟩
def sem_z_law_cell : Ro → Option Out :=
  (sq (ifS (asB (bi dLt (rdS 1) (un dLen (rdS 0)))) (ret (bi dIx (rdS 0) (rdS 1))) nxt)
  (ret (cI 0)))
def F_z_law_cell : List D → Option Res := fnD 2 2 sem_z_law_cell
theorem fn_z_law_cell (B : Bi K mg)  {fa : Addr} {fd : FuncData} (FF : FunD K "_law_cell" "_law_cell" (defArgs s_z_law_cell) (defBody s_z_law_cell) (defScope s_z_law_cell) [] [] fa fd) : FnOk P w K mg base (L2.CX P w) 1 fa fd ["script", "k"] (spD K CT F_z_law_cell) := by
  refine fn_def (k := 0) FF sc_z_law_cell fun cdv A outer s H E hr => ?_
  exact (dss_cons (ds_if (dt_cmp op_ltD (dv 1) (de_len rfl B.len (dv 0)) (nomark _)) (dss_one (ds_retN (de_n (de_ix (dv 0) (dv 1))))) dss_nil)
  (dss_one (ds_retN (de_n kI))))
theorem ok_z_law_cell (B : Bi K mg)  {fa : Addr} {fd : FuncData} (FF : FunD K "_law_cell" "_law_cell" (defArgs s_z_law_cell) (defBody s_z_law_cell) (defScope s_z_law_cell) [] [] fa fd) (hm : mg "_law_cell" = some (.ref fa)) : HasFn P w K mg base 1 "_law_cell" CT F_z_law_cell :=
  ⟨fa, fd, ["script", "k"], fn_z_law_cell B  FF, hm, FF.kp, FF.bindsN fun _ _ _ _ _ _ us hl => match us, hl with | [_, _], _ => rfl⟩
structure SeB (K : PySem.W.Frag) (mg : Str → Option Value) : Prop where
  c : Cls K (He.ga K "Session")
  nh : NoAttr K (He.ga K "Session") "hall"
  nt : NoAttr K (He.ga K "Session") "true"
  ne : NoAttr K (He.ga K "Session") "here"
  ns : NoAttr K (He.ga K "Session") "said"
  nb : NoAttr K (He.ga K "Session") "before"
  mg : mg "Session" = some (.ref (He.ga K "Session"))
  M : Mk K (He.ga K "Session") (He.ma K (He.ga K "Session") "__init__")
  m_back : Meth K (He.ga K "Session") "back" (He.ma K (He.ga K "Session") "back")
theorem sc_Session_init : FnScope ["self", "hall", "world"] ["self", "hall", "world"] (defScope s_Session_init) := ⟨rfl, rfl, rfl, by decide +kernel, rfl, by decide +kernel, by decide +kernel⟩
def F_Session_init : D → D → Option (Sum (D × D × D) Exn) := finI (exS (callX F_look (consD (rdS 1) eNil)) fun _ ρ => some (.nx ρ))
  (ifS (tNotD (tru (callF F_is_within (consD (rdS 2) (consD (cI 0) (consD (bi dSub (bi dIx (rdS 1) (cI 0)) (cI 1)) eNil)))))) (rai ⟨"BadWorld", none⟩) nxt) F_all_worlds
theorem sc_Session_back : FnScope ["self", "found"] ["self"] (defScope s_Session_back) := ⟨rfl, rfl, rfl, by decide +kernel, rfl, by decide +kernel, by decide +kernel⟩
def sem_Session_back : Ro → SS → Option (Ou SS) :=
  (sqO (upS (fun s => (ifS (tNotD (tru (fldS 0 3 (sfl s)))) (rai ⟨"Nothing", none⟩) nxt)))
  (sqO (bpop 0 2)
  (sqO (upS (fun s => (setS 1 (bi dIx (fldS 0 3 (sfl s)) (vNeg (cI 1))))))
  (sqO (fsetZ 0 3 sfl sup (fun s => (nSl (fldS 0 3 (sfl s)) oNone (asI (vNeg (cI 1))))))
  (upS (fun s => (ret (rdS 1))))))))
def F_Session_back : List (Option D) → SS → Option (Res × SS) := fnS 1 2 sem_Session_back
theorem ok_Session_init (B : Bi K mg) (ZB : SeB K mg) (H_is_within : HasFn P w K mg base 1 "is_within" CT F_is_within) (H_look : HasFn P w K mg base 4 "look" CT F_look) (H_all_worlds : HasFn P w K mg base 1 "all_worlds" CT F_all_worlds) {gi : FuncData} (FFi : FunD K "__init__" "Session.__init__" (defArgs s_Session_init) (defBody s_Session_init) (defScope s_Session_init) [] [] (He.ma K (He.ga K "Session") "__init__") gi) : ∃ fdi psi, FnOk P w K mg base (L2.CX P w) 5 (He.ma K (He.ga K "Session") "__init__") fdi psi (spSI K (He.ga K "Session") F_Session_init) ∧ Binds K fdi psi [] := by
  exact ⟨gi, ["self", "hall", "world"], fn_sesinit (k := 4) FFi sc_Session_init (fun cdv A outer s H E hr => ⟨(dsx_expr (dx_callH (takes_of rfl rfl rfl rfl) H_look OS.ok (hr.mono (by decide)) (da_cons (dv 1) aNil))), (ds_if (dt_not (dt_n (de_n (de_callH H_is_within OS.ok (hr.mono (by decide)) (da_cons (dv 2) (da_cons kI (da_cons (de_op op_subD (de_ix (dv 1) kI) kI) aNil))))))) (dss_one (ds_raise (takes_of rfl rfl rfl rfl) rfl (B.x.ex "BadWorld" (by decide)) rfl)) dss_nil), by refine pss_tail ZB.c ZB.nh ZB.nt ZB.ne ZB.ns ZB.nb H_all_worlds (hr.mono (by decide)) ?_ ?_ ?_ ?_ ?_ ?_ ?_ ?_ ?_ ?_ ?_ ?_ ?_ ?_ <;> first | rfl | exact .inl rfl⟩), FFi.bindsN fun _ _ _ _ _ _ us hl => match us, hl with | [_, _, _], _ => rfl⟩
theorem ok_Session_back (B : Bi K mg) (ZB : SeB K mg) (H_is_within : HasFn P w K mg base 1 "is_within" CT F_is_within) (H_look : HasFn P w K mg base 4 "look" CT F_look) (H_all_worlds : HasFn P w K mg base 1 "all_worlds" CT F_all_worlds) {gm : FuncData} (FFm : FunD K "back" "Session.back" (defArgs s_Session_back) (defBody s_Session_back) (defScope s_Session_back) [] [] (He.ma K (He.ga K "Session") "back") gm) : HasMS P w K mg base 5 (He.ga K "Session") "back" (SeF K (He.ga K "Session")) F_Session_back := by
  refine ⟨_, gm, ["self"], ?_, ZB.m_back, FFm.bindsN fun _ _ _ _ _ _ us hl => match us, hl with | [_], _ => rfl⟩
  refine fn_defS (k := 4) FFm sc_Session_back fun cdv A outer s H E hr => ?_
  exact (dos_cons (do_upS stc_of (fun s => (ds_if (dt_not (dt_n (de_n (deG_fld (i := 0) (k := 3) SeF.ctx SeF.o ZB.c ZB.ns rfl)))) (dss_one (ds_raise (takes_of rfl rfl rfl rfl) rfl (B.x.ex "Nothing" (by decide)) rfl)) dss_nil)))
  (dos_cons (do_bpop (i := 0) (k := 2) ZB.c ZB.nb ZB.ne rfl)
  (dos_cons (do_upS stc_of (fun s => (ds_set (i := 1) sc_Session_back.nd rfl (by first | exact Or.inl rfl | exact Or.inr rfl) (de_ix (deG_fld (i := 0) (k := 3) SeF.ctx SeF.o ZB.c ZB.ns rfl) (de_neg kI)))))
  (dos_cons (doG_fsetZ (i := 0) (k := 3) (by decide) SeF.ctx SeF.o ZB.c ZB.ns rfl (fun s => (df_slice (deG_fld (i := 0) (k := 3) SeF.ctx SeF.o ZB.c ZB.ns rfl) oN (do_some (de_neg kI)))))
  (dos_one (do_upS stc_of (fun s => (ds_retN (de_n (dv 1))))))))))
theorem sc_z_law_refused_by : FnScope ["way", "hall"] ["way"] (defScope s_z_law_refused_by) := ⟨rfl, rfl, rfl, by decide +kernel, rfl, by decide +kernel, by decide +kernel⟩
def sem_z_law_refused_by : Ro → Option Out :=
  (sq (setS 1 (mkT (consD (cI 2) (consD (mkT (consD (mkT (consD (cI 0) (consD (cI 1) eNil))) (consD (mkT (consD (cI 0) (consD (cI 0) eNil))) eNil))) eNil))))
  (sq (ifS (asB (bi dEq (rdS 0) (cI 0))) (exS (callX F_cells (consD cN (consD (mkT (consD (cI 0) eNil)) (consD (cI 0) eNil)))) fun d _ => some (.rt d)) nxt)
  (sq (ifS (asB (bi dEq (rdS 0) (cI 1))) (exS (callX F_cells (consD (rdS 1) (consD (mkT eNil) (consD (cI 0) eNil)))) fun d _ => some (.rt d)) nxt)
  (sq (ifS (asB (bi dEq (rdS 0) (cI 2))) (exS (callX F_cells (consD (rdS 1) (consD (mkT (consD (cI 0) eNil)) (consD (cI 2) eNil)))) fun d _ => some (.rt d)) nxt)
  (sq (ifS (asB (bi dEq (rdS 0) (cI 3))) (exS (callX F_parts (consD (rdS 1) (consD (mkT (consD (cI 0) (consD (cI 1) eNil))) (consD (cI 1) (consD (mkT (consD (mkT (consD (cI 0) eNil)) (consD (mkT (consD (cI 1) eNil)) eNil))) eNil))))) fun d _ => some (.rt d)) nxt)
  (sq (ifS (asB (bi dEq (rdS 0) (cI 4))) (exS (callX F_thought (consD (rdS 1) (consD (mkT (consD (cI 0) (consD (cI 1) eNil))) (consD (cI 1) (consD cN eNil))))) fun d _ => some (.rt d)) nxt)
  (sq (ifS (asB (bi dEq (rdS 0) (cI 5))) (exS (callX F_deep (consD (rdS 1) (consD (mkT (consD (cI 0) (consD (cI 1) eNil))) (consD (mkT (consD (cI 0) (consD (cI 0) eNil))) (consD (cI 0) eNil))))) fun d _ => some (.rt d)) nxt)
  (sq (ifS (asB (bi dEq (rdS 0) (cI 6))) (exS (callX F_best (consD (rdS 1) (consD cN eNil))) fun d _ => some (.rt d)) nxt)
  (sq (ifS (asB (bi dEq (rdS 0) (cI 7))) (exS (callX F_ends (consD (rdS 1) (consD cN eNil))) fun d _ => some (.rt d)) nxt)
  (sq (ifS (asB (bi dEq (rdS 0) (cI 8))) (exS (callX F_shrunk (consD (rdS 1) (consD (cI 2) eNil))) fun d _ => some (.rt d)) nxt)
  (sq (ifS (asB (bi dEq (rdS 0) (cI 9))) (exS (callX F_paper (consD (rdS 1) (consD (mkT eNil) (consD (cI 0) eNil)))) fun d _ => some (.rt d)) nxt)
  (exS (vIf (asB (bi dEq (rdS 0) (cI 10))) (callX F_read_hall (consD (cS "hand 0\nhand x") eNil)) (sesM F_Session_init (consD (rdS 1) (consD (cI 0) eNil)) F_Session_back)) fun d _ => some (.rt d)))))))))))))
def F_z_law_refused_by : List D → Option Res := fnD 1 2 sem_z_law_refused_by
theorem fn_z_law_refused_by (B : Bi K mg) (H_cells : HasFn P w K mg base 6 "cells" CT F_cells) (H_thought : HasFn P w K mg base 7 "thought" CT F_thought) (H_deep : HasFn P w K mg base 6 "deep" CT F_deep) (H_parts : HasFn P w K mg base 11 "parts" CT F_parts) (H_ends : HasFn P w K mg base 18 "ends" CT F_ends) (H_best : HasFn P w K mg base 36 "best" CT F_best) (H_paper : HasFn P w K mg base 38 "paper" CT F_paper) (H_read_hall : HasFn P w K mg base 4 "read_hall" CT F_read_hall) (H_shrunk : HasFn P w K mg base 5 "shrunk" CT F_shrunk) (ZB : SeB K mg) (H_zinit : ∃ fdi psi, FnOk P w K mg base (L2.CX P w) 5 (He.ma K (He.ga K "Session") "__init__") fdi psi (spSI K (He.ga K "Session") F_Session_init) ∧ Binds K fdi psi []) (H_zback : HasMS P w K mg base 5 (He.ga K "Session") "back" (SeF K (He.ga K "Session")) F_Session_back) {fa : Addr} {fd : FuncData} (FF : FunD K "_law_refused_by" "_law_refused_by" (defArgs s_z_law_refused_by) (defBody s_z_law_refused_by) (defScope s_z_law_refused_by) [] [] fa fd) : FnOk P w K mg base (L2.CX P w) 39 fa fd ["way"] (spD K CT F_z_law_refused_by) := by
  obtain ⟨fdz, psz, F_zinit, hb_zinit⟩ := H_zinit
  refine fn_def (k := 38) FF sc_z_law_refused_by fun cdv A outer s H E hr => ?_
  exact (dss_cons (ds_set (i := 1) sc_z_law_refused_by.nd rfl (by first | exact Or.inl rfl | exact Or.inr rfl) (de_tup (da_cons kI (da_cons (de_tup (da_cons (de_tup (da_cons kI (da_cons kI aNil))) (da_cons (de_tup (da_cons kI (da_cons kI aNil))) aNil))) aNil))))
  (dss_cons (ds_if (dt_cmp (op_eqDD hr.units) (dv 0) kI (nomark _)) (dss_one (dsx_ret (dx_callH (takes_of rfl rfl rfl rfl) H_cells CtxOk.all (hr.mono (by decide)) (da_cons kN (da_cons (de_tup (da_cons kI aNil)) (da_cons kI aNil)))))) dss_nil)
  (dss_cons (ds_if (dt_cmp (op_eqDD hr.units) (dv 0) kI (nomark _)) (dss_one (dsx_ret (dx_callH (takes_of rfl rfl rfl rfl) H_cells CtxOk.all (hr.mono (by decide)) (da_cons (dv 1) (da_cons (de_tup aNil) (da_cons kI aNil)))))) dss_nil)
  (dss_cons (ds_if (dt_cmp (op_eqDD hr.units) (dv 0) kI (nomark _)) (dss_one (dsx_ret (dx_callH (takes_of rfl rfl rfl rfl) H_cells CtxOk.all (hr.mono (by decide)) (da_cons (dv 1) (da_cons (de_tup (da_cons kI aNil)) (da_cons kI aNil)))))) dss_nil)
  (dss_cons (ds_if (dt_cmp (op_eqDD hr.units) (dv 0) kI (nomark _)) (dss_one (dsx_ret (dx_callH (takes_of rfl rfl rfl rfl) H_parts CtxOk.all (hr.mono (by decide)) (da_cons (dv 1) (da_cons (de_tup (da_cons kI (da_cons kI aNil))) (da_cons kI (da_cons (de_tup (da_cons (de_tup (da_cons kI aNil)) (da_cons (de_tup (da_cons kI aNil)) aNil))) aNil))))))) dss_nil)
  (dss_cons (ds_if (dt_cmp (op_eqDD hr.units) (dv 0) kI (nomark _)) (dss_one (dsx_ret (dx_callH (takes_of rfl rfl rfl rfl) H_thought CtxOk.all (hr.mono (by decide)) (da_cons (dv 1) (da_cons (de_tup (da_cons kI (da_cons kI aNil))) (da_cons kI (da_cons kN aNil))))))) dss_nil)
  (dss_cons (ds_if (dt_cmp (op_eqDD hr.units) (dv 0) kI (nomark _)) (dss_one (dsx_ret (dx_callH (takes_of rfl rfl rfl rfl) H_deep CtxOk.all (hr.mono (by decide)) (da_cons (dv 1) (da_cons (de_tup (da_cons kI (da_cons kI aNil))) (da_cons (de_tup (da_cons kI (da_cons kI aNil))) (da_cons kI aNil))))))) dss_nil)
  (dss_cons (ds_if (dt_cmp (op_eqDD hr.units) (dv 0) kI (nomark _)) (dss_one (dsx_ret (dx_callH (takes_of rfl rfl rfl rfl) H_best CtxOk.all (hr.mono (by decide)) (da_cons (dv 1) (da_cons kN aNil))))) dss_nil)
  (dss_cons (ds_if (dt_cmp (op_eqDD hr.units) (dv 0) kI (nomark _)) (dss_one (dsx_ret (dx_callH (takes_of rfl rfl rfl rfl) H_ends CtxOk.all (hr.mono (by decide)) (da_cons (dv 1) (da_cons kN aNil))))) dss_nil)
  (dss_cons (ds_if (dt_cmp (op_eqDD hr.units) (dv 0) kI (nomark _)) (dss_one (dsx_ret (dx_callH (takes_of rfl rfl rfl rfl) H_shrunk CtxOk.all (hr.mono (by decide)) (da_cons (dv 1) (da_cons kI aNil))))) dss_nil)
  (dss_cons (ds_if (dt_cmp (op_eqDD hr.units) (dv 0) kI (nomark _)) (dss_one (dsx_ret (dx_callH (takes_of rfl rfl rfl rfl) H_paper CtxOk.all (hr.mono (by decide)) (da_cons (dv 1) (da_cons (de_tup aNil) (da_cons kI aNil)))))) dss_nil)
  (dss_one (dsx_ret (dx_ifExp (dt_cmp (op_eqDD hr.units) (dv 0) kI (nomark _)) (dx_callH (takes_of rfl rfl rfl rfl) H_read_hall CtxOk.all (hr.mono (by decide)) (da_cons kS aNil)) (dx_sesM (takes_of rfl rfl rfl rfl) ZB.M F_zinit hb_zinit ZB.mg (hr.mono (by decide)) (da_cons (dv 1) (da_cons kI aNil)) ZB.c H_zback (hr.mono (by decide)) (by decide))))))))))))))))
theorem ok_z_law_refused_by (B : Bi K mg) (H_cells : HasFn P w K mg base 6 "cells" CT F_cells) (H_thought : HasFn P w K mg base 7 "thought" CT F_thought) (H_deep : HasFn P w K mg base 6 "deep" CT F_deep) (H_parts : HasFn P w K mg base 11 "parts" CT F_parts) (H_ends : HasFn P w K mg base 18 "ends" CT F_ends) (H_best : HasFn P w K mg base 36 "best" CT F_best) (H_paper : HasFn P w K mg base 38 "paper" CT F_paper) (H_read_hall : HasFn P w K mg base 4 "read_hall" CT F_read_hall) (H_shrunk : HasFn P w K mg base 5 "shrunk" CT F_shrunk) (ZB : SeB K mg) (H_zinit : ∃ fdi psi, FnOk P w K mg base (L2.CX P w) 5 (He.ma K (He.ga K "Session") "__init__") fdi psi (spSI K (He.ga K "Session") F_Session_init) ∧ Binds K fdi psi []) (H_zback : HasMS P w K mg base 5 (He.ga K "Session") "back" (SeF K (He.ga K "Session")) F_Session_back) {fa : Addr} {fd : FuncData} (FF : FunD K "_law_refused_by" "_law_refused_by" (defArgs s_z_law_refused_by) (defBody s_z_law_refused_by) (defScope s_z_law_refused_by) [] [] fa fd) (hm : mg "_law_refused_by" = some (.ref fa)) : HasFn P w K mg base 39 "_law_refused_by" CT F_z_law_refused_by :=
  ⟨fa, fd, ["way"], fn_z_law_refused_by B H_cells H_thought H_deep H_parts H_ends H_best H_paper H_read_hall H_shrunk ZB H_zinit H_zback FF, hm, FF.kp, FF.bindsN fun _ _ _ _ _ _ us hl => match us, hl with | [_], _ => rfl⟩
theorem sc_law : FnScope ["script", "way", "found", "under", "field", "e", "at"] ["script"] (defScope s_law) := ⟨rfl, rfl, rfl, by decide +kernel, rfl, by decide +kernel, by decide +kernel⟩
def sem_law : Ro → Option Out :=
  (sq (setS 1 (bi dMod (callF F_z_law_cell (consD (rdS 0) (consD (cI 0) eNil))) (cI 12)))
  (sq (setS 2 (asL (mkL eNil)))
  (sq (setS 3 (cB false))
  (sq (setS 4 (cS "none"))
  (sq (tryS (knl xcl) (fun z => subc z "HallError") 5 (exS (callX F_z_law_refused_by (consD (rdS 1) eNil)) fun _ ρ => some (.nx ρ)) (fun y => (sq (setS 2 (asL (mkL (consD (isE 5 (subc y.cls "BadHall")) (consD (isE 5 (subc y.cls "BadRest")) (consD (isE 5 (subc y.cls "BadHand")) (consD (isE 5 (subc y.cls "BadWord")) eNil)))))))
  (sq (setS 2 (bi dAdd (rdS 2) (asL (mkL (consD (isE 5 (subc y.cls "BadQuestion")) (consD (isE 5 (subc y.cls "BadCount")) (consD (isE 5 (subc y.cls "BadAim")) eNil)))))))
  (sq (setS 2 (bi dAdd (rdS 2) (asL (mkL (consD (isE 5 (subc y.cls "BadTalk")) (consD (isE 5 (subc y.cls "BadWorld")) (consD (isE 5 (subc y.cls "Kept")) eNil)))))))
  (sq (setS 2 (bi dAdd (rdS 2) (asL (mkL (consD (isE 5 (subc y.cls "BadText")) (consD (isE 5 (subc y.cls "Nothing")) eNil))))))
  (sq (setS 3 (isE 5 true))
  (setS 4 (vIf (asB (bi dEq (rdS 1) (cI 10))) (lnE 5 y.line) (cS "none"))))))))))
  (ret (vAndD (rdS 3) (vAndD (bi dEq (rdS 4) (vIf (asB (bi dEq (rdS 1) (cI 10))) (cI 1) (cS "none"))) (bi dEq (rdS 2) (asL (lc [6] (rng1 (cI 12)) (bN 6) yes (bi dEq (rdS 6) (rdS 1)))))))))))))
def F_law : List D → Option Res := fnD 1 7 sem_law
theorem fn_law (B : Bi K mg) (H_z_law_cell : HasFn P w K mg base 1 "_law_cell" CT F_z_law_cell) (H_z_law_refused_by : HasFn P w K mg base 39 "_law_refused_by" CT F_z_law_refused_by) {fa : Addr} {fd : FuncData} (FF : FunD K "law" "law" (defArgs s_law) (defBody s_law) (defScope s_law) [] [] fa fd) : FnOk P w K mg base (L2.CX P w) 40 fa fd ["script"] (spD K CT F_law) := by
  refine fn_def (k := 39) FF sc_law fun cdv A outer s H E hr => ?_
  exact (dss_cons (ds_set (i := 1) sc_law.nd rfl (by first | exact Or.inl rfl | exact Or.inr rfl) (de_op op_modD (de_callH H_z_law_cell CtxOk.all (hr.mono (by decide)) (da_cons (dv 0) (da_cons kI aNil))) kI))
  (dss_cons (ds_set (i := 2) sc_law.nd rfl (by first | exact Or.inl rfl | exact Or.inr rfl) (de_lst aNil))
  (dss_cons (ds_set (i := 3) sc_law.nd rfl (by first | exact Or.inl rfl | exact Or.inr rfl) kB)
  (dss_cons (ds_set (i := 4) sc_law.nd rfl (by first | exact Or.inl rfl | exact Or.inr rfl) kS)
  (dss_cons (ds_try (i := 5) CtxEx.all rfl rfl sc_law.nd rfl rfl ⟨rfl, by decide, .inl (B.xl.gl "HallError" (by decide))⟩ (takes_of rfl rfl rfl rfl) (fun y hy => B.xl.exm _ (knl_mem hy) "HallError" (by decide)) (fun W1 pn1 xe1 tk1 hp1 => (dss_one (dsx_expr (dx_callH tk1 H_z_law_refused_by CtxOk.all (hr.mono (by decide)) (da_cons (dv 1) aNil))))) (fun a oe d y pn hy hz hv => (dss_cons (ds_set (i := 2) sc_law.nd rfl (by first | exact Or.inl rfl | exact Or.inr rfl) (de_lst (da_cons (de_isF 5 (B.xl.ec _ (knl_mem hy)) hz hv (B.xl.kit _ (knl_mem hy) "BadHall" (by decide)) rfl B.isinstance rfl (B.xl.gl "BadHall" (by decide))) (da_cons (de_isF 5 (B.xl.ec _ (knl_mem hy)) hz hv (B.xl.kit _ (knl_mem hy) "BadRest" (by decide)) rfl B.isinstance rfl (B.xl.gl "BadRest" (by decide))) (da_cons (de_isF 5 (B.xl.ec _ (knl_mem hy)) hz hv (B.xl.kit _ (knl_mem hy) "BadHand" (by decide)) rfl B.isinstance rfl (B.xl.gl "BadHand" (by decide))) (da_cons (de_isF 5 (B.xl.ec _ (knl_mem hy)) hz hv (B.xl.kit _ (knl_mem hy) "BadWord" (by decide)) rfl B.isinstance rfl (B.xl.gl "BadWord" (by decide))) aNil))))))
  (dss_cons (ds_set (i := 2) sc_law.nd rfl (by first | exact Or.inl rfl | exact Or.inr rfl) (de_op op_addD (dv 2) (de_lst (da_cons (de_isF 5 (B.xl.ec _ (knl_mem hy)) hz hv (B.xl.kit _ (knl_mem hy) "BadQuestion" (by decide)) rfl B.isinstance rfl (B.xl.gl "BadQuestion" (by decide))) (da_cons (de_isF 5 (B.xl.ec _ (knl_mem hy)) hz hv (B.xl.kit _ (knl_mem hy) "BadCount" (by decide)) rfl B.isinstance rfl (B.xl.gl "BadCount" (by decide))) (da_cons (de_isF 5 (B.xl.ec _ (knl_mem hy)) hz hv (B.xl.kit _ (knl_mem hy) "BadAim" (by decide)) rfl B.isinstance rfl (B.xl.gl "BadAim" (by decide))) aNil))))))
  (dss_cons (ds_set (i := 2) sc_law.nd rfl (by first | exact Or.inl rfl | exact Or.inr rfl) (de_op op_addD (dv 2) (de_lst (da_cons (de_isF 5 (B.xl.ec _ (knl_mem hy)) hz hv (B.xl.kit _ (knl_mem hy) "BadTalk" (by decide)) rfl B.isinstance rfl (B.xl.gl "BadTalk" (by decide))) (da_cons (de_isF 5 (B.xl.ec _ (knl_mem hy)) hz hv (B.xl.kit _ (knl_mem hy) "BadWorld" (by decide)) rfl B.isinstance rfl (B.xl.gl "BadWorld" (by decide))) (da_cons (de_isF 5 (B.xl.ec _ (knl_mem hy)) hz hv (B.xl.kit _ (knl_mem hy) "Kept" (by decide)) rfl B.isinstance rfl (B.xl.gl "Kept" (by decide))) aNil))))))
  (dss_cons (ds_set (i := 2) sc_law.nd rfl (by first | exact Or.inl rfl | exact Or.inr rfl) (de_op op_addD (dv 2) (de_lst (da_cons (de_isF 5 (B.xl.ec _ (knl_mem hy)) hz hv (B.xl.kit _ (knl_mem hy) "BadText" (by decide)) rfl B.isinstance rfl (B.xl.gl "BadText" (by decide))) (da_cons (de_isF 5 (B.xl.ec _ (knl_mem hy)) hz hv (B.xl.kit _ (knl_mem hy) "Nothing" (by decide)) rfl B.isinstance rfl (B.xl.gl "Nothing" (by decide))) aNil)))))
  (dss_cons (ds_set (i := 3) sc_law.nd rfl (by first | exact Or.inl rfl | exact Or.inr rfl) (de_isV 5 (Tn := "ValueError") (B.xl.ec _ (knl_mem hy)) hz hv (B.xv _ (knl_mem hy)) rfl B.isinstance rfl B.«ValueError» (by decide +kernel)))
  (dss_one (ds_set (i := 4) sc_law.nd rfl (by first | exact Or.inl rfl | exact Or.inr rfl) (de_ifExp (dt_cmp (op_eqDD hr.units) (dv 1) kI (nomark _)) (de_line 5 (B.xl.xf (knl_mem hy)) (B.xl.nl _ (knl_mem hy)) hz hv) kS))))))))))
  (dss_one (ds_retN (de_n (de_and (dv 3) (de_and (de_cmp (op_eqDD hr.units) (dv 4) (de_ifExp (dt_cmp (op_eqDD hr.units) (dv 1) kI (nomark _)) kI kS) (nomark _)) (de_and1 (de_cmp (op_eqDD hr.units) (dv 2) (df_de (df_lc (own := [("at", 6)]) CtxOk.all rfl sc_law.nd (di_range1 rfl B.range kI) (blkOk_by (by kernel_rfl)) (by decide) (fun _ _ _ _ _ => (dg_name (i := 6) sc_law.nd rfl (by first | exact Or.inl rfl | exact Or.inr rfl))) (fun _ _ _ _ _ => dts_nil) (fun _ _ _ _ _ => (de_cmp (op_eqDD hr.units) (dv 6) (dv 1) (nomark _))))) (nomark _)))))))))))))
end
end K23
namespace K23
open PySem PySem.Spec L2 DL
theorem r1 : F_z_law_refused_by [.int 1] = some (.exc ⟨"BadRest", none⟩) := by kernel_rfl
theorem r2 : F_z_law_refused_by [.int 2] = some (.exc ⟨"BadHand", none⟩) := by kernel_rfl
theorem r3 : F_z_law_refused_by [.int 3] = some (.exc ⟨"BadWord", none⟩) := by kernel_rfl
theorem r4 : F_z_law_refused_by [.int 4] = some (.exc ⟨"BadQuestion", none⟩) := by kernel_rfl
theorem r6 : F_z_law_refused_by [.int 6] = some (.exc ⟨"BadAim", none⟩) := by kernel_rfl
theorem r7 : F_z_law_refused_by [.int 7] = some (.exc ⟨"BadTalk", none⟩) := by kernel_rfl
theorem r10 : F_z_law_refused_by [.int 10] = some (.exc ⟨"BadText", some (.int 1)⟩) := by kernel_rfl
end K23
namespace K23
open PySem PySem.Spec L2 DL
def cellN (ns : List Int) (k : Int) : Int := if k < ns.length then ns.getD k.toNat 0 else 0
theorem scr_len (ns : List Int) : dLen (scrD ns) = some (.int ns.length) := by simp only [scrD, dLen_dict, List.length_map]
theorem scr_ix {ns : List Int} {k : Int} (h0 : 0 ≤ k) (h1 : k < ns.length) : dIx (scrD ns) (.int k) = some (.int (ns.getD k.toNat 0)) := by
  simp only [dIx, scrD]
  rw [atI_map, atI_get h0 h1 0]
  rfl
theorem law_cell_eq {ns : List Int} {k : Int} (h0 : 0 ≤ k) : F_z_law_cell [scrD ns, .int k] = some (.ok (.int (cellN ns k))) := by
  by_cases h1 : k < (ns.length : Int)
  · simp only [F_z_law_cell, sem_z_law_cell, scr_len, scr_ix h0 h1, cellN, h1, fnD, ini, fin, sq, ifS, setS, setO, setG, DL.ret, nxt, drp, rdS, rdO, DL.bi, DL.un, asL, asT, asB, asI, asItems, asItm, tru, tAndD, tOrD, tNotD, vAndD, vOrD, vNotD, vNeg, vIf, toB, cI, cB, cS, cN, cD, eNil, oNone, consD, mkT, mkL, slc, chn, callF, callX, exS, rai, yes, bN, bNil, bCons, bT, lc, forS, rng1, rng2, srtU, few,
  dAdd_int, dAdd_list, dAdd_tuple, dAdd_str, dAdd_T, dAdd_Tt, dAdd_tT, dAdd_L, dSl_T, dSl_L, cut_head, cut_tail, dSub, dLt, dLe, dGt, dGe, dInt, dIsN, dNotN, dEq_int, dNe_int, dEq_bool, dNe_bool, wipeR, isI_none, isI_bool, isI_int, isI_str, isI_list, isI_tuple, isI_dict, isB_none, isB_bool, isB_int, isB_str, isB_list, isB_tuple, isB_dict, isT_none, isT_bool, isT_int, isT_str, isT_list, isT_tuple, isT_dict, isS_none, isS_bool, isS_int, isS_str, isS_list, isS_tuple, isS_dict, isL_none, isL_bool, isL_int, isL_str, isL_list, isL_tuple, isL_dict, isN_none, isN_bool, isN_int, isN_str, isN_list, isN_tuple, isN_dict, isDct_none, isDct_bool, isDct_int, isDct_str, isDct_list, isDct_tuple, isDct_dict, dLen_list, dLen_tuple, dLen_dict, truth_none, truth_bool, truth_int, truth_list, truth_tuple, itm_list, itm_tuple, itemsOf_list, itemsOf_tuple,
  List.map_cons, List.map_nil, List.length_cons, List.length_nil, List.length_map, List.replicate_zero, List.replicate_succ, List.cons_append, List.nil_append, List.append_nil, List.getElem?_cons_zero, List.getElem?_cons_succ, List.getElem?_nil, List.set_cons_zero, List.set_cons_succ, List.set_nil, Option.map_some, Option.map_none, Option.bind_some, Option.bind_none,
  if_true, if_false, ite_true, ite_false, eq_self_iff_true, not_true_eq_false, not_false_eq_true, Bool.not_true, Bool.not_false, Nat.reduceAdd, Nat.reduceSub, Nat.reduceMul, Nat.reduceEqDiff, Nat.reduceLeDiff, Nat.reduceLT, Int.reduceAdd, Int.reduceSub, Int.reduceMul, Int.reduceNeg, Int.reducePow, Int.reduceLT, Int.reduceLE, Int.reduceEq, Int.reduceNe, Nat.zero_add, Nat.add_zero, reduceCtorEq, reduceIte, Nat.sub_self, Nat.sub_zero, and_self, and_true, true_and, Bool.true_eq_false, Bool.false_eq_true, decide_eq_true_eq, decide_true, decide_false, Bool.not_eq_true', Bool.decide_eq_true, cast_lit, sizeLine_eq, Nat.zero_le, T_len, Ls_len, T_items, Ls_items, T_itm, Ls_itm, T_truth, Ls_truth, T_dct, Ls_dct, T_isT, Ls_isT, T_isL, Ls_isL, Int.natCast_zero, Int.natCast_one]
  · simp only [F_z_law_cell, sem_z_law_cell, scr_len, cellN, h1, fnD, ini, fin, sq, ifS, setS, setO, setG, DL.ret, nxt, drp, rdS, rdO, DL.bi, DL.un, asL, asT, asB, asI, asItems, asItm, tru, tAndD, tOrD, tNotD, vAndD, vOrD, vNotD, vNeg, vIf, toB, cI, cB, cS, cN, cD, eNil, oNone, consD, mkT, mkL, slc, chn, callF, callX, exS, rai, yes, bN, bNil, bCons, bT, lc, forS, rng1, rng2, srtU, few,
  dAdd_int, dAdd_list, dAdd_tuple, dAdd_str, dAdd_T, dAdd_Tt, dAdd_tT, dAdd_L, dSl_T, dSl_L, cut_head, cut_tail, dSub, dLt, dLe, dGt, dGe, dInt, dIsN, dNotN, dEq_int, dNe_int, dEq_bool, dNe_bool, wipeR, isI_none, isI_bool, isI_int, isI_str, isI_list, isI_tuple, isI_dict, isB_none, isB_bool, isB_int, isB_str, isB_list, isB_tuple, isB_dict, isT_none, isT_bool, isT_int, isT_str, isT_list, isT_tuple, isT_dict, isS_none, isS_bool, isS_int, isS_str, isS_list, isS_tuple, isS_dict, isL_none, isL_bool, isL_int, isL_str, isL_list, isL_tuple, isL_dict, isN_none, isN_bool, isN_int, isN_str, isN_list, isN_tuple, isN_dict, isDct_none, isDct_bool, isDct_int, isDct_str, isDct_list, isDct_tuple, isDct_dict, dLen_list, dLen_tuple, dLen_dict, truth_none, truth_bool, truth_int, truth_list, truth_tuple, itm_list, itm_tuple, itemsOf_list, itemsOf_tuple,
  List.map_cons, List.map_nil, List.length_cons, List.length_nil, List.length_map, List.replicate_zero, List.replicate_succ, List.cons_append, List.nil_append, List.append_nil, List.getElem?_cons_zero, List.getElem?_cons_succ, List.getElem?_nil, List.set_cons_zero, List.set_cons_succ, List.set_nil, Option.map_some, Option.map_none, Option.bind_some, Option.bind_none,
  if_true, if_false, ite_true, ite_false, eq_self_iff_true, not_true_eq_false, not_false_eq_true, Bool.not_true, Bool.not_false, Nat.reduceAdd, Nat.reduceSub, Nat.reduceMul, Nat.reduceEqDiff, Nat.reduceLeDiff, Nat.reduceLT, Int.reduceAdd, Int.reduceSub, Int.reduceMul, Int.reduceNeg, Int.reducePow, Int.reduceLT, Int.reduceLE, Int.reduceEq, Int.reduceNe, Nat.zero_add, Nat.add_zero, reduceCtorEq, reduceIte, Nat.sub_self, Nat.sub_zero, and_self, and_true, true_and, Bool.true_eq_false, Bool.false_eq_true, decide_eq_true_eq, decide_true, decide_false, Bool.not_eq_true', Bool.decide_eq_true, cast_lit, sizeLine_eq, Nat.zero_le, T_len, Ls_len, T_items, Ls_items, T_itm, Ls_itm, T_truth, Ls_truth, T_dct, Ls_dct, T_isT, Ls_isT, T_isL, Ls_isL, Int.natCast_zero, Int.natCast_one]
theorem mod_pos (a : Int) {b : Int} (h : 0 < b) : dMod (.int a) (.int b) = some (.int (a % b)) := if_pos h
noncomputable def rst : Ro → Option Out :=
  (sq (setS 2 (asL (mkL eNil)))
  (sq (setS 3 (cB false))
  (sq (setS 4 (cS "none"))
  (sq (tryS (knl xcl) (fun z => subc z "HallError") 5 (exS (callX F_z_law_refused_by (consD (rdS 1) eNil)) fun _ ρ => some (.nx ρ)) (fun y => (sq (setS 2 (asL (mkL (consD (isE 5 (subc y.cls "BadHall")) (consD (isE 5 (subc y.cls "BadRest")) (consD (isE 5 (subc y.cls "BadHand")) (consD (isE 5 (subc y.cls "BadWord")) eNil)))))))
  (sq (setS 2 (bi dAdd (rdS 2) (asL (mkL (consD (isE 5 (subc y.cls "BadQuestion")) (consD (isE 5 (subc y.cls "BadCount")) (consD (isE 5 (subc y.cls "BadAim")) eNil)))))))
  (sq (setS 2 (bi dAdd (rdS 2) (asL (mkL (consD (isE 5 (subc y.cls "BadTalk")) (consD (isE 5 (subc y.cls "BadWorld")) (consD (isE 5 (subc y.cls "Kept")) eNil)))))))
  (sq (setS 2 (bi dAdd (rdS 2) (asL (mkL (consD (isE 5 (subc y.cls "BadText")) (consD (isE 5 (subc y.cls "Nothing")) eNil))))))
  (sq (setS 3 (isE 5 true))
  (setS 4 (vIf (asB (bi dEq (rdS 1) (cI 10))) (lnE 5 y.line) (cS "none"))))))))))
  (ret (vAndD (rdS 3) (vAndD (bi dEq (rdS 4) (vIf (asB (bi dEq (rdS 1) (cI 10))) (cI 1) (cS "none"))) (bi dEq (rdS 2) (asL (lc [6] (rng1 (cI 12)) (bN 6) yes (bi dEq (rdS 6) (rdS 1))))))))))))
theorem w0 (x : D) : fin (rst [.sh x, .sh (.int 0), .un, .un, .un, .un, .un]) = some (.ok (.bool true)) := by kernel_rfl
theorem w1 (x : D) : fin (rst [.sh x, .sh (.int 1), .un, .un, .un, .un, .un]) = some (.ok (.bool true)) := by kernel_rfl
theorem w2 (x : D) : fin (rst [.sh x, .sh (.int 2), .un, .un, .un, .un, .un]) = some (.ok (.bool true)) := by kernel_rfl
theorem w3 (x : D) : fin (rst [.sh x, .sh (.int 3), .un, .un, .un, .un, .un]) = some (.ok (.bool true)) := by kernel_rfl
theorem w4 (x : D) : fin (rst [.sh x, .sh (.int 4), .un, .un, .un, .un, .un]) = some (.ok (.bool true)) := by kernel_rfl
theorem w5 (x : D) : fin (rst [.sh x, .sh (.int 5), .un, .un, .un, .un, .un]) = some (.ok (.bool true)) := by kernel_rfl
theorem w6 (x : D) : fin (rst [.sh x, .sh (.int 6), .un, .un, .un, .un, .un]) = some (.ok (.bool true)) := by kernel_rfl
theorem w7 (x : D) : fin (rst [.sh x, .sh (.int 7), .un, .un, .un, .un, .un]) = some (.ok (.bool true)) := by kernel_rfl
theorem w8 (x : D) : fin (rst [.sh x, .sh (.int 8), .un, .un, .un, .un, .un]) = some (.ok (.bool true)) := by kernel_rfl
theorem w9 (x : D) : fin (rst [.sh x, .sh (.int 9), .un, .un, .un, .un, .un]) = some (.ok (.bool true)) := by kernel_rfl
theorem w10 (x : D) : fin (rst [.sh x, .sh (.int 10), .un, .un, .un, .un, .un]) = some (.ok (.bool true)) := by kernel_rfl
theorem w11 (x : D) : fin (rst [.sh x, .sh (.int 11), .un, .un, .un, .un, .un]) = some (.ok (.bool true)) := by kernel_rfl
theorem law_true (ns : List Int) (_ : ns.length ≤ 63) : F_law [scrD ns] = some (.ok (.bool true)) := by
  have e0 := law_cell_eq (ns := ns) (k := 0) (by decide)
  generalize hc : cellN ns 0 = c at e0
  have em : dMod (.int c) (.int 12) = some (.int (c % 12)) := mod_pos c (by decide)
  have s1 : setS 1 (bi dMod (callF F_z_law_cell (consD (rdS 0) (consD (cI 0) eNil))) (cI 12)) [.sh (scrD ns), .un, .un, .un, .un, .un, .un] = some (.nx [.sh (scrD ns), .sh (.int (c % 12)), .un, .un, .un, .un, .un]) := by
    simp only [e0, em, fnD, ini, fin, sq, ifS, setS, setO, setG, DL.ret, nxt, drp, rdS, rdO, DL.bi, DL.un, asL, asT, asB, asI, asItems, asItm, tru, tAndD, tOrD, tNotD, vAndD, vOrD, vNotD, vNeg, vIf, toB, cI, cB, cS, cN, cD, eNil, oNone, consD, mkT, mkL, slc, chn, callF, callX, exS, rai, yes, bN, bNil, bCons, bT, lc, forS, rng1, rng2, srtU, few,
  dAdd_int, dAdd_list, dAdd_tuple, dAdd_str, dAdd_T, dAdd_Tt, dAdd_tT, dAdd_L, dSl_T, dSl_L, cut_head, cut_tail, dSub, dLt, dLe, dGt, dGe, dInt, dIsN, dNotN, dEq_int, dNe_int, dEq_bool, dNe_bool, wipeR, isI_none, isI_bool, isI_int, isI_str, isI_list, isI_tuple, isI_dict, isB_none, isB_bool, isB_int, isB_str, isB_list, isB_tuple, isB_dict, isT_none, isT_bool, isT_int, isT_str, isT_list, isT_tuple, isT_dict, isS_none, isS_bool, isS_int, isS_str, isS_list, isS_tuple, isS_dict, isL_none, isL_bool, isL_int, isL_str, isL_list, isL_tuple, isL_dict, isN_none, isN_bool, isN_int, isN_str, isN_list, isN_tuple, isN_dict, isDct_none, isDct_bool, isDct_int, isDct_str, isDct_list, isDct_tuple, isDct_dict, dLen_list, dLen_tuple, dLen_dict, truth_none, truth_bool, truth_int, truth_list, truth_tuple, itm_list, itm_tuple, itemsOf_list, itemsOf_tuple,
  List.map_cons, List.map_nil, List.length_cons, List.length_nil, List.length_map, List.replicate_zero, List.replicate_succ, List.cons_append, List.nil_append, List.append_nil, List.getElem?_cons_zero, List.getElem?_cons_succ, List.getElem?_nil, List.set_cons_zero, List.set_cons_succ, List.set_nil, Option.map_some, Option.map_none, Option.bind_some, Option.bind_none,
  if_true, if_false, ite_true, ite_false, eq_self_iff_true, not_true_eq_false, not_false_eq_true, Bool.not_true, Bool.not_false, Nat.reduceAdd, Nat.reduceSub, Nat.reduceMul, Nat.reduceEqDiff, Nat.reduceLeDiff, Nat.reduceLT, Int.reduceAdd, Int.reduceSub, Int.reduceMul, Int.reduceNeg, Int.reducePow, Int.reduceLT, Int.reduceLE, Int.reduceEq, Int.reduceNe, Nat.zero_add, Nat.add_zero, reduceCtorEq, reduceIte, Nat.sub_self, Nat.sub_zero, and_self, and_true, true_and, Bool.true_eq_false, Bool.false_eq_true, decide_eq_true_eq, decide_true, decide_false, Bool.not_eq_true', Bool.decide_eq_true, cast_lit, sizeLine_eq, Nat.zero_le, T_len, Ls_len, T_items, Ls_items, T_itm, Ls_itm, T_truth, Ls_truth, T_dct, Ls_dct, T_isT, Ls_isT, T_isL, Ls_isL, Int.natCast_zero, Int.natCast_one]
  show fin (sem_law [.sh (scrD ns), .un, .un, .un, .un, .un, .un]) = _
  unfold sem_law
  rw [sq_nx s1]
  show fin (rst [.sh (scrD ns), .sh (.int (c % 12)), .un, .un, .un, .un, .un]) = _
  have hm : c % 12 = 0 ∨ c % 12 = 1 ∨ c % 12 = 2 ∨ c % 12 = 3 ∨ c % 12 = 4 ∨ c % 12 = 5 ∨ c % 12 = 6 ∨ c % 12 = 7 ∨ c % 12 = 8 ∨ c % 12 = 9 ∨ c % 12 = 10 ∨ c % 12 = 11 := by omega
  rcases hm with h | h | h | h | h | h | h | h | h | h | h | h <;> rw [h]
  · exact w0 _
  · exact w1 _
  · exact w2 _
  · exact w3 _
  · exact w4 _
  · exact w5 _
  · exact w6 _
  · exact w7 _
  · exact w8 _
  · exact w9 _
  · exact w10 _
  · exact w11 _
end K23
namespace K23
open PySem PySem.Spec L2 DL
theorem xsOf {K : PySem.W.Frag} (h : exl K = true) : xsB xcs subc K = true := by unfold exl at h; simp only [Bool.and_eq_true] at h; exact h.1.1.1.1.1
theorem xlOf {K : PySem.W.Frag} (h : exl K = true) : xlB xcl subc K = true := by unfold exl at h; simp only [Bool.and_eq_true] at h; exact h.1.1.1.1.2
theorem btOf {K : PySem.W.Frag} (h : exl K = true) : btB K = true := by unfold exl at h; simp only [Bool.and_eq_true] at h; exact h.1.1.1.2
theorem xvOf {K : PySem.W.Frag} (h : exl K = true) : (xcl.all fun x => decide (PySem.W.kitOne K (.ref (He.ga K x)) (.type "ValueError") = some true)) = true := by unfold exl at h; simp only [Bool.and_eq_true] at h; exact h.1.1.2
theorem tupOf0 {K : PySem.W.Frag} (h : exl K = true) : tupB K (He.ga K "WISHES") [V.str "learn", V.str "hide", V.str "dark"] = true := by unfold exl at h; simp only [Bool.and_eq_true] at h; exact h.1.2
theorem tupOf1 {K : PySem.W.Frag} (h : exl K = true) : tupB K (He.ga K "END") [V.str "end"] = true := by unfold exl at h; simp only [Bool.and_eq_true] at h; exact h.2
theorem ob_eq (s : PySem.W.SharedT) : ob s = hk.obs s.abs := obsZ_eq (HandSHeadRun.getT_eq s)
theorem facts {P : Program} {w : World} {K : PySem.W.Frag} {h : Heap} {mg : Str → Option Value} {f : Addr} (X : K.In h) (G : h.Ns mainGlobals mg) (hfa : mg ("law" : Str) = some (.ref f)) (c : He.SaysD fal fnl K) (cx : exl K = true) :
    ∃ fd : FuncData, (∀ (s : Shared) (v : Value), BindsTo s fd ⟨[v], []⟩ [("script", v)]) ∧ ∀ base : Heap, K.In base → base.Ns mainGlobals mg → FnOk P w K mg base (L2.CX P w) 40 f fd ["script"] (spD K CT F_law) := by
  have B : Bi K mg := ⟨He.free_ok X G (c.fact 50 (f := .free "ValueError") rfl), He.free_ok X G (c.fact 51 (f := .free "bool") rfl), He.free_ok X G (c.fact 52 (f := .free "dict") rfl), He.free_ok X G (c.fact 53 (f := .free "enumerate") rfl), He.free_ok X G (c.fact 54 (f := .free "int") rfl), He.free_ok X G (c.fact 55 (f := .free "isinstance") rfl), He.free_ok X G (c.fact 56 (f := .free "len") rfl), He.free_ok X G (c.fact 57 (f := .free "list") rfl), He.free_ok X G (c.fact 58 (f := .free "max") rfl), He.free_ok X G (c.fact 59 (f := .free "min") rfl), He.free_ok X G (c.fact 60 (f := .free "range") rfl), He.free_ok X G (c.fact 61 (f := .free "set") rfl), He.free_ok X G (c.fact 62 (f := .free "sorted") rfl), He.free_ok X G (c.fact 63 (f := .free "str") rfl), He.free_ok X G (c.fact 64 (f := .free "sum") rfl), He.free_ok X G (c.fact 65 (f := .free "tuple") rfl), He.free_ok X G (c.fact 66 (f := .free "zip") rfl)
    , He.int_ok X G (c.fact 85 (f := .int "MOST_WORLDS" 8) rfl)
    , He.int_ok X G (c.fact 86 (f := .int "MOST_HANDS" 4) rfl)
    , He.int_ok X G (c.fact 87 (f := .int "MOST_MARK" 3) rfl)
    , ⟨He.glo_ok X G (c.fact 88 (f := .glo "WISHES") rfl), tupB_ok (tupOf0 cx)⟩
    , He.int_ok X G (c.fact 89 (f := .int "MOST_WISHES" 4) rfl)
    , ⟨He.glo_ok X G (c.fact 90 (f := .glo "END") rfl), tupB_ok (tupOf1 cx)⟩
    , He.str_ok X G (c.fact 91 (f := .str "MARKS" "0123") rfl)
    , xsB_ok X G (xsOf cx), xlB_ok X G (xlOf cx), btB_ok ((xlB_ok X G (xlOf cx)).gl _ (by decide)) ((xlB_ok X G (xlOf cx)).gl _ (by decide)) (btOf cx), fun x hx => of_decide_eq_true (List.all_eq_true.mp (xvOf cx) x hx)⟩
  obtain ⟨fd_z_wall, FF_z_wall⟩ := c.def_ 0 (d := d_z_wall) rfl
  have hm_z_wall := He.glo_ok X G (c.fact 0 (f := .glo "_wall") rfl)
  obtain ⟨fd_is_within, FF_is_within⟩ := c.def_ 1 (d := d_is_within) rfl
  have hm_is_within := He.glo_ok X G (c.fact 1 (f := .glo "is_within") rfl)
  obtain ⟨fd_are_marks, FF_are_marks⟩ := c.def_ 2 (d := d_are_marks) rfl
  have hm_are_marks := He.glo_ok X G (c.fact 2 (f := .glo "are_marks") rfl)
  obtain ⟨fd_is_hall, FF_is_hall⟩ := c.def_ 3 (d := d_is_hall) rfl
  have hm_is_hall := He.glo_ok X G (c.fact 3 (f := .glo "is_hall") rfl)
  obtain ⟨fd_look, FF_look⟩ := c.def_ 4 (d := d_look) rfl
  have hm_look := He.glo_ok X G (c.fact 4 (f := .glo "look") rfl)
  obtain ⟨fd_all_worlds, FF_all_worlds⟩ := c.def_ 5 (d := d_all_worlds) rfl
  have hm_all_worlds := He.glo_ok X G (c.fact 5 (f := .glo "all_worlds") rfl)
  obtain ⟨fd_is_rest, FF_is_rest⟩ := c.def_ 6 (d := d_is_rest) rfl
  have hm_is_rest := He.glo_ok X G (c.fact 6 (f := .glo "is_rest") rfl)
  obtain ⟨fd_look_rest, FF_look_rest⟩ := c.def_ 7 (d := d_look_rest) rfl
  have hm_look_rest := He.glo_ok X G (c.fact 7 (f := .glo "look_rest") rfl)
  obtain ⟨fd_look_hand, FF_look_hand⟩ := c.def_ 8 (d := d_look_hand) rfl
  have hm_look_hand := He.glo_ok X G (c.fact 8 (f := .glo "look_hand") rfl)
  obtain ⟨fd_cell_of, FF_cell_of⟩ := c.def_ 9 (d := d_cell_of) rfl
  have hm_cell_of := He.glo_ok X G (c.fact 9 (f := .glo "cell_of") rfl)
  obtain ⟨fd_cells_of, FF_cells_of⟩ := c.def_ 10 (d := d_cells_of) rfl
  have hm_cells_of := He.glo_ok X G (c.fact 10 (f := .glo "cells_of") rfl)
  obtain ⟨fd_cells, FF_cells⟩ := c.def_ 11 (d := d_cells) rfl
  have hm_cells := He.glo_ok X G (c.fact 11 (f := .glo "cells") rfl)
  obtain ⟨fd_thought_of, FF_thought_of⟩ := c.def_ 12 (d := d_thought_of) rfl
  have hm_thought_of := He.glo_ok X G (c.fact 12 (f := .glo "thought_of") rfl)
  obtain ⟨fd_look_question, FF_look_question⟩ := c.def_ 13 (d := d_look_question) rfl
  have hm_look_question := He.glo_ok X G (c.fact 13 (f := .glo "look_question") rfl)
  obtain ⟨fd_look_all, FF_look_all⟩ := c.def_ 14 (d := d_look_all) rfl
  have hm_look_all := He.glo_ok X G (c.fact 14 (f := .glo "look_all") rfl)
  obtain ⟨fd_thought, FF_thought⟩ := c.def_ 15 (d := d_thought) rfl
  have hm_thought := He.glo_ok X G (c.fact 15 (f := .glo "thought") rfl)
  obtain ⟨fd_known_in, FF_known_in⟩ := c.def_ 16 (d := d_known_in) rfl
  have hm_known_in := He.glo_ok X G (c.fact 16 (f := .glo "known_in") rfl)
  obtain ⟨fd_all_know, FF_all_know⟩ := c.def_ 17 (d := d_all_know) rfl
  have hm_all_know := He.glo_ok X G (c.fact 17 (f := .glo "all_know") rfl)
  obtain ⟨fd_all_knowing, FF_all_knowing⟩ := c.def_ 18 (d := d_all_knowing) rfl
  have hm_all_knowing := He.glo_ok X G (c.fact 18 (f := .glo "all_knowing") rfl)
  obtain ⟨fd_deep, FF_deep⟩ := c.def_ 19 (d := d_deep) rfl
  have hm_deep := He.glo_ok X G (c.fact 19 (f := .glo "deep") rfl)
  obtain ⟨fd_marks_at, FF_marks_at⟩ := c.def_ 20 (d := d_marks_at) rfl
  have hm_marks_at := He.glo_ok X G (c.fact 20 (f := .glo "marks_at") rfl)
  obtain ⟨fd_partings, FF_partings⟩ := c.def_ 21 (d := d_partings) rfl
  have hm_partings := He.glo_ok X G (c.fact 21 (f := .glo "partings") rfl)
  obtain ⟨fd_words_of, FF_words_of⟩ := c.def_ 22 (d := d_words_of) rfl
  have hm_words_of := He.glo_ok X G (c.fact 22 (f := .glo "words_of") rfl)
  obtain ⟨fd_is_word, FF_is_word⟩ := c.def_ 23 (d := d_is_word) rfl
  have hm_is_word := He.glo_ok X G (c.fact 23 (f := .glo "is_word") rfl)
  obtain ⟨fd_rest_of, FF_rest_of⟩ := c.def_ 24 (d := d_rest_of) rfl
  have hm_rest_of := He.glo_ok X G (c.fact 24 (f := .glo "rest_of") rfl)
  obtain ⟨fd_parts_of, FF_parts_of⟩ := c.def_ 25 (d := d_parts_of) rfl
  have hm_parts_of := He.glo_ok X G (c.fact 25 (f := .glo "parts_of") rfl)
  obtain ⟨fd_look_word, FF_look_word⟩ := c.def_ 26 (d := d_look_word) rfl
  have hm_look_word := He.glo_ok X G (c.fact 26 (f := .glo "look_word") rfl)
  obtain ⟨fd_parts, FF_parts⟩ := c.def_ 27 (d := d_parts) rfl
  have hm_parts := He.glo_ok X G (c.fact 27 (f := .glo "parts") rfl)
  obtain ⟨fd_is_wish, FF_is_wish⟩ := c.def_ 28 (d := d_is_wish) rfl
  have hm_is_wish := He.glo_ok X G (c.fact 28 (f := .glo "is_wish") rfl)
  obtain ⟨fd_is_aim_of, FF_is_aim_of⟩ := c.def_ 29 (d := d_is_aim_of) rfl
  have hm_is_aim_of := He.glo_ok X G (c.fact 29 (f := .glo "is_aim_of") rfl)
  obtain ⟨fd_look_aim, FF_look_aim⟩ := c.def_ 30 (d := d_look_aim) rfl
  have hm_look_aim := He.glo_ok X G (c.fact 30 (f := .glo "look_aim") rfl)
  obtain ⟨fd_is_kept, FF_is_kept⟩ := c.def_ 31 (d := d_is_kept) rfl
  have hm_is_kept := He.glo_ok X G (c.fact 31 (f := .glo "is_kept") rfl)
  obtain ⟨fd_broken_of, FF_broken_of⟩ := c.def_ 32 (d := d_broken_of) rfl
  have hm_broken_of := He.glo_ok X G (c.fact 32 (f := .glo "broken_of") rfl)
  obtain ⟨fd_lacking_of, FF_lacking_of⟩ := c.def_ 33 (d := d_lacking_of) rfl
  have hm_lacking_of := He.glo_ok X G (c.fact 33 (f := .glo "lacking_of") rfl)
  obtain ⟨fd_is_talk_at, FF_is_talk_at⟩ := c.def_ 34 (d := d_is_talk_at) rfl
  have hm_is_talk_at := He.glo_ok X G (c.fact 34 (f := .glo "is_talk_at") rfl)
  obtain ⟨fd_look_talk, FF_look_talk⟩ := c.def_ 35 (d := d_look_talk) rfl
  have hm_look_talk := He.glo_ok X G (c.fact 35 (f := .glo "look_talk") rfl)
  obtain ⟨fd_rests_of, FF_rests_of⟩ := c.def_ 36 (d := d_rests_of) rfl
  have hm_rests_of := He.glo_ok X G (c.fact 36 (f := .glo "rests_of") rfl)
  obtain ⟨fd_ends, FF_ends⟩ := c.def_ 37 (d := d_ends) rfl
  have hm_ends := He.glo_ok X G (c.fact 37 (f := .glo "ends") rfl)
  obtain ⟨fd_best, FF_best⟩ := c.def_ 38 (d := d_best) rfl
  have hm_best := He.glo_ok X G (c.fact 38 (f := .glo "best") rfl)
  obtain ⟨fd_look_count, FF_look_count⟩ := c.def_ 39 (d := d_look_count) rfl
  have hm_look_count := He.glo_ok X G (c.fact 39 (f := .glo "look_count") rfl)
  obtain ⟨fd_all_words, FF_all_words⟩ := c.def_ 40 (d := d_all_words) rfl
  have hm_all_words := He.glo_ok X G (c.fact 40 (f := .glo "all_words") rfl)
  obtain ⟨fd_reason, FF_reason⟩ := c.def_ 41 (d := d_reason) rfl
  have hm_reason := He.glo_ok X G (c.fact 41 (f := .glo "reason") rfl)
  obtain ⟨fd_paper_of, FF_paper_of⟩ := c.def_ 42 (d := d_paper_of) rfl
  have hm_paper_of := He.glo_ok X G (c.fact 42 (f := .glo "paper_of") rfl)
  obtain ⟨fd_paper, FF_paper⟩ := c.def_ 43 (d := d_paper) rfl
  have hm_paper := He.glo_ok X G (c.fact 43 (f := .glo "paper") rfl)
  obtain ⟨fd_marks_in, FF_marks_in⟩ := c.def_ 44 (d := d_marks_in) rfl
  have hm_marks_in := He.glo_ok X G (c.fact 44 (f := .glo "marks_in") rfl)
  obtain ⟨fd_read_hall, FF_read_hall⟩ := c.def_ 45 (d := d_read_hall) rfl
  have hm_read_hall := He.glo_ok X G (c.fact 45 (f := .glo "read_hall") rfl)
  obtain ⟨fd_shrunk, FF_shrunk⟩ := c.def_ 46 (d := d_shrunk) rfl
  have hm_shrunk := He.glo_ok X G (c.fact 46 (f := .glo "shrunk") rfl)
  obtain ⟨fd_z_law_cell, FF_z_law_cell⟩ := c.def_ 47 (d := d_z_law_cell) rfl
  have hm_z_law_cell := He.glo_ok X G (c.fact 47 (f := .glo "_law_cell") rfl)
  obtain ⟨fd_z_law_refused_by, FF_z_law_refused_by⟩ := c.def_ 48 (d := d_z_law_refused_by) rfl
  have hm_z_law_refused_by := He.glo_ok X G (c.fact 48 (f := .glo "_law_refused_by") rfl)
  obtain ⟨fd_law, FF_law⟩ := c.def_ 49 (d := d_law) rfl
  have hm_law := He.glo_ok X G (c.fact 49 (f := .glo "law") rfl)
  have SB : SkB K mg := ⟨He.cls_ok (c.fact 77 (f := .cls "Seeker") rfl), He.noat_ok (c.fact 78 (f := .noat "Seeker" "hall") rfl), He.noat_ok (c.fact 79 (f := .noat "Seeker" "aim") rfl), He.noat_ok (c.fact 80 (f := .noat "Seeker" "known") rfl), He.glo_ok X G (c.fact 76 (f := .glo "Seeker") rfl), He.mkr_ok (c.fact 81 (f := .mkr "Seeker") rfl), He.meth_ok (c.fact 82 (f := .meth "Seeker" "talk") rfl), He.meth_ok (c.fact 83 (f := .meth "Seeker" "found") rfl), He.meth_ok (c.fact 84 (f := .meth "Seeker" "behind") rfl)⟩
  obtain ⟨fd_Seeker_init, FF_Seeker_init⟩ := c.def_ 50 (d := d_Seeker_init) rfl
  obtain ⟨fd_Seeker_talk, FF_Seeker_talk⟩ := c.def_ 51 (d := d_Seeker_talk) rfl
  obtain ⟨fd_Seeker_found, FF_Seeker_found⟩ := c.def_ 52 (d := d_Seeker_found) rfl
  obtain ⟨fd_Seeker_behind, FF_Seeker_behind⟩ := c.def_ 53 (d := d_Seeker_behind) rfl
  have ZB : SeB K mg := ⟨He.cls_ok (c.fact 68 (f := .cls "Session") rfl), He.noat_ok (c.fact 69 (f := .noat "Session" "hall") rfl), He.noat_ok (c.fact 70 (f := .noat "Session" "true") rfl), He.noat_ok (c.fact 71 (f := .noat "Session" "here") rfl), He.noat_ok (c.fact 72 (f := .noat "Session" "said") rfl), He.noat_ok (c.fact 73 (f := .noat "Session" "before") rfl), He.glo_ok X G (c.fact 67 (f := .glo "Session") rfl), He.mkr_ok (c.fact 74 (f := .mkr "Session") rfl), He.meth_ok (c.fact 75 (f := .meth "Session" "back") rfl)⟩
  obtain ⟨fd_Session_init, FF_Session_init⟩ := c.def_ 55 (d := d_Session_init) rfl
  obtain ⟨fd_Session_back, FF_Session_back⟩ := c.def_ 56 (d := d_Session_back) rfl
  obtain ⟨fd_BadText_init, FF_BadText_init⟩ := c.def_ 54 (d := d_BadText_init) rfl
  have e := hfa.symm.trans hm_law
  cases e
  have b := FunD.bindsA (ps := ["script"]) FF_law fun _ _ _ _ _ _ us hl => match us, hl with | [_], _ => rfl
  refine ⟨fd_law, fun s v => b s [v] rfl, fun base _ _ => ?_⟩
  have H_z_wall := ok_z_wall (P := P) (w := w) (base := base) B  FF_z_wall hm_z_wall
  have H_is_within := ok_is_within (P := P) (w := w) (base := base) B  FF_is_within hm_is_within
  have H_are_marks := ok_are_marks (P := P) (w := w) (base := base) B H_is_within FF_are_marks hm_are_marks
  have H_is_hall := ok_is_hall (P := P) (w := w) (base := base) B H_is_within H_are_marks FF_is_hall hm_is_hall
  have H_look := ok_look (P := P) (w := w) (base := base) B H_is_hall FF_look hm_look
  have H_all_worlds := ok_all_worlds (P := P) (w := w) (base := base) B  FF_all_worlds hm_all_worlds
  have H_is_rest := ok_is_rest (P := P) (w := w) (base := base) B H_is_within FF_is_rest hm_is_rest
  have H_look_rest := ok_look_rest (P := P) (w := w) (base := base) B H_look H_is_rest FF_look_rest hm_look_rest
  have H_look_hand := ok_look_hand (P := P) (w := w) (base := base) B H_is_within FF_look_hand hm_look_hand
  have H_cell_of := ok_cell_of (P := P) (w := w) (base := base) B  FF_cell_of hm_cell_of
  have H_cells_of := ok_cells_of (P := P) (w := w) (base := base) B H_cell_of FF_cells_of hm_cells_of
  have H_cells := ok_cells (P := P) (w := w) (base := base) B H_look_rest H_look_hand H_cells_of FF_cells hm_cells
  have H_thought_of := ok_thought_of (P := P) (w := w) (base := base) B H_cell_of FF_thought_of hm_thought_of
  have H_look_question := ok_look_question (P := P) (w := w) (base := base) B H_are_marks FF_look_question hm_look_question
  have H_look_all := ok_look_all (P := P) (w := w) (base := base) B H_look_rest H_look_hand H_look_question FF_look_all hm_look_all
  have H_thought := ok_thought (P := P) (w := w) (base := base) B H_thought_of H_look_all FF_thought hm_thought
  have H_known_in := ok_known_in (P := P) (w := w) (base := base) B H_thought_of FF_known_in hm_known_in
  have H_all_know := ok_all_know (P := P) (w := w) (base := base) B H_cell_of FF_all_know hm_all_know
  have H_all_knowing := ok_all_knowing (P := P) (w := w) (base := base) B H_known_in FF_all_knowing hm_all_knowing
  have H_deep := ok_deep (P := P) (w := w) (base := base) B H_is_within H_look_rest H_look_question H_all_know H_all_knowing FF_deep hm_deep
  have H_marks_at := ok_marks_at (P := P) (w := w) (base := base) B  FF_marks_at hm_marks_at
  have H_partings := ok_partings (P := P) (w := w) (base := base) B  FF_partings hm_partings 6
  have H_words_of := ok_words_of (P := P) (w := w) (base := base) B H_marks_at H_partings FF_words_of hm_words_of
  have H_is_word := ok_is_word (P := P) (w := w) (base := base) B H_words_of FF_is_word hm_is_word
  have H_rest_of := ok_rest_of (P := P) (w := w) (base := base) B  FF_rest_of hm_rest_of
  have H_parts_of := ok_parts_of (P := P) (w := w) (base := base) B H_rest_of FF_parts_of hm_parts_of
  have H_look_word := ok_look_word (P := P) (w := w) (base := base) B H_look_rest H_look_hand H_is_word FF_look_word hm_look_word
  have H_parts := ok_parts (P := P) (w := w) (base := base) B H_parts_of H_look_word FF_parts hm_parts
  have H_is_wish := ok_is_wish (P := P) (w := w) (base := base) B H_is_within H_are_marks FF_is_wish hm_is_wish
  have H_is_aim_of := ok_is_aim_of (P := P) (w := w) (base := base) B H_is_wish FF_is_aim_of hm_is_aim_of
  have H_look_aim := ok_look_aim (P := P) (w := w) (base := base) B H_look H_is_aim_of FF_look_aim hm_look_aim
  have H_is_kept := ok_is_kept (P := P) (w := w) (base := base) B H_all_worlds H_thought_of H_known_in FF_is_kept hm_is_kept
  have H_broken_of := ok_broken_of (P := P) (w := w) (base := base) B H_is_kept FF_broken_of hm_broken_of
  have H_lacking_of := ok_lacking_of (P := P) (w := w) (base := base) B H_is_kept FF_lacking_of hm_lacking_of
  have H_is_talk_at := ok_is_talk_at (P := P) (w := w) (base := base) B H_is_within H_is_word H_parts_of FF_is_talk_at hm_is_talk_at 6
  have H_look_talk := ok_look_talk (P := P) (w := w) (base := base) B H_all_worlds H_is_talk_at FF_look_talk hm_look_talk
  have H_rests_of := ok_rests_of (P := P) (w := w) (base := base) B H_parts_of FF_rests_of hm_rests_of 6
  have H_ends := ok_ends (P := P) (w := w) (base := base) B H_look H_all_worlds H_look_talk H_rests_of FF_ends hm_ends
  have H_skk := ok_Seeker (P := P) (w := w) (base := base) B SB H_words_of H_parts_of H_broken_of H_lacking_of FF_Seeker_talk FF_Seeker_found FF_Seeker_behind
  have H_init := ok_Seeker_init (P := P) (w := w) (base := base) SB FF_Seeker_init
  have H_best := ok_best (P := P) (w := w) (base := base) B H_all_worlds H_look_aim SB H_skk H_init FF_best hm_best
  have H_look_count := ok_look_count (P := P) (w := w) (base := base) B H_is_within FF_look_count hm_look_count
  have H_all_words := ok_all_words (P := P) (w := w) (base := base) B H_words_of FF_all_words hm_all_words
  have H_reason := ok_reason (P := P) (w := w) (base := base) B H_parts_of H_broken_of H_lacking_of SB H_skk H_init H_all_words FF_reason hm_reason
  have H_paper_of := ok_paper_of (P := P) (w := w) (base := base) B H_parts_of SB H_skk H_init H_all_words H_reason FF_paper_of hm_paper_of
  have H_paper := ok_paper (P := P) (w := w) (base := base) B H_all_worlds H_look_aim SB H_skk H_init H_look_count H_paper_of FF_paper hm_paper
  have H_marks_in := ok_marks_in (P := P) (w := w) (base := base) B  FF_marks_in hm_marks_in
  have H_bt := ok_BadText_init (P := P) (w := w) (base := base) B.bt FF_BadText_init
  have H_read_hall := ok_read_hall (P := P) (w := w) (base := base) B H_is_hall H_marks_in H_bt FF_read_hall hm_read_hall
  have H_shrunk := ok_shrunk (P := P) (w := w) (base := base) B H_is_within H_look FF_shrunk hm_shrunk
  have H_z_law_cell := ok_z_law_cell (P := P) (w := w) (base := base) B  FF_z_law_cell hm_z_law_cell
  have H_zinit := ok_Session_init (P := P) (w := w) (base := base) B ZB H_is_within H_look H_all_worlds FF_Session_init
  have H_zback := ok_Session_back (P := P) (w := w) (base := base) B ZB H_is_within H_look H_all_worlds FF_Session_back
  have H_z_law_refused_by := ok_z_law_refused_by (P := P) (w := w) (base := base) B H_cells H_thought H_deep H_parts H_ends H_best H_paper H_read_hall H_shrunk ZB H_zinit H_zback FF_z_law_refused_by hm_z_law_refused_by
  exact fn_law (P := P) (w := w) (base := base) B H_z_law_cell H_z_law_refused_by FF_law
end K23
open PySem PySem.W PySem.Calls PyProof.Rows
theorem PySem.Challenge.cw_openhall_k23_refusals_stand_apart_holds : PySem.Challenge.rw_openhall_k23_refusals_stand_apart.Holds := by
  w_on; o_law
  refine HandSHeadRun.head_any (r := OpenLaw.row PySem.Challenge.rw_openhall_k23_refusals_stand_apart) (q := view (OpenLaw.row PySem.Challenge.rw_openhall_k23_refusals_stand_apart).prog [83]) (H := K23.hk) (ob := K23.ob) (M := 60000) (loose := K23.loose) (d := HandSHeadRun.topDef (OpenLaw.row PySem.Challenge.rw_openhall_k23_refusals_stand_apart).prog 83) (kwd := []) K23.ob_eq
    (by kernel_rfl) (fun s => by kernel_rfl) K23.run (by kernel_rfl) (by kernel_rfl) (by kernel_rfl) (by rfl) (by first | assumption | decide +kernel) (by decide +kernel) ⟨rfl, rfl, rfl, rfl, rfl, by decide +kernel⟩ ?hw ?hc
  case hw => w_witness2
  case hc =>
    refine L2.walk_ofE (l := PySem.Challenge.rw_openhall_k23_refusals_stand_apart) (n := 63) (k := 40) (x := "script") (CX := L2.CX0) rfl (by decide) (by kernel_rfl) ⟨rfl, by decide, by decide⟩ ?F (fun _ _ _ _ z => z)
    intro w mg fa h Y G hmg0
    obtain ⟨K, KX, c, cx⟩ := Y
    have hmg : mg ("law" : PySem.Str) = some (.ref fa) := by
      have e : (HandSHeadRun.topDef (OpenLaw.row PySem.Challenge.rw_openhall_k23_refusals_stand_apart).prog 83).name = ("law" : PySem.Str) := by kernel_rfl
      rw [← e]
      exact hmg0
    obtain ⟨fd, hb, hF⟩ := K23.facts (P := (PySem.Challenge.rw_openhall_k23_refusals_stand_apart).prog) (w := w) KX G hmg c cx
    exact ⟨K, fd, (fun vs H Q _ => DL.spD K DL.CT K23.F_law vs H Q L2.E0), KX, hb, DL.law_sp K23.law_true, fun base h1 h2 => DL.fnok0 (hF base h1 h2)⟩
