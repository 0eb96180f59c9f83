import PyProof.Rows.All
import PySem.Challenge.RW_oneofeachpair_k69_equilibria_led
import HandS.ForMost
import HandS.Gcd
import HandS.Wide
import HandS.TupAny
import HandS.TupMul
import HandS.Deep
import PyProof.NoPylong
import PyProof.Fits
import HandS.IsInst
import HandS.SortInts
import KE.GoesMore
import KE.GoesEnum
import KE.GoesZip
import HandS.Zip
import HandS.Property
import HandS.Star
import Wide.All
import OpenK.AllK
import Wide.FinOn
import HandS.ForDict
import HandS.EndBits
section
set_option Elab.async false
set_option linter.all false
set_option maxRecDepth 100000
/-! A layer of pure data over the hand layer: what values hold, as trees. -/
namespace DL
open PySem PySem.Spec PyProof.Rows L2

/-- data: what a value holds -/
inductive D where
  | non | bl (b : Bool) | int (i : Int) | str (x : Str) | tup (xs : List D) | lst (xs : List D) | obj (c : Str) (ns : List Str) (xs : List D) | scr (ns : List Int)
  deriving Inhabited

abbrev Mg := Str → Option Value
abbrev AP1 := Addr → Prop
def KTup (K : PySem.W.Frag) (a : Addr) (xs : List V) : Prop :=
  ∃ (o : Obj) (its : Array Value) (n : Nat), K.lookup a = some o ∧ o.cls = .type "tuple" ∧ o.data = .seq its n ∧ its.size ≤ sizeLine ∧ Vals xs its.toList
def KLst (K : PySem.W.Frag) (a : Addr) (xs : List V) : Prop :=
  ∃ (o : Obj) (its : Array Value) (n : Nat), K.lookup a = some o ∧ o.cls = .type "list" ∧ o.dict = none ∧ o.data = .seq its n ∧ its.size ≤ sizeLine ∧ Vals xs its.toList
/-- a tuple, a list to be read, off F -/
def TupA (K : PySem.W.Frag) (F : AP1) (H : Hp) (a : Addr) (xs : List V) : Prop := (Rd H a (.tup xs) ∧ ¬ F a) ∨ KTup K a xs
def LstA (F : AP1) (H : Hp) (a : Addr) (xs : List V) : Prop := H a = some (.lst xs) ∧ ¬ F a
/-- the script's list, read alone -/
def ScrA (K : PySem.W.Frag) (F : AP1) (H : Hp) (a : Addr) (xs : List V) : Prop := (Rd H a (.lst xs) ∧ ¬ F a) ∨ KLst K a xs
theorem TupA.sq {K : PySem.W.Frag} {F : AP1} {H : Hp} {a : Addr} {xs : List V} (h : TupA K F H a xs) : SqT K H a xs := h.elim (fun z => .inl z.1) .inr
theorem LstA.sq {K : PySem.W.Frag} {F : AP1} {H : Hp} {a : Addr} {xs : List V} (h : LstA F H a xs) : SqL K H a xs := .inl (.inl h.1)
theorem ScrA.sq {K : PySem.W.Frag} {F : AP1} {H : Hp} {a : Addr} {xs : List V} (h : ScrA K F H a xs) : SqL K H a xs := h.elim (fun z => .inl z.1) .inr

section
variable (K : PySem.W.Frag) (mg : Mg) (F : AP1) (H : Hp)
mutual
/-- the value v holds the data d; nothing of it lies at an address of F -/
inductive Rep : V → D → Prop
  | non : Rep .non .non
  | bl (b : Bool) : Rep (.bl b) (.bl b)
  | int (i : Int) : Rep (.int i) (.int i)
  | str (x : Str) : Rep (.str x) (.str x)
  | tup {a : Addr} {xs : List V} {ds : List D} : TupA K F H a xs → RepL xs ds → Rep (.ref a) (.tup ds)
  | scr {a : Addr} {ns : List Int} : ScrA K F H a (ns.map V.int) → Rep (.ref a) (.scr ns)
  | lst {a : Addr} {xs : List V} {ds : List D} : LstA F H a xs → RepL xs ds → Rep (.ref a) (.lst ds)
  | obj {a C dx : Addr} {fs : List (Str × V)} {c : Str} {ns : List Str} {ds : List D} : H a = some (.ins C dx fs) → ¬ F a → mg c = some (.ref C) → fs.map (·.1) = ns → RepL (fs.map (·.2)) ds → Rep (.ref a) (.obj c ns ds)
inductive RepL : List V → List D → Prop
  | nil : RepL [] []
  | cons {v : V} {vs : List V} {d : D} {ds : List D} : Rep v d → RepL vs ds → RepL (v :: vs) (d :: ds)
end
/-- .. or the root is a list, and F holds of it -/
def RepB (v : V) (d : D) : Prop := Rep K mg F H v d ∨ ∃ a xs ds, v = .ref a ∧ d = .lst ds ∧ H a = some (.lst xs) ∧ RepL K mg F H xs ds
end

/-- all that is tracked off F stands in H' too, off F' -/
def Kp (F F' : AP1) (H H' : Hp) : Prop := ∀ a o, H a = some o → ¬ F a → H' a = some o ∧ ¬ F' a
theorem Kp.rd {F F' : AP1} {H H' : Hp} (k : Kp F F' H H') {a : Addr} {u : HO} (h : Rd H a u) (n : ¬ F a) : Rd H' a u ∧ ¬ F' a := by
  rcases h with h | ⟨o, h⟩
  · exact ⟨.inl (k a _ h n).1, (k a _ h n).2⟩
  · exact ⟨.inr ⟨o, (k a _ h n).1⟩, (k a _ h n).2⟩
theorem Kp.same {F : AP1} {H H' : Hp} (s : Same H H') : Kp F F H H' := fun a o e n => ⟨s a o e, n⟩
section
variable {K : PySem.W.Frag} {mg : Mg} {F F' : AP1} {H H' : Hp}
theorem TupA.stay (k : Kp F F' H H') {a : Addr} {xs : List V} (h : TupA K F H a xs) : TupA K F' H' a xs := h.elim (fun z => .inl (k.rd z.1 z.2)) .inr
theorem LstA.stay (k : Kp F F' H H') {a : Addr} {xs : List V} (h : LstA F H a xs) : LstA F' H' a xs := k _ _ h.1 h.2
theorem ScrA.stay (k : Kp F F' H H') {a : Addr} {xs : List V} (h : ScrA K F H a xs) : ScrA K F' H' a xs := h.elim (fun z => .inl (k.rd z.1 z.2)) .inr
mutual
theorem Rep.stay (k : Kp F F' H H') : ∀ (d : D) (v : V), Rep K mg F H v d → Rep K mg F' H' v d
  | .non, _, .non => .non
  | .bl _, _, .bl _ => .bl _
  | .int _, _, .int _ => .int _
  | .str _, _, .str _ => .str _
  | .tup ds, _, .tup h r => .tup (h.stay k) (RepL.stay k ds _ r)
  | .lst ds, _, .lst h r => .lst (h.stay k) (RepL.stay k ds _ r)
  | .scr _, _, .scr h => .scr (h.stay k)
  | .obj _ _ ds, _, .obj h n m e r => .obj (k _ _ h n).1 (k _ _ h n).2 m e (RepL.stay k ds _ r)
theorem RepL.stay (k : Kp F F' H H') : ∀ (ds : List D) (vs : List V), RepL K mg F H vs ds → RepL K mg F' H' vs ds
  | [], _, .nil => .nil
  | d :: ds, _, .cons h r => .cons (Rep.stay k d _ h) (RepL.stay k ds _ r)
end
theorem Rep.same (s : Same H H') {v : V} {d : D} (h : Rep K mg F H v d) : Rep K mg F H' v d := Rep.stay (.same s) d v h
theorem RepL.same (s : Same H H') {v : List V} {d : List D} (h : RepL K mg F H v d) : RepL K mg F H' v d := RepL.stay (.same s) d v h
theorem Rd.same {a : Addr} {u : HO} (s : Same H H') (h : Rd H a u) : Rd H' a u := by
  rcases h with h | ⟨o, h⟩
  · exact .inl (s _ _ h)
  · exact .inr ⟨o, s _ _ h⟩
theorem RepB.same (s : Same H H') {v : V} {d : D} (h : RepB K mg F H v d) : RepB K mg F H' v d := by
  rcases h with h | ⟨a, xs, ds, e1, e2, h, r⟩
  · exact .inl (h.same s)
  · exact .inr ⟨a, xs, ds, e1, e2, s _ _ h, r.same s⟩
theorem RepL.len : ∀ {vs : List V} {ds : List D}, RepL K mg F H vs ds → vs.length = ds.length
  | _, _, .nil => rfl
  | _, _, .cons _ r => congrArg (· + 1) r.len
theorem RepL.get : ∀ {vs : List V} {ds : List D} {i : Nat} {d : D}, RepL K mg F H vs ds → ds[i]? = some d → ∃ v, vs[i]? = some v ∧ Rep K mg F H v d
  | _, _, _, _, .nil, e => by simp at e
  | _, _, 0, _, .cons h _, e => ⟨_, rfl, by
    have e' := Option.some.inj e
    subst e'
    exact h⟩
  | _, _, i + 1, _, .cons _ r, e => RepL.get (i := i) r e
theorem RepL.get' : ∀ {vs : List V} {ds : List D} {i : Nat} {v : V}, RepL K mg F H vs ds → vs[i]? = some v → ∃ d, ds[i]? = some d ∧ Rep K mg F H v d
  | _, _, _, _, .nil, e => by simp at e
  | _, _, 0, _, .cons h _, e => ⟨_, rfl, by
    have e' := Option.some.inj e
    subst e'
    exact h⟩
  | _, _, i + 1, _, .cons _ r, e => RepL.get' (i := i) r e
theorem RepL.append : ∀ {vs us : List V} {ds es : List D}, RepL K mg F H vs ds → RepL K mg F H us es → RepL K mg F H (vs ++ us) (ds ++ es)
  | _, _, _, _, .nil, s => s
  | _, _, _, _, .cons h r, s => .cons h (r.append s)
theorem RepL.take : ∀ (n : Nat) {vs : List V} {ds : List D}, RepL K mg F H vs ds → RepL K mg F H (vs.take n) (ds.take n)
  | 0, _, _, _ => .nil
  | _ + 1, _, _, .nil => .nil
  | n + 1, _, _, .cons h r => .cons h (r.take n)
theorem RepL.drop : ∀ (n : Nat) {vs : List V} {ds : List D}, RepL K mg F H vs ds → RepL K mg F H (vs.drop n) (ds.drop n)
  | 0, _, _, r => r
  | _ + 1, _, _, .nil => .nil
  | n + 1, _, _, .cons _ r => r.drop n
theorem RepL.set {v : V} {d : D} (h : Rep K mg F H v d) : ∀ (i : Nat) {vs : List V} {ds : List D}, RepL K mg F H vs ds → RepL K mg F H (vs.set i v) (ds.set i d)
  | _, _, _, .nil => .nil
  | 0, _, _, .cons _ r => .cons h r
  | i + 1, _, _, .cons g r => .cons g (r.set h i)
theorem RepL.rep : ∀ (k : Nat) {vs : List V} {ds : List D}, RepL K mg F H vs ds → RepL K mg F H (List.replicate k vs).flatten (List.replicate k ds).flatten
  | 0, _, _, _ => .nil
  | k + 1, vs, ds, r => by
    show RepL K mg F H (vs ++ (List.replicate k vs).flatten) (ds ++ (List.replicate k ds).flatten)
    exact r.append (r.rep k)
theorem RepL.ints : ∀ {vs : List V} {ns : List Int}, RepL K mg F H vs (ns.map D.int) → vs = ns.map V.int
  | _, [], .nil => rfl
  | _, n :: ns, .cons h r => by
    cases h
    rw [r.ints]
    rfl
theorem RepL.of_ints : ∀ (ns : List Int), RepL K mg F H (ns.map V.int) (ns.map D.int)
  | [] => .nil
  | n :: ns => .cons (.int n) (RepL.of_ints ns)
theorem RepL.bls : ∀ {vs : List V} {ns : List Bool}, RepL K mg F H vs (ns.map D.bl) → vs = ns.map V.bl
  | _, [], .nil => rfl
  | _, n :: ns, .cons h r => by
    cases h
    rw [r.bls]
    rfl
/-- what may be read of a list or a tuple -/
theorem RepB.lst {v : V} {ds : List D} (h : RepB K mg F H v (.lst ds)) : ∃ a xs, v = .ref a ∧ H a = some (.lst xs) ∧ RepL K mg F H xs ds := by
  rcases h with h | ⟨a, xs, ds', e1, e2, h, r⟩
  · cases h with
    | lst h r => exact ⟨_, _, rfl, h.1, r⟩
  · cases e2
    exact ⟨a, xs, e1, h, r⟩
theorem RepB.tup {v : V} {ds : List D} (h : RepB K mg F H v (.tup ds)) : ∃ a xs, v = .ref a ∧ TupA K F H a xs ∧ RepL K mg F H xs ds := by
  rcases h with h | ⟨a, xs, ds', e1, e2, h, r⟩
  · cases h with
    | tup h r => exact ⟨_, _, rfl, h, r⟩
  · cases e2
theorem RepB.clean {v : V} {d : D} (h : RepB K mg F H v d) (n : ∀ ds, d ≠ .lst ds) : Rep K mg F H v d := by
  rcases h with h | ⟨a, xs, ds', e1, e2, h, r⟩
  · exact h
  · exact absurd e2 (n ds')
theorem RepB.int {v : V} {i : Int} (h : RepB K mg F H v (.int i)) : v = .int i := by
  have h' := h.clean (fun _ z => nomatch z)
  cases h'
  rfl
theorem RepB.bl {v : V} {i : Bool} (h : RepB K mg F H v (.bl i)) : v = .bl i := by
  have h' := h.clean (fun _ z => nomatch z)
  cases h'
  rfl
theorem RepB.str {v : V} {i : Str} (h : RepB K mg F H v (.str i)) : v = .str i := by
  have h' := h.clean (fun _ z => nomatch z)
  cases h'
  rfl
theorem RepB.non {v : V} (h : RepB K mg F H v .non) : v = .non := by
  have h' := h.clean (fun _ z => nomatch z)
  cases h'
  rfl
end

/-! ### the state of a body -/
abbrev DSt := List (Option D)
abbrev DE := DSt → Option D
abbrev DT := DSt → Option Bool
abbrev DA := DSt → Option (List D)
/-- how a slot stands: nothing is known; its data is free of what is written; only its root may be written by others; it is a list that this body writes; a list of the caller's that this body writes -/
inductive Fl where
  | no | cl | bw | ow | io | o2 | sf
  deriving DecidableEq
def Fl.r : Fl → Bool
  | .no => false
  | .o2 => false
  | .sf => false
  | _ => true
/-- an object whose fields are clean -/
def ObB (K : PySem.W.Frag) (mg : Mg) (F : AP1) (H : Hp) (v : V) (d : D) : Prop := ∃ p C dx fs c ns ds, v = .ref p ∧ d = .obj c ns ds ∧ H p = some (.ins C dx fs) ∧ mg c = some (.ref C) ∧ fs.map (·.1) = ns ∧ RepL K mg F H (fs.map (·.2)) ds
theorem ObB.imp {K : PySem.W.Frag} {mg : Mg} {F F' : AP1} {H H' : Hp} {v : V} {d : D} (hk : ∀ p C dx fs, v = .ref p → H p = some (.ins C dx fs) → H' p = some (.ins C dx fs)) (hr : ∀ xs es, RepL K mg F H xs es → RepL K mg F' H' xs es) (h : ObB K mg F H v d) : ObB K mg F' H' v d := by
  obtain ⟨p, C, dx, fs, c, ns, ds, e1, e2, t, m, e3, l⟩ := h
  exact ⟨p, C, dx, fs, c, ns, ds, e1, e2, hk _ _ _ _ e1 t, m, e3, hr _ _ l⟩
/-- items that are borrowed -/
def RepBL (K : PySem.W.Frag) (mg : Mg) (F : AP1) (H : Hp) : List V → List D → Prop
  | v :: vs, d :: ds => RepB K mg F H v d ∧ RepBL K mg F H vs ds
  | [], [] => True
  | _, _ => False
theorem RepBL.imp {K : PySem.W.Frag} {mg : Mg} {F F' : AP1} {H H' : Hp} (h : ∀ v d, RepB K mg F H v d → RepB K mg F' H' v d) : ∀ {vs : List V} {ds : List D}, RepBL K mg F H vs ds → RepBL K mg F' H' vs ds
  | [], [], _ => trivial
  | v :: vs, d :: ds, z => ⟨h v d z.1, RepBL.imp h z.2⟩
  | [], _ :: _, z => z.elim
  | _ :: _, [], z => z.elim
theorem RepBL.len {K : PySem.W.Frag} {mg : Mg} {F : AP1} {H : Hp} : ∀ {vs : List V} {ds : List D}, RepBL K mg F H vs ds → vs.length = ds.length
  | [], [], _ => rfl
  | v :: vs, d :: ds, z => congrArg (· + 1) z.2.len
  | [], _ :: _, z => z.elim
  | _ :: _, [], z => z.elim
theorem RepBL.get {K : PySem.W.Frag} {mg : Mg} {F : AP1} {H : Hp} : ∀ {vs : List V} {ds : List D} {i : Nat} {d : D}, RepBL K mg F H vs ds → ds[i]? = some d → ∃ v, vs[i]? = some v ∧ RepB K mg F H v d
  | [], [], _, _, _, e => by simp at e
  | v :: vs, d :: ds, 0, _, z, e => ⟨v, rfl, by
    have e' := Option.some.inj e
    subst e'
    exact z.1⟩
  | v :: vs, d :: ds, i + 1, _, z, e => RepBL.get (i := i) z.2 e
  | [], _ :: _, _, _, z, _ => z.elim
  | _ :: _, [], _, _, z, _ => z.elim
structure ER (K : PySem.W.Frag) (mg : Mg) (fl : List Fl) (F : AP1) (σ : L2.St) (H : Hp) (δ : DSt) : Prop where
  len : fl.length ≤ σ.length
  dom : ∀ a, F a → H a ≠ none
  slot : ∀ (i : Nat) (d : D) (k : Fl), fl[i]? = some k → k.r = true → δ[i]? = some (some d) → ∃ v, σ[i]? = some (some v) ∧ RepB K mg F H v d ∧ (k = Fl.cl → Rep K mg F H v d)
  slot2 : ∀ (i : Nat) (d : D), fl[i]? = some .o2 → δ[i]? = some (some d) → ∃ p xs ds, σ[i]? = some (some (.ref p)) ∧ d = .lst ds ∧ H p = some (.lst xs) ∧ RepBL K mg F H xs ds
  slotS : ∀ (i : Nat) (d : D), fl[i]? = some .sf → δ[i]? = some (some d) → ∃ v, σ[i]? = some (some v) ∧ ObB K mg F H v d
theorem dom_same {F : AP1} {H H' : Hp} (s : Same H H') (h : ∀ a, F a → H a ≠ none) : ∀ a, F a → H' a ≠ none := fun a f e => by
  cases q : H a with
  | none => exact h a f q
  | some o => rw [s a o q] at e; cases e
theorem ER.same {K : PySem.W.Frag} {mg : Mg} {fl : List Fl} {F : AP1} {σ : L2.St} {H H' : Hp} {δ : DSt} (s : Same H H') (h : ER K mg fl F σ H δ) : ER K mg fl F σ H' δ :=
  ⟨h.len, dom_same s h.dom, fun i d k ek nk e => by
    obtain ⟨v, e1, r, c⟩ := h.slot i d k ek nk e
    exact ⟨v, e1, r.same s, fun z => (c z).same s⟩, fun i d ek e => by
    obtain ⟨p, xs, ds, e1, e2, t, l⟩ := h.slot2 i d ek e
    exact ⟨p, xs, ds, e1, e2, s _ _ t, l.imp fun _ _ r => r.same s⟩, fun i d ek e => by
    obtain ⟨v, e1, z⟩ := h.slotS i d ek e
    exact ⟨v, e1, z.imp (fun _ _ _ _ _ t => s _ _ t) fun _ _ r => r.same s⟩⟩

section
variable (K : PySem.W.Frag) (mg : Mg) (fl : List Fl)
/-- an expression's reading: its value is borrowed, clean, a new list -/
def tB (f : DE) : TE := fun σ H Q => ∃ F δ d, ER K mg fl F σ H δ ∧ f δ = some d ∧ ∀ v H', Same H H' → RepB K mg F H' v d → Q v H'
def tD (f : DE) : TE := fun σ H Q => ∃ F δ d, ER K mg fl F σ H δ ∧ f δ = some d ∧ ∀ v H', Same H H' → Rep K mg F H' v d → Q v H'
def tN (f : DA) : TE := fun σ H Q => ∃ F δ ds, ER K mg fl F σ H δ ∧ f δ = some ds ∧ ∀ a xs H', Same H H' → H a = none → H' a = some (.lst xs) → RepL K mg (fun b => F b ∨ b = a) H' xs ds → Q (.ref a) H'
def tT (f : DT) : TT := fun σ H Q => ∃ F δ b, ER K mg fl F σ H δ ∧ f δ = some b ∧ ∀ H', Same H H' → Q b H'
/-- a list of arguments: true: clean -/
def RepAs (F : AP1) (H : Hp) : List Bool → List V → List D → Prop
  | b :: bs, v :: vs, d :: ds => (RepB K mg F H v d ∧ (b = true → Rep K mg F H v d)) ∧ RepAs F H bs vs ds
  | [], [], [] => True
  | _, _, _ => False
def tAs (bs : List Bool) (f : DA) : TA := fun σ H Q => ∃ F δ ds, ER K mg fl F σ H δ ∧ f δ = some ds ∧ ∀ vs H', Same H H' → RepAs K mg F H' bs vs ds → Q vs H'
end
theorem RepAs.same {K : PySem.W.Frag} {mg : Mg} {F : AP1} {H H' : Hp} (s : Same H H') : ∀ {bs : List Bool} {vs : List V} {ds : List D}, RepAs K mg F H bs vs ds → RepAs K mg F H' bs vs ds
  | [], [], [], _ => trivial
  | _ :: bs, v :: vs, d :: ds, h => ⟨⟨h.1.1.same s, fun e => (h.1.2 e).same s⟩, RepAs.same (bs := bs) s h.2⟩
  | [], _ :: _, _, h => h.elim
  | [], [], _ :: _, h => h.elim
  | _ :: _, [], _, h => h.elim
  | _ :: _, _ :: _, [], h => h.elim
theorem PE_imp {X : Cx} {e : Expr} {t t' : TE} (h : PE X e t) (i : ∀ σ H Q, t' σ H Q → t σ H Q) : PE X e t' := ⟨fun pins s σ H Q I q => h.run pins s σ H Q I (i σ H Q q)⟩
theorem PT_imp {X : Cx} {e : Expr} {t t' : TT} (h : PT X e t) (i : ∀ σ H Q, t' σ H Q → t σ H Q) : PT X e t' := ⟨fun pins s σ H Q I q => h.run pins s σ H Q I (i σ H Q q)⟩
theorem PA_imp {X : Cx} {e : List Expr} {t t' : TA} (h : PA X e t) (i : ∀ σ H Q, t' σ H Q → t σ H Q) : PA X e t' := ⟨fun pos pins s σ H Q I q => h.run pos pins s σ H Q I (i σ H Q q)⟩

theorem bind_some {α β : Type} {x : Option α} {f : α → Option β} {b : β} (h : x.bind f = some b) : ∃ a, x = some a ∧ f a = some b := by
  cases x with
  | none => cases h
  | some a => exact ⟨a, rfl, h⟩

section
variable {X : Cx} {fl : List Fl} {e e2 : Expr} {es : List Expr} {f g' : DE} {fa fb : DA} {pos : Pos}
/-! ### the forms into one another -/
theorem cB (h : PE X e (tD X.K X.mg fl f)) : PE X e (tB X.K X.mg fl f) :=
  PE_imp h fun σ H Q ⟨F, δ, d, er, ef, q⟩ => ⟨F, δ, d, er, ef, fun v H' s r => q v H' s (.inl r)⟩
def dLst (fa : DA) : DE := fun δ => (fa δ).map D.lst
theorem cD (h : PE X e (tN X.K X.mg fl fa)) : PE X e (tD X.K X.mg fl (dLst fa)) :=
  PE_imp h fun σ H Q ⟨F, δ, d, er, ef, q⟩ => by
    have ef' : (fa δ).map D.lst = some d := ef
    cases ed : fa δ with
    | none => rw [ed] at ef'; cases ef'
    | some ds =>
      rw [ed] at ef'
      cases ef'
      refine ⟨F, δ, ds, er, ed, fun a xs H' s n e' r => q _ _ s (.lst ⟨e', fun z => ?_⟩ (RepL.stay (fun b o eb nb => ⟨eb, fun z => nb (.inl z)⟩) _ _ r))⟩
      exact er.dom a z n
/-! ### names, constants -/
def dvar (i : Nat) : DE := fun δ => δ.getD i none
theorem dvar_at {i : Nat} {δ : DSt} {d : D} (h : dvar i δ = some d) : δ[i]? = some (some d) := by
  unfold dvar at h
  rw [List.getD_eq_getElem?_getD] at h
  cases q : δ[i]? with
  | none => rw [q] at h; cases h
  | some o => rw [q] at h; exact congrArg some h
def Fl.rd : Option Fl → Bool
  | some k => k.r
  | none => false
theorem Fl.rd_of {o : Option Fl} (h : Fl.rd o = true) : ∃ k, o = some k ∧ k.r = true := by
  cases o with
  | none => cases h
  | some k => exact ⟨k, rfl, h⟩
theorem pvB (i : Nat) {x : Str} (hf : Fl.rd fl[i]? = true := by rfl) (hN : X.N[i]? = some x := by rfl) (hv : Vis X.env.scope x := by first | exact Or.inl rfl | exact Or.inr (Or.inl rfl) | exact Or.inr (Or.inr rfl)) (hd : (x == ("__debug__" : Str)) = false := by decide)
    (hcd : (x == ("__classdict__" : Str)) = false := by decide) : PE X (.Name x pos) (tB X.K X.mg fl (dvar i)) :=
  PE_imp (pe_var hN hv hd hcd) fun σ H Q ⟨F, δ, d, er, ef, q⟩ => by
    obtain ⟨k, ek, nk⟩ := Fl.rd_of hf
    obtain ⟨v, e1, r, _⟩ := er.slot i d k ek nk (dvar_at ef)
    exact ⟨v, e1, q v H (Same.refl H) r⟩
theorem pvC (i : Nat) {x : Str} (hf : fl[i]? = some Fl.cl := by rfl) (hN : X.N[i]? = some x := by rfl) (hv : Vis X.env.scope x := by first | exact Or.inl rfl | exact Or.inr (Or.inl rfl) | exact Or.inr (Or.inr rfl)) (hd : (x == ("__debug__" : Str)) = false := by decide)
    (hcd : (x == ("__classdict__" : Str)) = false := by decide) : PE X (.Name x pos) (tD X.K X.mg fl (dvar i)) :=
  PE_imp (pe_var hN hv hd hcd) fun σ H Q ⟨F, δ, d, er, ef, q⟩ => by
    obtain ⟨v, e1, _, c⟩ := er.slot i d .cl hf rfl (dvar_at ef)
    exact ⟨v, e1, q v H (Same.refl H) (c rfl)⟩
def dcon (d : D) : DE := fun _ => some d
theorem pcon {v : V} {d : D} (h : PE X e (tC v)) (r : ∀ F H, Rep X.K X.mg F H v d) : PE X e (tD X.K X.mg fl (dcon d)) :=
  PE_imp h fun σ H Q ⟨F, δ, d', er, ef, q⟩ => by
    cases ef
    exact q v H (Same.refl H) (r F H)
theorem dInt {i : Int} {j} : PE X (.Constant (.int i) j pos) (tD X.K X.mg fl (dcon (.int i))) := pcon pe_int fun _ _ => .int i
theorem dBl {b : Bool} {j} : PE X (.Constant (.bool b) j pos) (tD X.K X.mg fl (dcon (.bl b))) := pcon pe_bl fun _ _ => .bl b
theorem dNon {j} : PE X (.Constant .none j pos) (tD X.K X.mg fl (dcon .non)) := pcon pe_non fun _ _ => .non
theorem dStr {x : Str} {j} : PE X (.Constant (.str x) j pos) (tD X.K X.mg fl (dcon (.str x))) := pcon pe_str fun _ _ => .str x
/-- a module's int or text -/
theorem dGlob {x : Str} {v : V} {d : D} {u : Value} (hg : Gl X x) (hm : X.mg x = some u) (r : RelV v u) (rd : ∀ F H, Rep X.K X.mg F H v d) (hd : (x == ("__debug__" : Str)) = false := by decide) : PE X (.Name x pos) (tD X.K X.mg fl (dcon d)) := pcon (pe_glob hg hm r hd) rd

/-! ### two-place operators -/
/-- operands read, data out -/
def rD (K : PySem.W.Frag) (mg : Mg) (g : D → D → Option D) : R2 := fun x y H Q => ∃ F dx dy d, (∀ a, F a → H a ≠ none) ∧ RepB K mg F H x dx ∧ RepB K mg F H y dy ∧ g dx dy = some d ∧ ∀ v H', Same H H' → Rep K mg F H' v d → Q v H'
def R2D (X : Cx) (f : Value → Value → Sem Value) (g : D → D → Option D) : Prop := OpR X f (rD X.K X.mg g)
theorem R2D.mk {X : Cx} {f : Value → Value → Sem Value} {g : D → D → Option D} (h :
  ∀ (F : AP1) (pins : List (Addr × Obj)) (s : Shared) (σ : L2.St) (H : Hp) (x y : V) (v u : Value) (Q : VK) (dx dy d : D), (∀ a, F a → H a ≠ none) → Inv X pins σ H s → RelV x v → RelV y u → RepB X.K X.mg F H x dx → RepB X.K X.mg F H y dy → g dx dy = some d →
    (∀ v H', Same H H' → Rep X.K X.mg F H' v d → Q v H') → wpAny (model X.prog X.w) X.A (f v u) (EP X pins σ Q) X.xe s) : R2D X f g :=
  fun pins s σ H x y v u Q I rx ry ⟨F, dx, dy, d, hd, r1, r2, e, q⟩ => h F pins s σ H x y v u Q dx dy d hd I rx ry r1 r2 e q
def dBin (g : D → D → Option D) (fa fb : DE) : DE := fun δ => (fa δ).bind fun x => (fb δ).bind fun y => g x y
/-- two operands, read -/
theorem bin2 {f1 f2 : DE} {σ : L2.St} {H : Hp} {F : AP1} {δ : DSt} {dx dy : D} {R : V → V → Hp → Prop} (er : ER X.K X.mg fl F σ H δ) (e1 : f1 δ = some dx) (e2 : f2 δ = some dy)
    (h : ∀ x y H2, Same H H2 → RepB X.K X.mg F H2 x dx → RepB X.K X.mg F H2 y dy → R x y H2) : tB X.K X.mg fl f1 σ H fun x H1 => tB X.K X.mg fl f2 σ H1 fun y H2 => R x y H2 :=
  ⟨F, δ, dx, er, e1, fun v H1 s1 r1 => ⟨F, δ, dy, er.same s1, e2, fun u H2 s2 r2 => h v u H2 (s1.trans s2) (r1.same s2) r2⟩⟩
theorem rd_of {f1 f2 : DE} {g : D → D → Option D} {σ : L2.St} {H : Hp} {F : AP1} {δ : DSt} {d : D} {Q : VK} (er : ER X.K X.mg fl F σ H δ) (ef : dBin g f1 f2 δ = some d) (q : ∀ v H', Same H H' → Rep X.K X.mg F H' v d → Q v H') :
    tOp (rD X.K X.mg g) (tB X.K X.mg fl f1) (tB X.K X.mg fl f2) σ H Q := by
  obtain ⟨dx, e1, h⟩ := bind_some ef
  obtain ⟨dy, e2, h⟩ := bind_some h
  exact bin2 er e1 e2 fun x y H2 s r1 r2 => ⟨F, dx, dy, d, dom_same s er.dom, r1, r2, h, fun v H' s' r => q v H' (s.trans s') r⟩
theorem dOp {op : Operator} {g : D → D → Option D} (ho : R2D X (binaryOp op) g) (ha : PE X e (tB X.K X.mg fl f)) (hb : PE X e2 (tB X.K X.mg fl g')) : PE X (.BinOp e op e2 pos) (tD X.K X.mg fl (dBin g f g')) :=
  PE_imp (pe_op ho ha hb) fun σ H Q ⟨F, δ, d, er, ef, q⟩ => rd_of er ef q
theorem dCmp {op : CmpOp} {g : D → D → Option D} (ho : R2D X (compareOp op) g) (ha : PE X e (tB X.K X.mg fl f)) (hb : PE X e2 (tB X.K X.mg fl g')) (hm : behindInMarks op e2 = false) : PE X (.Compare e [op] [e2] pos) (tD X.K X.mg fl (dBin g f g')) :=
  PE_imp (pe_cmpR ho ha hb hm) fun σ H Q ⟨F, δ, d, er, ef, q⟩ => rd_of er ef q
/-- a test: the value is a bool -/
def asT (f : DE) : DT := fun δ => (f δ).bind fun d => match d with
  | .bl b => some b
  | _ => none
theorem asT_of {f : DE} {δ : DSt} {b : Bool} (h : asT f δ = some b) : f δ = some (.bl b) := by
  obtain ⟨d, e, h⟩ := bind_some h
  cases d with
  | bl c => cases h; exact e
  | _ => cases h
theorem tCmp {op : CmpOp} {g : D → D → Option D} (ho : R2D X (compareOp op) g) (ha : PE X e (tB X.K X.mg fl f)) (hb : PE X e2 (tB X.K X.mg fl g')) (hm : behindInMarks op e2 = false) : PT X (.Compare e [op] [e2] pos) (tT X.K X.mg fl (asT (dBin g f g'))) :=
  PT_imp (pt_cmpR ho ha hb hm) fun σ H Q ⟨F, δ, b, er, ef, q⟩ => rd_of er (asT_of ef) fun v H' s r => by
    cases r
    exact ⟨b, rfl, q H' s⟩
end
end DL

end

section
set_option Elab.async false
set_option linter.all false
set_option maxRecDepth 100000
namespace DL
open PySem PySem.Spec PyProof.Rows L2

/-! ### operators on data -/
def mulOk (i j : Int) : Bool := decide (i.natAbs.log2 + j.natAbs.log2 < 100000000)
theorem mulOk_ok {i j : Int} (h : mulOk i j = true) : IntMulOk i j := by
  have b : ∀ x : Int, Builtin.Int.intBits x ≤ x.natAbs.log2 + 1 := fun x => by
    unfold Builtin.Int.intBits
    split <;> omega
  have h1 := b i
  have h2 := b j
  have h3 : i.natAbs.log2 + j.natAbs.log2 < 100000000 := of_decide_eq_true h
  have e : bitsLine = 134217728 := by decide
  unfold IntMulOk
  intro z
  rw [Bool.and_eq_true] at z
  have z2 := z.2
  unfold Builtin.Int.intTooBig at z2
  have z3 := of_decide_eq_true z2
  rw [e] at z3
  omega
def divOk (j : Int) : Bool := decide (j ≠ 0) && decide (j.natAbs.log2 < 9000)
def gAdd : D → D → Option D
  | .int a, .int b => some (.int (a + b))
  | .int a, .bl b => some (.int (a + b2i b))
  | .tup a, .tup b => if a.length + b.length ≤ sizeLine then some (.tup (a ++ b)) else none
  | .lst a, .lst b => if a.length + b.length ≤ sizeLine then some (.lst (a ++ b)) else none
  | .str a, .str b => if a.length + b.length ≤ sizeLine then some (.str (a ++ b)) else none
  | _, _ => none
def gSub : D → D → Option D
  | .int a, .int b => some (.int (a - b))
  | _, _ => none
def gMul : D → D → Option D
  | .int a, .int b => if mulOk a b = true then some (.int (a * b)) else none
  | .tup a, .int k => if (k ≤ 1000 ∧ -1000 ≤ k) ∧ a.length ≤ 1000 then some (.tup (List.replicate k.toNat a).flatten) else none
  | _, _ => none
def gDiv : D → D → Option D
  | .int a, .int b => if divOk b = true then some (.int (a.fdiv b)) else none
  | _, _ => none
def gMod : D → D → Option D
  | .int a, .int b => if b ≠ 0 then some (.int (a.fmod b)) else none
  | _, _ => none
def gPow : D → D → Option D
  | .int a, .int b => if 0 ≤ b ∧ b ≤ 1000000 ∧ a.natAbs < 2 ^ 64 then some (.int (a ^ b.toNat)) else none
  | _, _ => none
def gShl : D → D → Option D
  | .int a, .int b => if 0 ≤ b ∧ b ≤ 1000000 ∧ a.natAbs < 2 ^ 64 then some (.int (a * 2 ^ b.toNat)) else none
  | _, _ => none
def gShr : D → D → Option D
  | .int a, .int b => if 0 ≤ b then some (.int (a / 2 ^ b.toNat)) else none
  | _, _ => none
def gAnd : D → D → Option D
  | .int a, .int b => some (.int (Builtin.bitAnd a b))
  | _, _ => none
def gXor : D → D → Option D
  | .int a, .int b => some (.int (Builtin.bitXor a b))
  | _, _ => none
def gLt : D → D → Option D
  | .int a, .int b => some (.bl (decide (a < b)))
  | _, _ => none
def gLe : D → D → Option D
  | .int a, .int b => some (.bl (decide (a ≤ b)))
  | _, _ => none
def gGt : D → D → Option D
  | .int a, .int b => some (.bl (decide (b < a)))
  | _, _ => none
def gGe : D → D → Option D
  | .int a, .int b => some (.bl (decide (b ≤ a)))
  | _, _ => none
/-- is None -/
def D.isNon : D → Bool
  | .non => true
  | _ => false
def gIs : D → D → Option D
  | a, .non => some (.bl a.isNon)
  | _, _ => none
def gIsNot : D → D → Option D
  | a, .non => some (.bl (!a.isNon))
  | _, _ => none
mutual
/-- as the library's data -/
def D.py : D → Option PyData
  | .non => some .none
  | .bl b => some (.bool b)
  | .int i => some (.int i)
  | .str x => some (.str x)
  | .tup xs => (D.pyL xs).map .tuple
  | .lst xs => (D.pyL xs).map .list
  | .obj _ _ _ => none
  | .scr _ => none
def D.pyL : List D → Option (List PyData)
  | [] => some []
  | d :: ds => (D.py d).bind fun x => (D.pyL ds).map (x :: ·)
end
/-- data that == may be asked of -/
def D.pyS (d : D) : Option PyData := (D.py d).bind fun x => if SeqAt.shaped x = true then some x else none
def gEq (a b : D) : Option D := (D.pyS a).bind fun x => (D.pyS b).map fun y => .bl (PyData.eqv x y)
def gNe (a b : D) : Option D := (D.pyS a).bind fun x => (D.pyS b).map fun y => .bl (!PyData.eqv x y)
def gIn (a b : D) : Option D := match b with
  | .lst bs => (D.pyS a).bind fun x => (D.pyS (.lst bs)).bind fun y => match y with
    | .list ys => some (.bl (ys.any fun z => PyData.eqv z x))
    | _ => none
  | .tup bs => (D.pyS a).bind fun x => (D.pyS (.lst bs)).bind fun y => match y with
    | .list ys => some (.bl (ys.any fun z => PyData.eqv z x))
    | _ => none
  | _ => none

section
variable {K : PySem.W.Frag} {mg : Mg} {F : AP1} {H : Hp}
mutual
theorem Rep.py : ∀ (d : D) (v : V) (p : PyData), Rep K mg F H v d → D.py d = some p → Dp K H v p
  | .non, _, _, .non, e => by cases e; exact .non
  | .bl _, _, _, .bl _, e => by cases e; exact .bl _
  | .int _, _, _, .int _, e => by cases e; exact .int _
  | .str _, _, _, .str _, e => by cases e; exact .str _
  | .tup ds, _, p, .tup h r, e => by
    have e' : (D.pyL ds).map PyData.tuple = some p := by
      rw [← e, D.py]
    cases q : D.pyL ds with
    | none => rw [q] at e'; cases e'
    | some ps =>
      rw [q] at e'
      cases e'
      exact .tup h.sq (RepL.py ds _ ps r q)
  | .lst ds, _, p, .lst h r, e => by
    have e' : (D.pyL ds).map PyData.list = some p := by
      rw [← e, D.py]
    cases q : D.pyL ds with
    | none => rw [q] at e'; cases e'
    | some ps =>
      rw [q] at e'
      cases e'
      exact .lst h.sq (RepL.py ds _ ps r q)
  | .obj _ _ _, _, p, _, e => by
    rw [D.py] at e
    cases e
  | .scr _, _, p, _, e => by
    rw [D.py] at e
    cases e
theorem RepL.py : ∀ (ds : List D) (vs : List V) (ps : List PyData), RepL K mg F H vs ds → D.pyL ds = some ps → DpAll K H vs ps
  | [], _, ps, .nil, e => by
    rw [D.pyL] at e
    cases e
    exact .nil
  | d :: ds, _, ps, .cons h r, e => by
    rw [D.pyL] at e
    obtain ⟨x, e1, e2⟩ := bind_some e
    cases q : D.pyL ds with
    | none => rw [q] at e2; cases e2
    | some qs =>
      rw [q] at e2
      cases e2
      exact .cons (Rep.py d _ x h e1) (RepL.py ds _ qs r q)
end
theorem RepB.py {d : D} {v : V} {p : PyData} (h : RepB K mg F H v d) (e : D.py d = some p) : Dp K H v p := by
  rcases h with h | ⟨a, xs, ds, rfl, rfl, h, r⟩
  · exact Rep.py d v p h e
  · have e' : (D.pyL ds).map PyData.list = some p := by
      rw [← e, D.py]
    cases q : D.pyL ds with
    | none => rw [q] at e'; cases e'
    | some ps =>
      rw [q] at e'
      cases e'
      exact .lst (.inl (.inl h)) (RepL.py ds _ ps r q)
theorem pyS_of {d : D} {p : PyData} (h : D.pyS d = some p) : D.py d = some p ∧ SeqAt.shaped p = true := by
  unfold D.pyS at h
  obtain ⟨x, e1, e2⟩ := bind_some h
  split at e2
  · rename_i hs
    cases e2
    exact ⟨e1, hs⟩
  · cases e2
end

section
variable {X : Cx}
theorem r_add : R2D X (binaryOp .Add) gAdd := by
  refine .mk fun F pins s σ H x y v u Q dx dy d hd I rx ry r1 r2 hg q => ?_
  cases dx with
  | int i =>
    cases dy with
    | int j =>
      cases hg
      exact op_add pins s σ H x y v u Q I rx ry ⟨i, j, r1.int, r2.int, q _ H (Same.refl H) (.int _)⟩
    | bl j =>
      cases hg
      exact op_add_ib pins s σ H x y v u Q I rx ry ⟨i, j, r1.int, r2.bl, q _ H (Same.refl H) (.int _)⟩
    | _ => cases hg
  | tup ds =>
    cases dy with
    | tup es =>
      rw [gAdd] at hg
      split at hg
      · rename_i hz
        cases hg
        obtain ⟨a, xs, e1, t1, l1⟩ := r1.tup
        obtain ⟨b, ys, e2, t2, l2⟩ := r2.tup
        refine op_catA pins s σ H x y v u Q I rx ry ⟨a, b, xs, ys, e1, e2, t1.sq, t2.sq, by rw [l1.len, l2.len]; exact hz, fun z => ?_, fun _ z => ?_, fun _ _ p np => ?_⟩
        · subst z
          cases l1
          exact q _ H (Same.refl H) (.tup t2 l2)
        · subst z
          cases l2
          rw [List.append_nil] at q
          exact q _ H (Same.refl H) (.tup t1 l1)
        · have sm : Same H (upd H p (.tup (xs ++ ys))) := fun b o e => by
            rw [upd_ne (ne_of_none e np)]
            exact e
          exact q _ _ sm (.tup (.inl ⟨.inl upd_same, fun z => hd p z np⟩) ((l1.append l2).same sm))
      · cases hg
    | _ => cases hg
  | lst ds =>
    cases dy with
    | lst es =>
      rw [gAdd] at hg
      split at hg
      · rename_i hz
        cases hg
        obtain ⟨a, xs, e1, t1, l1⟩ := r1.lst
        obtain ⟨b, ys, e2, t2, l2⟩ := r2.lst
        refine op_cat pins s σ H x y v u Q I rx ry ⟨a, b, xs, ys, e1, e2, t1, t2, by rw [l1.len, l2.len]; exact hz, fun p np => ?_⟩
        have sm : Same H (upd H p (.lst (xs ++ ys))) := fun b o e => by
          rw [upd_ne (ne_of_none e np)]
          exact e
        exact q _ _ sm (.lst ⟨upd_same, fun z => hd p z np⟩ ((l1.append l2).same sm))
      · cases hg
    | _ => cases hg
  | str i =>
    cases dy with
    | str j =>
      rw [gAdd] at hg
      split at hg
      · rename_i hz
        cases hg
        exact op_add_str pins s σ H x y v u Q I rx ry ⟨i, j, r1.str, r2.str, hz, q _ H (Same.refl H) (.str _)⟩
      · cases hg
    | _ => cases hg
  | _ => cases hg
theorem r_sub : R2D X (binaryOp .Sub) gSub := by
  refine .mk fun F pins s σ H x y v u Q dx dy d hd I rx ry r1 r2 hg q => ?_
  cases dx with
  | int i =>
    cases dy with
    | int j =>
      cases hg
      exact op_sub pins s σ H x y v u Q I rx ry ⟨i, j, r1.int, r2.int, q _ H (Same.refl H) (.int _)⟩
    | _ => cases hg
  | _ => cases hg
theorem r_int {f : Value → Value → Sem Value} {g : D → D → Option D} {C : Int → Int → Prop} [∀ i j, Decidable (C i j)] {k : Int → Int → D} {kv : Int → Int → V} (h : OpR X f (rI C kv)) (hk : ∀ F H i j, Rep X.K X.mg F H (kv i j) (k i j)) (hg : ∀ i j, g (.int i) (.int j) = if C i j then some (k i j) else none)
    (h2 : ∀ a b d, g a b = some d → (∃ i, a = .int i) ∧ ∃ j, b = .int j) : R2D X f g := by
  refine .mk fun F pins s σ H x y v u Q dx dy d hd I rx ry r1 r2 e q => ?_
  obtain ⟨⟨i, rfl⟩, j, rfl⟩ := h2 _ _ _ e
  rw [hg] at e
  split at e
  · rename_i hc
    cases e
    exact h pins s σ H x y v u Q I rx ry ⟨i, j, r1.int, r2.int, hc, q _ H (Same.refl H) (hk F H i j)⟩
  · cases e
theorem r_int0 {f : Value → Value → Sem Value} {g : D → D → Option D} {k : Int → Int → D} {kv : Int → Int → V} (h : OpR X f (rI0 kv)) (hk : ∀ F H i j, Rep X.K X.mg F H (kv i j) (k i j)) (hg : ∀ i j, g (.int i) (.int j) = some (k i j))
    (h2 : ∀ a b d, g a b = some d → (∃ i, a = .int i) ∧ ∃ j, b = .int j) : R2D X f g := by
  refine .mk fun F pins s σ H x y v u Q dx dy d hd I rx ry r1 r2 e q => ?_
  obtain ⟨⟨i, rfl⟩, j, rfl⟩ := h2 _ _ _ e
  rw [hg] at e
  cases e
  exact h pins s σ H x y v u Q I rx ry ⟨i, j, r1.int, r2.int, q _ H (Same.refl H) (hk F H i j)⟩
theorem ii_of {g : D → D → Option D} (h : ∀ a b, (∃ i, a = D.int i) ∧ (∃ j, b = D.int j) ∨ g a b = none) : ∀ a b d, g a b = some d → (∃ i, a = .int i) ∧ ∃ j, b = .int j := fun a b d e => by
  rcases h a b with z | z
  · exact z
  · rw [z] at e
    cases e
theorem op_divA : OpR X (binaryOp .FloorDiv) (rI (fun _ j => divOk j = true) fun i j => .int (i.fdiv j)) := opI fun i j _ _ _ _ _ hc q => by
  unfold divOk at hc
  rw [Bool.and_eq_true] at hc
  exact floordiv_int (of_decide_eq_true hc.1) q (.inl (PyProof.noPylong_of_log2 (of_decide_eq_true hc.2)))
theorem r_div : R2D X (binaryOp .FloorDiv) gDiv := r_int op_divA (fun _ _ _ _ => .int _) (fun _ _ => rfl) (by refine ii_of fun a b => ?_; cases a <;> cases b <;> first | exact .inl ⟨⟨_, rfl⟩, _, rfl⟩ | exact .inr rfl)
theorem r_mod : R2D X (binaryOp .Mod) gMod := r_int op_modN (fun _ _ _ _ => .int _) (fun _ _ => rfl) (by refine ii_of fun a b => ?_; cases a <;> cases b <;> first | exact .inl ⟨⟨_, rfl⟩, _, rfl⟩ | exact .inr rfl)
instance (i j : Int) : Decidable (CPow i j) := by unfold CPow; exact inferInstance
theorem r_pow : R2D X (binaryOp .Pow) gPow := r_int op_pow (fun _ _ _ _ => .int _) (fun _ _ => rfl) (by refine ii_of fun a b => ?_; cases a <;> cases b <;> first | exact .inl ⟨⟨_, rfl⟩, _, rfl⟩ | exact .inr rfl)
theorem r_shl : R2D X (binaryOp .LShift) gShl := r_int op_shl (fun _ _ _ _ => .int _) (fun _ _ => rfl) (by refine ii_of fun a b => ?_; cases a <;> cases b <;> first | exact .inl ⟨⟨_, rfl⟩, _, rfl⟩ | exact .inr rfl)
theorem r_shr : R2D X (binaryOp .RShift) gShr := r_int op_shr (fun _ _ _ _ => .int _) (fun _ _ => rfl) (by refine ii_of fun a b => ?_; cases a <;> cases b <;> first | exact .inl ⟨⟨_, rfl⟩, _, rfl⟩ | exact .inr rfl)
theorem r_and : R2D X (binaryOp .BitAnd) gAnd := r_int0 op_and (fun _ _ _ _ => .int _) (fun _ _ => rfl) (by refine ii_of fun a b => ?_; cases a <;> cases b <;> first | exact .inl ⟨⟨_, rfl⟩, _, rfl⟩ | exact .inr rfl)
theorem r_xor : R2D X (binaryOp .BitXor) gXor := r_int0 op_xor (fun _ _ _ _ => .int _) (fun _ _ => rfl) (by refine ii_of fun a b => ?_; cases a <;> cases b <;> first | exact .inl ⟨⟨_, rfl⟩, _, rfl⟩ | exact .inr rfl)
theorem r_lt : R2D X (compareOp .Lt) gLt := r_int0 op_lt (fun _ _ _ _ => .bl _) (fun _ _ => rfl) (by refine ii_of fun a b => ?_; cases a <;> cases b <;> first | exact .inl ⟨⟨_, rfl⟩, _, rfl⟩ | exact .inr rfl)
theorem r_le : R2D X (compareOp .LtE) gLe := r_int0 op_le (fun _ _ _ _ => .bl _) (fun _ _ => rfl) (by refine ii_of fun a b => ?_; cases a <;> cases b <;> first | exact .inl ⟨⟨_, rfl⟩, _, rfl⟩ | exact .inr rfl)
theorem r_gt : R2D X (compareOp .Gt) gGt := r_int0 op_gt (fun _ _ _ _ => .bl _) (fun _ _ => rfl) (by refine ii_of fun a b => ?_; cases a <;> cases b <;> first | exact .inl ⟨⟨_, rfl⟩, _, rfl⟩ | exact .inr rfl)
theorem r_ge : R2D X (compareOp .GtE) gGe := r_int0 op_ge (fun _ _ _ _ => .bl _) (fun _ _ => rfl) (by refine ii_of fun a b => ?_; cases a <;> cases b <;> first | exact .inl ⟨⟨_, rfl⟩, _, rfl⟩ | exact .inr rfl)
theorem Rep.isNon {K : PySem.W.Frag} {mg : Mg} {F : AP1} {H : Hp} {v : V} {d : D} (h : RepB K mg F H v d) : decide (v = .non) = d.isNon := by
  rcases h with h | ⟨a, xs, ds, rfl, rfl, h, r⟩
  · cases h <;> rfl
  · rfl
theorem r_is : R2D X (compareOp .Is) gIs := by
  refine .mk fun F pins s σ H x y v u Q dx dy d hd I rx ry r1 r2 hg q => ?_
  cases dy with
  | non =>
    cases hg
    exact op_isN pins s σ H x y v u Q I rx ry ⟨r2.non, by rw [Rep.isNon r1]; exact q _ H (Same.refl H) (.bl _)⟩
  | _ => cases hg
theorem r_isnot : R2D X (compareOp .IsNot) gIsNot := by
  refine .mk fun F pins s σ H x y v u Q dx dy d hd I rx ry r1 r2 hg q => ?_
  cases dy with
  | non =>
    cases hg
    exact op_notN pins s σ H x y v u Q I rx ry ⟨r2.non, by rw [Rep.isNon r1]; exact q _ H (Same.refl H) (.bl _)⟩
  | _ => cases hg
theorem r_eq (hu : X.A.units + 64 < cLine) : R2D X (compareOp .Eq) gEq := by
  refine .mk fun F pins s σ H x y v u Q dx dy d hd I rx ry r1 r2 hg q => ?_
  obtain ⟨p1, e1, hg⟩ := bind_some hg
  cases e2 : D.pyS dy with
  | none => rw [e2] at hg; cases hg
  | some p2 =>
    rw [e2] at hg
    cases hg
    obtain ⟨a1, a2⟩ := pyS_of e1
    obtain ⟨b1, b2⟩ := pyS_of e2
    exact op_eqD hu pins s σ H x y v u Q I rx ry ⟨p1, p2, r1.py a1, r2.py b1, a2, b2, q _ H (Same.refl H) (.bl _)⟩
theorem r_ne (hu : X.A.units + 64 < cLine) : R2D X (compareOp .NotEq) gNe := by
  refine .mk fun F pins s σ H x y v u Q dx dy d hd I rx ry r1 r2 hg q => ?_
  obtain ⟨p1, e1, hg⟩ := bind_some hg
  cases e2 : D.pyS dy with
  | none => rw [e2] at hg; cases hg
  | some p2 =>
    rw [e2] at hg
    cases hg
    obtain ⟨a1, a2⟩ := pyS_of e1
    obtain ⟨b1, b2⟩ := pyS_of e2
    exact op_neD hu pins s σ H x y v u Q I rx ry ⟨p1, p2, r1.py a1, r2.py b1, a2, b2, q _ H (Same.refl H) (.bl _)⟩
end
end DL

end

section
set_option Elab.async false
set_option linter.all false
set_option maxRecDepth 100000
namespace DL
open PySem PySem.Spec PyProof.Rows L2
theorem tuple_mul1 (l : Addr) (items : Array Value) (n : Nat) (dd : Option Addr) (sl : Array (Option Value)) (x : Int) (u : Tok) (c0 : (decide (x < -(2 ^ 63)) || decide (x ≥ 2 ^ 63)) = false) (c1 : (items.isEmpty || x == 1) = true) :
    Meets (Builtin.«tuple.__mul__» ⟨[.ref l, .int x u], []⟩) (fun _ R s => s.heap.get? l = some { cls := .type "tuple", dict := dd, data := .seq items n, slots := sl } ∧
      R (.ok (.ret (Value.ref l))) s) :=
  .of_wp fun prog w A R s h => by
    obtain ⟨hp, g, d, tk, os⟩ := s
    obtain ⟨hl, h⟩ := h
    have f1 := AutoSeq1.idx_int
    wp_walk using wpAny_loadPart' hl
    repeat (first
      | (refine wpAny_ite_false (decide_eq_false (by rw [c0]; exact Bool.false_ne_true)) ?_; wp_walk using wpAny_loadPart' hl)
      | (refine wpAny_ite_true (decide_eq_true (by rw [c1])) ?_; wp_walk using wpAny_loadPart' hl))
    exact ⟨_, rfl, h⟩
theorem tuple_mul0 (l : Addr) (items : Array Value) (n : Nat) (dd : Option Addr) (sl : Array (Option Value)) (x : Int) (u : Tok) (c0 : (decide (x < -(2 ^ 63)) || decide (x ≥ 2 ^ 63)) = false) (c1 : (items.isEmpty || x == 1) = false) (c2 : (decide (x ≤ 0) || items.isEmpty) = true) :
    Meets (Builtin.«tuple.__mul__» ⟨[.ref l, .int x u], []⟩) (fun _ R s => s.heap.get? l = some { cls := .type "tuple", dict := dd, data := .seq items n, slots := sl } ∧
      R (.ok (.ret (Value.ref s.heap.objs.size))) { s with heap := s.heap.push { cls := Value.type "tuple", data := Data.seq #[] }, toks := s.toks }) :=
  .of_wp fun prog w A R s h => by
    obtain ⟨hp, g, d, tk, os⟩ := s
    obtain ⟨hl, h⟩ := h
    have f1 := AutoSeq1.idx_int
    wp_walk using wpAny_loadPart' hl
    repeat (first
      | (refine wpAny_ite_false (decide_eq_false (by rw [c0]; exact Bool.false_ne_true)) ?_; wp_walk using wpAny_loadPart' hl)
      | (refine wpAny_ite_false (decide_eq_false (by rw [c1]; exact Bool.false_ne_true)) ?_; wp_walk using wpAny_loadPart' hl)
      | (refine wpAny_ite_true (decide_eq_true (by rw [c2])) ?_; wp_walk using wpAny_loadPart' hl))
    exact ⟨_, rfl, h⟩
def rRep1 (K : PySem.W.Frag) : R2 := fun x y H Q => ∃ l k xs, x = .ref l ∧ y = .int k ∧ SqT K H l xs ∧ (xs = [] ∨ k = 1) ∧ -1000 ≤ k ∧ k ≤ 1000 ∧ Q (.ref l) H
def rRep0 (K : PySem.W.Frag) : R2 := fun x y H Q => ∃ l k xs, x = .ref l ∧ y = .int k ∧ SqT K H l xs ∧ xs ≠ [] ∧ k ≤ 0 ∧ -1000 ≤ k ∧ ∀ p, H p = none → Q (.ref p) (upd H p (.tup []))
section
variable {X : Cx}
theorem op_rep1 : OpR X (binaryOp .Mult) (rRep1 X.K) := by
  intro pins s σ H x y v u Q I rx ry h
  obtain ⟨l, k, xs, rfl, rfl, hT, hk, h1, h2, q⟩ := h
  cases rx
  obtain ⟨t, rfl⟩ := ry
  obtain ⟨its, r, ⟨⟨cls, dd, data, sl⟩, ho, hc, n, hd⟩, hs⟩ := I.tuple hT
  simp only at hc hd
  subst hc hd
  have c0 : (decide (k < -(2 ^ 63)) || decide (k ≥ 2 ^ 63)) = false := by
    rw [decide_eq_false (by omega), decide_eq_false (by omega)] <;> rfl
  have c1 : (its.toArray.isEmpty || k == 1) = true := by
    rcases hk with hk | hk
    · subst hk
      cases r
      rfl
    · subst hk
      simp
  refine wpAny_binaryOp_repeat_ref (T := "tuple") (U := "int") (by decide) ⟨_, ho, rfl⟩ (fun s' => typeIs_int s' k t) noFill_tuple_mul F.fills_int_mul F.slot_int_rmul repeat_tuple F.slot_int_index.lookup
    (call_meets F.slot_int_rmul (typeIs_int s k t) F.entry_int_rmul (F.args_int_rmul_2 _ _) (int_rmul_tuple k t l its.toArray n dd sl)
      ⟨ho, rfl, ⟨_, ho, rfl⟩, call_meets F.slot_tuple_mul ⟨_, ho, rfl⟩ F.entry_tuple_mul (F.args_tuple_mul_2 _ _) (tuple_mul1 l its.toArray n dd sl k t c0 c1) ⟨ho, ?_⟩⟩)
  exact ⟨.ref l, H, I, rfl, q⟩
theorem op_rep0 : OpR X (binaryOp .Mult) (rRep0 X.K) := by
  intro pins s σ H x y v u Q I rx ry h
  obtain ⟨l, k, xs, rfl, rfl, hT, hne, h1, h2, q⟩ := h
  cases rx
  obtain ⟨t, rfl⟩ := ry
  obtain ⟨its, r, ⟨⟨cls, dd, data, sl⟩, ho, hc, n, hd⟩, hs⟩ := I.tuple hT
  simp only at hc hd
  subst hc hd
  have c0 : (decide (k < -(2 ^ 63)) || decide (k ≥ 2 ^ 63)) = false := by
    rw [decide_eq_false (by omega), decide_eq_false (by omega)] <;> rfl
  have c1 : (its.toArray.isEmpty || k == 1) = false := by
    have hk : (k == 1) = false := beq_eq_false_iff_ne.mpr (by omega)
    rw [hk, Bool.or_false]
    cases r with
    | nil => exact absurd rfl hne
    | cons a b => rfl
  have c2 : (decide (k ≤ 0) || its.toArray.isEmpty) = true := by
    rw [decide_eq_true h1]
    rfl
  refine wpAny_binaryOp_repeat_ref (T := "tuple") (U := "int") (by decide) ⟨_, ho, rfl⟩ (fun s' => typeIs_int s' k t) noFill_tuple_mul F.fills_int_mul F.slot_int_rmul repeat_tuple F.slot_int_index.lookup
    (call_meets F.slot_int_rmul (typeIs_int s k t) F.entry_int_rmul (F.args_int_rmul_2 _ _) (int_rmul_tuple k t l its.toArray n dd sl)
      ⟨ho, rfl, ⟨_, ho, rfl⟩, call_meets F.slot_tuple_mul ⟨_, ho, rfl⟩ F.entry_tuple_mul (F.args_tuple_mul_2 _ _) (tuple_mul0 l its.toArray n dd sl k t c0 c1 c2) ⟨ho, ?_⟩⟩)
  refine ⟨.ref s.heap.objs.size, _, I.laid (t' := s.toks) (o := .tup []) (fun b ob q => Heap.get?_push_of_some _ q) (Nat.le_refl _) ?_, rfl, q _ (I.hok.fresh (Nat.le_refl _))⟩
  exact ⟨Nat.zero_le _, [], .nil, IsTup.new _ _⟩
theorem sm_upd {H : Hp} {p : Addr} {o : HO} (np : H p = none) : Same H (upd H p o) := fun b o e => by
  rw [upd_ne (ne_of_none e np)]
  exact e
theorem op_mulA : OpR X (binaryOp .Mult) (rI (fun i j => mulOk i j = true) fun i j => .int (i * j)) := opI fun _ _ _ _ _ _ _ hc q => mul_int q (mulOk_ok hc)
theorem flat_one {α : Type} (xs : List α) : (List.replicate 1 xs).flatten = xs := by simp
theorem flat_nil {α : Type} (k : Nat) : (List.replicate k ([] : List α)).flatten = [] := by simp
theorem r_mul : R2D X (binaryOp .Mult) gMul := by
  refine .mk fun F pins s σ H x y v u Q dx dy d hd I rx ry r1 r2 hg q => ?_
  cases dx with
  | int i =>
    cases dy with
    | int j =>
      rw [gMul] at hg
      split at hg
      · rename_i hz
        cases hg
        exact op_mulA pins s σ H x y v u Q I rx ry ⟨i, j, r1.int, r2.int, hz, q _ H (Same.refl H) (.int _)⟩
      · cases hg
    | _ => cases hg
  | tup ds =>
    cases dy with
    | int k =>
      rw [gMul] at hg
      split at hg
      · rename_i hz
        obtain ⟨⟨hz1, hz0⟩, hz2⟩ := hz
        have hg' := Option.some.inj hg
        subst hg'
        obtain ⟨a, xs, e1, t1, l1⟩ := r1.tup
        by_cases h1 : xs = [] ∨ k = 1
        · refine op_rep1 pins s σ H x y v u Q I rx ry ⟨a, k, xs, e1, r2.int, t1.sq, h1, by omega, hz1, ?_⟩
          have e : (List.replicate k.toNat ds).flatten = ds := by
            rcases h1 with h1 | h1
            · subst h1
              cases l1
              simp
            · subst h1
              simp
          rw [e] at q
          exact q _ H (Same.refl H) (.tup t1 l1)
        · have hne : xs ≠ [] := fun z => h1 (.inl z)
          by_cases h0 : k ≤ 0
          · refine op_rep0 pins s σ H x y v u Q I rx ry ⟨a, k, xs, e1, r2.int, t1.sq, hne, h0, by omega, fun p np => ?_⟩
            have e : k.toNat = 0 := by omega
            rw [e] at q
            exact q _ _ (sm_upd np) (.tup (.inl ⟨.inl upd_same, fun z => hd p z np⟩) .nil)
          · have hk1 : k ≠ 1 := fun z => h1 (.inr z)
            refine op_repT pins s σ H x y v u Q I rx ry ⟨a, k, xs, e1, r2.int, t1.sq, hne, by omega, hz1, by rw [l1.len]; exact hz2, fun p np => ?_⟩
            exact q _ _ (sm_upd np) (.tup (.inl ⟨.inl upd_same, fun z => hd p z np⟩) ((l1.rep k.toNat).same (sm_upd np)))
      · cases hg
    | _ => cases hg
  | _ => cases hg
end
end DL

end

section
set_option Elab.async false
set_option linter.all false
set_option maxRecDepth 100000
/-! sum, max, min of tuples of ints -/
namespace DLT
open PySem PySem.Spec PyProof.Rows L2
section
variable {prog : Program} {w : World} {A : Around} {E : Value → Shared → Prop} {s : Shared} {l : Addr} {xs : Array (Int × Tok)}
theorem iter_intTup {Q : Value → Shared → Prop} (hl : s.heap.IsTuple l (intItems xs))
    (h : ∀ s₂ : Shared, s₂ = { s with heap := s.heap.push { cls := .type "tuple_iterator", data := .fields #[.ref l, .int 0 0] } } →
      (s₂.heap.IsTupleIter s.heap.objs.size l 0 ∧ s₂.heap.IsTuple l (intItems xs)) → (∀ b ∈ [s.heap.objs.size, l], b < s₂.heap.objs.size) → l ≠ s.heap.objs.size → Q (.ref s.heap.objs.size) s₂) :
    wpAny (model prog w) A (pyIter (.ref l)) Q E s := by
  obtain ⟨o, e, ec⟩ := id hl
  have hlt : l < s.heap.objs.size := Heap.lt_size e
  refine wpAny_pyIter_tuple hl (h _ rfl ⟨⟨_, Heap.get?_push_size _ rfl, rfl, rfl⟩, ⟨o, Heap.get?_push_of_some _ e, ec⟩⟩ (fun b hb => ?_) (Nat.ne_of_lt hlt))
  show b < (s.heap.push _).objs.size
  rw [Heap.size_push]
  rcases List.mem_cons.mp hb with rfl | hb
  · exact Nat.lt_succ_self _
  · rcases List.mem_cons.mp hb with rfl | hb
    · exact Nat.lt_succ_of_lt hlt
    · cases hb
theorem old_keptT {h' : Heap} (hk : ∀ b o, b ∉ [s.heap.objs.size] → (s.heap.push { cls := .type "tuple_iterator", data := .fields #[.ref l, .int 0 0] }).get? b = some o → h'.get? b = some o) :
    ∀ b o, s.heap.get? b = some o → h'.get? b = some o := fun b o e => by
  refine hk b o (fun hm => ?_) (Heap.get?_push_of_some _ e)
  rcases List.mem_cons.mp hm with e1 | hm
  · exact absurd (e1 ▸ Heap.lt_size e) (Nat.lt_irrefl _)
  · cases hm
theorem max_intTup {Q : Value → Shared → Prop} (hh : A.handled = none) (hl : s.heap.IsTuple l (intItems xs)) (hne : 0 < xs.size)
    (h : ∀ v h' tk, (intItems xs)[argBest (fun i j => decide (numAt xs i > numAt xs j)) (xs.size - 1)]? = some v → (∀ b o, s.heap.get? b = some o → h'.get? b = some o) → Q v { s with heap := h', toks := tk }) :
    wpAny (model prog w) A (call (.builtin "max") [.ref l]) Q E s := by
  refine call_max_walk (iter_intTup hl fun s₂ e st hfp hlI => ?_)
  subst e
  refine ⟨_, _, _, _, _, _, _, rfl, Walks.tuple (A := A.in1) hh _ l hlI (intItems xs), st, hfp, by simpa [intItems] using hne, CmpOf.ints_gt (numAt xs) (fun _ _ => intItems_at), fun v h' tk hP hk => ?_⟩
  exact h v h' tk (by simpa [intItems] using hP) (old_keptT hk)
theorem min_intTup {Q : Value → Shared → Prop} (hh : A.handled = none) (hl : s.heap.IsTuple l (intItems xs)) (hne : 0 < xs.size)
    (h : ∀ v h' tk, (intItems xs)[argBest (fun i j => decide (numAt xs i < numAt xs j)) (xs.size - 1)]? = some v → (∀ b o, s.heap.get? b = some o → h'.get? b = some o) → Q v { s with heap := h', toks := tk }) :
    wpAny (model prog w) A (call (.builtin "min") [.ref l]) Q E s := by
  refine call_min_walk (iter_intTup hl fun s₂ e st hfp hlI => ?_)
  subst e
  refine ⟨_, _, _, _, _, _, _, rfl, Walks.tuple (A := A.in1) hh _ l hlI (intItems xs), st, hfp, by simpa [intItems] using hne, CmpOf.ints_lt (numAt xs) (fun _ _ => intItems_at), fun v h' tk hP hk => ?_⟩
  exact h v h' tk (by simpa [intItems] using hP) (old_keptT hk)
theorem sum_intTup {Q : Value → Shared → Prop} (hh : A.handled = none) (hl : s.heap.IsTuple l (intItems xs))
    (h : ∀ h' tk t', (∀ b o, s.heap.get? b = some o → h'.get? b = some o) → Q (.int (preSum (numAt xs) xs.size) t') { s with heap := h', toks := tk }) :
    wpAny (model prog w) A (call (.builtin "sum") [.ref l]) Q E s := by
  refine call_sum_walkG (iter_intTup hl fun s₂ e st hfp hlI => ?_)
  subst e
  refine ⟨_, _, _, _, _, _, numAt xs, rfl, Walks.tuple (A := A.in1) hh _ l hlI (intItems xs), st, hfp, (fun _ _ => intItems_at), fun h' tk t' hk => ?_⟩
  have := h h' tk t' (old_keptT hk)
  simpa [intItems] using this
variable {its : List Value} {ns : List Int} {Q : Value → Shared → Prop}
theorem sum_rawT (hh : A.handled = none) (hl : s.heap.IsTuple l its.toArray) (hi : IntsAre its ns)
    (h : ∀ h' tk t', (∀ b o, s.heap.get? b = some o → h'.get? b = some o) → Q (.int ns.sum t') { s with heap := h', toks := tk }) : wpAny (model prog w) A (call (.builtin "sum") [.ref l]) Q E s := by
  obtain ⟨xs, e⟩ := hi.allInts.items
  have hn : numsOf (intItems xs).toList = ns := by rw [← e]; exact hi.numsOf
  rw [nums_intItems] at hn
  rw [e] at hl
  refine sum_intTup hh hl fun h' tk t' hk => ?_
  have := h h' tk t' hk
  rw [preSum_eq, List.take_of_length_le (by simp), hn]; exact this
theorem max_rawT (hh : A.handled = none) (hl : s.heap.IsTuple l its.toArray) (hi : IntsAre its ns) (hne : 0 < ns.length)
    (h : ∀ h' tk M t', (∀ b o, s.heap.get? b = some o → h'.get? b = some o) → M ∈ ns → (∀ a, a ∈ ns → a ≤ M) → Q (.int M t') { s with heap := h', toks := tk }) : wpAny (model prog w) A (call (.builtin "max") [.ref l]) Q E s := by
  obtain ⟨xs, e⟩ := hi.allInts.items
  have hn : numsOf (intItems xs).toList = ns := by rw [← e]; exact hi.numsOf
  rw [nums_intItems] at hn
  subst hn
  rw [e] at hl
  have hsz : 0 < xs.size := by simpa using hne
  refine max_intTup hh hl hsz fun v h' tk hv hk => ?_
  obtain ⟨t, rfl⟩ := intItems_at hv
  obtain ⟨h1, h2⟩ := argBest_gt (numAt xs) (xs.size - 1)
  refine h h' tk _ t hk ?_ fun a ha => ?_
  · rw [numAt_eq]; exact PySem.getD_mem (by rw [List.length_map, Array.length_toList]; omega)
  · obtain ⟨j, hj, rfl⟩ := mem_getD ha
    rw [List.length_map, Array.length_toList] at hj
    rw [← numAt_eq]; exact h2 j (by omega)
theorem min_rawT (hh : A.handled = none) (hl : s.heap.IsTuple l its.toArray) (hi : IntsAre its ns) (hne : 0 < ns.length)
    (h : ∀ h' tk M t', (∀ b o, s.heap.get? b = some o → h'.get? b = some o) → M ∈ ns → (∀ a, a ∈ ns → M ≤ a) → Q (.int M t') { s with heap := h', toks := tk }) : wpAny (model prog w) A (call (.builtin "min") [.ref l]) Q E s := by
  obtain ⟨xs, e⟩ := hi.allInts.items
  have hn : numsOf (intItems xs).toList = ns := by rw [← e]; exact hi.numsOf
  rw [nums_intItems] at hn
  subst hn
  rw [e] at hl
  have hsz : 0 < xs.size := by simpa using hne
  refine min_intTup hh hl hsz fun v h' tk hv hk => ?_
  obtain ⟨t, rfl⟩ := intItems_at hv
  obtain ⟨h1, h2⟩ := argBest_lt (numAt xs) (xs.size - 1)
  refine h h' tk _ t hk ?_ fun a ha => ?_
  · rw [numAt_eq]; exact PySem.getD_mem (by rw [List.length_map, Array.length_toList]; omega)
  · obtain ⟨j, hj, rfl⟩ := mem_getD ha
    rw [List.length_map, Array.length_toList] at hj
    rw [← numAt_eq]; exact h2 j (by omega)
end
section
variable {X : Cx}
def rSumT (K : PySem.W.Frag) : List V → Hp → VK → Prop := fun vs H Q => ∃ (a : Addr) (ns : List Int), vs = [V.ref a] ∧ SqT K H a (ns.map V.int) ∧ Q (.int ns.sum) H
def rMaxT (K : PySem.W.Frag) : List V → Hp → VK → Prop := fun vs H Q => ∃ (a : Addr) (ns : List Int), vs = [V.ref a] ∧ SqT K H a (ns.map V.int) ∧ 0 < ns.length ∧ ∀ m, m ∈ ns → (∀ y, y ∈ ns → y ≤ m) → Q (.int m) H
def rMinT (K : PySem.W.Frag) : List V → Hp → VK → Prop := fun vs H Q => ∃ (a : Addr) (ns : List Int), vs = [V.ref a] ∧ SqT K H a (ns.map V.int) ∧ 0 < ns.length ∧ ∀ m, m ∈ ns → (∀ y, y ∈ ns → m ≤ y) → Q (.int m) H
theorem cr_sumT (hc : X.calm = true) : CallR X (.builtin "sum") (rSumT X.K) := by
  intro pins s σ H vs us Q I r h
  obtain ⟨a, ns, rfl, hs, q⟩ := h
  obtain ⟨its, rv, hl, _⟩ := I.tuple hs
  rw [Vals.ref1 r]
  exact sum_rawT (I.ok.hd hc) hl rv.ints fun h' tk t' hk => ⟨.int _, H, I.kept hk, ⟨_, rfl⟩, q⟩
theorem cr_maxT (hc : X.calm = true) : CallR X (.builtin "max") (rMaxT X.K) := by
  intro pins s σ H vs us Q I r h
  obtain ⟨a, ns, rfl, hs, hne, q⟩ := h
  obtain ⟨its, rv, hl, _⟩ := I.tuple hs
  rw [Vals.ref1 r]
  exact max_rawT (I.ok.hd hc) hl rv.ints hne fun h' tk m t' hk h1 h2 => ⟨.int _, H, I.kept hk, ⟨_, rfl⟩, q m h1 h2⟩
theorem cr_minT (hc : X.calm = true) : CallR X (.builtin "min") (rMinT X.K) := by
  intro pins s σ H vs us Q I r h
  obtain ⟨a, ns, rfl, hs, hne, q⟩ := h
  obtain ⟨its, rv, hl, _⟩ := I.tuple hs
  rw [Vals.ref1 r]
  exact min_rawT (I.ok.hd hc) hl rv.ints hne fun h' tk m t' hk h1 h2 => ⟨.int _, H, I.kept hk, ⟨_, rfl⟩, q m h1 h2⟩
end
end DLT

end

section
set_option Elab.async false
set_option linter.all false
set_option maxRecDepth 100000
namespace DL
open PySem PySem.Spec PyProof.Rows L2

/-! ### data functions -/
def D.ints : List D → Option (List Int)
  | [] => some []
  | .int i :: ds => (D.ints ds).map (i :: ·)
  | _ :: _ => none
def D.bools : List D → Option (List Bool)
  | [] => some []
  | .bl i :: ds => (D.bools ds).map (i :: ·)
  | _ :: _ => none
theorem ints_of : ∀ {ds : List D} {ns : List Int}, D.ints ds = some ns → ds = ns.map D.int
  | [], ns, h => by
    cases h
    rfl
  | .int i :: ds, ns, h => by
    rw [D.ints] at h
    cases q : D.ints ds with
    | none => rw [q] at h; cases h
    | some ms =>
      rw [q] at h
      cases h
      rw [ints_of q]
      rfl
theorem ints_map : ∀ ns : List Int, D.ints (ns.map D.int) = some ns
  | [] => rfl
  | n :: ns => by
    show (D.ints (ns.map D.int)).map (n :: ·) = some (n :: ns)
    rw [ints_map ns]
    rfl
theorem bools_of : ∀ {ds : List D} {ns : List Bool}, D.bools ds = some ns → ds = ns.map D.bl
  | [], ns, h => by
    cases h
    rfl
  | .bl i :: ds, ns, h => by
    rw [D.bools] at h
    cases q : D.bools ds with
    | none => rw [q] at h; cases h
    | some ms =>
      rw [q] at h
      cases h
      rw [bools_of q]
      rfl
theorem bools_map : ∀ ns : List Bool, D.bools (ns.map D.bl) = some ns
  | [] => rfl
  | n :: ns => by
    show (D.bools (ns.map D.bl)).map (n :: ·) = some (n :: ns)
    rw [bools_map ns]
    rfl
def D.items : D → Option (List D)
  | .tup ds => some ds
  | .lst ds => some ds
  | _ => none
def gLen : D → Option D
  | .tup ds => some (.int ds.length)
  | .lst ds => some (.int ds.length)
  | .scr ns => some (.int ns.length)
  | .str x => if x.length ≤ sizeLine then some (.int x.length) else none
  | _ => none
def gInt : D → Option D
  | .int i => some (.int i)
  | .bl b => some (.int (if b then 1 else 0))
  | _ => none
def gAbs : D → Option D
  | .int i => some (.int (if i < 0 then -i else i))
  | _ => none
def gNeg : D → Option D
  | .int i => some (.int (-i))
  | _ => none
def gSum (d : D) : Option D := d.items.bind fun ds => (D.ints ds).map fun ns => .int ns.sum
def maxI : List Int → Option Int
  | [] => none
  | n :: ns => some (ns.foldl max n)
def minI : List Int → Option Int
  | [] => none
  | n :: ns => some (ns.foldl min n)
def gMax (d : D) : Option D := d.items.bind fun ds => (D.ints ds).bind fun ns => (maxI ns).map .int
def gMin (d : D) : Option D := d.items.bind fun ds => (D.ints ds).bind fun ns => (minI ns).map .int
def gAny : D → Option D
  | .lst ds => (D.bools ds).map fun bs => .bl (bs.any id)
  | _ => none
def gAll : D → Option D
  | .lst ds => (D.bools ds).map fun bs => .bl (bs.all id)
  | _ => none
def gTuple : D → Option D
  | .tup ds => some (.tup ds)
  | .lst ds => some (.tup ds)
  | _ => none
theorem foldl_max_spec : ∀ (ns : List Int) (n : Int), (ns.foldl max n ∈ n :: ns) ∧ ∀ a ∈ n :: ns, a ≤ ns.foldl max n
  | [], n => ⟨List.mem_singleton.mpr rfl, fun a h => by
    rw [List.mem_singleton.mp h]
    exact Int.le_refl _⟩
  | m :: ns, n => by
    obtain ⟨h1, h2⟩ := foldl_max_spec ns (max n m)
    show (ns.foldl max (max n m) ∈ n :: m :: ns) ∧ ∀ a ∈ n :: m :: ns, a ≤ ns.foldl max (max n m)
    have hm := h2 (max n m) List.mem_cons_self
    refine ⟨?_, fun a h => ?_⟩
    · rcases List.mem_cons.mp h1 with e | e
      · rcases Int.le_total n m with z | z
        · rw [e, Int.max_eq_right z]
          exact List.mem_cons_of_mem _ List.mem_cons_self
        · rw [e, Int.max_eq_left z]
          exact List.mem_cons_self
      · exact List.mem_cons_of_mem _ (List.mem_cons_of_mem _ e)
    · rcases List.mem_cons.mp h with e | h
      · rw [e]
        exact Int.le_trans (Int.le_max_left n m) hm
      · rcases List.mem_cons.mp h with e | h
        · rw [e]
          exact Int.le_trans (Int.le_max_right n m) hm
        · exact h2 a (List.mem_cons_of_mem _ h)
theorem foldl_min_spec : ∀ (ns : List Int) (n : Int), (ns.foldl min n ∈ n :: ns) ∧ ∀ a ∈ n :: ns, ns.foldl min n ≤ a
  | [], n => ⟨List.mem_singleton.mpr rfl, fun a h => by
    rw [List.mem_singleton.mp h]
    exact Int.le_refl _⟩
  | m :: ns, n => by
    obtain ⟨h1, h2⟩ := foldl_min_spec ns (min n m)
    show (ns.foldl min (min n m) ∈ n :: m :: ns) ∧ ∀ a ∈ n :: m :: ns, ns.foldl min (min n m) ≤ a
    have hm := h2 (min n m) List.mem_cons_self
    refine ⟨?_, fun a h => ?_⟩
    · rcases List.mem_cons.mp h1 with e | e
      · rcases Int.le_total n m with z | z
        · rw [e, Int.min_eq_left z]
          exact List.mem_cons_self
        · rw [e, Int.min_eq_right z]
          exact List.mem_cons_of_mem _ List.mem_cons_self
      · exact List.mem_cons_of_mem _ (List.mem_cons_of_mem _ e)
    · rcases List.mem_cons.mp h with e | h
      · rw [e]
        exact Int.le_trans hm (Int.min_le_left n m)
      · rcases List.mem_cons.mp h with e | h
        · rw [e]
          exact Int.le_trans hm (Int.min_le_right n m)
        · exact h2 a (List.mem_cons_of_mem _ h)
theorem max_uniq {ns : List Int} {m k : Int} (h : maxI ns = some k) (h1 : m ∈ ns) (h2 : ∀ y, y ∈ ns → y ≤ m) : m = k := by
  cases ns with
  | nil => cases h
  | cons n ns =>
    cases h
    obtain ⟨a, b⟩ := foldl_max_spec ns n
    exact Int.le_antisymm (b m h1) (h2 _ a)
theorem min_uniq {ns : List Int} {m k : Int} (h : minI ns = some k) (h1 : m ∈ ns) (h2 : ∀ y, y ∈ ns → m ≤ y) : m = k := by
  cases ns with
  | nil => cases h
  | cons n ns =>
    cases h
    obtain ⟨a, b⟩ := foldl_min_spec ns n
    exact Int.le_antisymm (h2 _ a) (b m h1)
theorem maxI_pos {ns : List Int} {k : Int} (h : maxI ns = some k) : 0 < ns.length := by
  cases ns with
  | nil => cases h
  | cons n ns => exact Nat.succ_pos _
theorem minI_pos {ns : List Int} {k : Int} (h : minI ns = some k) : 0 < ns.length := by
  cases ns with
  | nil => cases h
  | cons n ns => exact Nat.succ_pos _

/-- a call with one value -/
def rD1 (K : PySem.W.Frag) (mg : Mg) (g : D → Option D) : List V → Hp → VK → Prop := fun vs H Q => ∃ F x dx d, vs = [x] ∧ (∀ a, F a → H a ≠ none) ∧ RepB K mg F H x dx ∧ g dx = some d ∧ ∀ v H', Same H H' → Rep K mg F H' v d → Q v H'
def C1D (X : Cx) (f : Value) (g : D → Option D) : Prop := CallR X f (rD1 X.K X.mg g)
theorem C1D.mk {X : Cx} {f : Value} {g : D → Option D} (h : ∀ (F : AP1) (pins : List (Addr × Obj)) (s : Shared) (σ : L2.St) (H : Hp) (x : V) (us : List Value) (Q : VK) (dx d : D), (∀ a, F a → H a ≠ none) → Inv X pins σ H s → Vals [x] us → RepB X.K X.mg F H x dx → g dx = some d →
    (∀ v H', Same H H' → Rep X.K X.mg F H' v d → Q v H') → wpAny (model X.prog X.w) X.A (call f us) (EP X pins σ Q) X.xe s) : C1D X f g :=
  fun pins s σ H xs us Q I rv ⟨F, x, dx, d, e, hd, r, eg, q⟩ => by
    subst e
    exact h F pins s σ H x us Q dx d hd I rv r eg q
/-- with two -/
def rD2 (K : PySem.W.Frag) (mg : Mg) (g : D → D → Option D) : List V → Hp → VK → Prop := fun vs H Q => ∃ F x y dx dy d, vs = [x, y] ∧ (∀ a, F a → H a ≠ none) ∧ RepB K mg F H x dx ∧ RepB K mg F H y dy ∧ g dx dy = some d ∧ ∀ v H', Same H H' → Rep K mg F H' v d → Q v H'
def C2D (X : Cx) (f : Value) (g : D → D → Option D) : Prop := CallR X f (rD2 X.K X.mg g)
def gII (f : Int → Int → Int) : D → D → Option D
  | .int a, .int b => some (.int (f a b))
  | _, _ => none
theorem c2_ii {X : Cx} {f : Value} {g : Int → Int → Int} (h : CallR X f fun xs H Q => ∃ i j, xs = [.int i, .int j] ∧ Q (.int (g i j)) H) : C2D X f (gII g) :=
  fun pins s σ H xs us Q I rv ⟨F, x, y, dx, dy, d, e, hd, r1, r2, eg, q⟩ => by
    subst e
    cases dx with
    | int i =>
      cases dy with
      | int j =>
        cases eg
        exact h pins s σ H _ us Q I rv ⟨i, j, by rw [r1.int, r2.int], q _ H (Same.refl H) (.int _)⟩
      | _ => cases eg
    | _ => cases eg
section
variable {X : Cx}
theorem RepB.items {K : PySem.W.Frag} {mg : Mg} {F : AP1} {H : Hp} {v : V} {d : D} {ds : List D} (h : RepB K mg F H v d) (e : d.items = some ds) : ∃ a xs, v = .ref a ∧ (SqL K H a xs ∨ SqT K H a xs) ∧ RepL K mg F H xs ds := by
  cases d with
  | tup es =>
    cases e
    obtain ⟨a, xs, e, t, r⟩ := h.tup
    exact ⟨a, xs, e, .inr t.sq, r⟩
  | lst es =>
    cases e
    obtain ⟨a, xs, e, t, r⟩ := h.lst
    exact ⟨a, xs, e, .inl (SqL.of t), r⟩
  | _ => cases e
theorem c_len : C1D X (.builtin "len") gLen := .mk fun F pins s σ H x us Q dx d hd I rv r eg q => by
  cases dx with
  | tup ds =>
    cases eg
    obtain ⟨a, xs, rfl, t, l⟩ := r.tup
    exact call_len_seq pins s σ H _ us Q I rv ⟨a, xs, rfl, .inr t.sq, by rw [l.len]; exact q _ H (Same.refl H) (.int _)⟩
  | lst ds =>
    cases eg
    obtain ⟨a, xs, rfl, t, l⟩ := r.lst
    exact call_len_seq pins s σ H _ us Q I rv ⟨a, xs, rfl, .inl (SqL.of t), by rw [l.len]; exact q _ H (Same.refl H) (.int _)⟩
  | scr ns =>
    cases eg
    have r' := r.clean (fun _ z => nomatch z)
    cases r' with
    | scr h => exact call_len_seq pins s σ H _ us Q I rv ⟨_, _, rfl, .inl h.sq, by rw [List.length_map]; exact q _ H (Same.refl H) (.int _)⟩
  | str z =>
    rw [gLen] at eg
    split at eg
    · rename_i hz
      cases eg
      exact call_len_str pins s σ H _ us Q I rv ⟨z, by rw [r.str], hz, q _ H (Same.refl H) (.int _)⟩
    · cases eg
  | _ => cases eg
theorem c_int : C1D X (.type "int") gInt := .mk fun F pins s σ H x us Q dx d hd I rv r eg q => by
  cases dx with
  | int i =>
    cases eg
    exact call_int1 pins s σ H _ us Q I rv (.inl ⟨i, by rw [r.int], q _ H (Same.refl H) (.int _)⟩)
  | bl b =>
    cases eg
    exact call_int1 pins s σ H _ us Q I rv (.inr ⟨b, by rw [r.bl], q _ H (Same.refl H) (.int _)⟩)
  | _ => cases eg
theorem c_abs : C1D X (.builtin "abs") gAbs := .mk fun F pins s σ H x us Q dx d hd I rv r eg q => by
  cases dx with
  | int i =>
    cases eg
    exact call_abs pins s σ H _ us Q I rv ⟨i, by rw [r.int], q _ H (Same.refl H) (.int _)⟩
  | _ => cases eg
theorem c_sum (hc : X.calm = true) : C1D X (.builtin "sum") gSum := .mk fun F pins s σ H x us Q dx d hd I rv r eg q => by
  obtain ⟨ds, e1, eg⟩ := bind_some eg
  cases e2 : D.ints ds with
  | none => rw [e2] at eg; cases eg
  | some ns =>
    rw [e2] at eg
    cases eg
    obtain ⟨a, xs, rfl, t, l⟩ := r.items e1
    have el := ints_of e2
    subst el
    rw [l.ints] at t
    rcases t with t | t
    · exact cr_sum hc pins s σ H _ us Q I rv ⟨a, ns, rfl, t, q _ H (Same.refl H) (.int _)⟩
    · exact DLT.cr_sumT hc pins s σ H _ us Q I rv ⟨a, ns, rfl, t, q _ H (Same.refl H) (.int _)⟩
theorem c_max (hc : X.calm = true) : C1D X (.builtin "max") gMax := .mk fun F pins s σ H x us Q dx d hd I rv r eg q => by
  obtain ⟨ds, e1, eg⟩ := bind_some eg
  obtain ⟨ns, e2, eg⟩ := bind_some eg
  cases e3 : maxI ns with
  | none => rw [e3] at eg; cases eg
  | some k =>
    rw [e3] at eg
    cases eg
    obtain ⟨a, xs, rfl, t, l⟩ := r.items e1
    have el := ints_of e2
    subst el
    rw [l.ints] at t
    rcases t with t | t
    · exact cr_max hc pins s σ H _ us Q I rv ⟨a, ns, rfl, t, maxI_pos e3, fun m h1 h2 => by rw [max_uniq e3 h1 h2]; exact q _ H (Same.refl H) (.int _)⟩
    · exact DLT.cr_maxT hc pins s σ H _ us Q I rv ⟨a, ns, rfl, t, maxI_pos e3, fun m h1 h2 => by rw [max_uniq e3 h1 h2]; exact q _ H (Same.refl H) (.int _)⟩
theorem c_min (hc : X.calm = true) : C1D X (.builtin "min") gMin := .mk fun F pins s σ H x us Q dx d hd I rv r eg q => by
  obtain ⟨ds, e1, eg⟩ := bind_some eg
  obtain ⟨ns, e2, eg⟩ := bind_some eg
  cases e3 : minI ns with
  | none => rw [e3] at eg; cases eg
  | some k =>
    rw [e3] at eg
    cases eg
    obtain ⟨a, xs, rfl, t, l⟩ := r.items e1
    have el := ints_of e2
    subst el
    rw [l.ints] at t
    rcases t with t | t
    · exact cr_min hc pins s σ H _ us Q I rv ⟨a, ns, rfl, t, minI_pos e3, fun m h1 h2 => by rw [min_uniq e3 h1 h2]; exact q _ H (Same.refl H) (.int _)⟩
    · exact DLT.cr_minT hc pins s σ H _ us Q I rv ⟨a, ns, rfl, t, minI_pos e3, fun m h1 h2 => by rw [min_uniq e3 h1 h2]; exact q _ H (Same.refl H) (.int _)⟩
theorem c_any (hc : X.calm = true) : C1D X (.builtin "any") gAny := .mk fun F pins s σ H x us Q dx d hd I rv r eg q => by
  cases dx with
  | lst ds =>
    rw [gAny] at eg
    cases e2 : D.bools ds with
    | none => rw [e2] at eg; cases eg
    | some ns =>
      rw [e2] at eg
      cases eg
      obtain ⟨a, xs, rfl, t, l⟩ := r.lst
      have el := bools_of e2
      subst el
      rw [l.bls] at t
      exact cr_any hc pins s σ H _ us Q I rv ⟨a, ns, rfl, SqL.of t, q _ H (Same.refl H) (.bl _)⟩
  | _ => cases eg
theorem c_all (hc : X.calm = true) : C1D X (.builtin "all") gAll := .mk fun F pins s σ H x us Q dx d hd I rv r eg q => by
  cases dx with
  | lst ds =>
    rw [gAll] at eg
    cases e2 : D.bools ds with
    | none => rw [e2] at eg; cases eg
    | some ns =>
      rw [e2] at eg
      cases eg
      obtain ⟨a, xs, rfl, t, l⟩ := r.lst
      have el := bools_of e2
      subst el
      rw [l.bls] at t
      exact cr_all hc pins s σ H _ us Q I rv ⟨a, ns, rfl, SqL.of t, q _ H (Same.refl H) (.bl _)⟩
  | _ => cases eg
theorem c_tuple : C1D X (.type "tuple") gTuple := .mk fun F pins s σ H x us Q dx d hd I rv r eg q => by
  cases dx with
  | tup ds =>
    cases eg
    obtain ⟨a, xs, rfl, t, l⟩ := r.tup
    exact call_tuple_of pins s σ H _ us Q I rv ⟨a, xs, rfl, .inr ⟨t.sq, q _ H (Same.refl H) (.tup t l)⟩⟩
  | lst ds =>
    cases eg
    obtain ⟨a, xs, rfl, t, l⟩ := r.lst
    exact call_tuple_of pins s σ H _ us Q I rv ⟨a, xs, rfl, .inl ⟨SqL.of t, fun p np => q _ _ (sm_upd np) (.tup (.inl ⟨.inl upd_same, fun z => hd p z np⟩) (l.same (sm_upd np)))⟩⟩
  | _ => cases eg
theorem c_max2 (hc : X.calm = true) : C2D X (.builtin "max") (gII fun i j => if j > i then j else i) := c2_ii (call_max2 hc)
theorem c_min2 (hc : X.calm = true) : C2D X (.builtin "min") (gII fun i j => if j < i then j else i) := c2_ii (call_min2 hc)
theorem c_gcd : C2D X (.builtin "math.gcd") (gII fun a b => ((Nat.gcd a.natAbs b.natAbs : Nat) : Int)) := c2_ii cr_gcd

/-! ### the calls as expressions -/
variable {fl : List Fl} {e e2 : Expr} {es : List Expr} {f g' : DE} {fa fb : DA} {pos p : Pos} {x : Str} {bid T : String}
def dC1 (g : D → Option D) (f : DE) : DE := fun δ => (f δ).bind g
/-- arguments, borrowed -/
theorem pa1 (ha : PE X e (tB X.K X.mg fl f)) (hs : starEach [e] X.env = (false, eval e X.env) :: starEach [] X.env := by rfl) : PA X [e] (tCons (tB X.K X.mg fl f) tNil) := pa_cons ha pa_nil hs
theorem dCallB {g : D → Option D} (hc : C1D X (.builtin bid) g) (hg : Gl X x) (hm : X.mg x = none) (hv : bootBuiltins x = some (.builtin bid)) (ha : PE X e (tB X.K X.mg fl f)) (hn : x ≠ "__name__" := by decide) (hdb : (x == ("__debug__" : Str)) = false := by decide)
    (he : starEach [e] X.env = (false, eval e X.env) :: starEach [] X.env := by rfl) (hpl : (backTo pos (starEach [] X.env)).any (·.1) = false := by rfl) : PE X (.Call (.Name x p) [e] [] pos) (tD X.K X.mg fl (dC1 g f)) :=
  PE_imp (pe_callB hc hg hm hv (pa1 ha he) hn hdb he hpl) fun σ H Q ⟨F, δ, d, er, ef, q⟩ => by
    obtain ⟨dx, e1, e2⟩ := bind_some ef
    exact ⟨F, δ, dx, er, e1, fun v H' s r => ⟨F, v, dx, d, rfl, dom_same s er.dom, r, e2, fun u H2 s2 r2 => q u H2 (s.trans s2) r2⟩⟩
theorem dCallT {g : D → Option D} (hc : C1D X (.type T) g) (hg : Gl X x) (hm : X.mg x = none) (hv : bootBuiltins x = some (.type T)) (ha : PE X e (tB X.K X.mg fl f)) (hn : x ≠ "__name__" := by decide) (hdb : (x == ("__debug__" : Str)) = false := by decide)
    (he : starEach [e] X.env = (false, eval e X.env) :: starEach [] X.env := by rfl) (hpl : (backTo pos (starEach [] X.env)).any (·.1) = false := by rfl) : PE X (.Call (.Name x p) [e] [] pos) (tD X.K X.mg fl (dC1 g f)) :=
  PE_imp (pe_callTy hc hg hm hv (pa1 ha he) hn hdb he hpl) fun σ H Q ⟨F, δ, d, er, ef, q⟩ => by
    obtain ⟨dx, e1, e2⟩ := bind_some ef
    exact ⟨F, δ, dx, er, e1, fun v H' s r => ⟨F, v, dx, d, rfl, dom_same s er.dom, r, e2, fun u H2 s2 r2 => q u H2 (s.trans s2) r2⟩⟩
theorem dCallB2 {g : D → D → Option D} (hc : C2D X (.builtin bid) g) (hg : Gl X x) (hm : X.mg x = none) (hv : bootBuiltins x = some (.builtin bid)) (ha : PE X e (tB X.K X.mg fl f)) (hb : PE X e2 (tB X.K X.mg fl g')) (hn : x ≠ "__name__" := by decide) (hdb : (x == ("__debug__" : Str)) = false := by decide)
    (he : starEach [e, e2] X.env = (false, eval e X.env) :: starEach [e2] X.env := by rfl) (he2 : starEach [e2] X.env = (false, eval e2 X.env) :: starEach [] X.env := by rfl) (hpl : (backTo pos (starEach [e2] X.env)).any (·.1) = false := by rfl) : PE X (.Call (.Name x p) [e, e2] [] pos) (tD X.K X.mg fl (dBin g f g')) :=
  PE_imp (pe_callB hc hg hm hv (pa_cons ha (pa_cons hb pa_nil he2) he) hn hdb he hpl) fun σ H Q ⟨F, δ, d, er, ef, q⟩ => by
    obtain ⟨dx, e1, ef⟩ := bind_some ef
    obtain ⟨dy, e2, ef⟩ := bind_some ef
    exact bin2 (R := fun x y H2 => rD2 X.K X.mg g [x, y] H2 Q) er e1 e2 fun x y H2 s r1 r2 => ⟨F, x, y, dx, dy, d, rfl, dom_same s er.dom, r1, r2, ef, fun v H' s' r => q v H' (s.trans s') r⟩
/-- gcd, that the module has by its name -/
theorem dCallG2 {g : D → D → Option D} (hc : C2D X (.builtin bid) g) (hg : Gl X x) (hm : X.mg x = some (.builtin bid)) (ha : PE X e (tB X.K X.mg fl f)) (hb : PE X e2 (tB X.K X.mg fl g')) (hdb : (x == ("__debug__" : Str)) = false := by decide)
    (he : starEach [e, e2] X.env = (false, eval e X.env) :: starEach [e2] X.env := by rfl) (he2 : starEach [e2] X.env = (false, eval e2 X.env) :: starEach [] X.env := by rfl) (hpl : (backTo pos (starEach [e2] X.env)).any (·.1) = false := by rfl) : PE X (.Call (.Name x p) [e, e2] [] pos) (tD X.K X.mg fl (dBin g f g')) :=
  PE_imp (pe_callBfun hc hg hm (pa_cons ha (pa_cons hb pa_nil he2) he) hdb he hpl) fun σ H Q ⟨F, δ, d, er, ef, q⟩ => by
    obtain ⟨dx, e1, ef⟩ := bind_some ef
    obtain ⟨dy, e2, ef⟩ := bind_some ef
    exact bin2 (R := fun x y H2 => rD2 X.K X.mg g [x, y] H2 Q) er e1 e2 fun x y H2 s r1 r2 => ⟨F, x, y, dx, dy, d, rfl, dom_same s er.dom, r1, r2, ef, fun v H' s' r => q v H' (s.trans s') r⟩
theorem dNeg (ha : PE X e (tB X.K X.mg fl f)) : PE X (.UnaryOp .USub e pos) (tD X.K X.mg fl (dC1 gNeg f)) :=
  PE_imp (pe_un un_neg ha) fun σ H Q ⟨F, δ, d, er, ef, q⟩ => by
    obtain ⟨dx, e1, e2⟩ := bind_some ef
    refine ⟨F, δ, dx, er, e1, fun v H' s r => ?_⟩
    cases dx with
    | int i =>
      cases e2
      exact ⟨i, r.int, q _ H' s (.int _)⟩
    | _ => cases e2
/-- list(x): a new list -/
def aItems (f : DE) : DA := fun δ => (f δ).bind D.items
theorem RepL.fresh {K : PySem.W.Frag} {mg : Mg} {F : AP1} {H : Hp} {p : Addr} {o : HO} {vs : List V} {ds : List D} (np : H p = none) (r : RepL K mg F H vs ds) : RepL K mg (fun b => F b ∨ b = p) (upd H p o) vs ds :=
  RepL.stay (fun b o eb nb => ⟨sm_upd np b o eb, fun z => z.elim nb fun e => by rw [e, np] at eb; cases eb⟩) _ _ r
theorem nList (hg : Gl X "list") (hm : X.mg "list" = none) (hv : bootBuiltins "list" = some (.type "list")) (ha : PE X e (tB X.K X.mg fl f)) (he : starEach [e] X.env = (false, eval e X.env) :: starEach [] X.env := by rfl) (hpl : (backTo pos (starEach [] X.env)).any (·.1) = false := by rfl) :
    PE X (.Call (.Name "list" p) [e] [] pos) (tN X.K X.mg fl (aItems f)) :=
  PE_imp (pe_callTy call_list_of hg hm hv (pa1 ha he) (by decide) (by decide) he hpl) fun σ H Q ⟨F, δ, ds, er, ef, q⟩ => by
    obtain ⟨dx, e1, e2⟩ := bind_some ef
    refine ⟨F, δ, dx, er, e1, fun v H' s r => ?_⟩
    obtain ⟨a, xs, e, t, l⟩ := r.items e2
    refine ⟨a, xs, congrArg (fun z => [z]) e, t, fun p np => q p xs _ (s.trans (sm_upd np)) (s.free np) upd_same (l.fresh np)⟩
/-- xs * k, a new list -/
def aRep (f g : DE) : DA := fun δ => (f δ).bind fun x => (g δ).bind fun y => match x, y with
  | .lst ds, .int k => if -1000 ≤ k ∧ k ≤ 1000 ∧ ds.length * k.toNat ≤ sizeLine then some (List.replicate k.toNat ds).flatten else none
  | _, _ => none
theorem nRep (ha : PE X e (tB X.K X.mg fl f)) (hb : PE X e2 (tB X.K X.mg fl g')) : PE X (.BinOp e .Mult e2 pos) (tN X.K X.mg fl (aRep f g')) :=
  PE_imp (pe_op op_rep ha hb) fun σ H Q ⟨F, δ, ds, er, ef, q⟩ => by
    obtain ⟨dx, e1, ef⟩ := bind_some ef
    obtain ⟨dy, e2, ef⟩ := bind_some ef
    refine bin2 er e1 e2 fun x y H2 s r1 r2 => ?_
    cases dx with
    | lst es =>
      cases dy with
      | int k =>
        replace ef : (if -1000 ≤ k ∧ k ≤ 1000 ∧ es.length * k.toNat ≤ sizeLine then some (List.replicate k.toNat es).flatten else none) = some ds := ef
        split at ef
        · rename_i hz
          cases ef
          obtain ⟨a, xs, rfl, t, l⟩ := r1.lst
          exact ⟨a, k, xs, rfl, r2.int, t, by omega, by omega, by rw [l.len]; exact hz.2.2, fun p np => q p _ _ (s.trans (sm_upd np)) (s.free np) upd_same ((l.rep _).fresh np)⟩
        · cases ef
      | _ => cases ef
    | _ => cases ef
/-- xs + ys, a new list -/
def aCat (f g : DE) : DA := fun δ => (f δ).bind fun x => (g δ).bind fun y => match x, y with
  | .lst ds, .lst es => if ds.length + es.length ≤ sizeLine then some (ds ++ es) else none
  | _, _ => none
theorem nCat (ha : PE X e (tB X.K X.mg fl f)) (hb : PE X e2 (tB X.K X.mg fl g')) : PE X (.BinOp e .Add e2 pos) (tN X.K X.mg fl (aCat f g')) :=
  PE_imp (pe_op op_cat ha hb) fun σ H Q ⟨F, δ, ds, er, ef, q⟩ => by
    obtain ⟨dx, e1, ef⟩ := bind_some ef
    obtain ⟨dy, e2, ef⟩ := bind_some ef
    refine bin2 er e1 e2 fun x y H2 s r1 r2 => ?_
    cases dx with
    | lst es =>
      cases dy with
      | lst es2 =>
        replace ef : (if es.length + es2.length ≤ sizeLine then some (es ++ es2) else none) = some ds := ef
        split at ef
        · rename_i hz
          cases ef
          obtain ⟨a, xs, rfl, t, l⟩ := r1.lst
          obtain ⟨b, ys, rfl, t2, l2⟩ := r2.lst
          exact ⟨a, b, xs, ys, rfl, rfl, t, t2, by rw [l.len, l2.len]; exact hz, fun p np => q p _ _ (s.trans (sm_upd np)) (s.free np) upd_same ((l.append l2).fresh np)⟩
        · cases ef
      | _ => cases ef
    | _ => cases ef

/-! ### displays -/
def aNil : DA := fun _ => some []
def aCons (f : DE) (g : DA) : DA := fun δ => (f δ).bind fun d => (g δ).map (d :: ·)
theorem paNil : PA X [] (tAs X.K X.mg fl [] aNil) := PA_imp pa_nil fun σ H Q ⟨F, δ, ds, er, ef, q⟩ => by
  cases ef
  exact q [] H (Same.refl H) trivial
theorem map_some {α β : Type} {x : Option α} {f : α → β} {b : β} (h : x.map f = some b) : ∃ a, x = some a ∧ f a = b := by
  cases x with
  | none => cases h
  | some a => exact ⟨a, rfl, Option.some.inj h⟩
theorem paB {bs : List Bool} (ha : PE X e (tB X.K X.mg fl f)) (hr : PA X es (tAs X.K X.mg fl bs fa)) (hs : starEach (e :: es) X.env = (false, eval e X.env) :: starEach es X.env := by rfl) : PA X (e :: es) (tAs X.K X.mg fl (false :: bs) (aCons f fa)) :=
  PA_imp (pa_cons ha hr hs) fun σ H Q ⟨F, δ, ds, er, ef, q⟩ => by
    obtain ⟨d, e1, ef⟩ := bind_some ef
    obtain ⟨es', e2, rfl⟩ := map_some ef
    exact ⟨F, δ, d, er, e1, fun v H' s r => ⟨F, δ, es', er.same s, e2, fun vs H2 s2 rs => q (v :: vs) H2 (s.trans s2) ⟨⟨r.same s2, fun z => nomatch z⟩, rs⟩⟩⟩
theorem paC {bs : List Bool} (ha : PE X e (tD X.K X.mg fl f)) (hr : PA X es (tAs X.K X.mg fl bs fa)) (hs : starEach (e :: es) X.env = (false, eval e X.env) :: starEach es X.env := by rfl) : PA X (e :: es) (tAs X.K X.mg fl (true :: bs) (aCons f fa)) :=
  PA_imp (pa_cons ha hr hs) fun σ H Q ⟨F, δ, ds, er, ef, q⟩ => by
    obtain ⟨d, e1, ef⟩ := bind_some ef
    obtain ⟨es', e2, rfl⟩ := map_some ef
    exact ⟨F, δ, d, er, e1, fun v H' s r => ⟨F, δ, es', er.same s, e2, fun vs H2 s2 rs => q (v :: vs) H2 (s.trans s2) ⟨⟨.inl (r.same s2), fun _ => r.same s2⟩, rs⟩⟩⟩
theorem RepAs.all {K : PySem.W.Frag} {mg : Mg} {F : AP1} {H : Hp} : ∀ {bs : List Bool} {vs : List V} {ds : List D}, RepAs K mg F H bs vs ds → bs.all id = true → RepL K mg F H vs ds
  | [], [], [], _, _ => .nil
  | b :: bs, v :: vs, d :: ds, h, hb => by
    rw [List.all_cons, Bool.and_eq_true] at hb
    exact .cons (h.1.2 hb.1) (RepAs.all h.2 hb.2)
  | [], _ :: _, _, h, _ => h.elim
  | [], [], _ :: _, h, _ => h.elim
  | _ :: _, [], _, h, _ => h.elim
  | _ :: _, _ :: _, [], h, _ => h.elim
theorem RepAs.len {K : PySem.W.Frag} {mg : Mg} {F : AP1} {H : Hp} : ∀ {bs : List Bool} {vs : List V} {ds : List D}, RepAs K mg F H bs vs ds → vs.length = bs.length ∧ ds.length = bs.length
  | [], [], [], _ => ⟨rfl, rfl⟩
  | b :: bs, v :: vs, d :: ds, h => ⟨congrArg (· + 1) (RepAs.len h.2).1, congrArg (· + 1) (RepAs.len h.2).2⟩
  | [], _ :: _, _, h => h.elim
  | [], [], _ :: _, h => h.elim
  | _ :: _, [], _, h => h.elim
  | _ :: _, _ :: _, [], h => h.elim
def dTup (fa : DA) : DE := fun δ => (fa δ).map D.tup
theorem dTuple {bs : List Bool} {k} (ha : PA X es (tAs X.K X.mg fl bs fa)) (hb : bs.all id = true := by rfl) (hl : bs.length ≤ 1000 := by decide) : PE X (.Tuple es k pos) (tD X.K X.mg fl (dTup fa)) :=
  PE_imp (pe_tup ha) fun σ H Q ⟨F, δ, d, er, ef, q⟩ => by
    obtain ⟨ds, e1, rfl⟩ := map_some ef
    refine ⟨F, δ, ds, er, e1, fun vs H' s r => ⟨by rw [r.len.1]; exact Nat.le_of_lt (small1000 hl), fun p np => ?_⟩⟩
    exact q _ _ (s.trans (sm_upd np)) (.tup (.inl ⟨.inl upd_same, fun z => dom_same s er.dom p z np⟩) ((r.all hb).same (sm_upd np)))
theorem nListD {bs : List Bool} (ha : PA X es (tAs X.K X.mg fl bs fa)) (hb : bs.all id = true := by rfl) (hl : bs.length ≤ 1000 := by decide) : PE X (.List es pos) (tN X.K X.mg fl fa) :=
  PE_imp (pe_lst ha) fun σ H Q ⟨F, δ, ds, er, ef, q⟩ =>
    ⟨F, δ, ds, er, ef, fun vs H' s r => ⟨by rw [r.len.1]; exact Nat.le_of_lt (small1000 hl), fun p np => q p _ _ (s.trans (sm_upd np)) (s.free np) upd_same ((r.all hb).fresh np)⟩⟩
end
end DL

end

section
set_option Elab.async false
set_option linter.all false
set_option maxRecDepth 100000
namespace DL
open PySem PySem.Spec PyProof.Rows L2
/-! ### places, slices -/
def gIx : D → D → Option D
  | .tup ds, .int i => atI ds i
  | .lst ds, .int i => atI ds i
  | .scr ns, .int i => (atI ns i).map .int
  | .str z, .int i => if z.length ≤ sizeLine then (atI z.cps.toList i).map fun c => .str ⟨#[c]⟩ else none
  | _, _ => none
def cutD {α : Type} (xs : List α) (lo hi : Option Int) : List α := (xs.drop (HT.sIx xs.length 0 lo)).take (HT.sIx xs.length xs.length hi - HT.sIx xs.length 0 lo)
theorem cutD_whole {α : Type} (xs : List α) (lo hi : Option Int) (h : HT.sIx xs.length 0 lo = 0 ∧ HT.sIx xs.length xs.length hi = xs.length) : cutD xs lo hi = xs := by
  unfold cutD
  rw [h.1, h.2, Nat.sub_zero, List.drop_zero, List.take_length]
def gSl (d : D) (lo hi : Option Int) : Option D := match d with
  | .tup ds => some (.tup (cutD ds lo hi))
  | .lst ds => some (.lst (cutD ds lo hi))
  | .str z => if z.length ≤ sizeLine then some (.str (cutS z lo hi)) else none
  | _ => none
section
variable {K : PySem.W.Frag} {mg : Mg} {F : AP1} {H : Hp}
theorem RepL.atI {vs : List V} {ds : List D} {i : Int} {d : D} (r : RepL K mg F H vs ds) (e : atI ds i = some d) : ∃ v, L2.atI vs i = some v ∧ Rep K mg F H v d := by
  unfold L2.atI at e ⊢
  obtain ⟨j, e1, e2⟩ := bind_some e
  obtain ⟨v, e3, rv⟩ := r.get e2
  refine ⟨v, ?_, rv⟩
  rw [r.len, e1]
  exact e3
theorem RepL.cut {vs : List V} {ds : List D} (lo hi : Option Int) (r : RepL K mg F H vs ds) : RepL K mg F H (cutV vs lo hi) (cutD ds lo hi) := by
  unfold cutV cutD
  rw [r.len]
  exact (r.drop _).take _
theorem ints_atI {ns : List Int} {i : Int} {k : Int} (e : atI ns i = some k) : atI (ns.map V.int) i = some (.int k) := by
  unfold L2.atI at e ⊢
  obtain ⟨j, e1, e2⟩ := bind_some e
  rw [List.length_map, e1]
  show (ns.map V.int)[j]? = some (.int k)
  rw [List.getElem?_map, e2]
  rfl
end
section
variable {X : Cx} {fl : List Fl} {e e2 c : Expr} {es rest : List Expr} {f g' h' : DE} {fa fb : DA} {ft fu : DT} {pos p p2 : Pos} {x : Str}
theorem dIx (ha : PE X e (tB X.K X.mg fl f)) (hb : PE X e2 (tB X.K X.mg fl g')) (hs : PlainIx e2 := by exact fun _ _ => rfl) : PE X (.Subscript e e2 pos) (tD X.K X.mg fl (dBin gIx f g')) :=
  PE_imp (pe_ix ix_seq ha hb hs) fun σ H Q ⟨F, δ, d, er, ef, q⟩ => by
    obtain ⟨dx, e1, ef⟩ := bind_some ef
    obtain ⟨dy, e2, ef⟩ := bind_some ef
    refine bin2 er e1 e2 fun x y H2 s r1 r2 => ?_
    cases dx with
    | tup ds =>
      cases dy with
      | int i =>
        obtain ⟨a, xs, rfl, t, l⟩ := r1.tup
        obtain ⟨v, e3, rv⟩ := l.atI ef
        exact .inr (.inl ⟨a, xs, i, v, rfl, r2.int, t.sq, e3, q v H2 s rv⟩)
      | _ => cases ef
    | lst ds =>
      cases dy with
      | int i =>
        obtain ⟨a, xs, rfl, t, l⟩ := r1.lst
        obtain ⟨v, e3, rv⟩ := l.atI ef
        exact .inl ⟨a, xs, i, v, rfl, r2.int, SqL.of t, e3, q v H2 s rv⟩
      | _ => cases ef
    | scr ns =>
      cases dy with
      | int i =>
        obtain ⟨k, e3, rfl⟩ := map_some ef
        have r' := r1.clean (fun _ z => nomatch z)
        cases r' with
        | scr h => exact .inl ⟨_, _, i, .int k, rfl, r2.int, h.sq, ints_atI e3, q _ H2 s (.int k)⟩
      | _ => cases ef
    | str z =>
      cases dy with
      | int i =>
        replace ef : (if z.length ≤ sizeLine then (atI z.cps.toList i).map fun c => D.str ⟨#[c]⟩ else none) = some d := ef
        split at ef
        · rename_i hz
          obtain ⟨k, e3, rfl⟩ := map_some ef
          exact .inr (.inr ⟨z, i, k, r1.str, r2.int, hz, e3, q _ H2 s (.str _)⟩)
        · cases ef
      | _ => cases ef
    | _ => cases ef
/-- a slice's part: left out, or an int -/
abbrev DO := DSt → Option (Option Int)
def tOp' (K : PySem.W.Frag) (mg : Mg) (fl : List Fl) (f : DO) : TO := fun σ H Q => ∃ F δ o, ER K mg fl F σ H δ ∧ f δ = some o ∧ ∀ H', Same H H' → Q o H'
theorem PO_imp {e : Option Expr} {t t' : TO} (h : PO X e t) (i : ∀ σ H Q, t' σ H Q → t σ H Q) : PO X e t' := ⟨fun pins s σ H Q I q => h.run pins s σ H Q I (i σ H Q q)⟩
def oNo : DO := fun _ => some none
def oAt (f : DE) : DO := fun δ => (f δ).bind fun d => match d with
  | .int i => some (some i)
  | _ => none
theorem poNo : PO X none (tOp' X.K X.mg fl oNo) := PO_imp po_none fun σ H Q ⟨F, δ, o, er, ef, q⟩ => by
  cases ef
  exact q H (Same.refl H)
theorem poAt (ha : PE X e (tB X.K X.mg fl f)) : PO X (some e) (tOp' X.K X.mg fl (oAt f)) := PO_imp (po_some ha) fun σ H Q ⟨F, δ, o, er, ef, q⟩ => by
  obtain ⟨d, e1, ef⟩ := bind_some ef
  refine ⟨F, δ, d, er, e1, fun v H' s r => ?_⟩
  cases d with
  | int i =>
    cases ef
    exact ⟨i, r.int, q H' s⟩
  | _ => cases ef
def dSlice (f : DE) (lo hi : DO) : DE := fun δ => (f δ).bind fun d => (lo δ).bind fun l => (hi δ).bind fun u => gSl d l u
theorem dSl {lo hi : Option Expr} {fl1 fl2 : DO} (ha : PE X e (tB X.K X.mg fl f)) (hl : PO X lo (tOp' X.K X.mg fl fl1)) (hu : PO X hi (tOp' X.K X.mg fl fl2)) : PE X (.Subscript e (.Slice lo hi none p2) pos) (tD X.K X.mg fl (dSlice f fl1 fl2)) :=
  PE_imp (pe_slice (SlR.or sl_tupA (SlR.or sl_list sl_str)) ha hl hu) fun σ H Q ⟨F, δ, d, er, ef, q⟩ => by
    obtain ⟨dx, e1, ef⟩ := bind_some ef
    obtain ⟨l, e2, ef⟩ := bind_some ef
    obtain ⟨u, e3, ef⟩ := bind_some ef
    refine ⟨F, δ, dx, er, e1, fun v H1 s1 r1 => ⟨F, δ, l, er.same s1, e2, fun H2 s2 => ⟨F, δ, u, er.same (s1.trans s2), e3, fun H3 s3 => ?_⟩⟩⟩
    have r3 := r1.same (s2.trans s3)
    have s := s1.trans (s2.trans s3)
    cases dx with
    | tup ds =>
      cases ef
      obtain ⟨a, xs, rfl, t, rl⟩ := r3.tup
      refine .inl ⟨a, xs, rfl, t.sq, fun z => ?_, fun z p np => ?_⟩
      · rw [rl.len] at z
        rw [cutD_whole ds l u z] at q
        exact q _ H3 s (.tup t rl)
      · exact q _ _ (s.trans (sm_upd np)) (.tup (.inl ⟨.inl upd_same, fun z => dom_same s er.dom p z np⟩) ((rl.cut l u).same (sm_upd np)))
    | lst ds =>
      cases ef
      obtain ⟨a, xs, rfl, t, rl⟩ := r3.lst
      refine .inr (.inl ⟨a, xs, rfl, SqL.of t, fun p np => ?_⟩)
      exact q _ _ (s.trans (sm_upd np)) (.lst ⟨upd_same, fun z => dom_same s er.dom p z np⟩ ((rl.cut l u).same (sm_upd np)))
    | str z =>
      replace ef : (if z.length ≤ sizeLine then some (D.str (cutS z l u)) else none) = some d := ef
      split at ef
      · rename_i hz
        cases ef
        exact .inr (.inr ⟨z, r3.str, hz, q _ H3 s (.str _)⟩)
      · cases ef
    | _ => cases ef

/-! ### isinstance of a built-in class -/
inductive Ty where
  | int | bool | str | tuple | list
  deriving DecidableEq
def Ty.name : Ty → String
  | .int => "int" | .bool => "bool" | .str => "str" | .tuple => "tuple" | .list => "list"
def gIsI (T : Ty) : D → Option D
  | .non => some (.bl false)
  | .bl _ => some (.bl (T == .bool || T == .int))
  | .int _ => some (.bl (T == .int))
  | .str _ => some (.bl (T == .str))
  | .tup _ => some (.bl (T == .tuple))
  | .lst _ => some (.bl (T == .list))
  | _ => none
theorem kit_non (T : Ty) : kitB "NoneType" T.name = some false := by cases T <;> decide +kernel
theorem kit_bool (T : Ty) : kitB "bool" T.name = some (T == .bool || T == .int) := by cases T <;> decide +kernel
theorem kit_int (T : Ty) : kitB "int" T.name = some (T == .int) := by cases T <;> decide +kernel
theorem kit_str (T : Ty) : kitB "str" T.name = some (T == .str) := by cases T <;> decide +kernel
theorem kit_tup (T : Ty) : kitB "tuple" T.name = some (T == .tuple) := by cases T <;> decide +kernel
theorem kit_lst (T : Ty) : kitB "list" T.name = some (T == .list) := by cases T <;> decide +kernel
theorem boot_ty (T : Ty) {x : Str} (h : x = Str.ofString T.name) : bootBuiltins x = some (.type T.name) := by
  subst h
  cases T <;> decide +kernel
theorem boot_isi : bootBuiltins "isinstance" = some (.builtin "isinstance") := by decide +kernel
def dIsI (T : Ty) (f : DE) : DE := fun δ => (f δ).bind (gIsI T)
theorem pIsI {tn : Str} (T : Ty) (ht : tn = Str.ofString T.name) (hg : Gl X "isinstance") (hm : X.mg "isinstance" = none) (hg2 : Gl X tn) (hm2 : X.mg tn = none) (ha : PE X e (tB X.K X.mg fl f)) (hn : tn ≠ "__name__" := by decide) (hdb : (tn == ("__debug__" : Str)) = false := by decide)
    (he : starEach [e, .Name tn p2] X.env = (false, eval e X.env) :: starEach [.Name tn p2] X.env := by rfl) (he2 : starEach [.Name tn p2] X.env = (false, eval (.Name tn p2) X.env) :: starEach [] X.env := by rfl) (hpl : (backTo pos (starEach [.Name tn p2] X.env)).any (·.1) = false := by rfl) :
    PE X (.Call (.Name "isinstance" p) [e, .Name tn p2] [] pos) (tD X.K X.mg fl (dIsI T f)) :=
  PE_imp (pe_callB call_isi hg hm boot_isi (pa_cons ha (pa_cons (pe_bltn (v := .ty T.name) hg2 hm2 (boot_ty T ht) rfl hn hdb) pa_nil he2) he) (by decide) (by decide) he hpl) fun σ H Q ⟨F, δ, d, er, ef, q⟩ => by
    obtain ⟨dx, e1, ef⟩ := bind_some ef
    refine ⟨F, δ, dx, er, e1, fun v H' s r => ?_⟩
    cases dx with
    | non =>
      cases ef
      exact ⟨v, _, _, _, _, rfl, .ty _, .base (by rw [r.non]; exact .non), kit_ty (kit_non T), q _ H' s (.bl _)⟩
    | bl b =>
      cases ef
      exact ⟨v, _, _, _, _, rfl, .ty _, .base (by rw [r.bl]; exact .bl b), kit_ty (kit_bool T), q _ H' s (.bl _)⟩
    | int b =>
      cases ef
      exact ⟨v, _, _, _, _, rfl, .ty _, .base (by rw [r.int]; exact .int b), kit_ty (kit_int T), q _ H' s (.bl _)⟩
    | str b =>
      cases ef
      exact ⟨v, _, _, _, _, rfl, .ty _, .base (by rw [r.str]; exact .str b), kit_ty (kit_str T), q _ H' s (.bl _)⟩
    | tup ds =>
      cases ef
      obtain ⟨a, xs, rfl, t, l⟩ := r.tup
      refine ⟨.ref a, _, .type "tuple", _, _, rfl, .ty _, ?_, kit_ty (kit_tup T), q _ H' s (.bl _)⟩
      rcases t with ⟨t | ⟨o, t⟩, _⟩ | ⟨o, its, n, l1, l2, _⟩
      · exact .base (.tup t)
      · exact .fTuple t
      · exact .kTuple l1 l2
    | lst ds =>
      cases ef
      obtain ⟨a, xs, rfl, t, l⟩ := r.lst
      exact ⟨.ref a, _, .type "list", _, _, rfl, .ty _, .base (.lst t), kit_ty (kit_lst T), q _ H' s (.bl _)⟩
    | _ => cases ef

/-! ### truth, and, or, not, if -/
def D.tru : D → Option Bool
  | .non => some false
  | .bl b => some b
  | .int i => some (i != 0)
  | .str y => if y.length ≤ sizeLine then some ((y.length : Int) != 0) else none
  | .tup ds => some (!ds.isEmpty)
  | .lst ds => some (!ds.isEmpty)
  | _ => none
def tru (f : DE) : DT := fun δ => (f δ).bind D.tru
theorem RepL.emp {K : PySem.W.Frag} {mg : Mg} {F : AP1} {H : Hp} {vs : List V} {ds : List D} (r : RepL K mg F H vs ds) : (!vs.isEmpty) = !ds.isEmpty := by cases r <;> rfl
theorem RepB.tru {K : PySem.W.Frag} {mg : Mg} {F : AP1} {H : Hp} {v : V} {d : D} {b : Bool} (r : RepB K mg F H v d) (e : d.tru = some b) : TruV K v H b := by
  cases d with
  | non =>
    cases e
    rw [r.non]
    rfl
  | bl c =>
    cases e
    rw [r.bl]
    rfl
  | int i =>
    cases e
    rw [r.int]
    rfl
  | str y =>
    rw [D.tru] at e
    split at e
    · rename_i hz
      cases e
      rw [r.str]
      exact ⟨hz, rfl⟩
    · cases e
  | tup ds =>
    cases e
    obtain ⟨a, xs, rfl, t, l⟩ := r.tup
    exact .inr (.inl ⟨xs, t.sq, l.emp.symm⟩)
  | lst ds =>
    cases e
    obtain ⟨a, xs, rfl, t, l⟩ := r.lst
    exact .inl ⟨xs, SqL.of t, l.emp.symm⟩
  | _ => cases e
theorem tTru (ha : PE X e (tB X.K X.mg fl f)) (he : ∀ whole, isTrue e X.env whole = (do let v ← whole; standAt e.pos; holding [v] (truthy v)) := by exact fun _ => rfl) : PT X e (tT X.K X.mg fl (tru f)) :=
  PT_imp (pt_truth ha he) fun σ H Q ⟨F, δ, b, er, ef, q⟩ => by
    obtain ⟨d, e1, ef⟩ := bind_some ef
    exact ⟨F, δ, d, er, e1, fun v H' s r => ⟨b, r.tru ef, q H' s⟩⟩
def tnot (f : DT) : DT := fun δ => (f δ).map (!·)
theorem tNot' (h : PT X e (tT X.K X.mg fl ft)) : PT X (.UnaryOp .Not e pos) (tT X.K X.mg fl (tnot ft)) :=
  PT_imp (pt_not h) fun σ H Q ⟨F, δ, b, er, ef, q⟩ => by
    obtain ⟨b', e1, rfl⟩ := map_some ef
    exact ⟨F, δ, b', er, e1, q⟩
def tand (f g : DT) : DT := fun δ => (f δ).bind fun b => if b = true then g δ else some false
def tor (f g : DT) : DT := fun δ => (f δ).bind fun b => if b = true then some true else g δ
theorem PW_imp {e : Expr} {t t' : TT} (h : PW X e t) (i : ∀ σ H Q, t' σ H Q → t σ H Q) : PW X e t' := ⟨fun wh pins s σ H Q I q => h.run wh pins s σ H Q I (i σ H Q q)⟩
theorem wAnd (h1 : PT X e (tT X.K X.mg fl ft)) (h2 : PW X (.BoolOp .And (e2 :: rest) pos) (tT X.K X.mg fl fu)) : PW X (.BoolOp .And (e :: e2 :: rest) pos) (tT X.K X.mg fl (tand ft fu)) :=
  PW_imp (pw_and h1 h2) fun σ H Q ⟨F, δ, b, er, ef, q⟩ => by
    obtain ⟨b', e1, ef⟩ := bind_some ef
    refine ⟨F, δ, b', er, e1, fun H' s => ?_⟩
    cases b' with
    | true =>
      rw [if_pos rfl] at ef ⊢
      exact ⟨F, δ, b, er.same s, ef, fun H2 s2 => q H2 (s.trans s2)⟩
    | false =>
      rw [if_neg Bool.false_ne_true] at ef ⊢
      cases ef
      exact q H' s
theorem wOr (h1 : PT X e (tT X.K X.mg fl ft)) (h2 : PW X (.BoolOp .Or (e2 :: rest) pos) (tT X.K X.mg fl fu)) : PW X (.BoolOp .Or (e :: e2 :: rest) pos) (tT X.K X.mg fl (tor ft fu)) :=
  PW_imp (pw_or h1 h2) fun σ H Q ⟨F, δ, b, er, ef, q⟩ => by
    obtain ⟨b', e1, ef⟩ := bind_some ef
    refine ⟨F, δ, b', er, e1, fun H' s => ?_⟩
    cases b' with
    | true =>
      rw [if_pos rfl] at ef ⊢
      cases ef
      exact q H' s
    | false =>
      rw [if_neg Bool.false_ne_true] at ef ⊢
      exact ⟨F, δ, b, er.same s, ef, fun H2 s2 => q H2 (s.trans s2)⟩
/-- a test as a value -/
def vand (f g : DE) : DE := fun δ => (asT f δ).bind fun b => if b = true then g δ else some (.bl false)
def vor (f g : DE) : DE := fun δ => (asT f δ).bind fun b => if b = true then some (.bl true) else g δ
def vnot (f : DE) : DE := fun δ => (asT f δ).map fun b => .bl (!b)
theorem dAnd (h1 : PE X e (tD X.K X.mg fl f)) (h2 : PE X (.BoolOp .And (e2 :: rest) pos) (tD X.K X.mg fl g')) : PE X (.BoolOp .And (e :: e2 :: rest) pos) (tD X.K X.mg fl (vand f g')) :=
  PE_imp (pe_and h1 h2) fun σ H Q ⟨F, δ, d, er, ef, q⟩ => by
    obtain ⟨b, e1, ef⟩ := bind_some ef
    refine ⟨F, δ, _, er, asT_of e1, fun v H' s r => ?_⟩
    cases r
    refine ⟨b, rfl, ?_⟩
    cases b with
    | true =>
      rw [if_pos rfl] at ef ⊢
      exact ⟨F, δ, d, er.same s, ef, fun u H2 s2 r2 => q u H2 (s.trans s2) r2⟩
    | false =>
      rw [if_neg Bool.false_ne_true] at ef ⊢
      cases ef
      exact q _ H' s (.bl false)
theorem dOr (h1 : PE X e (tD X.K X.mg fl f)) (h2 : PE X (.BoolOp .Or (e2 :: rest) pos) (tD X.K X.mg fl g')) : PE X (.BoolOp .Or (e :: e2 :: rest) pos) (tD X.K X.mg fl (vor f g')) :=
  PE_imp (pe_or h1 h2) fun σ H Q ⟨F, δ, d, er, ef, q⟩ => by
    obtain ⟨b, e1, ef⟩ := bind_some ef
    refine ⟨F, δ, _, er, asT_of e1, fun v H' s r => ?_⟩
    cases r
    refine ⟨b, rfl, ?_⟩
    cases b with
    | true =>
      rw [if_pos rfl] at ef ⊢
      cases ef
      exact q _ H' s (.bl true)
    | false =>
      rw [if_neg Bool.false_ne_true] at ef ⊢
      exact ⟨F, δ, d, er.same s, ef, fun u H2 s2 r2 => q u H2 (s.trans s2) r2⟩
theorem dNot (h1 : PE X e (tD X.K X.mg fl f)) : PE X (.UnaryOp .Not e pos) (tD X.K X.mg fl (vnot f)) :=
  PE_imp (pe_not h1) fun σ H Q ⟨F, δ, d, er, ef, q⟩ => by
    obtain ⟨b, e1, rfl⟩ := map_some ef
    refine ⟨F, δ, _, er, asT_of e1, fun v H' s r => ?_⟩
    cases r
    exact ⟨b, rfl, q _ H' s (.bl _)⟩
/-- a and b if t else c -/
def dite' (t : DT) (f g : DE) : DE := fun δ => (t δ).bind fun b => if b = true then f δ else g δ
theorem dIf (hc : PT X c (tT X.K X.mg fl ft)) (ha : PE X e (tD X.K X.mg fl f)) (hb : PE X e2 (tD X.K X.mg fl g')) : PE X (.IfExp c e e2 pos) (tD X.K X.mg fl (dite' ft f g')) :=
  PE_imp (pe_ifExp hc ha hb) fun σ H Q ⟨F, δ, d, er, ef, q⟩ => by
    obtain ⟨b, e1, ef⟩ := bind_some ef
    refine ⟨F, δ, b, er, e1, fun H' s => ?_⟩
    cases b with
    | true =>
      rw [if_pos rfl] at ef ⊢
      exact ⟨F, δ, d, er.same s, ef, fun u H2 s2 r2 => q u H2 (s.trans s2) r2⟩
    | false =>
      rw [if_neg Bool.false_ne_true] at ef ⊢
      exact ⟨F, δ, d, er.same s, ef, fun u H2 s2 r2 => q u H2 (s.trans s2) r2⟩
/-- a op1 b op2 c, as a test -/
def dChain (g1 g2 : D → D → Option D) (fa fb fc : DE) : DT := fun δ => (fa δ).bind fun x => (fb δ).bind fun y => (g1 x y).bind fun z => match z with
  | .bl true => (fc δ).bind fun w => (g2 y w).bind fun z => match z with
    | .bl b => some b
    | _ => none
  | .bl false => some false
  | _ => none
theorem tChain' {op op' : CmpOp} {g1 g2 : D → D → Option D} (ho : R2D X (compareOp op) g1) (ho' : R2D X (compareOp op') g2) (ha : PE X e (tB X.K X.mg fl f)) (hb : PE X e2 (tB X.K X.mg fl g')) (hc : PE X c (tB X.K X.mg fl h'))
    (hm : lastMarks [op, op'] [e2, c] = false := by with_unfolding_all rfl) : PT X (.Compare e [op, op'] [e2, c] pos) (tT X.K X.mg fl (dChain g1 g2 f g' h')) :=
  PT_imp (pt_chain ho ho' ha hb hc hm) fun σ H Q ⟨F, δ, b, er, ef, q⟩ => by
    obtain ⟨dx, e1, ef⟩ := bind_some ef
    obtain ⟨dy, e2, ef⟩ := bind_some ef
    obtain ⟨dz, e3, ef⟩ := bind_some ef
    refine bin2 er e1 e2 fun x y H2 s r1 r2 => ⟨F, dx, dy, dz, dom_same s er.dom, r1, r2, e3, fun v H3 s3 r3 => ?_⟩
    cases dz with
    | bl k =>
      cases r3
      refine ⟨k, rfl, ?_⟩
      cases k with
      | true =>
        obtain ⟨dw, e4, ef⟩ := bind_some (show (h' δ).bind _ = some b from ef)
        obtain ⟨du, e5, ef⟩ := bind_some ef
        rw [if_pos rfl]
        refine ⟨F, δ, dw, er.same (s.trans s3), e4, fun w H4 s4 r4 => ⟨F, dy, dw, du, dom_same (s.trans (s3.trans s4)) er.dom, (r2.same s3).same s4, r4, e5, fun u H5 s5 r5 => ?_⟩⟩
        cases du with
        | bl k =>
          cases ef
          cases r5
          exact ⟨b, rfl, q H5 (s.trans (s3.trans (s4.trans s5)))⟩
        | _ => cases ef
      | false =>
        rw [if_neg Bool.false_ne_true]
        cases (show some false = some b from ef)
        exact ⟨false, rfl, q H3 (s.trans s3)⟩
    | _ => cases ef
/-- a test whose value is known to be a bool, as a value: the value itself -/
theorem tVal (h : PE X e (tD X.K X.mg fl f)) (he : ∀ whole, isTrue e X.env whole = (do let v ← whole; standAt e.pos; holding [v] (truthy v)) := by exact fun _ => rfl) : PT X e (tT X.K X.mg fl (tru f)) := tTru (cB h) he

/-! ### fields -/
/-- a field of an object of one of the classes cs -/
def gFld (cs : List Str) (f : Str) : D → Option D
  | .obj c ns ds => if c ∈ cs then (ns.zip ds).lookup f else none
  | _ => none
theorem fs_lookup {K : PySem.W.Frag} {mg : Mg} {F : AP1} {H : Hp} {f : Str} {d : D} : ∀ {fs : List (Str × V)} {ds : List D}, RepL K mg F H (fs.map (·.2)) ds → ((fs.map (·.1)).zip ds).lookup f = some d → ∃ v, fs.lookup f = some v ∧ Rep K mg F H v d
  | [], _, _, e => by cases e
  | (g, v) :: fs, d' :: ds, .cons h r, e => by
    rw [List.map_cons, List.zip_cons_cons, List.lookup_cons] at e
    rw [List.lookup_cons]
    split at e
    · rename_i hb
      rw [hb]
      cases e
      exact ⟨v, rfl, h⟩
    · rename_i hb
      rw [hb]
      exact fs_lookup r e
theorem dFld {cs : List Str} {fn : Str} (hK : ∀ c ∈ cs, ∀ C, X.mg c = some (.ref C) → Cls X.K C ∧ NoAttr X.K C fn) (ha : PE X e (tB X.K X.mg fl f)) (hb : attributeBase e fn X.env (eval e X.env) = eval e X.env := by rfl) : PE X (.Attribute e fn pos) (tD X.K X.mg fl (dC1 (gFld cs fn) f)) :=
  PE_imp (pe_fld ha hb) fun σ H Q ⟨F, δ, d, er, ef, q⟩ => by
    obtain ⟨dx, e1, ef⟩ := bind_some ef
    refine ⟨F, δ, dx, er, e1, fun v H' s r => ?_⟩
    cases dx with
    | obj c ns ds =>
      replace ef : (if c ∈ cs then (ns.zip ds).lookup fn else none) = some d := ef
      split at ef
      · rename_i hz
        have r' := r.clean (fun _ z => nomatch z)
        cases r' with
        | obj h n m en rl =>
          subst en
          obtain ⟨u, lu, ru⟩ := fs_lookup rl ef
          exact ⟨_, _, _, _, u, rfl, h, (hK c hz _ m).1, (hK c hz _ m).2, lu, q u H' s ru⟩
      · cases ef
    | _ => cases ef
end
end DL

end

section
set_option Elab.async false
set_option linter.all false
set_option maxRecDepth 100000
/-! zip and enumerate over lists and tuples in any mix -/
namespace DLZ
open PySem PySem.Spec PyProof.Rows L2

/-- a sequence at a: a list (true), a tuple -/
def SqA (K : PySem.W.Frag) (b : Bool) (H : Hp) (a : Addr) (xs : List V) : Prop := match b with
  | true => SqL K H a xs
  | false => SqT K H a xs
def SqAt (b : Bool) (h : Heap) (a : Addr) (items : Array Value) : Prop := match b with
  | true => h.IsList a items
  | false => h.IsTuple a items
def SqIt (b : Bool) (h : Heap) (it a : Addr) (i : Nat) : Prop := match b with
  | true => h.IsListIter it a i
  | false => h.IsTupleIter it a i
def itO (b : Bool) (a : Addr) : Obj := match b with
  | true => { cls := .type "list_iterator", data := .fields #[.ref a, .int 0 0] }
  | false => { cls := .type "tuple_iterator", data := .fields #[.ref a, .int 0 0] }
theorem SqIt.at {b : Bool} {h h' : Heap} {it a : Addr} {i : Nat} (x : SqIt b h it a i) (k : ∀ o, h.get? it = some o → h'.get? it = some o) : SqIt b h' it a i := by
  cases b
  · exact Heap.IsTupleIter.at x k
  · exact Heap.IsListIter.at x k
theorem SqIt.has {b : Bool} {h : Heap} {it a : Addr} {i : Nat} (x : SqIt b h it a i) : ∃ o, h.get? it = some o ∧ ∀ v, o.data ≠ .cell v := by
  cases b
  · obtain ⟨o, e, _, d⟩ := x
    exact ⟨o, e, fun v q => by rw [d] at q; cases q⟩
  · obtain ⟨o, e, _, d⟩ := x
    exact ⟨o, e, fun v q => by rw [d] at q; cases q⟩
theorem SqAt.lt {b : Bool} {h : Heap} {a : Addr} {items : Array Value} (x : SqAt b h a items) : a < h.objs.size := by
  cases b
  · obtain ⟨o, e, _⟩ := x
    exact Heap.lt_size e
  · obtain ⟨o, e, _⟩ := x
    exact Heap.lt_size e
theorem draws_sq {prog : Program} {w : World} {A : Around} (b : Bool) (hh : A.handled = none) (it a : Addr) (hne : a ≠ it) (items : Array Value) :
    Draws prog w A it [it, a] items.size (fun i v => items[i]? = some v) (fun i h => SqIt b h it a i ∧ SqAt b h a items) := by
  cases b
  · exact Draws.tuple hh it a hne items
  · exact Draws.list hh it a hne items
theorem begins_sq (b : Bool) (a : Addr) (items : Array Value) : Begins (.ref a) (itO b a) fun h => SqAt b h a items := by
  cases b
  · exact begins_tuple a items
  · exact begins_list a items
theorem itO_it (b : Bool) {h : Heap} {it a : Addr} (e : h.get? it = some (itO b a)) : SqIt b h it a 0 := by
  cases b
  · exact ⟨_, e, rfl, rfl⟩
  · exact ⟨_, e, rfl, rfl⟩
section
variable {X : Cx} {pins : List (Addr × Obj)} {σ : L2.St} {H : Hp} {s : Shared} {a : Addr} {xs ys : List V} {b : Bool}
theorem Inv_sq (I : Inv X pins σ H s) (h : SqA X.K b H a xs) : ∃ its : List Value, Vals xs its ∧ SqAt b s.heap a its.toArray := by
  cases b
  · obtain ⟨its, r, p, _⟩ := I.tuple h
    exact ⟨its, r, p⟩
  · obtain ⟨its, r, p, _⟩ := I.list h
    exact ⟨its, r, p.isList⟩
theorem Inv_sq_inj (I : Inv X pins σ H s) (h : SqA X.K b H a xs) (h' : SqA X.K b H a ys) : xs = ys := by
  cases b
  · exact I.tuple_inj h h'
  · exact I.list_inj h h'
end
/-- the sequences at a and b as they stand at each turn, the items in new pairs -/
def ItzG (K : PySem.W.Frag) (b1 b2 : Bool) (a b : Addr) : It :=
  ⟨fun i H => ∃ (xs ys : List V) (x y : V), SqA K b1 H a xs ∧ SqA K b2 H b ys ∧ xs[i]? = some x ∧ ys[i]? = some y,
    fun i H v H' => ∃ T x y, v = .ref T ∧ H T = none ∧ H' = upd H T (.tup [x, y]) ∧ (∀ xs, SqA K b1 H a xs → xs[i]? = some x) ∧ ∀ ys, SqA K b2 H b ys → ys[i]? = some y,
    fun i H => ∃ xs ys : List V, SqA K b1 H a xs ∧ SqA K b2 H b ys ∧ (i = xs.length ∨ i = ys.length) ∧ i ≤ xs.length ∧ i ≤ ys.length⟩
theorem turn_zipG {P : Program} {w : World} {K : PySem.W.Frag} {elts : List Expr} {kk : Nat} {tpos : Pos} {b1 b2 : Bool} {a b z TI TO i1 i2 : Addr} (S : ZipSep2 z TI TO i1 i2 [i1, a] [i2, b]) (ha : a ≠ i1) (hb : b ≠ i2) :
    Turn P w K (.Tuple elts kk tpos) (ItzG K b1 b2 a b) [z, TI, TO, i1, i2] z (fun i h => IsZip h z TI TO .none ∧ IsTupOf2 h TI (.ref i1) (.ref i2) ∧ (∃ x y, IsTupOf2 h TO x y) ∧ SqIt b1 h i1 a i ∧ SqIt b2 h i2 b i) where
  mem := by simp
  obj := fun i h st c hc => by
    obtain ⟨hz, hTI, ⟨x, y, hTO⟩, h1, h2⟩ := st
    have e' : c = z ∨ c = TI ∨ c = TO ∨ c = i1 ∨ c = i2 := by simpa using hc
    rcases e' with q | q | q | q | q
    · rw [q]; exact ⟨_, hz, fun v q => nomatch q⟩
    · rw [q]; exact ⟨_, hTI, fun v q => nomatch q⟩
    · rw [q]; exact ⟨_, hTO, fun v q => nomatch q⟩
    · rw [q]; exact h1.has
    · rw [q]; exact h2.has
  keep := fun i h h' st k => by
    obtain ⟨hz, hTI, ⟨x, y, hTO⟩, h1, h2⟩ := st
    exact ⟨k z (by simp) _ hz, k TI (by simp) _ hTI, ⟨x, y, k TO (by simp) _ hTO⟩, h1.at fun o q => k i1 (by simp) o q, h2.at fun o q => k i2 (by simp) o q⟩
  item := by
    intro X hP hw hK hc i pins s σ H E I hf st hg
    subst hP hw hK
    obtain ⟨hz, hTI, ⟨x0, y0, hTO⟩, h1, h2⟩ := st
    obtain ⟨xs, ys, x, y, hqx, hqy, hx, hy⟩ := hg
    obtain ⟨its, rv, p⟩ := Inv_sq I hqx
    obtain ⟨its2, rv2, p2⟩ := Inv_sq I hqy
    obtain ⟨u, hu, ru⟩ := rv.get hx
    obtain ⟨u2, hu2, ru2⟩ := rv2.get hy
    have hh : X.A.in1.handled = none := I.ok.hd hc
    have W := WalksT.zipD2 (prog := X.prog) (w := X.w) (A := X.A) S (draws_sq b1 hh i1 a ha its.toArray) (draws_sq b2 hh i2 b hb its2.toArray)
    have li : i < its.length := (List.getElem?_eq_some_iff.mp hu).1
    have li2 : i < its2.length := (List.getElem?_eq_some_iff.mp hu2).1
    refine W.item i s _ _ (by simp; omega) ⟨hz, hTI, ⟨x0, y0, hTO⟩, ⟨h1, p⟩, ⟨h2, p2⟩⟩ fun T vals h' tk hP hT hIs hMid hk => ?_
    obtain ⟨v1, v2, e1, e2, rfl⟩ := hP
    have ev1 : u = v1 := by
      have : its.toArray[i]? = some u := by simpa using hu
      exact Option.some.inj (this.symm.trans e1)
    have ev2 : u2 = v2 := by
      have : its2.toArray[i]? = some u2 := by simpa using hu2
      exact Option.some.inj (this.symm.trans e2)
    subst ev1 ev2
    have ap := W.apart i T h' hMid
    refine ⟨.ref T, rfl, W.go elts kk tpos i T { s with heap := h', toks := tk } _ _ hMid fun h'' st' hk2 => ?_⟩
    obtain ⟨o, ho, hcl, n, hd⟩ := hIs
    have hT2 : h''.get? T = some o := hk2 T o ap ho
    have new : ObjOk X.prog X.w (upd H T (.tup [x, y])) h'' T (.tup [x, y]) :=
      ⟨by show 2 ≤ sizeLine; decide, [u, u2], .cons ru (.cons ru2 .nil), ⟨o, hT2, hcl, n, hd⟩⟩
    have I1 : Inv X pins σ (upd H T (.tup [x, y])) { s with heap := h'', toks := tk } :=
      I.turnedNew (t' := tk) (ch := [z, TI, TO, i1, i2]) (fun c o hb q => hk2 c o (fun m => hb (by
        simp only [List.mem_cons, List.mem_singleton, List.not_mem_nil, or_false] at m ⊢
        rcases m with m | m | m | m <;> simp [m])) (hk c o (fun m => hb (by
        simp only [List.mem_cons, List.mem_singleton, List.not_mem_nil, or_false] at m ⊢
        rcases m with m | m | m | m <;> simp [m])) q)) hf hT new
    refine ⟨.ref T, _, I1, rfl, ⟨T, x, y, rfl, I.hok.fresh hT, rfl, fun l hl => by rw [Inv_sq_inj I hl hqx]; exact hx, fun l hl => by rw [Inv_sq_inj I hl hqy]; exact hy⟩, ⟨st'.1, st'.2.1, st'.2.2.1, st'.2.2.2.1.1, st'.2.2.2.2.1⟩, fun c hcm => ?_⟩
    have hlt : c < s.heap.objs.size := by
      have e' : c = z ∨ c = TI ∨ c = TO ∨ c = i1 ∨ c = i2 := by simpa using hcm
      rcases e' with q | q | q | q | q
      · rw [q]; exact Heap.lt_size hz
      · rw [q]; exact Heap.lt_size hTI
      · rw [q]; exact Heap.lt_size hTO
      · rw [q]; obtain ⟨_, e1, _⟩ := h1.has; exact Heap.lt_size e1
      · rw [q]; obtain ⟨_, e2, _⟩ := h2.has; exact Heap.lt_size e2
    rw [upd_ne (Nat.ne_of_lt (Nat.lt_of_lt_of_le hlt hT))]
    exact (hf c hcm).1
  done := by
    intro X hP hw hK hc i pins s σ H E I hf st hg
    subst hP hw hK
    obtain ⟨hz, hTI, ⟨x0, y0, hTO⟩, h1, h2⟩ := st
    obtain ⟨xs, ys, hqx, hqy, hend, l1, l2⟩ := hg
    obtain ⟨its, rv, p⟩ := Inv_sq I hqx
    obtain ⟨its2, rv2, p2⟩ := Inv_sq I hqy
    have e1 := rv.length
    have e2 := rv2.length
    have hh : X.A.in1.handled = none := I.ok.hd hc
    have W := WalksT.zipD2 (prog := X.prog) (w := X.w) (A := X.A) S (draws_sq b1 hh i1 a ha its.toArray) (draws_sq b2 hh i2 b hb its2.toArray)
    have em : min its.toArray.size its2.toArray.size = i := by simp; omega
    rw [em] at W
    exact W.done s _ _ ⟨hz, hTI, ⟨x0, y0, hTO⟩, ⟨h1, p⟩, ⟨h2, p2⟩⟩ fun h' tk hk => ⟨rfl, I.turnedL (t' := tk) (ch := [z, TI, TO, i1, i2]) (fun c o hb q => hk c o (fun m => hb (by
        simp only [List.mem_cons, List.mem_singleton, List.not_mem_nil, or_false] at m ⊢
        rcases m with m | m | m | m <;> simp [m])) q) hf⟩
  self := fun A i s Q E st h => wpAny_pyIter_zip st.1 h
/-- a, b: what is walked -/
def iZipG (K : PySem.W.Frag) (ta : TA) : TI := fun σ H R => ta σ H fun vs H1 => ∃ a b b1 b2 xs ys, vs = [.ref a, .ref b] ∧ SqA K b1 H1 a xs ∧ SqA K b2 H1 b ys ∧ R (ItzG K b1 b2 a b) H1
theorem pi_zipG {X : Cx} {e e2 : Expr} {ta : TA} {p pos tpos : Pos} {elts : List Expr} {kk : Nat} (hg : Gl X "zip") (hm : X.mg "zip" = none) (ha : PA X [e, e2] ta)
    (hs : starEach [e, e2] X.env = (false, eval e X.env) :: starEach [e2] X.env := by rfl) (hpl : (backTo pos (starEach [e2] X.env)).any (·.1) = false := by rfl) :
    PI X (.Tuple elts kk tpos) (.Call (.Name "zip" p) [e, e2] [] pos) (iZipG X.K ta) := by
  refine ⟨fun pins s σ H R I h => ?_⟩
  refine Call_ (ld_blt I hg hm PyProof.Rows.boot_zip (PyProof.Rows.callWith_type1 (thn (ha.run pos pins s σ H _ I h) fun us s1 ⟨vs, H1, I1, r1, q1⟩ => ?_) hs hpl))
  obtain ⟨a, b, b1, b2, xs, ys, ex, hqx, hqy, q⟩ := q1
  subst ex
  cases r1 with
  | cons r rr =>
    cases rr with
    | cons r' rr =>
      cases rr
      cases r
      cases r'
      have fresh5 : ∀ c, c ∈ [s1.heap.objs.size + 4, s1.heap.objs.size + 2, s1.heap.objs.size + 3, s1.heap.objs.size, s1.heap.objs.size + 1] → FpOk X pins H1 c := fun c hcm => by
        have e' : c = s1.heap.objs.size + 4 ∨ c = s1.heap.objs.size + 2 ∨ c = s1.heap.objs.size + 3 ∨ c = s1.heap.objs.size ∨ c = s1.heap.objs.size + 1 := by simpa using hcm
        have hle : s1.heap.objs.size ≤ c := by
          rcases e' with z | z | z | z | z
          · rw [z]; exact Nat.le_add_right _ _
          · rw [z]; exact Nat.le_add_right _ _
          · rw [z]; exact Nat.le_add_right _ _
          · rw [z]; exact Nat.le_refl _
          · rw [z]; exact Nat.le_add_right _ _
        exact I1.fpOk hle (I1.hok.fresh hle)
      obtain ⟨its, rv, p1⟩ := Inv_sq I1 hqx
      obtain ⟨its2, rv2, p2⟩ := Inv_sq I1 hqy
      have l1 := p1.lt
      have l2 := p2.lt
      refine zip_begins2 (begins_sq b1 a its.toArray) (begins_sq b2 b its2.toArray) p1 p2 fun h' hz hTI hTO h1 h2 hsz hk => wpAny_pyIter_zip hz ?_
      have I2 : Inv X pins σ H1 { s1 with heap := h' } := I1.kept (t' := s1.toks) hk
      exact ⟨s1.heap.objs.size + 4, [s1.heap.objs.size + 4, s1.heap.objs.size + 2, s1.heap.objs.size + 3, s1.heap.objs.size, s1.heap.objs.size + 1], _, _, H1, rfl, I2,
        turn_zipG (zip_sep2 (fun c hc => by rw [List.mem_singleton.mp hc]; exact l1) (fun c hc => by rw [List.mem_singleton.mp hc]; exact l2)) (Nat.ne_of_lt l1) (Nat.ne_of_lt (Nat.lt_succ_of_lt l2)), ⟨hz, hTI, ⟨_, _, hTO⟩, itO_it b1 h1, itO_it b2 h2⟩, fresh5, q⟩

/-! ### enumerate -/
def IteG (K : PySem.W.Frag) (b : Bool) (a : Addr) : It :=
  ⟨fun i H => ∃ (xs : List V) (x : V), SqA K b H a xs ∧ xs[i]? = some x, fun i H v H' => ∃ T x, v = .ref T ∧ H T = none ∧ H' = upd H T (.tup [.int (i : Nat), x]) ∧ ∀ xs, SqA K b H a xs → xs[i]? = some x, fun i H => ∃ xs : List V, SqA K b H a xs ∧ i = xs.length⟩
theorem turn_enumG {P : Program} {w : World} {K : PySem.W.Frag} {elts : List Expr} {kk : Nat} {tpos : Pos} {b : Bool} {a e it : Addr} (hei : e ≠ it) (hea : e ≠ a) (hai : a ≠ it) :
    Turn P w K (.Tuple elts kk tpos) (IteG K b a) [e, it] e (fun i h => (∃ old, IsEnum h e it (0 + ((i : Nat) : Int)) old) ∧ SqIt b h it a i) where
  mem := by simp
  obj := fun i h st c hb => by
    obtain ⟨⟨old, he⟩, h1⟩ := st
    have e' : c = e ∨ c = it := by simpa using hb
    rcases e' with z | z
    · rw [z]; exact ⟨_, he, fun v q => nomatch q⟩
    · rw [z]; exact h1.has
  keep := fun i h h' st k => let ⟨⟨old, he⟩, hi⟩ := st; ⟨⟨old, k e (by simp) _ he⟩, hi.at fun o q => k it (by simp) o q⟩
  item := by
    intro X hP hw hK hc i pins s σ H E I hf st hg
    subst hP hw hK
    obtain ⟨⟨old, he⟩, h1⟩ := st
    obtain ⟨xs, x, hqx, hx⟩ := hg
    obtain ⟨its, rv, p⟩ := Inv_sq I hqx
    obtain ⟨u, hu, ru⟩ := rv.get hx
    have hh : X.A.in1.handled = none := I.ok.hd hc
    have W := WalksT.enumFrom (prog := X.prog) (w := X.w) (A := X.A) 0 (draws_sq b hh it a hai its.toArray) e hei (by simp [hei, hea]) (by simp)
    have li : i < its.length := (List.getElem?_eq_some_iff.mp hu).1
    refine W.item i s _ _ (by simpa using li) ⟨⟨old, he⟩, h1, p⟩ fun T vals h' tk hP hT hIs hMid hk => ?_
    obtain ⟨t, v1, e1, rfl⟩ := hP
    have ev1 : u = v1 := by
      have : its.toArray[i]? = some u := by simpa using hu
      exact Option.some.inj (this.symm.trans e1)
    subst ev1
    have ap := W.apart i T h' hMid
    refine ⟨.ref T, rfl, W.go elts kk tpos i T { s with heap := h', toks := tk } _ _ hMid fun h'' st' hk2 => ?_⟩
    obtain ⟨o, ho, hcl, n, hd⟩ := hIs
    have hT2 : h''.get? T = some o := hk2 T o ap ho
    have ei : (0 : Int) + (i : Int) = ((i : Nat) : Int) := by omega
    rw [ei] at hd
    have new : ObjOk X.prog X.w (upd H T (.tup [.int (i : Nat), x])) h'' T (.tup [.int (i : Nat), x]) :=
      ⟨by show 2 ≤ sizeLine; decide, [.int (i : Nat) t, u], .cons ⟨_, rfl⟩ (.cons ru .nil), ⟨o, hT2, hcl, n, hd⟩⟩
    have I1 : Inv X pins σ (upd H T (.tup [.int (i : Nat), x])) { s with heap := h'', toks := tk } :=
      I.turnedNew (t' := tk) (ch := [e, it]) (fun c o hb q => hk2 c o hb (hk c o hb q)) hf hT new
    refine ⟨.ref T, _, I1, rfl, ⟨T, x, rfl, I.hok.fresh hT, rfl, fun l hl => by rw [Inv_sq_inj I hl hqx]; exact hx⟩, ⟨st'.1, st'.2.1⟩, fun c hcm => ?_⟩
    have hlt : c < s.heap.objs.size := by
      have e' : c = e ∨ c = it := by simpa using hcm
      rcases e' with q | q
      · rw [q]; exact Heap.lt_size he
      · rw [q]; obtain ⟨_, e2, _⟩ := h1.has; exact Heap.lt_size e2
    rw [upd_ne (Nat.ne_of_lt (Nat.lt_of_lt_of_le hlt hT))]
    exact (hf c hcm).1
  done := by
    intro X hP hw hK hc i pins s σ H E I hf st hg
    subst hP hw hK
    obtain ⟨⟨old, he⟩, h1⟩ := st
    obtain ⟨xs, hqx, hend⟩ := hg
    obtain ⟨its, rv, p⟩ := Inv_sq I hqx
    have e1 := rv.length
    have hh : X.A.in1.handled = none := I.ok.hd hc
    have W := WalksT.enumFrom (prog := X.prog) (w := X.w) (A := X.A) 0 (draws_sq b hh it a hai its.toArray) e hei (by simp [hei, hea]) (by simp)
    have em : its.toArray.size = i := by simp; omega
    rw [em] at W
    exact W.done s _ _ ⟨⟨old, he⟩, h1, p⟩ fun h' tk hk => ⟨rfl, I.turnedL (t' := tk) (ch := [e, it]) (fun c o hb q => hk c o hb q) hf⟩
  self := fun A i s Q E st h => let ⟨⟨_, he⟩, _⟩ := st; wpAny_pyIter_enum he h
set_option maxHeartbeats 1000000 in
theorem meets_enumerate_new1B {v : Value} {o : Obj} {H : Heap → Prop} (B : Begins v o H) :
    Meets (Builtin.«enumerate.__new__» ⟨[.type "enumerate", v], []⟩) (fun _ R s => H s.heap ∧
      R (.ok (.ret (.ref (s.heap.push o).objs.size))) { s with heap := (s.heap.push o).push { cls := .type "enumerate", data := .fields #[.none, .bool false, .ref s.heap.objs.size, rawInt 0, .none, .none] } }) :=
  .of_wp fun prog w A R s h => by
    obtain ⟨hp, g, d, tk, os⟩ := s
    obtain ⟨hl, h⟩ := h
    have hsub := sub_enumerate
    have q1 : ∀ (A : Around) (E : Value → Shared → Prop) (Q : Value → Shared → Prop), Q (.ref hp.objs.size) ⟨hp.push o, g, d, tk, os⟩ → wpAny (model prog w) A (pyIter v) Q E ⟨hp, g, d, tk, os⟩ := fun A E Q q => B.iter prog w A E _ Q hl q
    wp_walk
    refine wpAny_stack_any fun st => wpAny_pure ?_
    split
    · rename_i c _ _ _ _ _
      cases (c == Value.type "enumerate")
      · wp_walk using q1
        exact ⟨_, rfl, h⟩
      · wp_walk using q1
        exact ⟨_, rfl, h⟩
    · wp_walk using q1
      exact ⟨_, rfl, h⟩
theorem enum_begins1 {prog : Program} {w : World} {A : Around} {E : Value → Shared → Prop} {s : Shared} {v : Value} {o : Obj} {H : Heap → Prop} {Q : Value → Shared → Prop} (B : Begins v o H) (h1 : H s.heap)
    (h : ∀ h', IsEnum h' (s.heap.objs.size + 1) s.heap.objs.size 0 .none → h'.get? s.heap.objs.size = some o → h'.objs.size = s.heap.objs.size + 2 →
      (∀ b o, s.heap.get? b = some o → h'.get? b = some o) → Q (.ref (s.heap.objs.size + 1)) { s with heap := h' }) :
    wpAny (model prog w) A (call (.type "enumerate") [v]) Q E s := by
  refine callType_new F.called_enumerate (by decide) (F.typeCall_enumerate_1 _) (F.newCall_enumerate_1 _) (fun obj => F.args_object_init_2 obj _) F.entry_enumerate_new
    (meets_enumerate_new1B B) ⟨h1, ?_⟩
  have hz : (s.heap.push o).objs.size = s.heap.objs.size + 1 := Heap.size_push ..
  show _ ∧ _
  rw [hz]
  have he : IsEnum ((s.heap.push o).push { cls := .type "enumerate", data := .fields #[.none, .bool false, .ref s.heap.objs.size, rawInt 0, .none, .none] }) (s.heap.objs.size + 1) s.heap.objs.size 0 .none := by
    have := Heap.get?_push_size (s.heap.push o) (o := { cls := .type "enumerate", data := .fields #[.none, .bool false, .ref s.heap.objs.size, rawInt 0, .none, .none] }) rfl
    rw [hz] at this; exact this
  refine ⟨⟨_, he, rfl⟩, h _ he (Heap.get?_push_of_some _ (Heap.get?_push_size _ B.free)) (by rw [Heap.size_push, hz]) fun b o x => Heap.get?_push_of_some _ (Heap.get?_push_of_some _ x)⟩
def iEnumG (K : PySem.W.Frag) (ta : TA) : TI := fun σ H R => ta σ H fun vs H1 => ∃ a b xs, vs = [.ref a] ∧ SqA K b H1 a xs ∧ R (IteG K b a) H1
theorem pi_enumG {X : Cx} {e : Expr} {ta : TA} {p pos tpos : Pos} {elts : List Expr} {kk : Nat} (hg : Gl X "enumerate") (hm : X.mg "enumerate" = none) (ha : PA X [e] ta) (hs : starEach [e] X.env = [(false, eval e X.env)] := by rfl) :
    PI X (.Tuple elts kk tpos) (.Call (.Name "enumerate" p) [e] [] pos) (iEnumG X.K ta) := by
  refine ⟨fun pins s σ H R I h => ?_⟩
  refine Call_ (ld_blt I hg hm boot_enumerate (PyProof.Rows.callWith_type1 (thn (ha.run pos pins s σ H _ I h) fun us s1 ⟨vs, H1, I1, r1, q1⟩ => ?_) hs rfl))
  obtain ⟨a, b, xs, ex, hq, q⟩ := q1
  subst ex
  cases r1 with
  | cons r rr =>
    cases rr
    cases r
    obtain ⟨its, rv, p1⟩ := Inv_sq I1 hq
    have l1 := p1.lt
    refine enum_begins1 (begins_sq b a its.toArray) p1 fun h' he hit hsz hk => wpAny_pyIter_enum he ?_
    have I2 : Inv X pins σ H1 { s1 with heap := h' } := I1.kept (t' := s1.toks) hk
    refine ⟨s1.heap.objs.size + 1, [s1.heap.objs.size + 1, s1.heap.objs.size], _, _, H1, rfl, I2, turn_enumG (Nat.succ_ne_self _) (fun e => absurd (show s1.heap.objs.size + 1 < s1.heap.objs.size from e ▸ l1) (Nat.not_lt.mpr (Nat.le_succ _))) (Nat.ne_of_lt l1), ⟨⟨.none, he⟩, itO_it b hit⟩, fun c hb => ?_, q⟩
    have e' : c = s1.heap.objs.size + 1 ∨ c = s1.heap.objs.size := by simpa using hb
    have hle : s1.heap.objs.size ≤ c := by
      rcases e' with z | z
      · rw [z]; exact Nat.le_add_right _ _
      · rw [z]; exact Nat.le_refl _
    exact I1.fpOk hle (I1.hok.fresh hle)
end DLZ

end

section
set_option Elab.async false
set_option linter.all false
set_option maxRecDepth 100000
namespace DL
open PySem PySem.Spec PyProof.Rows L2
/-! ### what is walked -/
abbrev DI := DSt → Option (List D)
/-- J yields values that hold ds, wherever all of H1 that P says stands -/
def WalkR (K : PySem.W.Frag) (mg : Mg) (P : AP1) (J : It) (F : AP1) (ds : List D) (H1 : Hp) : Prop :=
  ∀ (H : Hp) (F' : AP1), (∀ b o, H1 b = some o → P b → H b = some o) → (∀ b, H1 b ≠ none → F' b → F b) → (∀ a, F' a → H a ≠ none) → (∀ i d, ds[i]? = some d → J.go i H ∧ ∀ x H', J.yld i H x H' → Same H H' ∧ Rep K mg F' H' x d) ∧ J.stop ds.length H
def tIc (K : PySem.W.Frag) (mg : Mg) (fl : List Fl) (it : DI) : TI := fun σ H R => ∃ F δ ds, ER K mg fl F σ H δ ∧ it δ = some ds ∧ ∀ J H1, Same H H1 → WalkR K mg (fun b => ¬ F b) J F ds H1 → R J H1
def tIb (K : PySem.W.Frag) (mg : Mg) (fl : List Fl) (it : DI) : TI := fun σ H R => ∃ F δ ds, ER K mg fl F σ H δ ∧ it δ = some ds ∧ ∀ J H1, Same H H1 → WalkR K mg (fun _ => True) J F ds H1 → R J H1
theorem PI_imp {X : Cx} {tg e : Expr} {t t' : TI} (h : PI X tg e t) (i : ∀ σ H Q, t' σ H Q → t σ H Q) : PI X tg e t' := ⟨fun pins s σ H Q I q => h.run pins s σ H Q I (i σ H Q q)⟩
theorem PI_or {X : Cx} {tg e : Expr} {t t' : TI} (h : PI X tg e t) (h' : PI X tg e t') : PI X tg e (fun σ H R => t σ H R ∨ t' σ H R) := ⟨fun pins s σ H Q I q => q.elim (h.run pins s σ H Q I) (h'.run pins s σ H Q I)⟩
section
variable {X : Cx} {fl : List Fl} {tg e e2 : Expr} {f g' : DE} {it : DI} {pos p tpos : Pos} {elts : List Expr} {kk : Nat}
theorem iB (h : PI X tg e (tIc X.K X.mg fl it)) : PI X tg e (tIb X.K X.mg fl it) :=
  PI_imp h fun σ H R ⟨F, δ, ds, er, ei, q⟩ => ⟨F, δ, ds, er, ei, fun J H1 s w => q J H1 s fun H F' k => w H F' fun b o e _ => k b o e trivial⟩
def iSeq (f : DE) : DI := fun δ => (f δ).bind D.items
theorem Rd.kp {P : AP1} {H1 H : Hp} {a : Addr} {u : HO} (k : ∀ b o, H1 b = some o → P b → H b = some o) (h : Rd H1 a u) (p : P a) : Rd H a u := by
  rcases h with h | ⟨o, h⟩
  · exact .inl (k _ _ h p)
  · exact .inr ⟨o, k _ _ h p⟩
/-- the walk of a list that is clean -/
theorem walk_lst {K : PySem.W.Frag} {mg : Mg} {P F : AP1} {H1 : Hp} {a : Addr} {xs : List V} {ds : List D} (t : H1 a = some (.lst xs)) (pa : P a) (hP : ∀ b, ¬ F b → P b) (l : RepL K mg F H1 xs ds) : WalkR K mg P (Itl K a) F ds H1 := fun H F' k hs hn => by
  have ta : SqL K H a xs := SqL.of (k a _ t pa)
  refine ⟨fun i d e => ?_, ⟨xs, ta, by rw [l.len]; exact Nat.le_refl _⟩⟩
  obtain ⟨v, ev, rv⟩ := l.get e
  refine ⟨⟨xs, v, ta, ev⟩, fun x H' y => ?_⟩
  obtain ⟨rfl, y⟩ := y
  have ex := y xs ta
  rw [ev] at ex
  cases ex
  exact ⟨Same.refl _, Rep.stay (fun b o eb nb => ⟨k b o eb (hP b nb), fun z => nb (hs b (by rw [eb]; exact fun z => nomatch z) z)⟩) d v rv⟩
theorem TupA.kp {K : PySem.W.Frag} {P F : AP1} {H1 H : Hp} {a : Addr} {xs : List V} (k : ∀ b o, H1 b = some o → P b → H b = some o) (hP : ∀ b, ¬ F b → P b) (t : TupA K F H1 a xs) : SqT K H a xs := by
  rcases t with ⟨t, n⟩ | t
  · exact .inl (Rd.kp k t (hP a n))
  · exact .inr t
theorem walk_tup {K : PySem.W.Frag} {mg : Mg} {P F : AP1} {H1 : Hp} {a : Addr} {xs : List V} {ds : List D} (t : TupA K F H1 a xs) (hP : ∀ b, ¬ F b → P b) (l : RepL K mg F H1 xs ds) : WalkR K mg P (Itt K a) F ds H1 := fun H F' k hs hn => by
  have ta : SqT K H a xs := t.kp k hP
  refine ⟨fun i d e => ?_, ⟨xs, ta, by rw [l.len]; exact Nat.le_refl _⟩⟩
  obtain ⟨v, ev, rv⟩ := l.get e
  refine ⟨⟨xs, v, ta, ev⟩, fun x H' y => ?_⟩
  obtain ⟨rfl, y⟩ := y
  have ex := y xs ta
  rw [ev] at ex
  cases ex
  exact ⟨Same.refl _, Rep.stay (fun b o eb nb => ⟨k b o eb (hP b nb), fun z => nb (hs b (by rw [eb]; exact fun z => nomatch z) z)⟩) d v rv⟩
theorem piC (h : PE X e (tD X.K X.mg fl f)) : PI X tg e (tIc X.K X.mg fl (iSeq f)) :=
  PI_imp (PI_or (pi_list h) (pi_tup h)) fun σ H R ⟨F, δ, ds, er, ei, q⟩ => by
    obtain ⟨d, e1, ei⟩ := bind_some ei
    cases d with
    | lst es =>
      cases ei
      refine .inl ⟨F, δ, _, er, e1, fun v H' s r => ?_⟩
      cases r with
      | lst t l => exact ⟨_, rfl, ⟨_, t.sq⟩, q _ H' s (walk_lst t.1 t.2 (fun _ z => z) l)⟩
    | tup es =>
      cases ei
      refine .inr ⟨F, δ, _, er, e1, fun v H' s r => ?_⟩
      cases r with
      | tup t l => exact ⟨_, rfl, ⟨_, t.sq⟩, q _ H' s (walk_tup t (fun _ z => z) l)⟩
    | _ => cases ei
theorem piB (h : PE X e (tB X.K X.mg fl f)) : PI X tg e (tIb X.K X.mg fl (iSeq f)) :=
  PI_imp (PI_or (pi_list h) (pi_tup h)) fun σ H R ⟨F, δ, ds, er, ei, q⟩ => by
    obtain ⟨d, e1, ei⟩ := bind_some ei
    cases d with
    | lst es =>
      cases ei
      refine .inl ⟨F, δ, _, er, e1, fun v H' s r => ?_⟩
      obtain ⟨a, xs, rfl, t, l⟩ := r.lst
      exact ⟨_, rfl, ⟨_, SqL.of t⟩, q _ H' s (walk_lst t trivial (fun _ _ => trivial) l)⟩
    | tup es =>
      cases ei
      refine .inr ⟨F, δ, _, er, e1, fun v H' s r => ?_⟩
      obtain ⟨a, xs, rfl, t, l⟩ := r.tup
      exact ⟨_, rfl, ⟨_, t.sq⟩, q _ H' s (walk_tup t (fun _ _ => trivial) l)⟩
    | _ => cases ei
/-! ranges -/
def rangeD (lo : Int) (n : Nat) : List D := (List.range n).map fun i => D.int (lo + (i : Nat))
def iR1 (f : DE) : DI := fun δ => (f δ).bind fun d => match d with
  | .int j => if j < 2 ^ 62 ∧ -(2 ^ 62) ≤ j then some (rangeD 0 j.toNat) else none
  | _ => none
def iR2 (f g : DE) : DI := fun δ => (f δ).bind fun d => (g δ).bind fun d' => match d, d' with
  | .int i, .int j => if -(2 ^ 62) ≤ i ∧ i < 2 ^ 62 ∧ -(2 ^ 62) ≤ j ∧ j < 2 ^ 62 then some (rangeD i (j - i).toNat) else none
  | _, _ => none
theorem walk_range {K : PySem.W.Frag} {mg : Mg} {P F : AP1} {H1 : Hp} (lo : Int) (n : Nat) : WalkR K mg P (Itr lo n) F (rangeD lo n) H1 := fun H F' k hs hn => by
  refine ⟨fun i d e => ?_, by show n ≤ (rangeD lo n).length; rw [rangeD, List.length_map, List.length_range]; exact Nat.le_refl _⟩
  unfold rangeD at e
  rw [List.getElem?_map] at e
  obtain ⟨j, e1, rfl⟩ := map_some e
  obtain ⟨hj, ej⟩ := List.getElem?_eq_some_iff.mp e1
  rw [List.getElem_range] at ej
  subst ej
  rw [List.length_range] at hj
  refine ⟨hj, fun x H' y => ?_⟩
  obtain ⟨rfl, rfl⟩ := y
  exact ⟨Same.refl _, .int _⟩
theorem piR1 (hg : Gl X "range") (hm : X.mg "range" = none) (h : PE X e (tB X.K X.mg fl f)) (hs : starEach [e] X.env = [(false, eval e X.env)] := by rfl) (hs' : starEach [e] X.env = (false, eval e X.env) :: starEach [] X.env := by rfl) : PI X tg (.Call (.Name "range" p) [e] [] pos) (tIc X.K X.mg fl (iR1 f)) :=
  PI_imp (pi_range1 hg hm (pa1 h hs') hs) fun σ H R ⟨F, δ, ds, er, ei, q⟩ => by
    obtain ⟨d, e1, ei⟩ := bind_some ei
    cases d with
    | int j =>
      replace ei : (if j < 2 ^ 62 ∧ -(2 ^ 62) ≤ j then some (rangeD 0 j.toNat) else none) = some ds := ei
      split at ei
      · rename_i hj
        cases ei
        exact ⟨F, δ, _, er, e1, fun v H' s r => ⟨j, by rw [r.int], hj.2, hj.1, q _ H' s (walk_range 0 _)⟩⟩
      · cases ei
    | _ => cases ei
theorem piR2 (hg : Gl X "range") (hm : X.mg "range" = none) (h : PE X e (tB X.K X.mg fl f)) (h2 : PE X e2 (tB X.K X.mg fl g')) (hs : starEach [e, e2] X.env = [(false, eval e X.env), (false, eval e2 X.env)] := by rfl) (hs2 : starEach [e2] X.env = [(false, eval e2 X.env)] := by rfl)
    (hs' : starEach [e, e2] X.env = (false, eval e X.env) :: starEach [e2] X.env := by rfl) (hs2' : starEach [e2] X.env = (false, eval e2 X.env) :: starEach [] X.env := by rfl) : PI X tg (.Call (.Name "range" p) [e, e2] [] pos) (tIc X.K X.mg fl (iR2 f g')) :=
  PI_imp (pi_range2 hg hm (pa_cons h (pa_cons h2 pa_nil hs2') hs') hs hs2) fun σ H R ⟨F, δ, ds, er, ei, q⟩ => by
    obtain ⟨d, e1, ei⟩ := bind_some ei
    obtain ⟨d', e2, ei⟩ := bind_some ei
    refine bin2 (R := fun x y H2 => ∃ i j : Int, [x, y] = [.int i, .int j] ∧ (-(2 ^ 62) ≤ i ∧ i < 2 ^ 62 ∧ -(2 ^ 62) ≤ j ∧ j < 2 ^ 62) ∧ R (Itr i (j - i).toNat) H2) er e1 e2 fun x y H2 s r1 r2 => ?_
    cases d with
    | int i =>
      cases d' with
      | int j =>
        replace ei : (if -(2 ^ 62) ≤ i ∧ i < 2 ^ 62 ∧ -(2 ^ 62) ≤ j ∧ j < 2 ^ 62 then some (rangeD i (j - i).toNat) else none) = some ds := ei
        split at ei
        · rename_i hj
          cases ei
          exact ⟨i, j, by rw [r1.int, r2.int], hj, q _ H2 s (walk_range i _)⟩
        · cases ei
      | _ => cases ei
    | _ => cases ei
/-! zip, enumerate -/
def zipD (xs ys : List D) : List D := List.zipWith (fun x y => D.tup [x, y]) xs ys
def enumD : Nat → List D → List D
  | _, [] => []
  | k, x :: xs => .tup [.int k, x] :: enumD (k + 1) xs
def iZip (f g : DE) : DI := fun δ => (f δ).bind fun d => (g δ).bind fun d' => d.items.bind fun xs => d'.items.map fun ys => zipD xs ys
def iEnum (f : DE) : DI := fun δ => (f δ).bind fun d => d.items.map (enumD 0)
/-- a sequence that may be read, by its kind -/
theorem RepB.seqA {K : PySem.W.Frag} {mg : Mg} {F : AP1} {H : Hp} {v : V} {d : D} {ds : List D} (h : RepB K mg F H v d) (e : d.items = some ds) : ∃ a b xs, v = .ref a ∧ (∀ H', (∀ b o, H b = some o → True → H' b = some o) → DLZ.SqA K b H' a xs) ∧ RepL K mg F H xs ds := by
  cases d with
  | tup es =>
    cases e
    obtain ⟨a, xs, e, t, r⟩ := h.tup
    exact ⟨a, false, xs, e, fun H' s => t.kp s (fun _ _ => trivial), r⟩
  | lst es =>
    cases e
    obtain ⟨a, xs, e, t, r⟩ := h.lst
    exact ⟨a, true, xs, e, fun H' s => SqL.of (s _ _ t trivial), r⟩
  | _ => cases e
theorem Rep.seqA {K : PySem.W.Frag} {mg : Mg} {F : AP1} {H : Hp} {v : V} {d : D} {ds : List D} (h : Rep K mg F H v d) (e : d.items = some ds) : ∃ a b xs, v = .ref a ∧ (∀ H', (∀ b o, H b = some o → ¬ F b → H' b = some o) → DLZ.SqA K b H' a xs) ∧ RepL K mg F H xs ds := by
  cases h with
  | tup t r =>
    cases e
    exact ⟨_, false, _, rfl, fun H' s => t.kp s (fun _ z => z), r⟩
  | lst t r =>
    cases e
    exact ⟨_, true, _, rfl, fun H' s => SqL.of (s _ _ t.1 t.2), r⟩
  | _ => cases e
theorem walk_zip {K : PySem.W.Frag} {mg : Mg} {P F : AP1} {H1 : Hp} {a b : Addr} {b1 b2 : Bool} {xs ys : List V} {ds es : List D} (hP : ∀ b, ¬ F b → P b) (t1 : ∀ H', (∀ b o, H1 b = some o → P b → H' b = some o) → DLZ.SqA K b1 H' a xs) (l1 : RepL K mg F H1 xs ds)
    (t2 : ∀ H', (∀ b o, H1 b = some o → P b → H' b = some o) → DLZ.SqA K b2 H' b ys) (l2 : RepL K mg F H1 ys es) : WalkR K mg P (DLZ.ItzG K b1 b2 a b) F (zipD ds es) H1 := fun H F' k hs hn => by
  have q1 := t1 H k
  have q2 := t2 H k
  have kp : Kp F F' H1 H := fun b o e n => ⟨k b o e (hP b n), fun z => n (hs b (by rw [e]; exact fun z => nomatch z) z)⟩
  refine ⟨fun i d e => ?_, xs, ys, q1, q2, ?_⟩
  · unfold zipD at e
    rw [List.getElem?_zipWith] at e
    cases e1 : ds[i]? with
    | none => rw [e1] at e; cases e
    | some dx =>
      cases e2 : es[i]? with
      | none => rw [e1, e2] at e; cases e
      | some dy =>
        rw [e1, e2] at e
        have e' := Option.some.inj e
        subst e'
        obtain ⟨v, ev, rv⟩ := l1.get e1
        obtain ⟨u, eu, ru⟩ := l2.get e2
        refine ⟨⟨xs, ys, v, u, q1, q2, ev, eu⟩, fun x H' y => ?_⟩
        obtain ⟨T, x1, x2, rfl, nT, rfl, y1, y2⟩ := y
        have z1 := y1 xs q1
        have z2 := y2 ys q2
        rw [ev] at z1
        rw [eu] at z2
        cases z1
        cases z2
        exact ⟨sm_upd nT, .tup (.inl ⟨.inl upd_same, fun z => hn T z nT⟩) (.cons ((Rep.stay kp _ _ rv).same (sm_upd nT)) (.cons ((Rep.stay kp _ _ ru).same (sm_upd nT)) .nil))⟩
  · unfold zipD
    rw [List.length_zipWith, l1.len, l2.len]
    omega
theorem piZip (hg : Gl X "zip") (hm : X.mg "zip" = none) (h : PE X e (tB X.K X.mg fl f)) (h2 : PE X e2 (tB X.K X.mg fl g')) (hs : starEach [e, e2] X.env = (false, eval e X.env) :: starEach [e2] X.env := by rfl) (hs2 : starEach [e2] X.env = (false, eval e2 X.env) :: starEach [] X.env := by rfl)
    (hpl : (backTo pos (starEach [e2] X.env)).any (·.1) = false := by rfl) : PI X (.Tuple elts kk tpos) (.Call (.Name "zip" p) [e, e2] [] pos) (tIb X.K X.mg fl (iZip f g')) :=
  PI_imp (DLZ.pi_zipG hg hm (pa_cons h (pa_cons h2 pa_nil hs2) hs) hs hpl) fun σ H R ⟨F, δ, ds, er, ei, q⟩ => by
    obtain ⟨d, e1, ei⟩ := bind_some ei
    obtain ⟨d', e2, ei⟩ := bind_some ei
    obtain ⟨xs, e3, ei⟩ := bind_some ei
    obtain ⟨ys, e4, rfl⟩ := map_some ei
    refine bin2 (R := fun x y H2 => ∃ a b b1 b2 us ws, [x, y] = [.ref a, .ref b] ∧ DLZ.SqA X.K b1 H2 a us ∧ DLZ.SqA X.K b2 H2 b ws ∧ R (DLZ.ItzG X.K b1 b2 a b) H2) er e1 e2 fun x y H2 s r1 r2 => ?_
    obtain ⟨a, b1, us, rfl, t1, l1⟩ := r1.seqA e3
    obtain ⟨b, b2, ws, rfl, t2, l2⟩ := r2.seqA e4
    exact ⟨a, b, b1, b2, us, ws, rfl, t1 H2 (fun _ _ e _ => e), t2 H2 (fun _ _ e _ => e), q _ H2 s (walk_zip (fun _ _ => trivial) t1 l1 t2 l2)⟩
theorem bin2D {f1 f2 : DE} {σ : L2.St} {H : Hp} {F : AP1} {δ : DSt} {dx dy : D} {R : V → V → Hp → Prop} (er : ER X.K X.mg fl F σ H δ) (e1 : f1 δ = some dx) (e2 : f2 δ = some dy)
    (h : ∀ x y H2, Same H H2 → Rep X.K X.mg F H2 x dx → Rep X.K X.mg F H2 y dy → R x y H2) : tD X.K X.mg fl f1 σ H fun x H1 => tD X.K X.mg fl f2 σ H1 fun y H2 => R x y H2 :=
  ⟨F, δ, dx, er, e1, fun v H1 s1 r1 => ⟨F, δ, dy, er.same s1, e2, fun u H2 s2 r2 => h v u H2 (s1.trans s2) (r1.same s2) r2⟩⟩
theorem piZipC (hg : Gl X "zip") (hm : X.mg "zip" = none) (h : PE X e (tD X.K X.mg fl f)) (h2 : PE X e2 (tD X.K X.mg fl g')) (hs : starEach [e, e2] X.env = (false, eval e X.env) :: starEach [e2] X.env := by rfl) (hs2 : starEach [e2] X.env = (false, eval e2 X.env) :: starEach [] X.env := by rfl)
    (hpl : (backTo pos (starEach [e2] X.env)).any (·.1) = false := by rfl) : PI X (.Tuple elts kk tpos) (.Call (.Name "zip" p) [e, e2] [] pos) (tIc X.K X.mg fl (iZip f g')) :=
  PI_imp (DLZ.pi_zipG hg hm (pa_cons h (pa_cons h2 pa_nil hs2) hs) hs hpl) fun σ H R ⟨F, δ, ds, er, ei, q⟩ => by
    obtain ⟨d, e1, ei⟩ := bind_some ei
    obtain ⟨d', e2, ei⟩ := bind_some ei
    obtain ⟨xs, e3, ei⟩ := bind_some ei
    obtain ⟨ys, e4, rfl⟩ := map_some ei
    refine bin2D (R := fun x y H2 => ∃ a b b1 b2 us ws, [x, y] = [.ref a, .ref b] ∧ DLZ.SqA X.K b1 H2 a us ∧ DLZ.SqA X.K b2 H2 b ws ∧ R (DLZ.ItzG X.K b1 b2 a b) H2) er e1 e2 fun x y H2 s r1 r2 => ?_
    obtain ⟨a, b1, us, rfl, t1, l1⟩ := r1.seqA e3
    obtain ⟨b, b2, ws, rfl, t2, l2⟩ := r2.seqA e4
    exact ⟨a, b, b1, b2, us, ws, rfl, t1 H2 (fun _ _ e _ => e), t2 H2 (fun _ _ e _ => e), q _ H2 s (walk_zip (fun _ z => z) t1 l1 t2 l2)⟩
theorem enum_at : ∀ {k i : Nat} {ds : List D}, (enumD k ds)[i]? = (ds[i]?).map fun d => D.tup [.int ((k + i : Nat) : Int), d]
  | k, i, [] => by simp [enumD]
  | k, 0, d :: ds => rfl
  | k, i + 1, d :: ds => by
    show (enumD (k + 1) ds)[i]? = (ds[i]?).map fun d => D.tup [.int ((k + (i + 1) : Nat) : Int), d]
    rw [enum_at, show k + 1 + i = k + (i + 1) by omega]
theorem enum_len : ∀ {k : Nat} {ds : List D}, (enumD k ds).length = ds.length
  | _, [] => rfl
  | k, d :: ds => congrArg (· + 1) (enum_len (k := k + 1) (ds := ds))
theorem walk_enum {K : PySem.W.Frag} {mg : Mg} {P F : AP1} {H1 : Hp} {a : Addr} {b1 : Bool} {xs : List V} {ds : List D} (hP : ∀ b, ¬ F b → P b) (t1 : ∀ H', (∀ b o, H1 b = some o → P b → H' b = some o) → DLZ.SqA K b1 H' a xs) (l1 : RepL K mg F H1 xs ds) :
    WalkR K mg P (DLZ.IteG K b1 a) F (enumD 0 ds) H1 := fun H F' k hs hn => by
  have q1 := t1 H k
  have kp : Kp F F' H1 H := fun b o e n => ⟨k b o e (hP b n), fun z => n (hs b (by rw [e]; exact fun z => nomatch z) z)⟩
  refine ⟨fun i d e => ?_, xs, q1, by rw [enum_len, l1.len]⟩
  rw [enum_at] at e
  obtain ⟨dx, e1, rfl⟩ := map_some e
  obtain ⟨v, ev, rv⟩ := l1.get e1
  refine ⟨⟨xs, v, q1, ev⟩, fun x H' y => ?_⟩
  obtain ⟨T, x1, rfl, nT, rfl, y1⟩ := y
  have z1 := y1 xs q1
  rw [ev] at z1
  cases z1
  rw [Nat.zero_add]
  exact ⟨sm_upd nT, .tup (.inl ⟨.inl upd_same, fun z => hn T z nT⟩) (.cons (.int _) (.cons ((Rep.stay kp _ _ rv).same (sm_upd nT)) .nil))⟩
theorem piEnum (hg : Gl X "enumerate") (hm : X.mg "enumerate" = none) (h : PE X e (tB X.K X.mg fl f)) (hs : starEach [e] X.env = [(false, eval e X.env)] := by rfl) (hs' : starEach [e] X.env = (false, eval e X.env) :: starEach [] X.env := by rfl) :
    PI X (.Tuple elts kk tpos) (.Call (.Name "enumerate" p) [e] [] pos) (tIb X.K X.mg fl (iEnum f)) :=
  PI_imp (DLZ.pi_enumG hg hm (pa1 h hs') hs) fun σ H R ⟨F, δ, ds, er, ei, q⟩ => by
    obtain ⟨d, e1, ei⟩ := bind_some ei
    obtain ⟨xs, e3, rfl⟩ := map_some ei
    refine ⟨F, δ, d, er, e1, fun v H' s r => ?_⟩
    obtain ⟨a, b1, us, rfl, t1, l1⟩ := r.seqA e3
    exact ⟨a, b1, us, rfl, t1 H' (fun _ _ e _ => e), q _ H' s (walk_enum (fun _ _ => trivial) t1 l1)⟩
theorem piEnumC (hg : Gl X "enumerate") (hm : X.mg "enumerate" = none) (h : PE X e (tD X.K X.mg fl f)) (hs : starEach [e] X.env = [(false, eval e X.env)] := by rfl) (hs' : starEach [e] X.env = (false, eval e X.env) :: starEach [] X.env := by rfl) :
    PI X (.Tuple elts kk tpos) (.Call (.Name "enumerate" p) [e] [] pos) (tIc X.K X.mg fl (iEnum f)) :=
  PI_imp (DLZ.pi_enumG hg hm (pa_cons h pa_nil hs') hs) fun σ H R ⟨F, δ, ds, er, ei, q⟩ => by
    obtain ⟨d, e1, ei⟩ := bind_some ei
    obtain ⟨xs, e3, rfl⟩ := map_some ei
    refine ⟨F, δ, d, er, e1, fun v H' s r => ?_⟩
    obtain ⟨a, b1, us, rfl, t1, l1⟩ := r.seqA e3
    exact ⟨a, b1, us, rfl, t1 H' (fun _ _ e _ => e), q _ H' s (walk_enum (fun _ z => z) t1 l1)⟩
end
end DL

end

section
set_option Elab.async false
set_option linter.all false
set_option maxRecDepth 100000
namespace DL
open PySem PySem.Spec PyProof.Rows L2
/-! ### targets -/
/-- which slots a target sets, and to what -/
abbrev Tg := D → Option (List (Nat × D))
def setD (δ : DSt) (as : List (Nat × D)) : DSt := as.foldl (fun δ a => δ.set a.1 (some a.2)) δ
def setS (σ : L2.St) (us : List (Nat × V)) : L2.St := us.foldl (fun σ a => σ.set a.1 (some a.2)) σ
def setF (fl : List Fl) (is : List Nat) : List Fl := is.foldl (fun fl i => fl.set i .cl) fl
/-- the values to be set hold the data -/
def RepU (K : PySem.W.Frag) (mg : Mg) (F : AP1) (H : Hp) : List (Nat × V) → List (Nat × D) → Prop
  | (i, v) :: us, (j, d) :: as => (i = j ∧ Rep K mg F H v d) ∧ RepU K mg F H us as
  | [], [] => True
  | _, _ => False
def TGR (K : PySem.W.Frag) (mg : Mg) (g : TG) (ga : Tg) (is : List Nat) : Prop := ∀ (F : AP1) (v : V) (σ : L2.St) (H : Hp) (Q : L2.St → Hp → Prop) (d : D) (as : List (Nat × D)), Rep K mg F H v d → ga d = some as →
  as.map (·.1) = is ∧ ((∀ us, RepU K mg F H us as → Q (setS σ us) H) → g v σ H Q)
def gaName (i : Nat) : Tg := fun d => some [(i, d)]
theorem tgr_name {K : PySem.W.Frag} {mg : Mg} (i : Nat) : TGR K mg (gName i) (gaName i) [i] := fun F v σ H Q d as r e => by
  cases e
  exact ⟨rfl, fun q => q [(i, v)] ⟨⟨rfl, r⟩, trivial⟩⟩
def TGRs (K : PySem.W.Frag) (mg : Mg) (g : TGs) (ga : List D → Option (List (Nat × D))) (is : List Nat) : Prop := ∀ (F : AP1) (vs : List V) (σ : L2.St) (H : Hp) (Q : L2.St → Hp → Prop) (ds : List D) (as : List (Nat × D)), RepL K mg F H vs ds → ga ds = some as →
  as.map (·.1) = is ∧ ((∀ us, RepU K mg F H us as → Q (setS σ us) H) → g vs σ H Q)
def gaNil : List D → Option (List (Nat × D))
  | [] => some []
  | _ => none
def gaCons (g : Tg) (gs : List D → Option (List (Nat × D))) : List D → Option (List (Nat × D))
  | d :: ds => (g d).bind fun a => (gs ds).map fun b => a ++ b
  | [] => none
def gaTup (n : Nat) (gs : List D → Option (List (Nat × D))) : Tg
  | .tup ds => if ds.length = n then gs ds else none
  | _ => none
theorem tgrs_nil {K : PySem.W.Frag} {mg : Mg} : TGRs K mg gNil gaNil [] := fun F vs σ H Q ds as r e => by
  cases r with
  | nil =>
    cases e
    exact ⟨rfl, fun q => ⟨rfl, q [] trivial⟩⟩
  | cons _ _ => cases e
theorem setS_append (σ : L2.St) (us ws : List (Nat × V)) : setS σ (us ++ ws) = setS (setS σ us) ws := by
  unfold setS
  rw [List.foldl_append]
theorem setD_append (δ : DSt) (us ws : List (Nat × D)) : setD δ (us ++ ws) = setD (setD δ us) ws := by
  unfold setD
  rw [List.foldl_append]
theorem setF_append (fl : List Fl) (us ws : List Nat) : setF fl (us ++ ws) = setF (setF fl us) ws := by
  unfold setF
  rw [List.foldl_append]
theorem RepU.append {K : PySem.W.Frag} {mg : Mg} {F : AP1} {H : Hp} : ∀ {us ws : List (Nat × V)} {as bs : List (Nat × D)}, RepU K mg F H us as → RepU K mg F H ws bs → RepU K mg F H (us ++ ws) (as ++ bs)
  | [], _, [], _, _, h => h
  | (_, _) :: us, _, (_, _) :: as, _, h, h2 => ⟨h.1, RepU.append h.2 h2⟩
  | [], _, _ :: _, _, h, _ => h.elim
  | (_, _) :: _, _, [], _, h, _ => h.elim
theorem tgrs_cons {K : PySem.W.Frag} {mg : Mg} {g : TG} {gs : TGs} {ga : Tg} {gb : List D → Option (List (Nat × D))} {is js : List Nat} (h1 : TGR K mg g ga is) (h2 : TGRs K mg gs gb js) : TGRs K mg (gCons g gs) (gaCons ga gb) (is ++ js) := fun F vs σ H Q ds as r e => by
  cases r with
  | nil => cases e
  | cons rv rl =>
    obtain ⟨a, e1, e⟩ := bind_some e
    obtain ⟨b, e2, rfl⟩ := map_some e
    refine ⟨by rw [List.map_append, (h1 F _ σ H (fun _ _ => True) _ _ rv e1).1, (h2 F _ σ H (fun _ _ => True) _ _ rl e2).1], fun q => ⟨_, _, rfl, (h1 F _ σ H _ _ _ rv e1).2 fun us ru => (h2 F _ _ H _ _ _ rl e2).2 fun ws rw' => ?_⟩⟩
    rw [← setS_append]
    exact q _ (ru.append rw')
theorem tgr_tup {K : PySem.W.Frag} {mg : Mg} {n : Nat} {gs : TGs} {gb : List D → Option (List (Nat × D))} {is : List Nat} (h : TGRs K mg gs gb is) : TGR K mg (gTup K n gs) (gaTup n gb) is := fun F v σ H Q d as r e => by
  cases r with
  | tup t l =>
    rename_i a xs ds
    replace e : (if ds.length = n then gb ds else none) = some as := e
    split at e
    · rename_i hn
      obtain ⟨e1, e2⟩ := h F _ σ H Q _ _ l e
      exact ⟨e1, fun q => ⟨a, xs, rfl, t.sq, by rw [l.len]; exact hn, e2 q⟩⟩
    · cases e
  | _ => cases e
/-! the slots behind a target's store -/
theorem setS_len (us : List (Nat × V)) : ∀ σ : L2.St, (setS σ us).length = σ.length := by
  induction us with
  | nil => intro σ; rfl
  | cons a us ih =>
    intro σ
    show (setS (σ.set a.1 (some a.2)) us).length = _
    rw [ih, List.length_set]
theorem setD_len (us : List (Nat × D)) : ∀ σ : DSt, (setD σ us).length = σ.length := by
  induction us with
  | nil => intro σ; rfl
  | cons a us ih =>
    intro σ
    show (setD (σ.set a.1 (some a.2)) us).length = _
    rw [ih, List.length_set]
theorem setF_len (us : List Nat) : ∀ σ : List Fl, (setF σ us).length = σ.length := by
  induction us with
  | nil => intro σ; rfl
  | cons a us ih =>
    intro σ
    show (setF (σ.set a .cl) us).length = _
    rw [ih, List.length_set]
/-- one slot is set to clean data -/
theorem ER.set {K : PySem.W.Frag} {mg : Mg} {fl : List Fl} {F : AP1} {σ : L2.St} {H : Hp} {δ : DSt} {i : Nat} {v : V} {d : D} (h : ER K mg fl F σ H δ) (hl : i < σ.length) (r : Rep K mg F H v d) : ER K mg (fl.set i .cl) F (σ.set i (some v)) H (δ.set i (some d)) :=
  ⟨by rw [List.length_set, List.length_set]; exact h.len, h.dom, fun j e k ek nk ed => by
    by_cases hj : i = j
    · subst hj
      have hd : i < δ.length := by
        obtain ⟨z, _⟩ := List.getElem?_eq_some_iff.mp ed
        rwa [List.length_set] at z
      rw [List.getElem?_set_self hd] at ed
      cases ed
      exact ⟨v, by rw [List.getElem?_set_self hl], .inl r, fun _ => r⟩
    · rw [List.getElem?_set_ne hj] at ek ed ⊢
      exact h.slot j e k ek nk ed, fun j e ek ed => by
    by_cases hj : i = j
    · subst hj
      have hd : i < fl.length := by
        obtain ⟨z, _⟩ := List.getElem?_eq_some_iff.mp ek
        rwa [List.length_set] at z
      rw [List.getElem?_set_self hd] at ek
      cases ek
    · rw [List.getElem?_set_ne hj] at ek ed ⊢
      exact h.slot2 j e ek ed, fun j e ek ed => by
    by_cases hj : i = j
    · subst hj
      have hd : i < fl.length := by
        obtain ⟨z, _⟩ := List.getElem?_eq_some_iff.mp ek
        rwa [List.length_set] at z
      rw [List.getElem?_set_self hd] at ek
      cases ek
    · rw [List.getElem?_set_ne hj] at ek ed ⊢
      exact h.slotS j e ek ed⟩
theorem ER.sets {K : PySem.W.Frag} {mg : Mg} {F : AP1} {H : Hp} : ∀ {us : List (Nat × V)} {as : List (Nat × D)} {fl : List Fl} {σ : L2.St} {δ : DSt}, ER K mg fl F σ H δ → (∀ i ∈ as.map (·.1), i < σ.length) → RepU K mg F H us as → ER K mg (setF fl (as.map (·.1))) F (setS σ us) H (setD δ as)
  | [], [], _, _, _, h, _, _ => h
  | (i, v) :: us, (j, d) :: as, fl, σ, δ, h, hl, r => by
    obtain ⟨⟨rfl, rv⟩, r⟩ := r
    show ER K mg (setF (fl.set i .cl) (as.map (·.1))) F (setS (σ.set i (some v)) us) H (setD (δ.set i (some d)) as)
    exact (h.set (hl i List.mem_cons_self) rv).sets (fun j hj => by rw [List.length_set]; exact hl j (List.mem_cons_of_mem _ hj)) r
  | [], _ :: _, _, _, _, _, _, r => r.elim
  | (_, _) :: _, [], _, _, _, _, _, r => r.elim
/-- another F' that agrees with F on what stands -/
theorem ER.stay {K : PySem.W.Frag} {mg : Mg} {fl : List Fl} {F F' : AP1} {σ : L2.St} {H H' : Hp} {δ : DSt} (h : ER K mg fl F σ H δ) (s : Same H H') (hs : ∀ b, H b ≠ none → F' b → F b) (hd : ∀ a, F' a → H' a ≠ none) : ER K mg fl F' σ H' δ :=
  ⟨h.len, hd, fun i d k ek nk e => by
    obtain ⟨v, e1, r, c⟩ := h.slot i d k ek nk e
    have kp : Kp F F' H H' := fun b o eb nb => ⟨s b o eb, fun z => nb (hs b (by rw [eb]; exact fun z => nomatch z) z)⟩
    refine ⟨v, e1, ?_, fun z => Rep.stay kp _ _ (c z)⟩
    rcases r with r | ⟨a, xs, ds, e2, e3, t, l⟩
    · exact .inl (Rep.stay kp _ _ r)
    · exact .inr ⟨a, xs, ds, e2, e3, s _ _ t, RepL.stay kp _ _ l⟩, fun i d ek e => by
    obtain ⟨p, xs, ds, e1, e2, t, l⟩ := h.slot2 i d ek e
    have kp : Kp F F' H H' := fun b o eb nb => ⟨s b o eb, fun z => nb (hs b (by rw [eb]; exact fun z => nomatch z) z)⟩
    exact ⟨p, xs, ds, e1, e2, s _ _ t, l.imp fun _ _ r => r.elim (fun r => .inl (Rep.stay kp _ _ r)) fun ⟨a, xs, ds, e2, e3, t, l⟩ => .inr ⟨a, xs, ds, e2, e3, s _ _ t, RepL.stay kp _ _ l⟩⟩, fun i d ek e => by
    obtain ⟨v, e1, z⟩ := h.slotS i d ek e
    have kp : Kp F F' H H' := fun b o eb nb => ⟨s b o eb, fun z => nb (hs b (by rw [eb]; exact fun z => nomatch z) z)⟩
    exact ⟨v, e1, z.imp (fun _ _ _ _ _ t => s _ _ t) fun _ _ r => RepL.stay kp _ _ r⟩⟩
def wipeD (δ : DSt) : List Nat → DSt
  | [] => δ
  | v :: vs => (wipeD δ vs).set v none
theorem ER.wipe {K : PySem.W.Frag} {mg : Mg} {fl : List Fl} {F : AP1} {σ : L2.St} {H : Hp} {δ : DSt} (h : ER K mg fl F σ H δ) : ∀ vs : List Nat, ER K mg fl F (L2.wipe σ vs) H (wipeD δ vs)
  | [] => h
  | v :: vs => by
    have ih := h.wipe vs
    have sd : ∀ j e, (wipeD δ (v :: vs))[j]? = some (some e) → v ≠ j := fun j e ed z => by
      subst z
      have hd : v < (wipeD δ vs).length := by
        obtain ⟨z, _⟩ := List.getElem?_eq_some_iff.mp ed
        show v < (wipeD δ vs).length
        have z' : v < ((wipeD δ vs).set v none).length := z
        rwa [List.length_set] at z'
      have ed' : ((wipeD δ vs).set v none)[v]? = some (some e) := ed
      rw [List.getElem?_set_self hd] at ed'
      cases ed'
    refine ⟨by rw [wipe_length]; exact h.len, ih.dom, fun j e k ek nk ed => ?_, fun j e ek ed => ?_, fun j e ek ed => ?_⟩
    rotate_left
    · have hj := sd j e ed
      have ed' : ((wipeD δ vs).set v none)[j]? = some (some e) := ed
      rw [List.getElem?_set_ne hj] at ed'
      obtain ⟨p, xs, ds, e1, r⟩ := ih.slot2 j e ek ed'
      refine ⟨p, xs, ds, ?_, r⟩
      show ((L2.wipe σ vs).set v none)[j]? = some (some (.ref p))
      rw [List.getElem?_set_ne hj]
      exact e1
    · have hj := sd j e ed
      have ed' : ((wipeD δ vs).set v none)[j]? = some (some e) := ed
      rw [List.getElem?_set_ne hj] at ed'
      obtain ⟨u, e1, r⟩ := ih.slotS j e ek ed'
      refine ⟨u, ?_, r⟩
      show ((L2.wipe σ vs).set v none)[j]? = some (some u)
      rw [List.getElem?_set_ne hj]
      exact e1
    have hj := sd j e ed
    have ed' : ((wipeD δ vs).set v none)[j]? = some (some e) := ed
    rw [List.getElem?_set_ne hj] at ed'
    obtain ⟨u, e1, r, c⟩ := ih.slot j e k ek nk ed'
    refine ⟨u, ?_, r, c⟩
    show ((L2.wipe σ vs).set v none)[j]? = some (some u)
    rw [List.getElem?_set_ne hj]
    exact e1
theorem wipe_at : ∀ (vs : List Nat) (σ : L2.St) (j : Nat), (L2.wipe σ vs)[j]? = if j ∈ vs ∧ j < σ.length then some none else σ[j]?
  | [], σ, j => by
    show σ[j]? = _
    rw [if_neg (fun z => nomatch z.1)]
  | v :: vs, σ, j => by
    show ((L2.wipe σ vs).set v none)[j]? = _
    by_cases h : v = j
    · subst h
      by_cases hl : v < σ.length
      · rw [List.getElem?_set_self (by rw [wipe_length]; exact hl), if_pos ⟨List.mem_cons_self, hl⟩]
      · rw [if_neg (fun z => hl z.2), List.getElem?_eq_none_iff.mpr (by rw [List.length_set, wipe_length]; omega), List.getElem?_eq_none_iff.mpr (by omega)]
    · rw [List.getElem?_set_ne h, wipe_at vs σ j]
      by_cases hm : j ∈ vs ∧ j < σ.length
      · rw [if_pos hm, if_pos ⟨List.mem_cons_of_mem _ hm.1, hm.2⟩]
      · rw [if_neg hm, if_neg fun z => hm ⟨(List.mem_cons.mp z.1).resolve_left (Ne.symm h), z.2⟩]
theorem set_at_not : ∀ (us : List (Nat × V)) (σ : L2.St) (j : Nat), j ∉ us.map (·.1) → (setS σ us)[j]? = σ[j]?
  | [], _, _, _ => rfl
  | a :: us, σ, j, h => by
    show (setS (σ.set a.1 (some a.2)) us)[j]? = _
    rw [set_at_not us _ j (fun z => h (List.mem_cons_of_mem _ z)), List.getElem?_set_ne (fun z => h (by rw [← z]; exact List.mem_cons_self))]
/-- what a target within a block sets is wiped -/
theorem wipe_set {vs : List Nat} {us : List (Nat × V)} (σ : L2.St) (h : ∀ i ∈ us.map (·.1), i ∈ vs) : L2.wipe (setS (L2.wipe σ vs) us) vs = L2.wipe σ vs := by
  apply List.ext_getElem?
  intro j
  rw [wipe_at, setS_len, wipe_length, wipe_at]
  by_cases hm : j ∈ vs ∧ j < σ.length
  · rw [if_pos hm, if_pos hm]
  · rw [if_neg hm, if_neg hm]
    by_cases hj : j ∈ us.map (·.1)
    · have hv := h j hj
      have hl : ¬ j < σ.length := fun z => hm ⟨hv, z⟩
      rw [List.getElem?_eq_none_iff.mpr (by rw [setS_len, wipe_length]; omega), List.getElem?_eq_none_iff.mpr (by omega)]
    · rw [set_at_not us _ j hj, wipe_at, if_neg hm]
theorem RepU.idx {K : PySem.W.Frag} {mg : Mg} {F : AP1} {H : Hp} : ∀ {us : List (Nat × V)} {as : List (Nat × D)}, RepU K mg F H us as → us.map (·.1) = as.map (·.1)
  | [], [], _ => rfl
  | (_, _) :: us, (_, _) :: as, h => by
    rw [List.map_cons, List.map_cons, h.1.1, RepU.idx h.2]
  | [], _ :: _, h => h.elim
  | (_, _) :: _, [], h => h.elim

theorem RepU.imp {K : PySem.W.Frag} {mg : Mg} {F F' : AP1} {H H' : Hp} : ∀ {us : List (Nat × V)} {as : List (Nat × D)}, RepU K mg F H us as → (∀ v d, Rep K mg F H v d → Rep K mg F' H' v d) → RepU K mg F' H' us as
  | [], [], _, _ => trivial
  | (_, _) :: us, (_, _) :: as, h, f => ⟨⟨h.1.1, f _ _ h.1.2⟩, RepU.imp h.2 f⟩
  | [], _ :: _, h, _ => h.elim
  | (_, _) :: _, [], h, _ => h.elim

/-! ### comprehensions -/
/-- the block's turns: vs the block's own slots -/
def lcGo (vs : List Nat) (ga : Tg) (tt : DT) (te : DE) (δ : DSt) : List D → Option (List D)
  | [] => some []
  | d :: ds => (ga d).bind fun as => (tt (setD (wipeD δ vs) as)).bind fun b => if b = true then (te (setD (wipeD δ vs) as)).bind fun x => (lcGo vs ga tt te δ ds).map (x :: ·) else lcGo vs ga tt te δ ds
def lcD (vs : List Nat) (it : DI) (ga : Tg) (tt : DT) (te : DE) : DA := fun δ => (it δ).bind fun ds => if ds.length ≤ sizeLine then lcGo vs ga tt te δ ds else none
section
variable {X : Cx} {fl : List Fl} {tg iter elt : Expr} {ifs : List Expr} {scope : Scope} {own : List (Str × Nat)} {is : List Nat} {it : DI} {ga : Tg} {g : TG} {tt : DT} {te : DE} {pos : Pos}
/-- the reading of a comprehension -/
theorem lc_read {K : PySem.W.Frag} {mg : Mg} {vs : List Nat} (hT : TGR K mg g ga is) (hv : ∀ i ∈ is, i ∈ vs) (hl : ∀ i ∈ is, i < fl.length) {σ : L2.St} {H : Hp} {Q : VK}
    (h : tN K mg fl (lcD vs it ga tt te) σ H Q) : tLc (tIb K mg fl it) g (tT K mg (setF fl is) tt) (tD K mg (setF fl is) te) vs σ H Q := by
  obtain ⟨F, δ, rs, er, ef, q⟩ := h
  have hsl := er.len
  obtain ⟨ds, ei, ef⟩ := bind_some ef
  split at ef
  case isFalse => cases ef
  rename_i hz
  refine ⟨F, δ, ds, er, ei, fun J H1 s w Dd nD => ?_⟩
  let F' : AP1 := fun b => F b ∨ b = Dd
  refine ⟨fun i m Hc => m = ds.length - i ∧ i ≤ ds.length ∧ Same H1 Hc ∧ ∃ acc accd rest, Hc Dd = some (.lst acc) ∧ RepL K mg F' Hc acc accd ∧ acc.length ≤ i ∧ lcGo vs ga tt te δ (ds.drop i) = some rest ∧ accd ++ rest = rs,
    ⟨ds.length, by rw [Nat.sub_zero], Nat.zero_le _, sm_upd nD, [], [], rs, upd_same, .nil, Nat.le_refl _, by rw [List.drop_zero]; exact ef, rfl⟩, ?_⟩
  rintro i m Hc ⟨rfl, hi, sc, acc, accd, rest, hD, hacc, hal, hgo, hrs⟩
  have hdF : ∀ a, F' a → Hc a ≠ none := fun a z => by
    rcases z with z | z
    · exact dom_same (s.trans sc) er.dom a z
    · rw [z, hD]
      exact fun z => nomatch z
  have hFa : ∀ b, H1 b ≠ none → F' b → F b := fun b hb z => z.elim id fun e => absurd (by rw [e]; exact nD) hb
  obtain ⟨wi, ws⟩ := w Hc F' (fun b o e _ => sc b o e) hFa hdF
  by_cases hlt : i < ds.length
  · refine .inr ?_
    have ed : ds[i]? = some ds[i] := List.getElem?_eq_getElem hlt
    obtain ⟨go, yl⟩ := wi i _ ed
    refine ⟨go, fun H' => Same H1 H' ∧ ∃ acc accd rest, H' Dd = some (.lst acc) ∧ RepL K mg F' H' acc accd ∧ acc.length ≤ i + 1 ∧ lcGo vs ga tt te δ (ds.drop (i + 1)) = some rest ∧ accd ++ rest = rs, fun H' ⟨a, b⟩ => ⟨ds.length - (i + 1), by omega, rfl, hlt, a, b⟩, fun x H' y => ?_⟩
    obtain ⟨sy, ry⟩ := yl x H' y
    rw [List.drop_eq_getElem_cons hlt] at hgo
    obtain ⟨as, ea, hgo⟩ := bind_some hgo
    obtain ⟨b, eb, hgo⟩ := bind_some hgo
    obtain ⟨ei', tr⟩ := hT F' x (L2.wipe σ vs) H' (fun σ2 H2 => L2.wipe σ2 vs = L2.wipe σ vs ∧ tT K mg (setF fl is) tt σ2 H2 fun b H3 =>
      if b = true then tD K mg (setF fl is) te σ2 H3 fun y H4 => ∃ acc, H4 Dd = some (.lst acc) ∧ acc.length < sizeLine ∧ (Same H1 (upd H4 Dd (.lst (acc ++ [y]))) ∧ ∃ acc' accd rest, (upd H4 Dd (.lst (acc ++ [y]))) Dd = some (.lst acc') ∧ RepL K mg F' (upd H4 Dd (.lst (acc ++ [y]))) acc' accd ∧ acc'.length ≤ i + 1 ∧ lcGo vs ga tt te δ (ds.drop (i + 1)) = some rest ∧ accd ++ rest = rs)
      else Same H1 H3 ∧ ∃ acc accd rest, H3 Dd = some (.lst acc) ∧ RepL K mg F' H3 acc accd ∧ acc.length ≤ i + 1 ∧ lcGo vs ga tt te δ (ds.drop (i + 1)) = some rest ∧ accd ++ rest = rs) ds[i] as ry ea
    refine tr fun us ru => ⟨wipe_set σ fun j hj => hv j (by rw [← ei', ← ru.idx]; exact hj), ?_⟩
    have scy : Same H1 H' := sc.trans sy
    have hdF' : ∀ a, F' a → H' a ≠ none := dom_same sy hdF
    have er1 : ER K mg fl F' σ H' δ := er.stay (s.trans scy) (fun b hb z => hFa b (fun e => by
      cases eo : H b with
      | none => exact hb eo
      | some o => rw [s b o eo] at e; cases e) z) hdF'
    have er2 : ER K mg (setF fl is) F' (setS (L2.wipe σ vs) us) H' (setD (wipeD δ vs) as) := by
      rw [← ei']
      exact (er1.wipe vs).sets (fun j hj => by rw [wipe_length]; exact Nat.lt_of_lt_of_le (hl j (by rw [← ei']; exact hj)) hsl) ru
    refine ⟨F', _, b, er2, eb, fun H3 s3 => ?_⟩
    have hD3 : H3 Dd = some (.lst acc) := s3 _ _ (sy _ _ hD)
    cases b with
    | true =>
      rw [if_pos rfl] at hgo
      refine iteT ?_
      obtain ⟨dx, ex, hgo⟩ := bind_some hgo
      obtain ⟨rest', er', erest⟩ := map_some hgo
      refine ⟨F', _, dx, er2.same s3, ex, fun y H4 s4 r4 => ?_⟩
      have hD4 : H4 Dd = some (.lst acc) := s4 _ _ hD3
      refine ⟨acc, hD4, by omega, ?_⟩
      have k4 : Kp F' F' H4 (upd H4 Dd (.lst (acc ++ [y]))) := fun b o eb nb => ⟨by rw [upd_ne (fun z => nb (.inr z))]; exact eb, nb⟩
      refine ⟨fun b o eb => ?_, acc ++ [y], accd ++ [dx], rest', upd_same, ?_, ?_, er', ?_⟩
      · have hb : b ≠ Dd := fun z => by rw [z, nD] at eb; cases eb
        rw [upd_ne hb]
        exact (scy.trans (s3.trans s4)) b o eb
      · exact RepL.stay k4 _ _ ((hacc.same (sy.trans (s3.trans s4))).append (.cons r4 .nil))
      · rw [List.length_append]
        show acc.length + 1 ≤ i + 1
        omega
      · rw [List.append_assoc]
        show accd ++ (dx :: rest') = rs
        rw [erest]
        exact hrs
    | false =>
      rw [if_neg Bool.false_ne_true] at hgo
      refine iteF ?_
      exact ⟨scy.trans s3, acc, accd, rest, hD3, hacc.same (sy.trans s3), by omega, hgo, hrs⟩
  · have he : i = ds.length := by omega
    subst he
    rw [List.drop_length] at hgo
    have hr : rest = [] := by
      cases hgo
      rfl
    subst hr
    rw [List.append_nil] at hrs
    subst hrs
    refine .inl ⟨ws, q Dd acc Hc (s.trans sc) (s.free nD) hD (RepL.stay (fun b o eb nb => ⟨eb, nb⟩) _ _ hacc)⟩
end
end DL

end

section
set_option Elab.async false
set_option linter.all false
set_option maxRecDepth 100000
namespace DL
open PySem PySem.Spec PyProof.Rows L2
def dYes : DT := fun _ => some true
theorem PTs_imp {X : Cx} {e : List Expr} {t t' : TT} (h : PTs X e t) (i : ∀ σ H Q, t' σ H Q → t σ H Q) : PTs X e t' := ⟨fun pins s σ H Q I q => h.run pins s σ H Q I (i σ H Q q)⟩
theorem ptNil {X : Cx} {K : PySem.W.Frag} {mg : Mg} {fl : List Fl} : PTs X [] (tT K mg fl dYes) := PTs_imp pts_nil fun σ H Q ⟨F, δ, b, er, ef, q⟩ => by
  cases ef
  exact q H (Same.refl H)
section
variable {X : Cx} {fl : List Fl} {tg iter elt : Expr} {ifs : List Expr} {scope : Scope} {own : List (Str × Nat)} {is : List Nat} {it : DI} {ga : Tg} {g : TG} {tt : DT} {te : DE} {pos : Pos}
theorem nLc (hc : X.calm = true) (hN : X.N.Nodup) (hi : PI X tg iter (tIb X.K X.mg fl it)) (ok : BlkOk X.N X.env.scope scope own)
    (hg : ∀ (s : Shared) (H : Hp) (C : Addr) (cl : List (Str × Addr)) (fp : List Addr), PG (X.blk s H scope (compEnvC scope cl C X.env) fp) tg g) (hT : TGR X.K X.mg g ga is)
    (ht : ∀ (s : Shared) (H : Hp) (C : Addr) (cl : List (Str × Addr)) (fp : List Addr), PTs (X.blk s H scope (compEnvC scope cl C X.env) fp) ifs (tT X.K X.mg (setF fl is) tt))
    (he : ∀ (s : Shared) (H : Hp) (C : Addr) (cl : List (Str × Addr)) (fp : List Addr), PE (X.blk s H scope (compEnvC scope cl C X.env) fp) elt (tD X.K X.mg (setF fl is) te))
    (hv : (∀ i ∈ is, i ∈ own.map (·.2)) ∧ ∀ i ∈ is, i < fl.length := by decide) (hs : ∀ x, foldedSetIterable iter X.env x = pure x := by intro _; rfl) :
    PE X (.ListComp elt [⟨tg, iter, ifs, 0⟩] scope pos) (tN X.K X.mg fl (lcD (own.map (·.2)) it ga tt te)) :=
  PE_imp (pe_lc hc hN hi ok hg ht he hs) fun σ H Q h => lc_read hT hv.1 hv.2 h
end

/-! ### the state of a body -/
/-- a list that this body writes (io: the caller's; o2: with its items, lists of its own) -/
def Fl.own : Fl → Bool
  | .ow => true
  | .io => true
  | .o2 => true
  | .sf => true
  | _ => false
/-- a slot that may be set to another value -/
def Fl.nf : Option Fl → Bool
  | some .io => false
  | some .sf => false
  | _ => true
/-- what may not be reached by data: the caller's, and the lists that this body writes -/
def FF (M0 : AP1) (G : Nat → List Addr) (fl : List Fl) : AP1 := fun a => M0 a ∨ ∃ (i : Nat) (k : Fl), fl[i]? = some k ∧ k.own = true ∧ a ∈ G i
structure Ctx where
  /-- heaps that stand since then, but for what Chg says -/
  B : Hp → AP1 → Prop
  M0 : AP1
  ios : List (Nat × Addr)
/-- the inner lists of an own list of own lists -/
def InnL (K : PySem.W.Frag) (mg : Mg) (F : AP1) (H : Hp) : List Addr → List D → Prop
  | a :: ps, d :: ds => (∃ xs es, d = .lst es ∧ H a = some (.lst xs) ∧ RepL K mg F H xs es) ∧ InnL K mg F H ps ds
  | [], [] => True
  | _, _ => False
theorem InnL.imp {K : PySem.W.Frag} {mg : Mg} {F F' : AP1} {H H' : Hp} : ∀ {ps : List Addr} {ds : List D}, (∀ a ∈ ps, ∀ xs, H a = some (.lst xs) → H' a = some (.lst xs)) → (∀ xs es, RepL K mg F H xs es → RepL K mg F' H' xs es) → InnL K mg F H ps ds → InnL K mg F' H' ps ds
  | [], [], _, _, _ => trivial
  | a :: ps, d :: ds, hk, hr, ⟨⟨xs, es, e, t, l⟩, z⟩ => ⟨⟨xs, es, e, hk a List.mem_cons_self xs t, hr _ _ l⟩, InnL.imp (fun b hb => hk b (List.mem_cons_of_mem _ hb)) hr z⟩
  | [], _ :: _, _, _, z => z.elim
  | _ :: _, [], _, _, z => z.elim
theorem InnL.bl {K : PySem.W.Frag} {mg : Mg} {F : AP1} {H : Hp} : ∀ {ps : List Addr} {ds : List D}, InnL K mg F H ps ds → RepBL K mg F H (ps.map V.ref) ds
  | [], [], _ => trivial
  | a :: ps, d :: ds, ⟨⟨xs, es, e, t, l⟩, z⟩ => ⟨.inr ⟨a, xs, es, rfl, e, t, l⟩, z.bl⟩
  | [], _ :: _, z => z.elim
  | _ :: _, [], z => z.elim
theorem InnL.rep {K : PySem.W.Frag} {mg : Mg} {F : AP1} {H : Hp} : ∀ {ps : List Addr} {ds : List D}, (∀ a ∈ ps, ¬ F a) → InnL K mg F H ps ds → RepL K mg F H (ps.map V.ref) ds
  | [], [], _, _ => .nil
  | a :: ps, d :: ds, hn, ⟨⟨xs, es, e, t, l⟩, z⟩ => by
    subst e
    exact .cons (.lst ⟨t, hn a List.mem_cons_self⟩ l) (z.rep fun b hb => hn b (List.mem_cons_of_mem _ hb))
  | [], _ :: _, _, z => z.elim
  | _ :: _, [], _, z => z.elim
theorem InnL.len {K : PySem.W.Frag} {mg : Mg} {F : AP1} {H : Hp} : ∀ {ps : List Addr} {ds : List D}, InnL K mg F H ps ds → ps.length = ds.length
  | [], [], _ => rfl
  | a :: ps, d :: ds, ⟨_, z⟩ => congrArg (· + 1) z.len
  | [], _ :: _, z => z.elim
  | _ :: _, [], z => z.elim
/-- what a slot of kind k holds: v the value, d the data, g the addresses that it owns -/
def SlotOk (K : PySem.W.Frag) (mg : Mg) (B : Hp → AP1 → Prop) (F : AP1) (H : Hp) (g : List Addr) (v : V) (d : D) : Fl → Prop
  | .no => True
  | .cl => Rep K mg F H v d
  | .bw => Rep K mg F H v d ∨ ∃ a xs ds, v = .ref a ∧ d = .lst ds ∧ H a = some (.lst xs) ∧ RepL K mg F H xs ds ∧ ∀ H0 Chg, B H0 Chg → H0 a ≠ none ∧ ¬ Chg a
  | .o2 => ∃ p ps ds, g = p :: ps ∧ g.Nodup ∧ v = .ref p ∧ d = .lst ds ∧ H p = some (.lst (ps.map V.ref)) ∧ InnL K mg F H ps ds
  | .sf => (∃ p, g = [p] ∧ v = .ref p) ∧ ObB K mg F H v d
  | _ => ∃ p xs ds, g = [p] ∧ v = .ref p ∧ d = .lst ds ∧ H p = some (.lst xs) ∧ RepL K mg F H xs ds
structure SR (K : PySem.W.Frag) (mg : Mg) (c : Ctx) (G : Nat → List Addr) (fl : List Fl) (σ : L2.St) (H : Hp) (δ : DSt) : Prop where
  hne : ∃ H0 Chg, c.B H0 Chg
  dom0 : ∀ a, c.M0 a → H a ≠ none
  live : ∀ H0 Chg, c.B H0 Chg → ∀ b, H0 b ≠ none → H b ≠ none
  base : ∀ H0 Chg, c.B H0 Chg → ∀ b o, H0 b = some o → ¬ Chg b → H b = some o
  lenS : σ.length = fl.length
  lenD : δ.length = fl.length
  slot : ∀ (i : Nat) (d : D) (k : Fl), fl[i]? = some k → k ≠ .no → δ[i]? = some (some d) → ∃ v, σ[i]? = some (some v) ∧ SlotOk K mg c.B (FF c.M0 G fl) H (G i) v d k
  full : ∀ (i : Nat) (k : Fl), fl[i]? = some k → k.own = true → ∃ d, δ[i]? = some (some d)
  fresh : ∀ (i : Nat) (k : Fl) (a : Addr), fl[i]? = some k → k.own = true → a ∈ G i → H a ≠ none ∧ ¬ c.M0 a ∧ ∀ H0 Chg, c.B H0 Chg → H0 a = none ∨ Chg a
  disj : ∀ (i j : Nat) (k l : Fl) (a : Addr), fl[i]? = some k → k.own = true → fl[j]? = some l → l.own = true → a ∈ G i → a ∈ G j → i = j
  ios : ∀ q, q ∈ c.ios ↔ (Fl.nf fl[q.1]? = false ∧ G q.1 = [q.2])
section
variable {K : PySem.W.Frag} {mg : Mg} {c : Ctx} {G : Nat → List Addr} {fl : List Fl} {σ : L2.St} {H H' : Hp} {δ : DSt}
theorem SR.dom (h : SR K mg c G fl σ H δ) : ∀ a, FF c.M0 G fl a → H a ≠ none := fun a z => by
  rcases z with z | ⟨i, k, ek, ok, z⟩
  · exact h.dom0 a z
  · exact (h.fresh i k a ek ok z).1
theorem SlotOk.repB {B : Hp → AP1 → Prop} {F : AP1} {g : List Addr} {v : V} {d : D} {k : Fl} (h : SlotOk K mg B F H g v d k) (hk : k.r = true) : RepB K mg F H v d ∧ (k = .cl → Rep K mg F H v d) := by
  cases k with
  | no => cases hk
  | o2 => cases hk
  | sf => cases hk
  | cl => exact ⟨.inl h, fun _ => h⟩
  | bw =>
    refine ⟨?_, fun z => nomatch z⟩
    rcases h with h | ⟨a, xs, ds, e1, e2, t, l, _⟩
    · exact .inl h
    · exact .inr ⟨a, xs, ds, e1, e2, t, l⟩
  | ow =>
    obtain ⟨p, xs, ds, _, e1, e2, t, l⟩ := h
    exact ⟨.inr ⟨p, xs, ds, e1, e2, t, l⟩, fun z => nomatch z⟩
  | io =>
    obtain ⟨p, xs, ds, _, e1, e2, t, l⟩ := h
    exact ⟨.inr ⟨p, xs, ds, e1, e2, t, l⟩, fun z => nomatch z⟩
/-- for expressions -/
theorem SR.er (h : SR K mg c G fl σ H δ) : ER K mg fl (FF c.M0 G fl) σ H δ :=
  ⟨Nat.le_of_eq h.lenS.symm, h.dom, fun i d k ek nk e => by
    obtain ⟨v, e1, r⟩ := h.slot i d k ek (fun z => by subst z; cases nk) e
    exact ⟨v, e1, r.repB nk⟩, fun i d ek e => by
    obtain ⟨v, e1, p, ps, ds, _, _, rfl, e2, t, l⟩ := h.slot i d .o2 ek (fun z => nomatch z) e
    exact ⟨p, _, ds, e1, e2, t, l.bl⟩, fun i d ek e => by
    obtain ⟨v, e1, _, z⟩ := h.slot i d .sf ek (fun z => nomatch z) e
    exact ⟨v, e1, z⟩⟩
/-- a slot's fact elsewhere: what it reads stands -/
theorem SlotOk.stay {B : Hp → AP1 → Prop} {F F' : AP1} {g : List Addr} {v : V} {d : D} {k : Fl} (kp : Kp F F' H H') (hg : k.own = true → ∀ a ∈ g, ∀ o, H a = some o → H' a = some o) (hb : ∀ a o, H a = some o → (∀ H0 Chg, B H0 Chg → H0 a ≠ none ∧ ¬ Chg a) → H' a = some o)
    (h : SlotOk K mg B F H g v d k) : SlotOk K mg B F' H' g v d k := by
  cases k with
  | no => trivial
  | cl => exact Rep.stay kp _ _ h
  | bw =>
    rcases h with h | ⟨a, xs, ds, e1, e2, t, l, z⟩
    · exact .inl (Rep.stay kp _ _ h)
    · exact .inr ⟨a, xs, ds, e1, e2, hb a _ t z, RepL.stay kp _ _ l, z⟩
  | o2 =>
    obtain ⟨p, ps, ds, e0, nd, e1, e2, t, l⟩ := h
    exact ⟨p, ps, ds, e0, nd, e1, e2, hg rfl p (by rw [e0]; exact List.mem_cons_self) _ t, l.imp (fun a ha xs e => hg rfl a (by rw [e0]; exact List.mem_cons_of_mem _ ha) _ e) fun _ _ r => RepL.stay kp _ _ r⟩
  | sf =>
    obtain ⟨⟨p, e0, e1⟩, z⟩ := h
    refine ⟨⟨p, e0, e1⟩, z.imp (fun q C dx fs e t => ?_) fun _ _ r => RepL.stay kp _ _ r⟩
    rw [e1] at e
    cases e
    exact hg rfl p (by rw [e0]; exact List.mem_cons_self) _ t
  | ow =>
    obtain ⟨p, xs, ds, e0, e1, e2, t, l⟩ := h
    exact ⟨p, xs, ds, e0, e1, e2, hg rfl p (by rw [e0]; exact List.mem_cons_self) _ t, RepL.stay kp _ _ l⟩
  | io =>
    obtain ⟨p, xs, ds, e0, e1, e2, t, l⟩ := h
    exact ⟨p, xs, ds, e0, e1, e2, hg rfl p (by rw [e0]; exact List.mem_cons_self) _ t, RepL.stay kp _ _ l⟩
theorem SR.same (h : SR K mg c G fl σ H δ) (s : Same H H') : SR K mg c G fl σ H' δ where
  hne := h.hne
  dom0 := dom_same s h.dom0
  live := fun H0 Chg hB => dom_same (F := fun b => H0 b ≠ none) s (h.live H0 Chg hB)
  base := fun H0 Chg hB b o e n => s b o (h.base H0 Chg hB b o e n)
  lenS := h.lenS
  lenD := h.lenD
  slot := fun i d k ek nk e => by
    obtain ⟨v, e1, r⟩ := h.slot i d k ek nk e
    exact ⟨v, e1, r.stay (Kp.same s) (fun _ a _ o e => s a o e) fun a o e _ => s a o e⟩
  full := h.full
  fresh := fun i k a ek ok ha => ⟨dom_same (F := fun b => b = a) s (fun b z => by rw [z]; exact (h.fresh i k a ek ok ha).1) a rfl, (h.fresh i k a ek ok ha).2⟩
  disj := h.disj
  ios := h.ios
theorem get_set {α : Type} {l : List α} {i j : Nat} {x y : α} (h : (l.set i x)[j]? = some y) : (i = j ∧ y = x ∧ i < l.length) ∨ (i ≠ j ∧ l[j]? = some y) := by
  by_cases hj : i = j
  · subst hj
    have hl := (List.getElem?_eq_some_iff.mp h).1
    rw [List.length_set] at hl
    rw [List.getElem?_set_self hl] at h
    cases h
    exact .inl ⟨rfl, rfl, hl⟩
  · rw [List.getElem?_set_ne hj] at h
    exact .inr ⟨hj, h⟩
def setG (G : Nat → List Addr) (i : Nat) (g : List Addr) : Nat → List Addr := fun j => if j = i then g else G j
theorem setG_same {G : Nat → List Addr} {i : Nat} {g : List Addr} : setG G i g i = g := if_pos rfl
theorem setG_ne {G : Nat → List Addr} {i j : Nat} {g : List Addr} (h : i ≠ j) : setG G i g j = G j := if_neg fun z => h z.symm
/-- one slot changes, and of the heap only what it owned -/
theorem SR.one (h : SR K mg c G fl σ H δ) {i : Nat} {k' : Fl} {v' : V} {d' : D} {g : List Addr} (hi : i < fl.length) (hio : Fl.nf fl[i]? = false ∨ Fl.nf (some k') = false → fl[i]? = some k' ∧ g = G i)
    (keep : ∀ b o, H b = some o → (∀ k, fl[i]? = some k → k.own = true → b ∉ G i) → H' b = some o) (dom : ∀ b, H b ≠ none → H' b ≠ none)
    (hg : k'.own = true → ∀ a ∈ g, H' a ≠ none ∧ (H a = none ∨ ∃ k, fl[i]? = some k ∧ k.own = true ∧ a ∈ G i))
    (new : Kp (FF c.M0 G fl) (FF c.M0 (setG G i g) (fl.set i k')) H H' → k' ≠ .no → SlotOk K mg c.B (FF c.M0 (setG G i g) (fl.set i k')) H' g v' d' k') :
    SR K mg c (setG G i g) (fl.set i k') (σ.set i (some v')) H' (δ.set i (some d')) := by
  have hσ : i < σ.length := by rw [h.lenS]; exact hi
  have hδ : i < δ.length := by rw [h.lenD]; exact hi
  have hF : ∀ b, FF c.M0 (setG G i g) (fl.set i k') b → FF c.M0 G fl b ∨ H b = none := fun b z => by
    rcases z with z | ⟨j, k, ek, ok, z⟩
    · exact .inl (.inl z)
    · rcases get_set ek with ⟨rfl, rfl, _⟩ | ⟨hj, ek⟩
      · rw [setG_same] at z
        rcases (hg ok b z).2 with e | ⟨k, e1, e2, e3⟩
        · exact .inr e
        · exact .inl (.inr ⟨i, k, e1, e2, e3⟩)
      · rw [setG_ne hj] at z
        exact .inl (.inr ⟨j, k, ek, ok, z⟩)
  have kp : Kp (FF c.M0 G fl) (FF c.M0 (setG G i g) (fl.set i k')) H H' := fun b o e n => ⟨keep b o e fun k e1 e2 z => n (.inr ⟨i, k, e1, e2, z⟩), fun z => by
    rcases hF b z with z | z
    · exact n z
    · rw [z] at e
      cases e⟩
  -- the parts that are not of slot i
  have fr : ∀ (j : Nat) (k : Fl) (a : Addr), (fl.set i k')[j]? = some k → k.own = true → a ∈ setG G i g j → H' a ≠ none ∧ ¬ c.M0 a ∧ ∀ H0 Chg, c.B H0 Chg → H0 a = none ∨ Chg a := fun j k a ek ok ha => by
    rcases get_set ek with ⟨rfl, rfl, _⟩ | ⟨hj, ek⟩
    · rw [setG_same] at ha
      obtain ⟨z1, z2⟩ := hg ok a ha
      rcases z2 with e | ⟨k, e1, e2, e3⟩
      · refine ⟨z1, fun z => h.dom0 a z e, fun H0 Chg hB => .inl ?_⟩
        cases q : H0 a with
        | none => rfl
        | some o => exact absurd e (h.live H0 Chg hB a (by rw [q]; exact fun z => nomatch z))
      · exact ⟨z1, (h.fresh i k a e1 e2 e3).2⟩
    · rw [setG_ne hj] at ha
      obtain ⟨z1, z2⟩ := h.fresh j k a ek ok ha
      exact ⟨dom a z1, z2⟩
  refine ⟨h.hne, fun a z => dom a (h.dom0 a z), fun H0 Chg hB b e => dom b (h.live H0 Chg hB b e), fun H0 Chg hB b o e n => keep b o (h.base H0 Chg hB b o e n) fun k e1 e2 z => ?_, by rw [List.length_set, List.length_set]; exact h.lenS, by rw [List.length_set, List.length_set]; exact h.lenD, fun j d k ek nk ed => ?_, fun j k ek ok => ?_, fr, fun x y k l a e1 e2 e3 e4 m1 m2 => ?_, fun q => ?_⟩
  · rcases (h.fresh i k b e1 e2 z).2.2 H0 Chg hB with w | w
    · rw [w] at e
      cases e
    · exact n w
  · rcases get_set ek with ⟨rfl, rfl, _⟩ | ⟨hj, ek⟩
    · rw [List.getElem?_set_self hδ] at ed
      cases ed
      exact ⟨v', by rw [List.getElem?_set_self hσ], by rw [setG_same]; exact new kp nk⟩
    · rw [List.getElem?_set_ne hj] at ed
      obtain ⟨u, e1, r⟩ := h.slot j d k ek nk ed
      refine ⟨u, by rw [List.getElem?_set_ne hj]; exact e1, ?_⟩
      rw [setG_ne hj]
      refine r.stay kp (fun ok a ha o e => keep a o e fun k2 e2 e3 z => hj (h.disj i j k2 k a e2 e3 ek ok z ha)) fun a o e z => keep a o e fun k2 e2 e3 m => ?_
      have w := (h.fresh i k2 a e2 e3 m).2.2
      -- a borrowed list is not an own one: by the first base there is
      obtain ⟨H0, Chg, hB⟩ := h.hne
      rcases w H0 Chg hB with w | w
      · exact (z H0 Chg hB).1 w
      · exact (z H0 Chg hB).2 w
  · rcases get_set ek with ⟨rfl, rfl, _⟩ | ⟨hj, ek⟩
    · exact ⟨d', by rw [List.getElem?_set_self hδ]⟩
    · obtain ⟨d, e⟩ := h.full j k ek ok
      exact ⟨d, by rw [List.getElem?_set_ne hj]; exact e⟩
  · rcases get_set e1 with ⟨rfl, rfl, _⟩ | ⟨hx, f1⟩
    · rcases get_set e3 with ⟨rfl, _, _⟩ | ⟨hy, f3⟩
      · rfl
      · rw [setG_same] at m1
        rw [setG_ne hy] at m2
        rcases (hg e2 a m1).2 with e | ⟨k2, w1, w2, w3⟩
        · exact absurd e (h.fresh y l a f3 e4 m2).1
        · exact h.disj i y k2 l a w1 w2 f3 e4 w3 m2
    · rw [setG_ne hx] at m1
      rcases get_set e3 with ⟨rfl, rfl, _⟩ | ⟨hy, f3⟩
      · rw [setG_same] at m2
        rcases (hg e4 a m2).2 with e | ⟨k2, w1, w2, w3⟩
        · exact absurd e (h.fresh x k a f1 e2 m1).1
        · exact h.disj x i k k2 a f1 e2 w1 w2 m1 w3
      · rw [setG_ne hy] at m2
        exact h.disj x y k l a f1 e2 f3 e4 m1 m2
  · rw [h.ios q]
    by_cases hq : i = q.1
    · rw [← hq, setG_same, List.getElem?_set_self hi]
      constructor
      · rintro ⟨z1, z2⟩
        obtain ⟨z3, z4⟩ := hio (.inl z1)
        exact ⟨by rw [← z3]; exact z1, by rw [z4]; exact z2⟩
      · rintro ⟨z1, z2⟩
        obtain ⟨z3, z4⟩ := hio (.inr z1)
        exact ⟨by rw [z3]; exact z1, by rw [← z4]; exact z2⟩
    · rw [setG_ne hq, List.getElem?_set_ne hq]
end
end DL

end

section
set_option Elab.async false
set_option linter.all false
set_option maxRecDepth 100000
namespace DL
open PySem PySem.Spec PyProof.Rows L2
/-! ### flags weakened -/
def Fl.wk : Fl → Fl → Bool
  | .io, .io => true
  | .io, _ => false
  | .sf, .sf => true
  | .sf, _ => false
  | _, .no => true
  | .ow, .cl => true
  | .o2, .cl => true
  | .cl, .bw => true
  | .cl, .cl => true
  | .bw, .bw => true
  | .ow, .ow => true
  | .o2, .o2 => true
  | _, _ => false
def wkL : List Fl → List Fl → Bool
  | a :: as, b :: bs => a.wk b && wkL as bs
  | [], [] => true
  | _, _ => false
theorem wkL_len : ∀ {as bs : List Fl}, wkL as bs = true → as.length = bs.length
  | [], [], _ => rfl
  | a :: as, b :: bs, h => by
    have h' : (a.wk b && wkL as bs) = true := h
    rw [Bool.and_eq_true] at h'
    exact congrArg (· + 1) (wkL_len h'.2)
  | [], _ :: _, h => by cases h
  | _ :: _, [], h => by cases h
theorem wkL_get : ∀ {as bs : List Fl} {i : Nat} {b : Fl}, wkL as bs = true → bs[i]? = some b → ∃ a, as[i]? = some a ∧ a.wk b = true
  | [], [], _, _, _, e => by simp at e
  | a :: as, b :: bs, 0, _, h, e => by
    have h' : (a.wk b && wkL as bs) = true := h
    rw [Bool.and_eq_true] at h'
    have e' := Option.some.inj e
    subst e'
    exact ⟨a, rfl, h'.1⟩
  | a :: as, b :: bs, i + 1, _, h, e => by
    have h' : (a.wk b && wkL as bs) = true := h
    rw [Bool.and_eq_true] at h'
    exact wkL_get (i := i) h'.2 e
  | [], _ :: _, _, _, h, _ => by cases h
  | _ :: _, [], _, _, h, _ => by cases h
theorem wkL_get' {as bs : List Fl} {i : Nat} {a : Fl} (h : wkL as bs = true) (e : as[i]? = some a) : ∃ b, bs[i]? = some b ∧ a.wk b = true := by
  have hl := (List.getElem?_eq_some_iff.mp e).1
  have hb : i < bs.length := by rw [← wkL_len h]; exact hl
  obtain ⟨a', e', w⟩ := wkL_get h (List.getElem?_eq_getElem hb)
  rw [e] at e'
  cases e'
  exact ⟨_, List.getElem?_eq_getElem hb, w⟩
theorem wk_own : ∀ {a b : Fl}, a.wk b = true → b.own = true → a = b := by
  intro a b h o
  cases a <;> cases b <;> first | rfl | exact absurd h (by decide) | exact absurd o (by decide)
section
variable {K : PySem.W.Frag} {mg : Mg} {c : Ctx} {G : Nat → List Addr} {fl fl' : List Fl} {σ : L2.St} {H H' : Hp} {δ : DSt}
theorem FF_wk (hw : wkL fl fl' = true) {M0 : AP1} {a : Addr} (z : FF M0 G fl' a) : FF M0 G fl a := by
  rcases z with z | ⟨i, k, e, o, m⟩
  · exact .inl z
  · obtain ⟨k', e', w⟩ := wkL_get hw e
    have := wk_own w o
    subst this
    exact .inr ⟨i, k', e', o, m⟩
theorem SR.weak (h : SR K mg c G fl σ H δ) (hw : wkL fl fl' = true) : SR K mg c G fl' σ H δ := by
  have kp : Kp (FF c.M0 G fl) (FF c.M0 G fl') H H := fun b o e n => ⟨e, fun z => n (FF_wk hw z)⟩
  have hl := wkL_len hw
  -- an address of a slot that is let go
  have nF : ∀ (i : Nat) (k k' : Fl) (a : Addr), fl[i]? = some k → k.own = true → fl'[i]? = some k' → k'.own = false → a ∈ G i → ¬ FF c.M0 G fl' a := fun i k k' a e o e' o' m z => by
    rcases z with z | ⟨j, l, ej, oj, mj⟩
    · exact (h.fresh i k a e o m).2.1 z
    · obtain ⟨l', el, w⟩ := wkL_get hw ej
      have := wk_own w oj
      subst this
      have := h.disj i j k l' a e o el oj m mj
      subst this
      rw [e'] at ej
      cases ej
      rw [o'] at oj
      cases oj
  refine ⟨h.hne, h.dom0, h.live, h.base, by rw [h.lenS, hl], by rw [h.lenD, hl], fun i d k' ek nk ed => ?_, fun i k' ek ok => ?_, fun i k' a ek ok m => ?_, fun i j k l a e1 o1 e2 o2 m1 m2 => ?_, fun q => ?_⟩
  · obtain ⟨k, e0, w⟩ := wkL_get hw ek
    have nk0 : k ≠ .no := fun z => by
      subst z
      cases k' <;> first | exact nk rfl | cases w
    obtain ⟨v, ev, r⟩ := h.slot i d k e0 nk0 ed
    refine ⟨v, ev, ?_⟩
    have st : SlotOk K mg c.B (FF c.M0 G fl') H (G i) v d k := r.stay kp (fun _ _ _ _ e => e) fun _ _ e _ => e
    cases k' with
    | no => exact absurd rfl nk
    | cl =>
      cases k with
      | cl => exact st
      | ow =>
        obtain ⟨p, xs, ds, eg, e1, e2, t, l⟩ := st
        subst e1; subst e2
        exact .lst ⟨t, nF i _ _ p e0 rfl ek rfl (by rw [eg]; exact List.mem_cons_self)⟩ l
      | o2 =>
        obtain ⟨p, ps, ds, eg, nd, e1, e2, t, l⟩ := st
        subst e1; subst e2
        exact .lst ⟨t, nF i _ _ p e0 rfl ek rfl (by rw [eg]; exact List.mem_cons_self)⟩ (l.rep fun a ha => nF i _ _ a e0 rfl ek rfl (by rw [eg]; exact List.mem_cons_of_mem _ ha))
      | no => cases w
      | bw => cases w
      | io => cases w
      | sf => cases w
    | bw =>
      cases k with
      | cl => exact .inl st
      | bw => exact st
      | no => cases w
      | ow => cases w
      | o2 => cases w
      | io => cases w
      | sf => cases w
    | ow =>
      have := wk_own w rfl
      subst this
      exact st
    | io =>
      have := wk_own w rfl
      subst this
      exact st
    | o2 =>
      have := wk_own w rfl
      subst this
      exact st
    | sf =>
      have := wk_own w rfl
      subst this
      exact st
  · obtain ⟨k, e0, w⟩ := wkL_get hw ek
    have := wk_own w ok
    subst this
    exact h.full i k e0 ok
  · obtain ⟨k, e0, w⟩ := wkL_get hw ek
    have := wk_own w ok
    subst this
    exact h.fresh i k a e0 ok m
  · obtain ⟨k0, f1, w1⟩ := wkL_get hw e1
    obtain ⟨l0, f2, w2⟩ := wkL_get hw e2
    have := wk_own w1 o1
    subst this
    have := wk_own w2 o2
    subst this
    exact h.disj i j k0 l0 a f1 o1 f2 o2 m1 m2
  · rw [h.ios q]
    have e : Fl.nf fl[q.1]? = Fl.nf fl'[q.1]? := by
      cases e1 : fl[q.1]? with
      | none =>
        cases e2 : fl'[q.1]? with
        | none => rfl
        | some k' =>
          obtain ⟨k, e3, _⟩ := wkL_get hw e2
          rw [e1] at e3
          cases e3
      | some k =>
        obtain ⟨k', e2, w⟩ := wkL_get' hw e1
        rw [e2]
        cases k <;> cases k' <;> first | rfl | cases w
    rw [e]

/-! ### a slot is set, written -/
theorem set_id {α : Type} {l : List α} {i : Nat} {x : α} (h : l[i]? = some x) : l.set i x = l := by
  apply List.ext_getElem?
  intro j
  by_cases hj : i = j
  · subst hj
    have hl := (List.getElem?_eq_some_iff.mp h).1
    rw [List.getElem?_set_self hl, h]
  · rw [List.getElem?_set_ne hj]
theorem setG_id {G : Nat → List Addr} {i : Nat} : setG G i (G i) = G := by
  funext j
  unfold setG
  split
  · rename_i e
    rw [e]
  · rfl
theorem SR.setC (h : SR K mg c G fl σ H δ) {i : Nat} {v : V} {d : D} (hi : i < fl.length) (hio : Fl.nf fl[i]? = true) (r : Rep K mg (FF c.M0 G fl) H v d) : SR K mg c (setG G i []) (fl.set i .cl) (σ.set i (some v)) H (δ.set i (some d)) :=
  h.one hi (fun z => z.elim (fun z => by rw [hio] at z; cases z) fun z => by cases z) (fun b o e _ => e) (fun b e => e) (fun z => nomatch z) fun kp _ => Rep.stay kp _ _ r
theorem SR.setN (h : SR K mg c G fl σ H δ) (s : Same H H') {i : Nat} {a : Addr} {xs : List V} {ds : List D} (hi : i < fl.length) (hio : Fl.nf fl[i]? = true) (na : H a = none) (ea : H' a = some (.lst xs)) (r : RepL K mg (fun b => FF c.M0 G fl b ∨ b = a) H' xs ds) :
    SR K mg c (setG G i [a]) (fl.set i .ow) (σ.set i (some (.ref a))) H' (δ.set i (some (.lst ds))) := by
  have hd : ∀ b, H b ≠ none → H' b ≠ none := fun b e => dom_same (F := fun x => x = b) s (fun x z => by rw [z]; exact e) b rfl
  refine h.one hi (fun z => z.elim (fun z => by rw [hio] at z; cases z) fun z => by cases z) (fun b o e _ => s b o e) hd (fun _ b hb => ?_) fun kp _ => ?_
  · rw [List.mem_singleton] at hb
    subst hb
    exact ⟨by rw [ea]; exact (fun z => nomatch z), .inl na⟩
  · refine ⟨a, xs, ds, rfl, rfl, rfl, ea, RepL.stay (fun b o e n => ⟨e, fun z => ?_⟩) _ _ r⟩
    rcases z with z | ⟨j, k, ek, ok, m⟩
    · exact n (.inl (.inl z))
    · rcases get_set ek with ⟨rfl, _, _⟩ | ⟨hj, ek'⟩
      · rw [setG_same, List.mem_singleton] at m
        exact n (.inr m)
      · rw [setG_ne hj] at m
        exact n (.inl (.inr ⟨j, k, ek', ok, m⟩))
/-- the list of an own slot -/
theorem SR.at_ow (h : SR K mg c G fl σ H δ) {i : Nat} {k : Fl} (ek : fl[i]? = some k) (hk : k = .ow ∨ k = .io) : ∃ p xs ds, G i = [p] ∧ σ[i]? = some (some (.ref p)) ∧ δ[i]? = some (some (.lst ds)) ∧ H p = some (.lst xs) ∧ RepL K mg (FF c.M0 G fl) H xs ds := by
  have ok : k.own = true := hk.elim (fun z => by rw [z]; rfl) fun z => by rw [z]; rfl
  obtain ⟨d, ed⟩ := h.full i k ek ok
  obtain ⟨v, ev, r⟩ := h.slot i d k ek (fun z => by rw [z] at ok; cases ok) ed
  rcases hk with rfl | rfl
  · obtain ⟨p, xs, ds, e0, rfl, rfl, t, l⟩ := r
    exact ⟨p, xs, ds, e0, ev, ed, t, l⟩
  · obtain ⟨p, xs, ds, e0, rfl, rfl, t, l⟩ := r
    exact ⟨p, xs, ds, e0, ev, ed, t, l⟩
/-- the list of an own slot is written -/
theorem SR.put (h : SR K mg c G fl σ H δ) {i : Nat} {k : Fl} {p : Addr} {ys : List V} {es : List D} (ek : fl[i]? = some k) (hk : k = .ow ∨ k = .io) (ep : σ[i]? = some (some (.ref p))) (r : RepL K mg (FF c.M0 G fl) H ys es) :
    SR K mg c G fl σ (upd H p (.lst ys)) (δ.set i (some (.lst es))) := by
  obtain ⟨q, xs, ds, eg, eq, ed, t, l⟩ := h.at_ow ek hk
  rw [ep] at eq
  cases eq
  have ok : k.own = true := hk.elim (fun z => by rw [z]; rfl) fun z => by rw [z]; rfl
  have hi := (List.getElem?_eq_some_iff.mp ek).1
  have z := h.one (i := i) (k' := k) (v' := .ref p) (d' := .lst es) (g := G i) (H' := upd H p (.lst ys)) hi (fun w => ?_) (fun b o e n => ?_) (fun b e => ?_) (fun _ b hb => ?_) fun kp _ => ?_
  · rw [set_id ek, set_id ep, setG_id] at z
    exact z
  · exact ⟨ek, rfl⟩
  · have hb : b ≠ p := fun z => by
      subst z
      exact n k ek ok (by rw [eg]; exact List.mem_cons_self)
    rw [upd_ne hb]
    exact e
  · by_cases hb : b = p
    · rw [hb, upd_same]
      exact fun z => nomatch z
    · rw [upd_ne hb]
      exact e
  · rw [eg, List.mem_singleton] at hb
    subst hb
    exact ⟨by rw [upd_same]; exact (fun z => nomatch z), .inr ⟨k, ek, ok, by rw [eg]; exact List.mem_cons_self⟩⟩
  · rw [set_id ek, setG_id] at kp ⊢
    have r' := RepL.stay kp _ _ r
    rcases hk with rfl | rfl
    · exact ⟨p, ys, es, eg, rfl, rfl, upd_same, r'⟩
    · exact ⟨p, ys, es, eg, rfl, rfl, upd_same, r'⟩
/-- several slots to clean data -/
def setGs (G : Nat → List Addr) (is : List Nat) : Nat → List Addr := is.foldl (fun G i => setG G i []) G
theorem SR.setU : ∀ {us : List (Nat × V)} {as : List (Nat × D)} {G : Nat → List Addr} {fl : List Fl} {σ : L2.St} {δ : DSt}, SR K mg c G fl σ H δ → (∀ i ∈ as.map (·.1), i < fl.length ∧ Fl.nf fl[i]? = true) → RepU K mg (FF c.M0 G fl) H us as →
    SR K mg c (setGs G (as.map (·.1))) (setF fl (as.map (·.1))) (setS σ us) H (setD δ as)
  | [], [], _, _, _, _, h, _, _ => h
  | (i, v) :: us, (j, d) :: as, G, fl, σ, δ, h, hl, r => by
    obtain ⟨⟨rfl, rv⟩, r⟩ := r
    obtain ⟨hi, hio⟩ := hl i List.mem_cons_self
    have h1 := h.setC hi hio rv
    show SR K mg c (setGs (setG G i []) (as.map (·.1))) (setF (fl.set i .cl) (as.map (·.1))) (setS (σ.set i (some v)) us) H (setD (δ.set i (some d)) as)
    refine SR.setU h1 (fun j hj => ?_) (RepU.imp r ?_)
    · obtain ⟨z1, z2⟩ := hl j (List.mem_cons_of_mem _ hj)
      refine ⟨by rw [List.length_set]; exact z1, ?_⟩
      by_cases hij : i = j
      · rw [← hij, List.getElem?_set_self hi]
        rfl
      · rw [List.getElem?_set_ne hij]
        exact z2
    · intro v d rr
      refine Rep.stay (fun b o e n => ⟨e, fun z => n ?_⟩) _ _ rr
      rcases z with z | ⟨j, k, ek, ok, m⟩
      · exact .inl z
      · rcases get_set ek with ⟨rfl, rfl, _⟩ | ⟨hj, ek'⟩
        · cases ok
        · rw [setG_ne hj] at m
          exact .inr ⟨j, k, ek', ok, m⟩
  | [], _ :: _, _, _, _, _, _, _, r => r.elim
  | (_, _) :: _, [], _, _, _, _, _, _, r => r.elim
/-! ### a base more, a base less -/
def Ctx.add (c : Ctx) (H1 : Hp) (C1 : AP1) : Ctx := { c with B := fun H0 Chg => c.B H0 Chg ∨ (H0 = H1 ∧ Chg = C1) }
def ownA (G : Nat → List Addr) (fl : List Fl) : AP1 := fun a => ∃ (i : Nat) (k : Fl), fl[i]? = some k ∧ k.own = true ∧ a ∈ G i
theorem SR.push (h : SR K mg c G fl σ H δ) : SR K mg (c.add H (ownA G fl)) G fl σ H δ where
  hne := ⟨H, _, .inr ⟨rfl, rfl⟩⟩
  dom0 := h.dom0
  live := fun H0 Chg hB b e => hB.elim (fun z => h.live H0 Chg z b e) fun z => by rw [← z.1]; exact e
  base := fun H0 Chg hB b o e n => hB.elim (fun z => h.base H0 Chg z b o e n) fun z => by rw [← z.1]; exact e
  lenS := h.lenS
  lenD := h.lenD
  slot := fun i d k ek nk e => by
    obtain ⟨v, e1, r⟩ := h.slot i d k ek nk e
    refine ⟨v, e1, ?_⟩
    cases k with
    | bw =>
      rcases r with r | ⟨a, xs, ds, e1, e2, t, l, z⟩
      · exact .inl r
      · refine .inr ⟨a, xs, ds, e1, e2, t, l, fun H0 Chg hB => ?_⟩
        rcases hB with hB | ⟨rfl, rfl⟩
        · exact z H0 Chg hB
        · refine ⟨by rw [t]; exact (fun z => nomatch z), fun ⟨j, kj, ej, oj, m⟩ => ?_⟩
          obtain ⟨H0, Chg, hB⟩ := h.hne
          rcases (h.fresh j kj a ej oj m).2.2 H0 Chg hB with w | w
          · exact (z H0 Chg hB).1 w
          · exact (z H0 Chg hB).2 w
    | no => exact r
    | cl => exact r
    | ow => exact r
    | io => exact r
    | o2 => exact r
    | sf => exact r
  full := h.full
  fresh := fun i k a ek ok m => ⟨(h.fresh i k a ek ok m).1, (h.fresh i k a ek ok m).2.1, fun H0 Chg hB => by
    rcases hB with hB | ⟨rfl, rfl⟩
    · exact (h.fresh i k a ek ok m).2.2 H0 Chg hB
    · exact .inr ⟨i, k, ek, ok, m⟩⟩
  disj := h.disj
  ios := h.ios
theorem SR.pop {H1 : Hp} {C1 : AP1} (hne : ∃ H0 Chg, c.B H0 Chg) (h : SR K mg (c.add H1 C1) G fl σ H δ) : SR K mg c G fl σ H δ where
  hne := hne
  dom0 := h.dom0
  live := fun H0 Chg hB b e => h.live H0 Chg (.inl hB) b e
  base := fun H0 Chg hB b o e n => h.base H0 Chg (.inl hB) b o e n
  lenS := h.lenS
  lenD := h.lenD
  slot := fun i d k ek nk e => by
    obtain ⟨v, e1, r⟩ := h.slot i d k ek nk e
    refine ⟨v, e1, ?_⟩
    cases k with
    | bw =>
      rcases r with r | ⟨a, xs, ds, e1, e2, t, l, z⟩
      · exact .inl r
      · exact .inr ⟨a, xs, ds, e1, e2, t, l, fun H0 Chg hB => z H0 Chg (.inl hB)⟩
    | no => exact r
    | cl => exact r
    | ow => exact r
    | io => exact r
    | o2 => exact r
    | sf => exact r
  full := h.full
  fresh := fun i k a ek ok m => ⟨(h.fresh i k a ek ok m).1, (h.fresh i k a ek ok m).2.1, fun H0 Chg hB => (h.fresh i k a ek ok m).2.2 H0 Chg (.inl hB)⟩
  disj := h.disj
  ios := h.ios
end
end DL

end

section
set_option Elab.async false
set_option linter.all false
set_option maxRecDepth 100000
namespace DL
open PySem PySem.Spec PyProof.Rows L2
/-! ### statements -/
/-- how a statement ends: it goes on, it returns (data; a new list; a new list of new lists), break, continue -/
inductive Out where
  | nx (δ : DSt) | rt (d : D) (δ : DSt) | rn (ds : List D) (δ : DSt) | r2 (ds : List D) (δ : DSt) | bk (δ : DSt) | ct (δ : DSt)
abbrev DS := DSt → Option Out
def OutOk (K : PySem.W.Frag) (mg : Mg) (c : Ctx) (fl' fL fr : List Fl) (E : Ends) : Out → Prop
  | .nx δ => ∀ G σ H, SR K mg c G fl' σ H δ → E.nx σ H
  | .bk δ => ∀ G σ H, SR K mg c G fL σ H δ → E.bk σ H
  | .ct δ => ∀ G σ H, SR K mg c G fL σ H δ → E.ct σ H
  | .rt d δ => ∀ G σ H v, SR K mg c G fr σ H δ → Rep K mg (FF c.M0 G fr) H v d → E.rt v H
  | .rn ds δ => ∀ G σ H p xs, SR K mg c G fr σ H δ → H p = some (.lst xs) → RepL K mg (fun b => FF c.M0 G fr b ∨ b = p) H xs ds → ¬ FF c.M0 G fr p → (∀ H0 Chg, c.B H0 Chg → H0 p = none ∨ Chg p) → E.rt (.ref p) H
  | .r2 ds δ => ∀ G σ H p ps, SR K mg c G fr σ H δ → H p = some (.lst (ps.map V.ref)) → (p :: ps).Nodup → InnL K mg (fun b => FF c.M0 G fr b ∨ b ∈ p :: ps) H ps ds → (∀ a ∈ p :: ps, ¬ FF c.M0 G fr a) → (∀ a ∈ p :: ps, ∀ H0 Chg, c.B H0 Chg → H0 a = none ∨ Chg a) → E.rt (.ref p) H
def tsD (K : PySem.W.Frag) (mg : Mg) (fl fl' fL fr : List Fl) (f : DS) : TS := fun E σ H => ∃ c G δ o, SR K mg c G fl σ H δ ∧ f δ = some o ∧ OutOk K mg c fl' fL fr E o
theorem PS_imp {X : Cx} {st : Stmt} {t t' : TS} (h : PS X st t) (i : ∀ E σ H, t' E σ H → t E σ H) : PS X st t' := ⟨fun pins s σ H E I q => h.run pins s σ H E I (i E σ H q)⟩
theorem PSs_imp {X : Cx} {st : List Stmt} {t t' : TS} (h : PSs X st t) (i : ∀ E σ H, t' E σ H → t E σ H) : PSs X st t' := ⟨fun pins s σ H E I q => h.run pins s σ H E I (i E σ H q)⟩
section
variable {K : PySem.W.Frag} {mg : Mg} {c : Ctx} {fl fl1 fl' fL fr : List Fl} {f g : DS}
theorem OutOk.wk {E : Ends} {o : Out} (hw : wkL fl1 fl' = true) (h : OutOk K mg c fl' fL fr E o) : OutOk K mg c fl1 fL fr E o := by
  cases o with
  | nx δ => exact fun G σ H sr => h G σ H (sr.weak hw)
  | _ => exact h
theorem tsD_wk {E : Ends} {σ : L2.St} {H : Hp} (hw : wkL fl1 fl' = true) (h : tsD K mg fl fl' fL fr f E σ H) : tsD K mg fl fl1 fL fr f E σ H := by
  obtain ⟨c, G, δ, o, sr, e, ok⟩ := h
  exact ⟨c, G, δ, o, sr, e, ok.wk hw⟩
theorem tsD_pre {E : Ends} {σ : L2.St} {H : Hp} (hw : wkL fl fl1 = true) (h : tsD K mg fl fl' fL fr f E σ H) : tsD K mg fl1 fl' fL fr f E σ H := by
  obtain ⟨c, G, δ, o, sr, e, ok⟩ := h
  exact ⟨c, G, δ, o, sr.weak hw, e, ok⟩
/-- other ends -/
theorem OutOk.ends {E E' : Ends} {o : Out} (h1 : ∀ δ, o = .nx δ → ∀ G σ H, SR K mg c G fl' σ H δ → E'.nx σ H) (h2 : ∀ δ, o = .bk δ → ∀ G σ H, SR K mg c G fL σ H δ → E'.bk σ H) (h3 : ∀ δ, o = .ct δ → ∀ G σ H, SR K mg c G fL σ H δ → E'.ct σ H) (h4 : E.rt = E'.rt)
    (h : (∀ δ, o ≠ .nx δ) → (∀ δ, o ≠ .bk δ) → (∀ δ, o ≠ .ct δ) → OutOk K mg c fl1 fL fr E o) : OutOk K mg c fl' fL fr E' o := by
  cases o with
  | nx δ => exact h1 δ rfl
  | bk δ => exact h2 δ rfl
  | ct δ => exact h3 δ rfl
  | rt d δ =>
    have z := h (fun _ w => nomatch w) (fun _ w => nomatch w) (fun _ w => nomatch w)
    intro G σ H v a b
    rw [← h4]
    exact z G σ H v a b
  | rn d δ =>
    have z := h (fun _ w => nomatch w) (fun _ w => nomatch w) (fun _ w => nomatch w)
    intro G σ H p xs a b c d e
    rw [← h4]
    exact z G σ H p xs a b c d e
  | r2 d δ =>
    have z := h (fun _ w => nomatch w) (fun _ w => nomatch w) (fun _ w => nomatch w)
    intro G σ H p xs a b c d e f
    rw [← h4]
    exact z G σ H p xs a b c d e f
end
def sNx : DS := fun δ => some (.nx δ)
def sq (f g : DS) : DS := fun δ => (f δ).bind fun o => match o with
  | .nx δ' => g δ'
  | o => some o
def sIf (t : DT) (f g : DS) : DS := fun δ => (t δ).bind fun b => if b = true then f δ else g δ
def sSet (i : Nat) (f : DE) : DS := fun δ => (f δ).map fun d => .nx (δ.set i (some d))
def sSetN (i : Nat) (f : DA) : DS := fun δ => (f δ).map fun ds => .nx (δ.set i (some (.lst ds)))
def sAsg (f : DE) (ga : Tg) : DS := fun δ => (f δ).bind fun d => (ga d).map fun as => .nx (setD δ as)
def sPar (i j : Nat) (f : DA) : DS := fun δ => (f δ).bind fun ds => match ds with
  | [a, b] => some (.nx ((δ.set i (some a)).set j (some b)))
  | _ => none
def sDrop (f : DE) : DS := fun δ => (f δ).map fun _ => .nx δ
def sRet (f : DE) : DS := fun δ => (f δ).map fun d => .rt d δ
def sRetNo : DS := fun δ => some (.rt .non δ)
def sRetL (i : Nat) : DS := fun δ => match δ.getD i none with
  | some (.lst ds) => some (.rn ds δ)
  | _ => none
def sRetL2 (i : Nat) : DS := fun δ => match δ.getD i none with
  | some (.lst ds) => some (.r2 ds δ)
  | _ => none
def sRetN (f : DA) : DS := fun δ => (f δ).map fun ds => .rn ds δ
def sBk : DS := fun δ => some (.bk δ)
def sCt : DS := fun δ => some (.ct δ)
def sNo : DS := fun _ => none
/-- the list in a slot -/
def lstAt (i : Nat) (δ : DSt) : Option (List D) := match δ.getD i none with
  | some (.lst ds) => some ds
  | _ => none
theorem lstAt_of {i : Nat} {δ : DSt} {ds : List D} (h : lstAt i δ = some ds) : δ[i]? = some (some (.lst ds)) := by
  apply dvar_at (i := i) (d := .lst ds)
  unfold lstAt at h
  unfold dvar
  split at h
  · cases h
    assumption
  · cases h
def sApp (i : Nat) (f : DE) : DS := fun δ => (lstAt i δ).bind fun ds => (f δ).bind fun d => if ds.length < sizeLine then some (.nx (δ.set i (some (.lst (ds ++ [d]))))) else none
def setI (ds : List D) (k : D) (d : D) : Option (List D) := match k with
  | .int k => (ixN ds.length k).map fun j => ds.set j d
  | _ => none
def sSetI (i : Nat) (fi fv : DE) : DS := fun δ => (fv δ).bind fun d => (lstAt i δ).bind fun ds => (fi δ).bind fun k => (setI ds k d).map fun ds' => .nx (δ.set i (some (.lst ds')))
/-- xs[a], xs[b] = u, v -/
def sSwap (i : Nat) (fa fb : DE) (f : DA) : DS := fun δ => (f δ).bind fun vs => match vs with
  | [u, v] => (sSetI i fa (fun _ => some u) δ).bind fun o => match o with
    | .nx δ' => sSetI i fb (fun _ => some v) δ'
    | o => some o
  | _ => none
def forGo (ga : Tg) (fb : DS) : List D → DS
  | [], δ => some (.nx δ)
  | d :: ds, δ => (ga d).bind fun as => (fb (setD δ as)).bind fun o => match o with
    | .nx δ' => forGo ga fb ds δ'
    | .ct δ' => forGo ga fb ds δ'
    | .bk δ' => some (.nx δ')
    | o => some o
def sFor (it : DI) (ga : Tg) (fb : DS) : DS := fun δ => (it δ).bind fun ds => forGo ga fb ds δ
def whGo (t : DT) (fb : DS) : Nat → DS
  | 0, _ => none
  | n + 1, δ => (t δ).bind fun b => if b = true then (fb δ).bind fun o => match o with
    | .nx δ' => whGo t fb n δ'
    | .ct δ' => whGo t fb n δ'
    | .bk δ' => some (.nx δ')
    | o => some o
    else some (.nx δ)
section
variable {X : Cx} {fl fl1 fl' fL fr : List Fl} {f g : DS} {st : Stmt} {sts rest : List Stmt} {pos p1 p2 apos cpos : Pos} {e e2 : Expr} {fe ge : DE} {fa : DA} {ft : DT} {x : Str} {i j : Nat}
theorem s_nil : PSs X [] (tsD X.K X.mg fl fl fL fr sNx) := PSs_imp pss_nil fun E σ H ⟨c, G, δ, o, sr, e, ok⟩ => by
  cases e
  exact ok G σ H sr
theorem s_one (h : PS X st (tsD X.K X.mg fl fl' fL fr f)) : PSs X [st] (tsD X.K X.mg fl fl' fL fr f) := pss_one h
theorem s_cons (h1 : PS X st (tsD X.K X.mg fl fl1 fL fr f)) (h2 : PSs X rest (tsD X.K X.mg fl1 fl' fL fr g)) : PSs X (st :: rest) (tsD X.K X.mg fl fl' fL fr (sq f g)) :=
  PSs_imp (pss_cons h1 h2) fun E σ H ⟨c, G, δ, o, sr, e, ok⟩ => by
    obtain ⟨o1, e1, e2⟩ := bind_some e
    refine ⟨c, G, δ, o1, sr, e1, ?_⟩
    refine OutOk.ends (fl1 := fl') (E := E) (fun δ1 h1 G1 σ1 H1 sr1 => ?_) (fun δ1 h1 G1 σ1 H1 sr1 => ?_) (fun δ1 h1 G1 σ1 H1 sr1 => ?_) rfl fun h1 h2 h3 => ?_
    · subst h1
      exact ⟨c, G1, δ1, o, sr1, e2, ok⟩
    · subst h1
      cases e2
      exact ok G1 σ1 H1 sr1
    · subst h1
      cases e2
      exact ok G1 σ1 H1 sr1
    · cases o1 with
      | nx δ => exact absurd rfl (h1 δ)
      | bk δ => exact absurd rfl (h2 δ)
      | ct δ => exact absurd rfl (h3 δ)
      | rt d δ => cases e2; exact ok
      | rn d δ => cases e2; exact ok
      | r2 d δ => cases e2; exact ok
theorem s_wk (h : PSs X sts (tsD X.K X.mg fl fl1 fL fr f)) (hw : wkL fl1 fl' = true := by rfl) : PSs X sts (tsD X.K X.mg fl fl' fL fr f) := PSs_imp h fun E σ H z => tsD_wk hw z
theorem s_pre (h : PS X st (tsD X.K X.mg fl1 fl' fL fr f)) (hw : wkL fl fl1 = true := by rfl) : PS X st (tsD X.K X.mg fl fl' fL fr f) := PS_imp h fun E σ H z => tsD_pre hw z
theorem s_pres (h : PSs X sts (tsD X.K X.mg fl1 fl' fL fr f)) (hw : wkL fl fl1 = true := by rfl) : PSs X sts (tsD X.K X.mg fl fl' fL fr f) := PSs_imp h fun E σ H z => tsD_pre hw z
theorem s_pass : PS X (.Pass pos) (tsD X.K X.mg fl fl fL fr sNx) := PS_imp ps_pass fun E σ H ⟨c, G, δ, o, sr, e, ok⟩ => by
  cases e
  exact ok G σ H sr
theorem s_doc {x j pos pos'} : PS X (.Expr (.Constant (.str x) j pos) pos') (tsD X.K X.mg fl fl fL fr sNx) := PS_imp ps_doc fun E σ H ⟨c, G, δ, o, sr, e, ok⟩ => by
  cases e
  exact ok G σ H sr
theorem s_break (hw : wkL fl fL = true := by rfl) : PS X (.Break pos) (tsD X.K X.mg fl fl' fL fr sBk) := PS_imp ps_break fun E σ H ⟨c, G, δ, o, sr, e, ok⟩ => by
  cases e
  exact ok G σ H (sr.weak hw)
theorem s_cont (hw : wkL fl fL = true := by rfl) : PS X (.Continue pos) (tsD X.K X.mg fl fl' fL fr sCt) := PS_imp ps_continue fun E σ H ⟨c, G, δ, o, sr, e, ok⟩ => by
  cases e
  exact ok G σ H (sr.weak hw)
theorem s_never : PS X st (tsD X.K X.mg fl fl' fL fr sNo) := PS_imp ps_never fun E σ H ⟨c, G, δ, o, sr, e, ok⟩ => by cases e
theorem s_if {c : Expr} {a b : List Stmt} (hc : PT X c (tT X.K X.mg fl ft)) (ha : PSs X a (tsD X.K X.mg fl fl' fL fr f)) (hb : PSs X b (tsD X.K X.mg fl fl' fL fr g)) : PS X (.If c a b pos) (tsD X.K X.mg fl fl' fL fr (sIf ft f g)) :=
  PS_imp (ps_if hc ha hb) fun E σ H ⟨c, G, δ, o, sr, e, ok⟩ => by
    obtain ⟨b, e1, e2⟩ := bind_some e
    refine ⟨_, δ, b, sr.er, e1, fun H' s => ?_⟩
    cases b with
    | true => exact iteT ⟨c, G, δ, o, sr.same s, e2, ok⟩
    | false => exact iteF ⟨c, G, δ, o, sr.same s, e2, ok⟩
theorem s_ret (he : PE X e (tD X.K X.mg fl fe)) (hw : wkL fl fr = true := by rfl) : PS X (.Return (some e) pos) (tsD X.K X.mg fl fl' fL fr (sRet fe)) :=
  PS_imp (ps_ret he) fun E σ H ⟨c, G, δ, o, sr, e, ok⟩ => by
    obtain ⟨d, e1, rfl⟩ := map_some e
    exact ⟨_, δ, d, sr.er, e1, fun v H' s r => ok G σ H' v ((sr.same s).weak hw) (Rep.stay (fun b o eb nb => ⟨eb, fun z => nb (FF_wk hw z)⟩) _ _ r)⟩
theorem s_retNo (hw : wkL fl fr = true := by rfl) : PS X (.Return none pos) (tsD X.K X.mg fl fl' fL fr sRetNo) :=
  PS_imp ps_retN fun E σ H ⟨c, G, δ, o, sr, e, ok⟩ => by
    cases e
    exact ok G σ H .non (sr.weak hw) .non
/-- a new list is returned -/
theorem s_retN (he : PE X e (tN X.K X.mg fl fa)) (hw : wkL fl fr = true := by rfl) : PS X (.Return (some e) pos) (tsD X.K X.mg fl fl' fL fr (sRetN fa)) :=
  PS_imp (ps_ret he) fun E σ H ⟨c, G, δ, o, sr, e, ok⟩ => by
    obtain ⟨d, e1, rfl⟩ := map_some e
    refine ⟨_, δ, d, sr.er, e1, fun a xs H' s na ea r => ok G σ H' a xs ((sr.same s).weak hw) ea (RepL.stay (fun b o eb nb => ⟨eb, fun z => nb (z.elim (fun z => .inl (FF_wk hw z)) .inr)⟩) _ _ r) (fun z => sr.dom a (FF_wk hw z) na) fun H0 Chg hB => .inl ?_⟩
    cases q : H0 a with
    | none => rfl
    | some o => exact absurd na (sr.live H0 Chg hB a (by rw [q]; exact fun z => nomatch z))
theorem getD_of {δ : DSt} {i : Nat} {d : D} (h : δ.getD i none = some d) : δ[i]? = some (some d) := dvar_at (i := i) h
/-- an own list is returned: hn: its slot is let go in fr -/
theorem s_retL (i : Nat) (hi : fl[i]? = some .ow := by rfl) (hn : (fr[i]?.any Fl.own) = false := by rfl) (hw : wkL fl fr = true := by rfl) (hx : X.N[i]? = some x := by rfl) (hv : Vis X.env.scope x := by first | exact Or.inl rfl | exact Or.inr (Or.inl rfl) | exact Or.inr (Or.inr rfl)) (hd : (x == ("__debug__" : Str)) = false := by decide)
    (hcd : (x == ("__classdict__" : Str)) = false := by decide) : PS X (.Return (some (.Name x p1)) pos) (tsD X.K X.mg fl fl' fL fr (sRetL i)) :=
  PS_imp (ps_ret (pe_var hx hv hd hcd)) fun E σ H ⟨c, G, δ, o, sr, e, ok⟩ => by
    obtain ⟨p, xs, ds, eg, e1, e2, t, l⟩ := sr.at_ow hi (.inl rfl)
    have e' : sRetL i δ = some (.rn ds δ) := by
      unfold sRetL
      rw [List.getD_eq_getElem?_getD, e2]
      rfl
    rw [e'] at e
    cases e
    have hp : p ∈ G i := by rw [eg]; exact List.mem_cons_self
    refine ⟨_, e1, ok G σ H p xs (sr.weak hw) t (RepL.stay (fun b o eb nb => ⟨eb, fun z => nb (z.elim (fun z => FF_wk hw z) fun z => .inr ⟨i, .ow, hi, rfl, by rw [z]; exact hp⟩)⟩) _ _ l) (fun z => ?_) (sr.fresh i .ow p hi rfl hp).2.2⟩
    rcases z with z | ⟨j, k, ek, okk, m⟩
    · exact (sr.fresh i .ow p hi rfl hp).2.1 z
    · obtain ⟨k', e', w⟩ := wkL_get hw ek
      have := wk_own w okk
      subst this
      have := sr.disj i j .ow k' p hi rfl e' okk hp m
      subst this
      rw [ek] at hn
      have hn' : Fl.own k' = false := hn
      rw [okk] at hn'
      cases hn'
theorem s_retL2 (i : Nat) (hi : fl[i]? = some .o2 := by rfl) (hn : (fr[i]?.any Fl.own) = false := by rfl) (hw : wkL fl fr = true := by rfl) (hx : X.N[i]? = some x := by rfl) (hv : Vis X.env.scope x := by first | exact Or.inl rfl | exact Or.inr (Or.inl rfl) | exact Or.inr (Or.inr rfl)) (hd : (x == ("__debug__" : Str)) = false := by decide)
    (hcd : (x == ("__classdict__" : Str)) = false := by decide) : PS X (.Return (some (.Name x p1)) pos) (tsD X.K X.mg fl fl' fL fr (sRetL2 i)) :=
  PS_imp (ps_ret (pe_var hx hv hd hcd)) fun E σ H ⟨c, G, δ, o, sr, e, ok⟩ => by
    obtain ⟨d, ed⟩ := sr.full i .o2 hi rfl
    obtain ⟨v, e1, p, ps, ds, eg, nd, rfl, rfl, t, l⟩ := sr.slot i d .o2 hi (fun z => nomatch z) ed
    have e' : sRetL2 i δ = some (.r2 ds δ) := by
      unfold sRetL2
      rw [List.getD_eq_getElem?_getD, ed]
      rfl
    rw [e'] at e
    cases e
    rw [eg] at nd
    have hp : ∀ a ∈ p :: ps, a ∈ G i := fun a ha => by rw [eg]; exact ha
    refine ⟨_, e1, ok G σ H p ps (sr.weak hw) t nd (l.imp (fun _ _ _ e => e) fun _ _ r => RepL.stay (fun b o eb nb => ⟨eb, fun z => nb (z.elim (fun z => FF_wk hw z) fun z => .inr ⟨i, .o2, hi, rfl, hp b z⟩)⟩) _ _ r) (fun a ha z => ?_) fun a ha => (sr.fresh i .o2 a hi rfl (hp a ha)).2.2⟩
    rcases z with z | ⟨j, k, ek, okk, m⟩
    · exact (sr.fresh i .o2 a hi rfl (hp a ha)).2.1 z
    · obtain ⟨k', e', w⟩ := wkL_get hw ek
      have := wk_own w okk
      subst this
      have := sr.disj i j .o2 k' a hi rfl e' okk (hp a ha) m
      subst this
      rw [ek] at hn
      have hn' : Fl.own k' = false := hn
      rw [okk] at hn'
      cases hn'
theorem s_drop (he : PE X e (tB X.K X.mg fl fe)) (hs : swapsWith e none pos.line X.env = pure false := by rfl) : PS X (.Expr e pos) (tsD X.K X.mg fl fl fL fr (sDrop fe)) :=
  PS_imp (ps_expr he hs) fun E σ H ⟨c, G, δ, o, sr, e, ok⟩ => by
    obtain ⟨d, e1, rfl⟩ := map_some e
    exact ⟨_, δ, d, sr.er, e1, fun v H' s r => ok G σ H' (sr.same s)⟩
/-- name = value -/
theorem s_set (i : Nat) (he : PE X e (tD X.K X.mg fl fe)) (hN : X.N.Nodup) (hl : i < fl.length := by decide) (ho : Fl.nf fl[i]? = true := by rfl) (hf : fl.set i .cl = fl' := by rfl) (hi : X.N[i]? = some x := by rfl) (hx : Loc X.env.scope x := by first | exact Or.inl rfl | exact Or.inr rfl)
    (hs : swapsWith e (some (.Name x p1)) pos.line X.env = pure false := by rfl) (hfn : X.fn x = true ∨ X.env.scope.names.lookup x = some .local := by first | exact .inl rfl | exact .inr rfl) :
    PS X (.Assign [.Name x p1] e pos) (tsD X.K X.mg fl fl' fL fr (sSet i fe)) :=
  PS_imp (ps_set hN hi hx he hs hfn) fun E σ H ⟨c, G, δ, o, sr, e, ok⟩ => by
    obtain ⟨d, e1, rfl⟩ := map_some e
    subst hf
    exact ⟨_, δ, d, sr.er, e1, fun v H' s r => ok _ _ H' ((sr.same s).setC hl ho r)⟩
/-- name = a new list -/
theorem s_setN (i : Nat) (he : PE X e (tN X.K X.mg fl fa)) (hN : X.N.Nodup) (hl : i < fl.length := by decide) (ho : Fl.nf fl[i]? = true := by rfl) (hf : fl.set i .ow = fl' := by rfl) (hi : X.N[i]? = some x := by rfl) (hx : Loc X.env.scope x := by first | exact Or.inl rfl | exact Or.inr rfl)
    (hs : swapsWith e (some (.Name x p1)) pos.line X.env = pure false := by rfl) (hfn : X.fn x = true ∨ X.env.scope.names.lookup x = some .local := by first | exact .inl rfl | exact .inr rfl) :
    PS X (.Assign [.Name x p1] e pos) (tsD X.K X.mg fl fl' fL fr (sSetN i fa)) :=
  PS_imp (ps_set hN hi hx he hs hfn) fun E σ H ⟨c, G, δ, o, sr, e, ok⟩ => by
    obtain ⟨d, e1, rfl⟩ := map_some e
    subst hf
    exact ⟨_, δ, d, sr.er, e1, fun a xs H' s na ea r => ok _ _ H' (sr.setN s hl ho na ea r)⟩
/-- name = [.. for ..] -/
theorem s_setLc (i : Nat) {tg iter elt : Expr} {ifs : List Expr} {scope : Scope} {own : List (Str × Nat)} {is : List Nat} {it : DI} {ga : Tg} {g : TG} {tt : DT} {te : DE} {spos : Pos} (hc : X.calm = true) (hN : X.N.Nodup) (hin : PI X tg iter (tIb X.K X.mg fl it)) (ok : BlkOk X.N X.env.scope scope own)
    (hg : ∀ (s : Shared) (H : Hp) (C : Addr) (cl : List (Str × Addr)) (fp : List Addr), PG (X.blk s H scope (compEnvC scope cl C X.env) fp) tg g) (hT : TGR X.K X.mg g ga is)
    (ht : ∀ (s : Shared) (H : Hp) (C : Addr) (cl : List (Str × Addr)) (fp : List Addr), PTs (X.blk s H scope (compEnvC scope cl C X.env) fp) ifs (tT X.K X.mg (setF fl is) tt))
    (he : ∀ (s : Shared) (H : Hp) (C : Addr) (cl : List (Str × Addr)) (fp : List Addr), PE (X.blk s H scope (compEnvC scope cl C X.env) fp) elt (tD X.K X.mg (setF fl is) te))
    (hsw : swapsWith (.ListComp elt [⟨tg, iter, ifs, 0⟩] scope pos) (some (.Name x p1)) spos.line X.env = pure true)
    (hv : (∀ i ∈ is, i ∈ own.map (·.2)) ∧ ∀ i ∈ is, i < fl.length := by decide) (hl : i < fl.length := by decide) (ho : Fl.nf fl[i]? = true := by rfl) (hf : fl.set i .ow = fl' := by rfl) (hi : X.N[i]? = some x := by rfl) (hx : X.env.scope.names.lookup x = some .local := by rfl)
    (hs : ∀ x, foldedSetIterable iter X.env x = pure x := by intro _; rfl) : PS X (.Assign [.Name x p1] (.ListComp elt [⟨tg, iter, ifs, 0⟩] scope pos) spos) (tsD X.K X.mg fl fl' fL fr (sSetN i (lcD (own.map (·.2)) it ga tt te))) :=
  PS_imp (ps_setLc hc hN hi hx hsw hin ok hg ht he hs) fun E σ H ⟨c, G, δ, o, sr, e, ok⟩ => by
    obtain ⟨d, e1, rfl⟩ := map_some e
    subst hf
    exact lc_read hT hv.1 hv.2 ⟨_, δ, d, sr.er, e1, fun a xs H' s na ea r => ok _ _ H' (sr.setN s hl ho na ea r)⟩
def okSet (fl : List Fl) (is : List Nat) : Bool := is.all fun i => decide (i < fl.length) && Fl.nf fl[i]?
theorem okSet_of {is : List Nat} (h : okSet fl is = true) : ∀ i ∈ is, i < fl.length ∧ Fl.nf fl[i]? = true := fun i hi => by
  have z := List.all_eq_true.mp h i hi
  rw [Bool.and_eq_true] at z
  exact ⟨of_decide_eq_true z.1, z.2⟩
/-- a target of names = value -/
theorem s_asg {tg : Expr} {g : TG} {ga : Tg} {is : List Nat} (he : PE X e (tD X.K X.mg fl fe)) (hg : PG X tg g) (hT : TGR X.K X.mg g ga is) (hf : setF fl is = fl' := by rfl) (hl : okSet fl is = true := by rfl)
    (hs : swapsWithSole [tg] e pos.line X.env = pure false := by rfl) (hw : swappedStores [tg] e X.env = pure none := by rfl) (h1 : (assignEach [tg] X.env).map (·.2) = [assign tg X.env] := by rfl) : PS X (.Assign [tg] e pos) (tsD X.K X.mg fl fl' fL fr (sAsg fe ga)) :=
  PS_imp (ps_asg he hg hs hw h1) fun E σ H ⟨c, G, δ, o, sr, e, ok⟩ => by
    obtain ⟨d, e1, e2⟩ := bind_some e
    obtain ⟨as, e3, rfl⟩ := map_some e2
    subst hf
    refine ⟨_, δ, d, sr.er, e1, fun v H' s r => ?_⟩
    obtain ⟨ei, tr⟩ := hT _ v σ H' E.nx d as r e3
    refine tr fun us ru => ?_
    have z := (sr.same s).setU (as := as) (by rw [ei]; exact okSet_of hl) ru
    rw [ei] at z
    exact ok _ _ H' z
/-- a, b = x, y -/
theorem s_par (i j : Nat) {y : Str} {a b : Expr} {px py pt : Pos} {kt k2 pt2} (ha : PA X [a, b] (tAs X.K X.mg fl [true, true] fa)) (hc : X.calm = true) (hN : X.N.Nodup)
    (hw : swappedStores [.Tuple [.Name x px, .Name y py] kt pt] (.Tuple [a, b] k2 pt2) X.env = pure (some [x, y])) (hl : okSet fl [i, j] = true := by rfl) (hf : (fl.set i .cl).set j .cl = fl' := by rfl) (hi : X.N[i]? = some x := by rfl) (hj : X.N[j]? = some y := by rfl) (hij : i ≠ j := by decide)
    (hx : X.env.scope.names.lookup x = some .local := by rfl) (hy : X.env.scope.names.lookup y = some .local := by rfl)
    (hs : swapsWithSole [.Tuple [.Name x px, .Name y py] kt pt] (.Tuple [a, b] k2 pt2) pos.line X.env = pure false := by rfl) :
    PS X (.Assign [.Tuple [.Name x px, .Name y py] kt pt] (.Tuple [a, b] k2 pt2) pos) (tsD X.K X.mg fl fl' fL fr (sPar i j fa)) :=
  PS_imp (ps_par hc hN hi hj hij hx hy ha hw hs) fun E σ H ⟨c, G, δ, o, sr, e, ok⟩ => by
    obtain ⟨ds, e1, e2⟩ := bind_some e
    subst hf
    refine ⟨_, δ, ds, sr.er, e1, fun vs H' s r => ?_⟩
    match ds, vs, r with
    | [da, db], [v, w], r =>
      cases e2
      have h1 := okSet_of hl
      have hu : RepU X.K X.mg (FF c.M0 G fl) H' [(i, v), (j, w)] [(i, da), (j, db)] := ⟨⟨rfl, r.1.2 rfl⟩, ⟨rfl, r.2.1.2 rfl⟩, trivial⟩
      exact ⟨v, w, rfl, ok _ _ H' ((sr.same s).setU (as := [(i, da), (j, db)]) h1 hu)⟩
    | [], _ :: _, r => exact r.elim
    | [], [], r => exact r.elim
    | [_], [], r => exact r.elim
    | [_], [_], r => exact r.2.elim
    | [_], _ :: _ :: _, r => exact r.2.elim
    | _ :: _ :: _, [], r => exact r.elim
    | _ :: _ :: _, [_], r => exact r.2.elim
    | _ :: _ :: _ :: _, [_, _], r => exact r.2.2.elim
    | _ :: _ :: [], _ :: _ :: _ :: _, r => exact r.2.2.elim
    | _ :: _ :: _ :: _, _ :: _ :: _ :: _, r => exact r.2.2.elim
end
end DL

end

section
set_option Elab.async false
set_option linter.all false
set_option maxRecDepth 100000
namespace DL
open PySem PySem.Spec PyProof.Rows L2
section
variable {K : PySem.W.Frag} {mg : Mg} {c : Ctx} {fl fl1 fl' fL fr : List Fl} {f g : DS}
/-- behind the loop: the base that the loop had is let go -/
theorem OutOk.push {E : Ends} {o : Out} {H1 : Hp} {C1 : AP1} (hne : ∃ H0 Chg, c.B H0 Chg) (h : OutOk K mg c fl' fL fr E o) : OutOk K mg (c.add H1 C1) fl' fL fr E o := by
  cases o with
  | nx δ => exact fun G σ H sr => h G σ H (sr.pop hne)
  | bk δ => exact fun G σ H sr => h G σ H (sr.pop hne)
  | ct δ => exact fun G σ H sr => h G σ H (sr.pop hne)
  | rt d δ => exact fun G σ H v sr r => h G σ H v (sr.pop hne) r
  | rn d δ => exact fun G σ H p xs sr a b c' d' => h G σ H p xs (sr.pop hne) a b c' fun H0 Chg hB => d' H0 Chg (.inl hB)
  | r2 d δ => exact fun G σ H p xs sr a b c' d' e' => h G σ H p xs (sr.pop hne) a b c' d' fun a ha H0 Chg hB => e' a ha H0 Chg (.inl hB)
theorem walk_go {c : Ctx} {G G0 : Nat → List Addr} {fl : List Fl} {σ : L2.St} {H H1 : Hp} {δ : DSt} {fl0 : List Fl} {J : It} {ds : List D} (sr : SR K mg (c.add H1 (ownA G0 fl0)) G fl σ H δ) (w : WalkR K mg (fun b => ¬ FF c.M0 G0 fl0 b) J (FF c.M0 G0 fl0) ds H1) :
    (∀ i d, ds[i]? = some d → J.go i H ∧ ∀ x H', J.yld i H x H' → Same H H' ∧ Rep K mg (FF c.M0 G fl) H' x d) ∧ J.stop ds.length H := by
  refine w H (FF c.M0 G fl) (fun b o e n => sr.base H1 _ (.inr ⟨rfl, rfl⟩) b o e fun z => n (.inr z)) (fun b e z => ?_) sr.dom
  rcases z with z | ⟨i, k, ek, ok, m⟩
  · exact .inl z
  · rcases (sr.fresh i k b ek ok m).2.2 H1 _ (.inr ⟨rfl, rfl⟩) with w | w
    · exact absurd w e
    · exact .inr w
end
section
variable {X : Cx} {fl fl1 fl' fL fr flb : List Fl} {f g : DS} {st : Stmt} {sts rest : List Stmt} {pos p1 p2 apos cpos : Pos} {e e2 : Expr} {fe ge : DE} {fa : DA} {ft : DT} {x : Str} {i j : Nat}
theorem s_for {tg iter : Expr} {body : List Stmt} {it : DI} {ga : Tg} {gt : TG} {is : List Nat} (hp : PassesOwn (model X.prog X.w) X.A X.env X.xe) (hc : X.calm = true) (hi : PI X tg iter (tIc X.K X.mg fl it)) (hg : PG X tg gt) (hT : TGR X.K X.mg gt ga is)
    (hb : PSs X body (tsD X.K X.mg fl flb fl fr f)) (hw : wkL flb fl = true := by rfl) (hl : (okSet fl is && is.all fun i => decide (fl[i]? = some .cl)) = true := by rfl)
    (hs : ∀ x, foldedSetIterable iter X.env x = pure x := by intro _; rfl) : PS X (.For tg iter body [] pos) (tsD X.K X.mg fl fl fL fr (sFor it ga f)) :=
  PS_imp (ps_for hp hc hi hg hb hs) fun E σ H ⟨c, G, δ, o, sr, e, ok⟩ => by
    obtain ⟨ds, e1, e2⟩ := bind_some e
    rw [Bool.and_eq_true] at hl
    have hls := okSet_of hl.1
    have hcl : ∀ i ∈ is, fl[i]? = some .cl := fun i hi => of_decide_eq_true (List.all_eq_true.mp hl.2 i hi)
    have hfl : setF fl is = fl := by
      clear hls hl hT hb hg hi
      induction is with
      | nil => rfl
      | cons a is ih =>
        show setF (fl.set a .cl) is = fl
        rw [set_id (hcl a List.mem_cons_self)]
        exact ih fun i hi => hcl i (List.mem_cons_of_mem _ hi)
    refine ⟨_, δ, ds, sr.er, e1, fun J H1 s w => ?_⟩
    have sr1 : SR X.K X.mg (c.add H1 (ownA G fl)) G fl σ H1 δ := (sr.same s).push
    have hne := sr.hne
    refine ⟨fun i m σ' H' => m = ds.length - i ∧ i ≤ ds.length ∧ ∃ G' δ', SR X.K X.mg (c.add H1 (ownA G fl)) G' fl σ' H' δ' ∧ forGo ga f (ds.drop i) δ' = some o, ⟨ds.length, by rw [Nat.sub_zero], Nat.zero_le _, G, δ, sr1, by rw [List.drop_zero]; exact e2⟩, ?_⟩
    rintro i m σ' H' ⟨rfl, hi, G', δ', sr', ego⟩
    obtain ⟨wi, ws⟩ := walk_go sr' w
    by_cases hlt : i < ds.length
    · refine .inr ?_
      have ed : ds[i]? = some ds[i] := List.getElem?_eq_getElem hlt
      obtain ⟨go, yl⟩ := wi i _ ed
      rw [List.drop_eq_getElem_cons hlt] at ego
      obtain ⟨as, ea, ego⟩ := bind_some ego
      obtain ⟨ob, eb, ego⟩ := bind_some ego
      refine ⟨go, fun σ2 H2 => ∃ G' δ', SR X.K X.mg (c.add H1 (ownA G fl)) G' fl σ2 H2 δ' ∧ forGo ga f (ds.drop (i + 1)) δ' = some o, fun σ2 H2 z => ⟨ds.length - (i + 1), by omega, rfl, hlt, z⟩, fun v H2 y => ?_⟩
      obtain ⟨sy, ry⟩ := yl v H2 y
      obtain ⟨ei, tr⟩ := hT _ v σ' H2 (fun σ2 H2 => tsD X.K X.mg fl flb fl fr f { E with nx := fun σ2 H2 => ∃ G' δ', SR X.K X.mg (c.add H1 (ownA G fl)) G' fl σ2 H2 δ' ∧ forGo ga f (ds.drop (i + 1)) δ' = some o, ct := fun σ2 H2 => ∃ G' δ', SR X.K X.mg (c.add H1 (ownA G fl)) G' fl σ2 H2 δ' ∧ forGo ga f (ds.drop (i + 1)) δ' = some o, bk := E.nx } σ2 H2) _ as ry ea
      refine tr fun us ru => ?_
      have z := (sr'.same sy).setU (as := as) (by rw [ei]; exact hls) ru
      rw [ei, hfl] at z
      refine ⟨_, _, _, ob, z, eb, ?_⟩
      refine OutOk.ends (fl1 := fl) (E := E) (fun δ1 h1 G1 σ1 H1' sr1 => ?_) (fun δ1 h1 G1 σ1 H1' sr1 => ?_) (fun δ1 h1 G1 σ1 H1' sr1 => ?_) rfl fun h1 h2 h3 => ?_
      · subst h1
        exact ⟨G1, δ1, sr1.weak hw, ego⟩
      · subst h1
        cases ego
        exact ok G1 σ1 H1' (sr1.pop hne)
      · subst h1
        exact ⟨G1, δ1, sr1, ego⟩
      · cases ob with
        | nx δ => exact absurd rfl (h1 δ)
        | bk δ => exact absurd rfl (h2 δ)
        | ct δ => exact absurd rfl (h3 δ)
        | rt d δ => cases ego; exact OutOk.push (o := .rt d δ) hne ok
        | rn d δ => cases ego; exact OutOk.push (o := .rn d δ) hne ok
        | r2 d δ => cases ego; exact OutOk.push (o := .r2 d δ) hne ok
    · have he : i = ds.length := by omega
      subst he
      rw [List.drop_length] at ego
      cases ego
      exact .inl ⟨ws, ok G' σ' H' (sr'.pop hne)⟩
theorem s_while (n : Nat) {c : Expr} {body : List Stmt} (hp : PassesOwn (model X.prog X.w) X.A X.env X.xe) (hc : PT X c (tT X.K X.mg fl ft)) (hb : PSs X body (tsD X.K X.mg fl flb fl fr f)) (hw : wkL flb fl = true := by rfl) :
    PS X (.While c body [] pos) (tsD X.K X.mg fl fl fL fr (whGo ft f n)) :=
  PS_imp (ps_while hp hc hb) fun E σ H ⟨c, G, δ, o, sr, e, ok⟩ => by
    refine ⟨fun m σ' H' => ∃ G' δ', SR X.K X.mg c G' fl σ' H' δ' ∧ whGo ft f m δ' = some o, ⟨n, G, δ, sr, e⟩, ?_⟩
    rintro m σ' H' ⟨G', δ', sr', ego⟩
    cases m with
    | zero => cases ego
    | succ m =>
      obtain ⟨b, eb, ego⟩ := bind_some ego
      refine ⟨_, δ', b, sr'.er, eb, fun H2 s2 => ?_⟩
      cases b with
      | true =>
        rw [if_pos rfl] at ego
        obtain ⟨ob, eo, ego⟩ := bind_some ego
        refine iteT ⟨fun σ2 H2 => ∃ G' δ', SR X.K X.mg c G' fl σ2 H2 δ' ∧ whGo ft f m δ' = some o, fun σ2 H2 z => ⟨m, Nat.lt_succ_self m, z⟩, c, G', δ', ob, sr'.same s2, eo, ?_⟩
        refine OutOk.ends (fl1 := fl) (E := E) (fun δ1 h1 G1 σ1 H1' sr1 => ?_) (fun δ1 h1 G1 σ1 H1' sr1 => ?_) (fun δ1 h1 G1 σ1 H1' sr1 => ?_) rfl fun h1 h2 h3 => ?_
        · subst h1
          exact ⟨G1, δ1, sr1.weak hw, ego⟩
        · subst h1
          cases ego
          exact ok G1 σ1 H1' sr1
        · subst h1
          exact ⟨G1, δ1, sr1, ego⟩
        · cases ob with
          | nx δ => exact absurd rfl (h1 δ)
          | bk δ => exact absurd rfl (h2 δ)
          | ct δ => exact absurd rfl (h3 δ)
          | rt d δ => cases ego; exact ok
          | rn d δ => cases ego; exact ok
          | r2 d δ => cases ego; exact ok
      | false =>
        rw [if_neg Bool.false_ne_true] at ego
        cases ego
        exact iteF (ok G' σ' H2 (sr'.same s2))

/-! ### own lists written -/
theorem own_kind {o : Option Fl} (h : o = some .ow ∨ o = some .io) : ∃ k, o = some k ∧ (k = .ow ∨ k = .io) := h.elim (fun z => ⟨_, z, .inl rfl⟩) fun z => ⟨_, z, .inr rfl⟩
theorem at_lst {c : Ctx} {G : Nat → List Addr} {σ : L2.St} {H : Hp} {δ : DSt} {ds : List D} (sr : SR X.K X.mg c G fl σ H δ) (hk : fl[i]? = some .ow ∨ fl[i]? = some .io) (e : lstAt i δ = some ds) :
    ∃ p xs, G i = [p] ∧ σ[i]? = some (some (.ref p)) ∧ H p = some (.lst xs) ∧ RepL X.K X.mg (FF c.M0 G fl) H xs ds := by
  obtain ⟨k, ek, kk⟩ := own_kind hk
  obtain ⟨p, xs, ds', eg, es, ed, t, l⟩ := sr.at_ow ek kk
  have z := lstAt_of e
  rw [ed] at z
  cases z
  exact ⟨p, xs, eg, es, t, l⟩
theorem SR.put' {c : Ctx} {G : Nat → List Addr} {σ : L2.St} {H : Hp} {δ : DSt} (h : SR X.K X.mg c G fl σ H δ) {p : Addr} {ys : List V} {es : List D} (hk : fl[i]? = some .ow ∨ fl[i]? = some .io) (ep : σ[i]? = some (some (.ref p))) (r : RepL X.K X.mg (FF c.M0 G fl) H ys es) :
    SR X.K X.mg c G fl σ (upd H p (.lst ys)) (δ.set i (some (.lst es))) := by
  obtain ⟨k, ek, kk⟩ := own_kind hk
  exact h.put ek kk ep r
/-- xs.append(e) -/
theorem s_app (i : Nat) (he : PE X e (tD X.K X.mg fl fe)) (hk : fl[i]? = some .ow ∨ fl[i]? = some .io := by first | exact .inl rfl | exact .inr rfl) (hx : X.N[i]? = some x := by rfl)
    (hv : Vis X.env.scope x := by first | exact Or.inl rfl | exact Or.inr (Or.inl rfl) | exact Or.inr (Or.inr rfl)) (hs : swapsWith (.Call (.Attribute (.Name x p1) "append" apos) [e] [] cpos) none pos.line X.env = pure false := by rfl)
    (hd : (x == ("__debug__" : Str)) = false := by decide) (hcd : (x == ("__classdict__" : Str)) = false := by decide)
    (hbase : attributeBase (.Name x p1) "append" X.env (eval (.Name x p1) X.env) = eval (.Name x p1) X.env := by rfl)
    (hfew : ((backTo cpos (starEach [e] X.env)).all (fun x => !x.1) && (backToKw cpos (keywordEach [] X.env)).all (fun x => x.1.isSome)
      && decide (([e] : List Expr).length + ([] : List Keyword).length + (if ([] : List Keyword).isEmpty then 0 else 1) < 30)) = true := by rfl)
    (hline : (apos.endLine == cpos.line) = true := by rfl) (hst : starEach [e] X.env = (false, eval e X.env) :: starEach [] X.env := by rfl) (hplain : (backTo cpos (starEach [] X.env)).any (·.1) = false := by rfl) :
    PS X (.Expr (.Call (.Attribute (.Name x p1) "append" apos) [e] [] cpos) pos) (tsD X.K X.mg fl fl fL fr (sApp i fe)) :=
  PS_imp (ps_expr (pe_bm PySem.F.plainAttrs_list PySem.F.slot_list_append PySem.F.type_list_append mt_append (pe_var hx hv hd hcd) (pa_cons he pa_nil hst) hbase hfew hline hst hplain) hs) fun E σ H ⟨c, G, δ, o, sr, e, ok⟩ => by
    obtain ⟨ds, e1, e2⟩ := bind_some e
    obtain ⟨d, e3, e4⟩ := bind_some e2
    split at e4
    case isFalse => cases e4
    rename_i hz
    cases e4
    obtain ⟨p, xs, eg, es, t, l⟩ := at_lst sr hk e1
    refine ⟨_, es, .inl ⟨rfl, xs, SqL.of t⟩, _, δ, d, sr.er, e3, fun v H' s r => ⟨p, xs, v, rfl, rfl, s _ _ t, by rw [l.len]; exact hz, ?_⟩⟩
    exact ok G σ _ ((sr.same s).put' hk es ((l.same s).append (.cons r .nil)))
/-- xs[k] = e -/
theorem s_setI (i : Nat) {ie : Expr} {fi : DE} {spos : Pos} (he : PE X e (tD X.K X.mg fl fe)) (hi : PE X ie (tB X.K X.mg fl fi)) (hk : fl[i]? = some .ow ∨ fl[i]? = some .io := by first | exact .inl rfl | exact .inr rfl) (hx : X.N[i]? = some x := by rfl)
    (hv : Vis X.env.scope x := by first | exact Or.inl rfl | exact Or.inr (Or.inl rfl) | exact Or.inr (Or.inr rfl)) (hd : (x == ("__debug__" : Str)) = false := by decide) (hcd : (x == ("__classdict__" : Str)) = false := by decide)
    (ha : ∀ v, assign (.Subscript (.Name x p1) ie spos) X.env v = (do
      let ov ← holding [v] (eval (.Name x p1) X.env)
      let iv ← holding [v, ov] (eval ie X.env)
      standAt spos
      holding [v, ov, iv] (setItem ov iv v)
      release [v, ov, iv] []) := by intro _; rfl)
    (hs : swapsWithSole [.Subscript (.Name x p1) ie spos] e pos.line X.env = pure false := by rfl) (hw : swappedStores [.Subscript (.Name x p1) ie spos] e X.env = pure none := by rfl) (h1 : (assignEach [.Subscript (.Name x p1) ie spos] X.env).map (·.2) = [assign (.Subscript (.Name x p1) ie spos) X.env] := by rfl) :
    PS X (.Assign [.Subscript (.Name x p1) ie spos] e pos) (tsD X.K X.mg fl fl fL fr (sSetI i fi fe)) :=
  PS_imp (ps_asg he (pg_sub (pe_var hx hv hd hcd) hi set_list ha) hs hw h1) fun E σ H ⟨c, G, δ, o, sr, e, ok⟩ => by
    obtain ⟨d, e1, e2⟩ := bind_some e
    obtain ⟨ds, e3, e4⟩ := bind_some e2
    obtain ⟨k, e5, e6⟩ := bind_some e4
    obtain ⟨ds', e7, rfl⟩ := map_some e6
    cases k with
    | int k =>
      obtain ⟨q, e8, rfl⟩ := map_some e7
      obtain ⟨p, xs, eg, es, t, l⟩ := at_lst sr hk e3
      refine ⟨_, δ, d, sr.er, e1, fun v H1 s1 r1 => ⟨_, es, _, δ, _, (sr.same s1).er, e5, fun u H2 s2 r2 => ?_⟩⟩
      have eu := r2.int
      subst eu
      exact ⟨p, xs, k, q, rfl, rfl, s2 _ _ (s1 _ _ t), by rw [l.len]; exact e8, ok G σ _ (((sr.same s1).same s2).put' hk es (((l.same s1).same s2).set (r1.same s2) q))⟩
    | _ => cases e7
end
end DL

end

section
set_option Elab.async false
set_option linter.all false
set_option maxRecDepth 100000
namespace DL
open PySem PySem.Spec PyProof.Rows L2
/-! ### defs -/
def flA (bs : List Bool) (n : Nat) : List Fl := bs.map (fun b => if b = true then .cl else .bw) ++ List.replicate (n - bs.length) .cl
def flN (n : Nat) : List Fl := List.replicate n .no
def stD (n : Nat) (ds : List D) : DSt := ds.map some ++ List.replicate (n - ds.length) none
def runD (n : Nat) (f : DS) (ds : List D) : Option D := (f (stD n ds)).bind fun o => match o with
  | .nx _ => some .non
  | .rt d _ => some d
  | _ => none
def runN (n : Nat) (f : DS) (ds : List D) : Option (List D) := (f (stD n ds)).bind fun o => match o with
  | .rn d _ => some d
  | _ => none
def run2 (n : Nat) (f : DS) (ds : List D) : Option (List D) := (f (stD n ds)).bind fun o => match o with
  | .r2 d _ => some d
  | _ => none
section
variable (K : PySem.W.Frag) (mg : Mg) (bs : List Bool)
def spD (f : List D → Option D) : Sp := fun vs H Q _ => ∃ F ds d, (∀ a, F a → H a ≠ none) ∧ RepAs K mg F H bs vs ds ∧ f ds = some d ∧ ∀ v H', Same H H' → Rep K mg F H' v d → Q v H'
def spN (f : List D → Option (List D)) : Sp := fun vs H Q _ => ∃ F ds es, (∀ a, F a → H a ≠ none) ∧ RepAs K mg F H bs vs ds ∧ f ds = some es ∧ ∀ p xs H', Same H H' → H p = none → H' p = some (.lst xs) → RepL K mg (fun b => F b ∨ b = p) H' xs es → Q (.ref p) H'
def sp2 (f : List D → Option (List D)) : Sp := fun vs H Q _ => ∃ F ds es, (∀ a, F a → H a ≠ none) ∧ RepAs K mg F H bs vs ds ∧ f ds = some es ∧ ∀ p ps H', Same H H' → (∀ a ∈ p :: ps, H a = none) → (p :: ps).Nodup → H' p = some (.lst (ps.map V.ref)) → InnL K mg (fun b => F b ∨ b ∈ p :: ps) H' ps es → Q (.ref p) H'
end
section
variable {K : PySem.W.Frag} {mg : Mg} {F : AP1} {H : Hp}
theorem RepAs.get : ∀ {bs : List Bool} {vs : List V} {ds : List D} {i : Nat} {d : D}, RepAs K mg F H bs vs ds → ds[i]? = some d → ∃ b v, bs[i]? = some b ∧ vs[i]? = some v ∧ RepB K mg F H v d ∧ (b = true → Rep K mg F H v d)
  | [], [], [], i, _, _, e => by simp at e
  | b :: bs, v :: vs, d :: ds, 0, _, h, e => ⟨b, v, rfl, rfl, by
    have e' := Option.some.inj e
    subst e'
    exact h.1⟩
  | _ :: bs, v :: vs, d :: ds, i + 1, _, h, e => RepAs.get (i := i) h.2 e
  | [], _ :: _, _, _, _, h, _ => h.elim
  | [], [], _ :: _, _, _, h, _ => h.elim
  | _ :: _, [], _, _, _, h, _ => h.elim
  | _ :: _, _ :: _, [], _, _, h, _ => h.elim
theorem app_get {α : Type} {xs : List α} {x : α} {n i : Nat} {y : α} (h : (xs ++ List.replicate n x)[i]? = some y) : (i < xs.length ∧ xs[i]? = some y) ∨ (xs.length ≤ i ∧ y = x) := by
  by_cases hi : i < xs.length
  · rw [List.getElem?_append_left hi] at h
    exact .inl ⟨hi, h⟩
  · rw [List.getElem?_append_right (by omega)] at h
    have := List.mem_of_getElem? h
    exact .inr ⟨by omega, (List.mem_replicate.mp this).2⟩
/-- the state at a def's entry -/
theorem SR.start {N : List Str} {bs : List Bool} {vs : List V} {ds : List D} (hd : ∀ a, F a → H a ≠ none) (r : RepAs K mg F H bs vs ds) (hn : bs.length ≤ N.length) :
    SR K mg ⟨fun H0 Chg => H0 = H ∧ Chg = fun _ => False, F, []⟩ (fun _ => []) (flA bs N.length) (L2.start N vs) H (stD N.length ds) := by
  obtain ⟨l1, l2⟩ := r.len
  have own : ∀ (i : Nat) (k : Fl), (flA bs N.length)[i]? = some k → k = .cl ∨ k = .bw := fun i k e => by
    rcases app_get e with ⟨_, e⟩ | ⟨_, e⟩
    · rw [List.getElem?_map] at e
      obtain ⟨b, _, rfl⟩ := map_some e
      cases b
      · exact .inr rfl
      · exact .inl rfl
    · exact .inl e
  have noOwn : ∀ (i : Nat) (k : Fl), (flA bs N.length)[i]? = some k → k.own = true → False := fun i k e o => by
    rcases own i k e with z | z <;> rw [z] at o <;> cases o
  refine ⟨⟨H, _, rfl, rfl⟩, hd, fun H0 Chg hB b e => by rw [← hB.1]; exact e, fun H0 Chg hB b o e _ => by rw [← hB.1]; exact e, ?_, ?_, fun i d k ek nk ed => ?_, fun i k ek ok => (noOwn i k ek ok).elim, fun i k a ek ok => (noOwn i k ek ok).elim, fun i j k l a ek ok => (noOwn i k ek ok).elim, fun q => ⟨(fun z => nomatch z), fun z => by
    have z1 := z.1
    cases q2 : (flA bs N.length)[q.1]? with
    | none => rw [q2] at z1; cases z1
    | some l => rw [q2] at z1; rcases own _ l q2 with w | w <;> (rw [w] at z1; cases z1)⟩⟩
  · show (L2.start N vs).length = _
    unfold L2.start flA
    rw [List.length_append, List.length_append, List.length_map, List.length_map, List.length_replicate, List.length_replicate, l1]
  · unfold stD flA
    rw [List.length_append, List.length_append, List.length_map, List.length_map, List.length_replicate, List.length_replicate, l2]
  · rcases app_get ed with ⟨hl, ed⟩ | ⟨_, e⟩
    · rw [List.getElem?_map] at ed
      obtain ⟨d', ed', e2⟩ := map_some ed
      cases e2
      obtain ⟨b, v, eb, ev, r1, r2⟩ := r.get ed'
      have hlb := (List.getElem?_eq_some_iff.mp eb).1
      have hlv := (List.getElem?_eq_some_iff.mp ev).1
      refine ⟨v, ?_, ?_⟩
      · show (vs.map some ++ _)[i]? = _
        rw [List.getElem?_append_left (by rw [List.length_map]; exact hlv), List.getElem?_map, ev]
        rfl
      · have ek' : (flA bs N.length)[i]? = some (if b = true then .cl else .bw) := by
          unfold flA
          rw [List.getElem?_append_left (by rw [List.length_map]; exact hlb), List.getElem?_map, eb]
          rfl
        rw [ek] at ek'
        have ek2 := Option.some.inj ek'
        have kp : Kp F (FF F (fun _ => []) (flA bs N.length)) H H := fun b o e n => ⟨e, fun z => z.elim n fun ⟨_, _, _, _, m⟩ => nomatch m⟩
        cases b with
        | true =>
          have hk : k = .cl := ek2
          subst hk
          exact Rep.stay kp _ _ (r2 rfl)
        | false =>
          have hk : k = .bw := ek2
          subst hk
          rcases r1 with r1 | ⟨a, xs, es, e1, e2, t, l⟩
          · exact .inl (Rep.stay kp _ _ r1)
          · exact .inr ⟨a, xs, es, e1, e2, t, RepL.stay kp _ _ l, fun H0 Chg hB => by
              obtain ⟨rfl, rfl⟩ := hB
              exact ⟨by rw [t]; exact (fun z => nomatch z), fun z => z⟩⟩
    · cases e
theorem flN_own {n i : Nat} {k : Fl} (e : (flN n)[i]? = some k) : k = .no := (List.mem_replicate.mp (List.mem_of_getElem? e)).2
theorem FF_N {M0 : AP1} {G : Nat → List Addr} {n : Nat} {a : Addr} : FF M0 G (flN n) a ↔ M0 a :=
  ⟨(fun z => z.elim id fun ⟨_, _, e, o, _⟩ => by rw [flN_own e] at o; cases o), .inl⟩
theorem kp_N {M0 : AP1} {G : Nat → List Addr} {n : Nat} {H : Hp} : Kp (FF M0 G (flN n)) M0 H H := fun b o e n => ⟨e, fun z => n (.inl z)⟩
end
section
variable {P : Program} {w : World} {K : PySem.W.Frag} {mg : Str → Option Value} {base : Heap} {x qual : Str} {st : Stmt} {f : Addr} {fd : FuncData} {N ps : List Str} {k : Nat} {bs : List Bool} {fb : DS}
def BodyOk (P : Program) (w : World) (K : PySem.W.Frag) (mg : Str → Option Value) (base : Heap) (qual : Str) (st : Stmt) (f : Addr) (N : List Str) (k : Nat) (fl fr : List Fl) (fb : DS) : Prop :=
  ∀ (cdv : Value) (A : Around) (outer : List Env) (s : Shared) (H : Hp) (E : XK), Room k (A.deeper (envOfC qual (defScope st) s.heap.objs.size f cdv)) →
    ∃ fl', wkL fl' fr = true ∧ PSs (cxOf CX0 P w K mg base N qual (defScope st) f cdv A outer s H E).nox (defBody st) (tsD K mg fl fl' (flN N.length) fr fb)
theorem fnD (F : Fun K x qual st f fd) (S : FnScope N ps (defScope st)) (h : BodyOk P w K mg base qual st f N k (flA bs N.length) (flN N.length) fb) (hb : bs.length = ps.length := by rfl) (hn : bs.length ≤ N.length := by decide) :
    FnOk P w K mg base CX0 (k + 1) f fd ps (spD K mg bs (runD N.length fb)) := by
  refine F.ok S (fun vs H Q E ⟨F, ds, d, _, r, _⟩ => by rw [r.len.1, hb]) fun cdv A outer s H vs Q E hr ⟨F, ds, d, hd, r, ef, q⟩ => ?_
  obtain ⟨fl', hw, hp⟩ := h cdv A outer s H E hr
  refine ⟨_, hp, ?_⟩
  obtain ⟨o, eo, ed⟩ := bind_some ef
  refine ⟨_, _, _, o, SR.start hd r hn, eo, ?_⟩
  cases o with
  | nx δ =>
    cases ed
    intro G σ H' sr
    exact q .non H' (fun b o e => sr.base H _ ⟨rfl, rfl⟩ b o e fun z => z) .non
  | rt d' δ =>
    cases ed
    intro G σ H' v sr rv
    exact q v H' (fun b o e => sr.base H _ ⟨rfl, rfl⟩ b o e fun z => z) (Rep.stay kp_N _ _ rv)
  | _ => cases ed
theorem fnN (F : Fun K x qual st f fd) (S : FnScope N ps (defScope st)) (h : BodyOk P w K mg base qual st f N k (flA bs N.length) (flN N.length) fb) (hb : bs.length = ps.length := by rfl) (hn : bs.length ≤ N.length := by decide) :
    FnOk P w K mg base CX0 (k + 1) f fd ps (spN K mg bs (runN N.length fb)) := by
  refine F.ok S (fun vs H Q E ⟨F, ds, d, _, r, _⟩ => by rw [r.len.1, hb]) fun cdv A outer s H vs Q E hr ⟨F, ds, d, hd, r, ef, q⟩ => ?_
  obtain ⟨fl', hw, hp⟩ := h cdv A outer s H E hr
  refine ⟨_, hp, ?_⟩
  obtain ⟨o, eo, ed⟩ := bind_some ef
  refine ⟨_, _, _, o, SR.start hd r hn, eo, ?_⟩
  cases o with
  | rn d' δ =>
    cases ed
    intro G σ H' p xs sr t l nF fr
    refine q p xs H' (fun b o e => sr.base H _ ⟨rfl, rfl⟩ b o e fun z => z) ((fr H _ ⟨rfl, rfl⟩).elim id fun z => z.elim) t (RepL.stay (fun b o e n => ⟨e, fun z => n (z.elim (fun z => .inl (.inl z)) .inr)⟩) _ _ l)
  | _ => cases ed
theorem fn2 (F : Fun K x qual st f fd) (S : FnScope N ps (defScope st)) (h : BodyOk P w K mg base qual st f N k (flA bs N.length) (flN N.length) fb) (hb : bs.length = ps.length := by rfl) (hn : bs.length ≤ N.length := by decide) :
    FnOk P w K mg base CX0 (k + 1) f fd ps (sp2 K mg bs (run2 N.length fb)) := by
  refine F.ok S (fun vs H Q E ⟨F, ds, d, _, r, _⟩ => by rw [r.len.1, hb]) fun cdv A outer s H vs Q E hr ⟨F, ds, d, hd, r, ef, q⟩ => ?_
  obtain ⟨fl', hw, hp⟩ := h cdv A outer s H E hr
  refine ⟨_, hp, ?_⟩
  obtain ⟨o, eo, ed⟩ := bind_some ef
  refine ⟨_, _, _, o, SR.start hd r hn, eo, ?_⟩
  cases o with
  | r2 d' δ =>
    cases ed
    intro G σ H' p ps sr t nd l nF fr
    refine q p ps H' (fun b o e => sr.base H _ ⟨rfl, rfl⟩ b o e fun z => z) (fun a ha => (fr a ha H _ ⟨rfl, rfl⟩).elim id fun z => z.elim) nd t (l.imp (fun _ _ _ e => e) fun _ _ r => RepL.stay (fun b o e n => ⟨e, fun z => n (z.elim (fun z => .inl (.inl z)) .inr)⟩) _ _ r)
  | _ => cases ed
end
/-! ### calls -/
section
variable {X : Cx} {k : Nat} {fl : List Fl} {f : Addr} {fd : FuncData} {ps : List Str} {x : Str} {p pos apos : Pos} {e : Expr} {es : List Expr} {bs : List Bool} {fa : DA} {ff : List D → Option D} {fn : List D → Option (List D)}
def dCal (ff : List D → Option D) (fa : DA) : DE := fun δ => (fa δ).bind ff
def aCal (ff : List D → Option (List D)) (fa : DA) : DA := fun δ => (fa δ).bind ff
theorem dCallF (F : FnOk X.prog X.w X.K X.mg X.base CX0 k f fd ps (spD X.K X.mg bs ff)) (hr : Room k X.A) (hm : X.mg x = some (.ref f)) (hk : PySem.W.keepIn X.K (.ref f) = true) (hb : Binds X.K fd ps []) (ha : PA X (e :: es) (tAs X.K X.mg fl bs fa)) (hg : Gl X x := by rfl)
    (hdb : (x == ("__debug__" : Str)) = false := by decide) (he : starEach (e :: es) X.env = (false, eval e X.env) :: starEach es X.env := by rfl) (hpl : (backTo pos (starEach es X.env)).any (·.1) = false := by rfl) :
    PE X (.Call (.Name x p) (e :: es) [] pos) (tD X.K X.mg fl (dCal ff fa)) :=
  PE_imp (pe_call F hr hg hm hk hb .nil pass0 ha hdb he hpl) fun σ H Q ⟨F, δ, d, er, ef, q⟩ => by
    obtain ⟨ds, e1, e2⟩ := bind_some ef
    refine ⟨F, δ, ds, er, e1, fun vs H' s r => ?_⟩
    refine ⟨F, ds, d, dom_same s er.dom, by rw [List.append_nil]; exact r, e2, fun v H2 s2 r2 => q v H2 (s.trans s2) r2⟩
theorem nCallF (F : FnOk X.prog X.w X.K X.mg X.base CX0 k f fd ps (spN X.K X.mg bs fn)) (hr : Room k X.A) (hm : X.mg x = some (.ref f)) (hk : PySem.W.keepIn X.K (.ref f) = true) (hb : Binds X.K fd ps []) (ha : PA X (e :: es) (tAs X.K X.mg fl bs fa)) (hg : Gl X x := by rfl)
    (hdb : (x == ("__debug__" : Str)) = false := by decide) (he : starEach (e :: es) X.env = (false, eval e X.env) :: starEach es X.env := by rfl) (hpl : (backTo pos (starEach es X.env)).any (·.1) = false := by rfl) :
    PE X (.Call (.Name x p) (e :: es) [] pos) (tN X.K X.mg fl (aCal fn fa)) :=
  PE_imp (pe_call F hr hg hm hk hb .nil pass0 ha hdb he hpl) fun σ H Q ⟨F, δ, d, er, ef, q⟩ => by
    obtain ⟨ds, e1, e2⟩ := bind_some ef
    refine ⟨F, δ, ds, er, e1, fun vs H' s r => ?_⟩
    refine ⟨F, ds, d, dom_same s er.dom, by rw [List.append_nil]; exact r, e2, fun p xs H2 s2 n2 t2 r2 => q p xs H2 (s.trans s2) (s.free n2) t2 r2⟩
end
end DL

end

section
set_option Elab.async false
set_option linter.all false
set_option maxRecDepth 100000
namespace DL
open PySem PySem.Spec PyProof.Rows L2
/-! ### blocks by a look at the names -/
def blkC (N : List Str) (sc scope : Scope) (own : List (Str × Nat)) : Bool :=
  decide (scope.kind = .function) && scope.names.all (fun y => decide (scope.names.lookup y.1 = some y.2)) && own.all (fun p => decide (N[p.2]? = some p.1)) &&
  scope.names.all (fun y => !decide (y.2 = .free) || decide (sc.names.lookup y.1 = some .cell) || decide (sc.names.lookup y.1 = some .free)) &&
  scope.names.all fun y => !(decide (y.2 = .local) || decide (y.2 = .cell)) || (own.map (·.1)).elem y.1 || !N.elem y.1
theorem blk_by {N : List Str} {sc scope : Scope} {own : List (Str × Nat)} (h : blkC N sc scope own = true) : BlkOk N sc scope own := by
  unfold blkC at h
  rw [Bool.and_eq_true, Bool.and_eq_true, Bool.and_eq_true, Bool.and_eq_true] at h
  obtain ⟨⟨⟨⟨h1, h2⟩, h3⟩, h4⟩, h5⟩ := h
  refine ⟨of_decide_eq_true h1, fun y hy => of_decide_eq_true (List.all_eq_true.mp h2 y hy), fun p hp => of_decide_eq_true (List.all_eq_true.mp h3 p hp), fun y hy e => ?_, fun y hy e => ?_⟩
  · have z := List.all_eq_true.mp h4 y hy
    rw [Bool.or_eq_true, Bool.or_eq_true] at z
    rcases z with (z | z) | z
    · rw [e] at z
      cases z
    · exact .inl (of_decide_eq_true z)
    · exact .inr (of_decide_eq_true z)
  · have z := List.all_eq_true.mp h5 y hy
    rw [Bool.or_eq_true, Bool.or_eq_true] at z
    rcases z with (z | z) | z
    · exfalso
      rcases e with e | e
      · rw [e] at z
        cases z
      · rw [e] at z
        cases z
    · exact .inl (List.elem_iff.mp z)
    · refine .inr fun w => ?_
      have w' : N.elem y.1 = true := List.elem_iff.mpr w
      rw [w'] at z
      cases z
/-! ### defs by their names -/
structure Df (K : PySem.W.Frag) (mg : Str → Option Value) (x qual : Str) (st : Stmt) (ps : List Str) : Prop where
  ex : ∃ f fd, Fun K x qual st f fd ∧ mg x = some (.ref f) ∧ Binds K fd ps []
structure Cal (P : Program) (w : World) (K : PySem.W.Frag) (mg : Str → Option Value) (base : Heap) (k : Nat) (x : Str) (sp : Sp) : Prop where
  ex : ∃ f fd ps, FnOk P w K mg base CX0 k f fd ps sp ∧ mg x = some (.ref f) ∧ PySem.W.keepIn K (.ref f) = true ∧ Binds K fd ps []
section
variable {P : Program} {w : World} {K : PySem.W.Frag} {mg : Str → Option Value} {base : Heap} {x : Str} {st : Stmt} {N ps : List Str} {k : Nat} {bs : List Bool} {fb : DS}
theorem calD (n : Nat) (fb : DS) {ff : List D → Option D} (d : Df K mg x x st ps) (S : FnScope N ps (defScope st)) (e : ff = runD n fb) (h : ∀ f, BodyOk P w K mg base x st f N k (flA bs n) (flN n) fb) (hN : N.length = n := by rfl) (hb : bs.length = ps.length := by rfl) (hn : bs.length ≤ n := by decide) : Cal P w K mg base (k + 1) x (spD K mg bs ff) := by
  subst hN
  subst e
  obtain ⟨f, fd, F, m, b⟩ := d.ex
  exact ⟨f, fd, ps, fnD F S (h f) hb hn, m, F.kp, b⟩
theorem calN (n : Nat) (fb : DS) {ff : List D → Option (List D)} (d : Df K mg x x st ps) (S : FnScope N ps (defScope st)) (e : ff = runN n fb) (h : ∀ f, BodyOk P w K mg base x st f N k (flA bs n) (flN n) fb) (hN : N.length = n := by rfl) (hb : bs.length = ps.length := by rfl) (hn : bs.length ≤ n := by decide) : Cal P w K mg base (k + 1) x (spN K mg bs ff) := by
  subst hN
  subst e
  obtain ⟨f, fd, F, m, b⟩ := d.ex
  exact ⟨f, fd, ps, fnN F S (h f) hb hn, m, F.kp, b⟩
theorem cal2 (n : Nat) (fb : DS) {ff : List D → Option (List D)} (d : Df K mg x x st ps) (S : FnScope N ps (defScope st)) (e : ff = run2 n fb) (h : ∀ f, BodyOk P w K mg base x st f N k (flA bs n) (flN n) fb) (hN : N.length = n := by rfl) (hb : bs.length = ps.length := by rfl) (hn : bs.length ≤ n := by decide) : Cal P w K mg base (k + 1) x (sp2 K mg bs ff) := by
  subst hN
  subst e
  obtain ⟨f, fd, F, m, b⟩ := d.ex
  exact ⟨f, fd, ps, fn2 F S (h f) hb hn, m, F.kp, b⟩
end
section
variable {X : Cx} {k j : Nat} {fl : List Fl} {x : Str} {p pos apos : Pos} {e : Expr} {es : List Expr} {bs : List Bool} {fa : DA} {ff : List D → Option D} {fn : List D → Option (List D)}
theorem dCl (c : Cal X.prog X.w X.K X.mg X.base k x (spD X.K X.mg bs ff)) (hr : Room j X.A) (hk : k ≤ j) (ha : PA X (e :: es) (tAs X.K X.mg fl bs fa)) (hg : Gl X x := by rfl)
    (hdb : (x == ("__debug__" : Str)) = false := by decide) (he : starEach (e :: es) X.env = (false, eval e X.env) :: starEach es X.env := by rfl) (hpl : (backTo pos (starEach es X.env)).any (·.1) = false := by rfl) :
    PE X (.Call (.Name x p) (e :: es) [] pos) (tD X.K X.mg fl (dCal ff fa)) := by
  obtain ⟨f, fd, ps, F, m, kp, b⟩ := c.ex
  exact dCallF F (hr.mono hk) m kp b ha hg hdb he hpl
theorem nCl (c : Cal X.prog X.w X.K X.mg X.base k x (spN X.K X.mg bs fn)) (hr : Room j X.A) (hk : k ≤ j) (ha : PA X (e :: es) (tAs X.K X.mg fl bs fa)) (hg : Gl X x := by rfl)
    (hdb : (x == ("__debug__" : Str)) = false := by decide) (he : starEach (e :: es) X.env = (false, eval e X.env) :: starEach es X.env := by rfl) (hpl : (backTo pos (starEach es X.env)).any (·.1) = false := by rfl) :
    PE X (.Call (.Name x p) (e :: es) [] pos) (tN X.K X.mg fl (aCal fn fa)) := by
  obtain ⟨f, fd, ps, F, m, kp, b⟩ := c.ex
  exact nCallF F (hr.mono hk) m kp b ha hg hdb he hpl
/-- a module's int -/
theorem dGlobI {i : Int} (hg : Gl X x) (hm : ∃ t, X.mg x = some (.int i t)) (hd : (x == ("__debug__" : Str)) = false := by decide) : PE X (.Name x pos) (tD X.K X.mg fl (dcon (.int i))) := by
  obtain ⟨t, e⟩ := hm
  exact dGlob (v := .int i) hg e ⟨t, rfl⟩ (fun _ _ => .int i) hd
end
end DL

end

section
set_option Elab.async false
set_option linter.all false
set_option maxRecDepth 100000
namespace DL
open PySem PySem.Spec PyProof.Rows L2
/-! ### new lists of new lists -/
def tN2 (K : PySem.W.Frag) (mg : Mg) (fl : List Fl) (f : DA) : TE := fun σ H Q => ∃ F δ ds, ER K mg fl F σ H δ ∧ f δ = some ds ∧ ∀ p ps H', Same H H' → (∀ a ∈ p :: ps, H a = none) → (p :: ps).Nodup → H' p = some (.lst (ps.map V.ref)) → InnL K mg (fun b => F b ∨ b ∈ p :: ps) H' ps ds → Q (.ref p) H'
theorem atI_get {α : Type} {ds : List α} {i : Int} {d : α} (e : atI ds i = some d) : ∃ j, ixN ds.length i = some j ∧ ds[j]? = some d := bind_some e
theorem atI_of {α : Type} {ds : List α} {i : Int} {d : α} {j : Nat} (e : ixN ds.length i = some j) (e' : ds[j]? = some d) : atI ds i = some d := by
  unfold L2.atI
  rw [e]
  exact e'
section
variable {X : Cx} {k : Nat} {fl fl1 fl' fL fr : List Fl} {f g : DS} {pos p1 p2 apos cpos spos : Pos} {e e2 ie je : Expr} {es : List Expr} {fe ge fi fj : DE} {fa : DA} {x : Str} {i j : Nat} {bs : List Bool} {fn : List D → Option (List D)}
theorem n2Nil : PE X (.List [] pos) (tN2 X.K X.mg fl aNil) := PE_imp (pe_lst pa_nil) fun σ H Q ⟨F, δ, ds, er, ef, q⟩ => by
  cases ef
  exact ⟨Nat.zero_le _, fun p np => q p [] _ (sm_upd np) (fun a ha => by rw [List.mem_singleton] at ha; rw [ha]; exact np) (List.nodup_cons.mpr ⟨(fun z => nomatch z), List.nodup_nil⟩) upd_same trivial⟩
theorem n2Cl (c : Cal X.prog X.w X.K X.mg X.base k x (sp2 X.K X.mg bs fn)) (hr : Room j X.A) (hk : k ≤ j) (ha : PA X (e :: es) (tAs X.K X.mg fl bs fa)) (hg : Gl X x := by rfl)
    (hdb : (x == ("__debug__" : Str)) = false := by decide) (he : starEach (e :: es) X.env = (false, eval e X.env) :: starEach es X.env := by rfl) (hpl : (backTo pos (starEach es X.env)).any (·.1) = false := by rfl) :
    PE X (.Call (.Name x p1) (e :: es) [] pos) (tN2 X.K X.mg fl (aCal fn fa)) := by
  obtain ⟨f, fd, ps, F, m, kp, b⟩ := c.ex
  exact PE_imp (pe_call F (hr.mono hk) hg m kp b .nil pass0 ha hdb he hpl) fun σ H Q ⟨F, δ, d, er, ef, q⟩ => by
    obtain ⟨ds, e1, e2⟩ := bind_some ef
    refine ⟨F, δ, ds, er, e1, fun vs H' s r => ?_⟩
    refine ⟨F, ds, d, dom_same s er.dom, by rw [List.append_nil]; exact r, e2, fun p ps H2 s2 n2 nd t2 l2 => q p ps H2 (s.trans s2) (fun a ha => s.free (n2 a ha)) nd t2 l2⟩
/-- rows[k] of an own list of own lists: borrowed -/
theorem RepBL.atI {K : PySem.W.Frag} {mg : Mg} {F : AP1} {H : Hp} {vs : List V} {ds : List D} {i : Int} {d : D} (r : RepBL K mg F H vs ds) (e : atI ds i = some d) : ∃ v, L2.atI vs i = some v ∧ RepB K mg F H v d := by
  obtain ⟨j, e1, e2⟩ := atI_get e
  obtain ⟨v, e3, rv⟩ := r.get e2
  exact ⟨v, atI_of (by rw [r.len]; exact e1) e3, rv⟩
theorem dIx2 (i : Nat) (hb : PE X ie (tB X.K X.mg fl fi)) (ho : fl[i]? = some .o2 := by rfl) (hN : X.N[i]? = some x := by rfl) (hv : Vis X.env.scope x := by first | exact Or.inl rfl | exact Or.inr (Or.inl rfl) | exact Or.inr (Or.inr rfl)) (hd : (x == ("__debug__" : Str)) = false := by decide)
    (hcd : (x == ("__classdict__" : Str)) = false := by decide) (hs : PlainIx ie := by exact fun _ _ => rfl) : PE X (.Subscript (.Name x p1) ie pos) (tB X.K X.mg fl (dBin gIx (dvar i) fi)) :=
  PE_imp (pe_ix ix_list (pe_var hN hv hd hcd) hb hs) fun σ H Q ⟨F, δ, d, er, ef, q⟩ => by
    obtain ⟨dx, e1, ef⟩ := bind_some ef
    obtain ⟨dy, e2, ef⟩ := bind_some ef
    obtain ⟨p, xs, ds, es, rfl, t, l⟩ := er.slot2 i dx ho (dvar_at e1)
    refine ⟨_, es, F, δ, dy, er, e2, fun v H' s r => ?_⟩
    cases dy with
    | int n =>
      obtain ⟨u, eu, ru⟩ := l.atI ef
      exact ⟨p, xs, n, u, rfl, r.int, SqL.of (s _ _ t), eu, q u H' s (ru.same s)⟩
    | _ => cases ef
/-- the parts of an own list of own lists -/
theorem at_o2 {c : Ctx} {G : Nat → List Addr} {σ : L2.St} {H : Hp} {δ : DSt} {ds : List D} (sr : SR X.K X.mg c G fl σ H δ) (hk : fl[i]? = some .o2) (e : lstAt i δ = some ds) :
    ∃ p ps, G i = p :: ps ∧ (p :: ps).Nodup ∧ σ[i]? = some (some (.ref p)) ∧ H p = some (.lst (ps.map V.ref)) ∧ InnL X.K X.mg (FF c.M0 G fl) H ps ds := by
  obtain ⟨v, ev, p, ps, ds', eg, nd, rfl, ed, t, l⟩ := sr.slot i _ .o2 hk (fun z => nomatch z) (lstAt_of e)
  cases ed
  rw [eg] at nd
  exact ⟨p, ps, eg, nd, ev, t, l⟩
def sSet2 (i : Nat) (f : DA) : DS := fun δ => (f δ).map fun ds => .nx (δ.set i (some (.lst ds)))
theorem SR.set2 {c : Ctx} {G : Nat → List Addr} {σ : L2.St} {H H' : Hp} {δ : DSt} {K : PySem.W.Frag} {mg : Mg} (h : SR K mg c G fl σ H δ) (s : Same H H') {p : Addr} {ps : List Addr} {ds : List D} (hi : i < fl.length) (hio : Fl.nf fl[i]? = true) (na : ∀ a ∈ p :: ps, H a = none) (nd : (p :: ps).Nodup)
    (t : H' p = some (.lst (ps.map V.ref))) (l : InnL K mg (fun b => FF c.M0 G fl b ∨ b ∈ p :: ps) H' ps ds) : SR K mg c (setG G i (p :: ps)) (fl.set i .o2) (σ.set i (some (.ref p))) H' (δ.set i (some (.lst ds))) := by
  have hd : ∀ b, H b ≠ none → H' b ≠ none := fun b e => dom_same (F := fun x => x = b) s (fun x z => by rw [z]; exact e) b rfl
  have tl : ∀ {ps : List Addr} {ds : List D} {F : AP1}, InnL K mg F H' ps ds → ∀ a ∈ ps, H' a ≠ none := fun {ps} => by
    induction ps with
    | nil => intro ds F _ a ha; cases ha
    | cons b ps ih =>
      intro ds F l a ha
      cases ds with
      | nil => exact l.elim
      | cons d ds =>
        obtain ⟨⟨xs, es, _, t, _⟩, l⟩ := l
        rcases List.mem_cons.mp ha with rfl | ha
        · rw [t]; exact (fun z => nomatch z)
        · exact ih l a ha
  refine h.one hi (fun z => z.elim (fun z => by rw [hio] at z; cases z) fun z => by cases z) (fun b o e _ => s b o e) hd (fun _ b hb => ⟨?_, .inl (na b hb)⟩) fun kp _ => ⟨p, ps, ds, rfl, nd, rfl, rfl, t, l.imp (fun _ _ _ e => e) fun _ _ r => RepL.stay (fun b o e n => ⟨e, fun z => ?_⟩) _ _ r⟩
  · rcases List.mem_cons.mp hb with rfl | hb
    · rw [t]; exact (fun z => nomatch z)
    · exact tl l b hb
  · rcases z with z | ⟨j, k, ek, ok, m⟩
    · exact n (.inl (.inl z))
    · rcases get_set ek with ⟨rfl, _, _⟩ | ⟨hj, ek'⟩
      · rw [setG_same] at m
        exact n (.inr m)
      · rw [setG_ne hj] at m
        exact n (.inl (.inr ⟨j, k, ek', ok, m⟩))
theorem s_set2 (i : Nat) (he : PE X e (tN2 X.K X.mg fl fa)) (hN : X.N.Nodup) (hl : i < fl.length := by decide) (ho : Fl.nf fl[i]? = true := by rfl) (hf : fl.set i .o2 = fl' := by rfl) (hi : X.N[i]? = some x := by rfl) (hx : Loc X.env.scope x := by first | exact Or.inl rfl | exact Or.inr rfl)
    (hs : swapsWith e (some (.Name x p1)) pos.line X.env = pure false := by rfl) (hfn : X.fn x = true ∨ X.env.scope.names.lookup x = some .local := by first | exact .inl rfl | exact .inr rfl) :
    PS X (.Assign [.Name x p1] e pos) (tsD X.K X.mg fl fl' fL fr (sSet2 i fa)) :=
  PS_imp (ps_set hN hi hx he hs hfn) fun E σ H ⟨c, G, δ, o, sr, e, ok⟩ => by
    obtain ⟨d, e1, rfl⟩ := map_some e
    subst hf
    exact ⟨_, δ, d, sr.er, e1, fun p ps H' s na nd t l => ok _ _ H' (sr.set2 s hl ho na nd t l)⟩
def sRet2 (f : DA) : DS := fun δ => (f δ).map fun ds => .r2 ds δ
theorem s_ret2 (he : PE X e (tN2 X.K X.mg fl fa)) (hw : wkL fl fr = true := by rfl) : PS X (.Return (some e) pos) (tsD X.K X.mg fl fl' fL fr (sRet2 fa)) :=
  PS_imp (ps_ret he) fun E σ H ⟨c, G, δ, o, sr, e, ok⟩ => by
    obtain ⟨d, e1, rfl⟩ := map_some e
    refine ⟨_, δ, d, sr.er, e1, fun p ps H' s na nd t l => ok G σ H' p ps ((sr.same s).weak hw) t nd (l.imp (fun _ _ _ e => e) fun _ _ r => RepL.stay (fun b o eb nb => ⟨eb, fun z => nb (z.elim (fun z => .inl (FF_wk hw z)) .inr)⟩) _ _ r) (fun a ha z => sr.dom a (FF_wk hw z) (na a ha)) fun a ha H0 Chg hB => .inl ?_⟩
    cases q : H0 a with
    | none => rfl
    | some o => exact absurd (na a ha) (sr.live H0 Chg hB a (by rw [q]; exact fun z => nomatch z))
/-- .append of a new list to an own list of own lists -/
def sApp2 (i : Nat) (f : DA) : DS := fun δ => (lstAt i δ).bind fun ds => (f δ).bind fun es => if ds.length < sizeLine then some (.nx (δ.set i (some (.lst (ds ++ [.lst es]))))) else none
theorem InnL.append {K : PySem.W.Frag} {mg : Mg} {F : AP1} {H : Hp} : ∀ {ps qs : List Addr} {ds es : List D}, InnL K mg F H ps ds → InnL K mg F H qs es → InnL K mg F H (ps ++ qs) (ds ++ es)
  | [], _, [], _, _, h => h
  | _ :: _, _, _ :: _, _, ⟨a, z⟩, h => ⟨a, z.append h⟩
  | [], _, _ :: _, _, z, _ => z.elim
  | _ :: _, _, [], _, z, _ => z.elim
theorem InnL.mem {K : PySem.W.Frag} {mg : Mg} {F : AP1} {H : Hp} : ∀ {ps : List Addr} {ds : List D}, InnL K mg F H ps ds → ∀ a ∈ ps, H a ≠ none
  | [], _, _, _, h => nomatch h
  | b :: ps, d :: ds, ⟨⟨xs, es, _, t, _⟩, z⟩, a, ha => by
    rcases List.mem_cons.mp ha with rfl | ha
    · rw [t]; exact (fun z => nomatch z)
    · exact z.mem a ha
  | _ :: _, [], z, _, _ => z.elim
/-- the state behind a write within an own list of own lists -/
theorem SR.put2 {c : Ctx} {G : Nat → List Addr} {σ : L2.St} {H H' : Hp} {δ : DSt} {K : PySem.W.Frag} {mg : Mg} (h : SR K mg c G fl σ H δ) (hk : fl[i]? = some .o2) {p : Addr} {ps qs : List Addr} {es : List D} (eg : G i = p :: ps) (ep : σ[i]? = some (some (.ref p)))
    (keep : ∀ b o, H b = some o → b ∉ p :: ps → H' b = some o) (dom : ∀ b, H b ≠ none → H' b ≠ none) (hq : ∀ a ∈ qs, H a = none ∨ a ∈ ps) (nd : (p :: qs).Nodup) (t : H' p = some (.lst (qs.map V.ref)))
    (l : InnL K mg (fun b => FF c.M0 G fl b ∨ b ∈ p :: qs) H' qs es) : SR K mg c (setG G i (p :: qs)) fl σ H' (δ.set i (some (.lst es))) := by
  have hi := (List.getElem?_eq_some_iff.mp hk).1
  have z := h.one (i := i) (k' := .o2) (v' := .ref p) (d' := .lst es) (g := p :: qs) (H' := H') hi (fun w => by rw [hk] at w; rcases w with w | w <;> cases w) (fun b o e n => keep b o e (by rw [← eg]; exact n .o2 hk rfl)) dom (fun _ b hb => ?_) fun kp _ => ?_
  · rw [set_id hk, set_id ep] at z
    exact z
  · rcases List.mem_cons.mp hb with rfl | hb
    · exact ⟨by rw [t]; exact (fun z => nomatch z), .inr ⟨.o2, hk, rfl, by rw [eg]; exact List.mem_cons_self⟩⟩
    · exact ⟨l.mem b hb, (hq b hb).elim .inl fun z => .inr ⟨.o2, hk, rfl, by rw [eg]; exact List.mem_cons_of_mem _ z⟩⟩
  · refine ⟨p, qs, es, rfl, nd, rfl, rfl, t, l.imp (fun _ _ _ e => e) fun _ _ r => RepL.stay (fun b o e n => ⟨e, fun z => ?_⟩) _ _ r⟩
    rw [set_id hk] at z
    rcases z with z | ⟨j, k, ek, ok, m⟩
    · exact n (.inl (.inl z))
    · by_cases hj : i = j
      · subst hj
        rw [setG_same] at m
        exact n (.inr m)
      · rw [setG_ne hj] at m
        exact n (.inl (.inr ⟨j, k, ek, ok, m⟩))
theorem s_app2 (i : Nat) (he : PE X e (tN X.K X.mg fl fa)) (hk : fl[i]? = some .o2 := by rfl) (hx : X.N[i]? = some x := by rfl)
    (hv : Vis X.env.scope x := by first | exact Or.inl rfl | exact Or.inr (Or.inl rfl) | exact Or.inr (Or.inr rfl)) (hs : swapsWith (.Call (.Attribute (.Name x p1) "append" apos) [e] [] cpos) none pos.line X.env = pure false := by rfl)
    (hd : (x == ("__debug__" : Str)) = false := by decide) (hcd : (x == ("__classdict__" : Str)) = false := by decide)
    (hbase : attributeBase (.Name x p1) "append" X.env (eval (.Name x p1) X.env) = eval (.Name x p1) X.env := by rfl)
    (hfew : ((backTo cpos (starEach [e] X.env)).all (fun x => !x.1) && (backToKw cpos (keywordEach [] X.env)).all (fun x => x.1.isSome)
      && decide (([e] : List Expr).length + ([] : List Keyword).length + (if ([] : List Keyword).isEmpty then 0 else 1) < 30)) = true := by rfl)
    (hline : (apos.endLine == cpos.line) = true := by rfl) (hst : starEach [e] X.env = (false, eval e X.env) :: starEach [] X.env := by rfl) (hplain : (backTo cpos (starEach [] X.env)).any (·.1) = false := by rfl) :
    PS X (.Expr (.Call (.Attribute (.Name x p1) "append" apos) [e] [] cpos) pos) (tsD X.K X.mg fl fl fL fr (sApp2 i fa)) :=
  PS_imp (ps_expr (pe_bm PySem.F.plainAttrs_list PySem.F.slot_list_append PySem.F.type_list_append mt_append (pe_var hx hv hd hcd) (pa_cons he pa_nil hst) hbase hfew hline hst hplain) hs) fun E σ H ⟨c, G, δ, o, sr, e, ok⟩ => by
    obtain ⟨ds, e1, e2⟩ := bind_some e
    obtain ⟨d, e3, e4⟩ := bind_some e2
    split at e4
    case isFalse => cases e4
    rename_i hz
    cases e4
    obtain ⟨p, ps, eg, nd, es, t, l⟩ := at_o2 sr hk e1
    refine ⟨_, es, .inl ⟨rfl, _, SqL.of t⟩, _, δ, d, sr.er, e3, fun a xs H' s na ta ra => ⟨p, ps.map V.ref, .ref a, rfl, rfl, s _ _ t, by rw [List.length_map, l.len]; exact hz, ?_⟩⟩
    have sr' := sr.same s
    have hp : H' p = some (.lst (ps.map V.ref)) := s _ _ t
    have hpa : a ≠ p := fun z => by rw [z, t] at na; cases na
    have hpsa : a ∉ ps := fun z => l.mem a z na
    -- the new list is not yet an own one: the state is read at H, where it was not there
    refine ok _ σ _ ((sr.put2 (H' := upd H' p (.lst (ps.map V.ref ++ [.ref a]))) (qs := ps ++ [a]) (es := ds ++ [.lst d]) hk eg es (fun b o eb nb => ?_) (fun b eb => ?_) (fun b hb => ?_) ?_ ?_ ?_))
    · rw [upd_ne fun z => nb (by rw [z]; exact List.mem_cons_self)]
      exact s b o eb
    · by_cases hb : b = p
      · rw [hb, upd_same]; exact (fun z => nomatch z)
      · rw [upd_ne hb]
        cases q : H b with
        | none => exact absurd q eb
        | some o => rw [s b o q]; exact (fun z => nomatch z)
    · rcases List.mem_append.mp hb with hb | hb
      · exact .inr hb
      · rw [List.mem_singleton] at hb
        rw [hb]
        exact .inl na
    · have := List.nodup_cons.mp nd
      refine List.nodup_cons.mpr ⟨fun z => ?_, List.nodup_append.mpr ⟨this.2, List.nodup_cons.mpr ⟨(fun z => nomatch z), List.nodup_nil⟩, fun b hb b' hb' => ?_⟩⟩
      · rcases List.mem_append.mp z with z | z
        · exact this.1 z
        · rw [List.mem_singleton] at z
          exact hpa z.symm
      · rw [List.mem_singleton] at hb'
        rw [hb']
        exact fun z => hpsa (by rw [← z]; exact hb)
    · rw [upd_same, List.map_append]
      rfl
    · refine InnL.append (l.imp (fun b hb ys eb => ?_) fun _ _ r => RepL.stay (fun b o eb nb => ⟨?_, fun z => ?_⟩) _ _ r) ⟨⟨xs, d, rfl, by rw [upd_ne hpa]; exact ta, RepL.stay (fun b o eb nb => ⟨?_, fun z => nb ?_⟩) _ _ ra⟩, trivial⟩
      · rw [upd_ne fun z => (List.nodup_cons.mp nd).1 (by rw [← z]; exact hb)]
        exact s _ _ eb
      · have hb : b ≠ p := fun z => nb (.inr ⟨i, .o2, hk, rfl, by rw [eg, z]; exact List.mem_cons_self⟩)
        rw [upd_ne hb]
        exact s _ _ eb
      · rcases z with z | z
        · exact nb z
        · rcases List.mem_cons.mp z with z | z
          · exact nb (.inr ⟨i, .o2, hk, rfl, by rw [eg, z]; exact List.mem_cons_self⟩)
          · rcases List.mem_append.mp z with z | z
            · exact nb (.inr ⟨i, .o2, hk, rfl, by rw [eg]; exact List.mem_cons_of_mem _ z⟩)
            · rw [List.mem_singleton] at z
              rw [z, na] at eb
              cases eb
      · have hb : b ≠ p := fun z => nb (.inl (.inr ⟨i, .o2, hk, rfl, by rw [eg, z]; exact List.mem_cons_self⟩))
        rw [upd_ne hb]
        exact eb
      · rcases z with z | z
        · exact .inl z
        · rcases List.mem_cons.mp z with z | z
          · exact .inl (.inr ⟨i, .o2, hk, rfl, by rw [eg, z]; exact List.mem_cons_self⟩)
          · rcases List.mem_append.mp z with z | z
            · exact .inl (.inr ⟨i, .o2, hk, rfl, by rw [eg]; exact List.mem_cons_of_mem _ z⟩)
            · rw [List.mem_singleton] at z
              exact .inr z
end
end DL

end

section
set_option Elab.async false
set_option linter.all false
set_option maxRecDepth 100000
namespace DL
open PySem PySem.Spec PyProof.Rows L2
section
variable {K : PySem.W.Frag} {mg : Mg} {F F' : AP1} {H H' : Hp}
theorem InnL.get : ∀ {ps : List Addr} {ds : List D} {j : Nat} {d : D}, InnL K mg F H ps ds → ds[j]? = some d → ∃ q xs es, ps[j]? = some q ∧ d = .lst es ∧ H q = some (.lst xs) ∧ RepL K mg F H xs es
  | [], [], _, _, _, e => by simp at e
  | q :: _, _ :: _, 0, _, ⟨⟨xs, es, e, t, l⟩, _⟩, e' => by
    cases e'
    exact ⟨q, xs, es, rfl, e, t, l⟩
  | _ :: _, _ :: _, j + 1, _, ⟨_, z⟩, e' => InnL.get (j := j) z e'
  | [], _ :: _, _, _, z, _ => z.elim
  | _ :: _, [], _, _, z, _ => z.elim
theorem InnL.upd {q : Addr} {ys : List V} {es' : List D} (hr : ∀ xs es, RepL K mg F H xs es → RepL K mg F' H' xs es) (hq : H' q = some (.lst ys)) (ry : RepL K mg F' H' ys es') : ∀ {ps : List Addr} {ds : List D} {j : Nat}, InnL K mg F H ps ds → ps.Nodup → ps[j]? = some q →
    (∀ b ∈ ps, b ≠ q → H' b = H b) → InnL K mg F' H' ps (ds.set j (.lst es'))
  | [], [], _, _, _, e, _ => by simp at e
  | b :: ps, _ :: ds, 0, ⟨_, z⟩, nd, e, hb => by
    cases e
    refine ⟨⟨ys, es', rfl, hq, ry⟩, z.imp (fun a ha xs e => ?_) hr⟩
    rw [hb a (List.mem_cons_of_mem _ ha) fun w => (List.nodup_cons.mp nd).1 (by rw [← w]; exact ha)]
    exact e
  | b :: ps, d :: ds, j + 1, ⟨⟨xs, es, e0, t, l⟩, z⟩, nd, e, hb => by
    have nq : b ≠ q := fun w => (List.nodup_cons.mp nd).1 (by rw [w]; exact List.mem_of_getElem? (show ps[j]? = some q from e))
    exact ⟨⟨xs, es, e0, by rw [hb b List.mem_cons_self nq]; exact t, hr _ _ l⟩, InnL.upd (j := j) hr hq ry z (List.nodup_cons.mp nd).2 e fun a ha => hb a (List.mem_cons_of_mem _ ha)⟩
  | [], _ :: _, _, z, _, _, _ => z.elim
  | _ :: _, [], _, z, _, _, _ => z.elim
end
def sSetII (i : Nat) (fi fj fv : DE) : DS := fun δ => (fv δ).bind fun d => (lstAt i δ).bind fun ds => (fi δ).bind fun k => (gIx (.lst ds) k).bind fun r => match r with
  | .lst row => (fj δ).bind fun k2 => (setI row k2 d).bind fun row' => (setI ds k (.lst row')).map fun ds' => .nx (δ.set i (some (.lst ds')))
  | _ => none
/-- x += e of ints -/
def gAddI : D → D → Option D
  | .int a, .int b => some (.int (a + b))
  | _, _ => none
def sExt (i : Nat) (f : DE) : DS := fun δ => (lstAt i δ).bind fun ds => (f δ).bind fun d => match d with
  | .lst es => if ds.length + es.length ≤ sizeLine then some (.nx (δ.set i (some (.lst (ds ++ es))))) else none
  | _ => none
def aSlice (f : DE) (lo hi : DO) : DA := fun δ => (f δ).bind fun d => (lo δ).bind fun l => (hi δ).bind fun u => match d with
  | .lst ds => some (cutD ds l u)
  | _ => none
section
variable {X : Cx} {k : Nat} {fl fl1 fl' fL fr : List Fl} {f g : DS} {pos p1 p2 apos cpos spos tpos : Pos} {e e2 ie je : Expr} {es : List Expr} {fe ge fi fj : DE} {fa : DA} {x : Str} {i j : Nat} {bs : List Bool} {fn : List D → Option (List D)}
theorem s_setII (i : Nat) (he : PE X e (tD X.K X.mg fl fe)) (hi : PE X ie (tB X.K X.mg fl fi)) (hj : PE X je (tB X.K X.mg fl fj)) (hk : fl[i]? = some .o2 := by rfl) (hx : X.N[i]? = some x := by rfl)
    (hv : Vis X.env.scope x := by first | exact Or.inl rfl | exact Or.inr (Or.inl rfl) | exact Or.inr (Or.inr rfl)) (hd : (x == ("__debug__" : Str)) = false := by decide) (hcd : (x == ("__classdict__" : Str)) = false := by decide)
    (hix : PlainIx ie := by exact fun _ _ => rfl)
    (ha : ∀ v, assign (.Subscript (.Subscript (.Name x p1) ie tpos) je spos) X.env v = (do
      let ov ← holding [v] (eval (.Subscript (.Name x p1) ie tpos) X.env)
      let iv ← holding [v, ov] (eval je X.env)
      standAt spos
      holding [v, ov, iv] (setItem ov iv v)
      release [v, ov, iv] []) := by intro _; rfl)
    (hs : swapsWithSole [.Subscript (.Subscript (.Name x p1) ie tpos) je spos] e pos.line X.env = pure false := by rfl) (hw : swappedStores [.Subscript (.Subscript (.Name x p1) ie tpos) je spos] e X.env = pure none := by rfl) (h1 : (assignEach [.Subscript (.Subscript (.Name x p1) ie tpos) je spos] X.env).map (·.2) = [assign (.Subscript (.Subscript (.Name x p1) ie tpos) je spos) X.env] := by rfl) :
    PS X (.Assign [.Subscript (.Subscript (.Name x p1) ie tpos) je spos] e pos) (tsD X.K X.mg fl fl fL fr (sSetII i fi fj fe)) :=
  PS_imp (ps_asg he (pg_sub (pe_ix ix_list (pe_var hx hv hd hcd) hi hix) hj set_list ha) hs hw h1) fun E σ H ⟨c, G, δ, o, sr, e, ok⟩ => by
    obtain ⟨d, e1, e⟩ := bind_some e
    obtain ⟨ds, e2, e⟩ := bind_some e
    obtain ⟨k, e3, e⟩ := bind_some e
    obtain ⟨r, e4, e⟩ := bind_some e
    cases r with
    | lst row =>
      obtain ⟨k2, e5, e⟩ := bind_some e
      obtain ⟨row', e6, e⟩ := bind_some e
      obtain ⟨ds', e7, rfl⟩ := map_some e
      cases k with
      | int k =>
        cases k2 with
        | int k2 =>
          obtain ⟨j2, e8, rfl⟩ := map_some e6
          obtain ⟨j1, e9, e10⟩ := atI_get e4
          have e7' : (ixN ds.length k).map (fun j => ds.set j (.lst (row.set j2 d))) = some ds' := e7
          rw [e9] at e7'
          cases e7'
          obtain ⟨p, ps, eg, nd, es, t, l⟩ := at_o2 sr hk e2
          obtain ⟨q, xs, es', eq, ee, tq, lq⟩ := l.get e10
          cases ee
          have hq : q ∈ ps := List.mem_of_getElem? eq
          have hqp : q ≠ p := fun z => (List.nodup_cons.mp nd).1 (by rw [← z]; exact hq)
          have hqF : FF c.M0 G fl q := .inr ⟨i, .o2, hk, rfl, by rw [eg]; exact List.mem_cons_of_mem _ hq⟩
          refine ⟨_, δ, d, sr.er, e1, fun v H1 s1 r1 => ⟨_, es, _, δ, _, (sr.same s1).er, e3, fun u H2 s2 r2 => ⟨p, ps.map V.ref, k, .ref q, rfl, r2.int, SqL.of (s2 _ _ (s1 _ _ t)), ?_, _, δ, _, ((sr.same s1).same s2).er, e5, fun u3 H3 s3 r3 => ?_⟩⟩⟩
          · exact atI_of (by rw [List.length_map, l.len]; exact e9) (by rw [List.getElem?_map, eq]; rfl)
          · have s := (s1.trans s2).trans s3
            have sr' := ((sr.same s1).same s2).same s3
            have r1' := (r1.same s2).same s3
            refine ⟨q, xs, k2, j2, rfl, r3.int, s _ _ tq, by rw [lq.len]; exact e8, ok _ _ _ (?_ : SR X.K X.mg c G fl σ _ _)⟩
            have kp : Kp (FF c.M0 G fl) (FF c.M0 G fl) H3 (upd H3 q (.lst (xs.set j2 v))) := fun b o eb nb => ⟨by rw [upd_ne fun z => nb (by rw [z]; exact hqF)]; exact eb, nb⟩
            have kpF : Kp (FF c.M0 G fl) (fun b => FF c.M0 G fl b ∨ b ∈ p :: ps) H3 (upd H3 q (.lst (xs.set j2 v))) := fun b o eb nb => ⟨(kp b o eb nb).1, fun z => z.elim nb fun z => nb (.inr ⟨i, .o2, hk, rfl, by rw [eg]; exact z⟩)⟩
            have z := sr'.put2 (H' := upd H3 q (.lst (xs.set j2 v))) (qs := ps) (es := ds.set j1 (.lst (row.set j2 d))) hk eg es (fun b o eb nb => by rw [upd_ne fun z => nb (by rw [z]; exact List.mem_cons_of_mem _ hq)]; exact eb) (fun b eb => by
              by_cases hb : b = q
              · rw [hb, upd_same]; exact (fun z => nomatch z)
              · rw [upd_ne hb]; exact eb) (fun a ha => .inr ha) nd (by rw [upd_ne hqp.symm]; exact s _ _ t)
              (InnL.upd (F := FF c.M0 G fl) (H := H3) (fun _ _ r => RepL.stay kpF _ _ r) upd_same (RepL.stay kpF _ _ (((lq.same s)).set r1' j2)) (l.imp (fun _ _ _ e => s _ _ e) fun _ _ r => r.same s) (List.nodup_cons.mp nd).2 eq fun b _ nb => upd_ne nb)
            rw [← eg, setG_id] at z
            exact z
        | _ => cases e6
      | _ => cases e4
    | _ => cases e
/-- xs.extend(ys) -/
theorem s_ext (i : Nat) (he : PE X e (tD X.K X.mg fl fe)) (hk : fl[i]? = some .ow ∨ fl[i]? = some .io := by first | exact .inl rfl | exact .inr rfl) (hx : X.N[i]? = some x := by rfl)
    (hv : Vis X.env.scope x := by first | exact Or.inl rfl | exact Or.inr (Or.inl rfl) | exact Or.inr (Or.inr rfl)) (hs : swapsWith (.Call (.Attribute (.Name x p1) "extend" apos) [e] [] cpos) none pos.line X.env = pure false := by rfl)
    (hd : (x == ("__debug__" : Str)) = false := by decide) (hcd : (x == ("__classdict__" : Str)) = false := by decide)
    (hbase : attributeBase (.Name x p1) "extend" X.env (eval (.Name x p1) X.env) = eval (.Name x p1) X.env := by rfl)
    (hfew : ((backTo cpos (starEach [e] X.env)).all (fun x => !x.1) && (backToKw cpos (keywordEach [] X.env)).all (fun x => x.1.isSome)
      && decide (([e] : List Expr).length + ([] : List Keyword).length + (if ([] : List Keyword).isEmpty then 0 else 1) < 30)) = true := by rfl)
    (hline : (apos.endLine == cpos.line) = true := by rfl) (hst : starEach [e] X.env = (false, eval e X.env) :: starEach [] X.env := by rfl) (hplain : (backTo cpos (starEach [] X.env)).any (·.1) = false := by rfl) :
    PS X (.Expr (.Call (.Attribute (.Name x p1) "extend" apos) [e] [] cpos) pos) (tsD X.K X.mg fl fl fL fr (sExt i fe)) :=
  PS_imp (ps_expr (pe_bm PySem.F.plainAttrs_list PySem.F.slot_list_extend PySem.F.type_list_extend mt_extend (pe_var hx hv hd hcd) (pa_cons he pa_nil hst) hbase hfew hline hst hplain) hs) fun E σ H ⟨c, G, δ, o, sr, e, ok⟩ => by
    obtain ⟨ds, e1, e2⟩ := bind_some e
    obtain ⟨d, e3, e4⟩ := bind_some e2
    cases d with
    | lst ys =>
      replace e4 : (if ds.length + ys.length ≤ sizeLine then some (Out.nx (δ.set i (some (.lst (ds ++ ys))))) else none) = some o := e4
      split at e4
      case isFalse => cases e4
      rename_i hz
      cases e4
      obtain ⟨p, xs, eg, es, t, l⟩ := at_lst sr hk e1
      refine ⟨_, es, .inl ⟨rfl, xs, SqL.of t⟩, _, δ, _, sr.er, e3, fun v H' s r => ?_⟩
      cases r with
      | lst tz lz =>
        exact ⟨p, _, xs, _, rfl, rfl, s _ _ t, tz.1, by rw [l.len, lz.len]; exact hz, ok G σ _ ((sr.same s).put' hk es ((l.same s).append lz))⟩
    | _ => cases e4
/-- x += e -/
theorem s_augI (i : Nat) {op : Operator} {h : Int → Int → Int} {gg : D → D → Option D} (hop : PIp X op (ipI h)) (hgg : ∀ a b d, gg a b = some d → ∃ m n, a = .int m ∧ b = .int n ∧ d = .int (h m n)) (he : PE X e (tB X.K X.mg fl fe)) (hN : X.N.Nodup) (hc : fl[i]? = some .cl := by rfl) (hi : X.N[i]? = some x := by rfl) (hx : Loc X.env.scope x := by first | exact Or.inl rfl | exact Or.inr rfl)
    (hfn : X.fn x = true ∨ X.env.scope.names.lookup x = some .local := by first | exact .inl rfl | exact .inr rfl) : PS X (.AugAssign (.Name x p1) op e pos) (tsD X.K X.mg fl fl fL fr (sSet i (dBin gg (dvar i) fe))) :=
  PS_imp (ps_aug hN hi hx he hop hfn) fun E σ H ⟨c, G, δ, o, sr, e, ok⟩ => by
    obtain ⟨d, e1, rfl⟩ := map_some e
    obtain ⟨d1, e2, e1⟩ := bind_some e1
    obtain ⟨d2, e3, e1⟩ := bind_some e1
    obtain ⟨m, n, rfl, rfl, rfl⟩ := hgg _ _ _ e1
    obtain ⟨v, ev, r⟩ := sr.slot i _ .cl hc (fun z => nomatch z) (dvar_at e2)
    have hv : v = .int m := RepB.int (.inl r)
    subst hv
    refine ⟨_, ev, _, δ, _, sr.er, e3, fun u H' s ru => ⟨m, n, rfl, ru.int, ?_⟩⟩
    have z := (sr.same s).setC (v := .int (h m n)) (d := .int (h m n)) (List.getElem?_eq_some_iff.mp hc).1 (by rw [hc]; rfl) (.int _)
    rw [set_id hc] at z
    exact ok _ _ H' z
theorem s_aug (i : Nat) (he : PE X e (tB X.K X.mg fl fe)) (hN : X.N.Nodup) (hc : fl[i]? = some .cl := by rfl) (hi : X.N[i]? = some x := by rfl) (hx : Loc X.env.scope x := by first | exact Or.inl rfl | exact Or.inr rfl)
    (hfn : X.fn x = true ∨ X.env.scope.names.lookup x = some .local := by first | exact .inl rfl | exact .inr rfl) : PS X (.AugAssign (.Name x p1) .Add e pos) (tsD X.K X.mg fl fl fL fr (sSet i (dBin gAddI (dvar i) fe))) :=
  s_augI i ip_add (fun a b d e => by cases a <;> cases b <;> first | (cases e; exact ⟨_, _, rfl, rfl, rfl⟩) | cases e) he hN hc hi hx hfn
theorem s_augSub (i : Nat) (he : PE X e (tB X.K X.mg fl fe)) (hN : X.N.Nodup) (hc : fl[i]? = some .cl := by rfl) (hi : X.N[i]? = some x := by rfl) (hx : Loc X.env.scope x := by first | exact Or.inl rfl | exact Or.inr rfl)
    (hfn : X.fn x = true ∨ X.env.scope.names.lookup x = some .local := by first | exact .inl rfl | exact .inr rfl) : PS X (.AugAssign (.Name x p1) .Sub e pos) (tsD X.K X.mg fl fl fL fr (sSet i (dBin gSub (dvar i) fe))) :=
  s_augI i ip_sub (fun a b d e => by cases a <;> cases b <;> first | (cases e; exact ⟨_, _, rfl, rfl, rfl⟩) | cases e) he hN hc hi hx hfn
/-- a slice of a list: a new list -/
theorem nSl {lo hi : Option Expr} {f1 f2 : DO} (ha : PE X e (tB X.K X.mg fl fe)) (hl : PO X lo (tOp' X.K X.mg fl f1)) (hu : PO X hi (tOp' X.K X.mg fl f2)) : PE X (.Subscript e (.Slice lo hi none p2) pos) (tN X.K X.mg fl (aSlice fe f1 f2)) :=
  PE_imp (pe_slice sl_list ha hl hu) fun σ H Q ⟨F, δ, d, er, ef, q⟩ => by
    obtain ⟨dx, e1, ef⟩ := bind_some ef
    obtain ⟨l, e2, ef⟩ := bind_some ef
    obtain ⟨u, e3, ef⟩ := bind_some ef
    cases dx with
    | lst ds =>
      cases ef
      refine ⟨F, δ, _, er, e1, fun v H1 s1 r1 => ⟨F, δ, l, er.same s1, e2, fun H2 s2 => ⟨F, δ, u, (er.same s1).same s2, e3, fun H3 s3 => ?_⟩⟩⟩
      have r3 := (r1.same s2).same s3
      obtain ⟨a, xs, rfl, t, l'⟩ := r3.lst
      have s := (s1.trans s2).trans s3
      exact ⟨a, xs, rfl, SqL.of t, fun p np => q p _ _ (s.trans (sm_upd np)) (s.free np) upd_same ((l'.cut l u).fresh np)⟩
    | _ => cases ef
end
end DL

end

section
set_option Elab.async false
set_option linter.all false
set_option maxRecDepth 100000
namespace DL
open PySem PySem.Spec PyProof.Rows L2
/-! ### [new list for ..] -/
def lcGo2 (vs : List Nat) (ga : Tg) (te : DA) (δ : DSt) : List D → Option (List D)
  | [] => some []
  | d :: ds => (ga d).bind fun as => (te (setD (wipeD δ vs) as)).bind fun x => (lcGo2 vs ga te δ ds).map (.lst x :: ·)
def lcD2 (vs : List Nat) (it : DI) (ga : Tg) (te : DA) : DA := fun δ => (it δ).bind fun ds => if ds.length ≤ sizeLine then lcGo2 vs ga te δ ds else none
theorem lc_read2 {fl : List Fl} {is : List Nat} {it : DI} {ga : Tg} {g : TG} {te : DA} {K : PySem.W.Frag} {mg : Mg} {vs : List Nat} (hT : TGR K mg g ga is) (hv : ∀ i ∈ is, i ∈ vs) (hl : ∀ i ∈ is, i < fl.length) {σ : L2.St} {H : Hp} {Q : VK}
    (h : tN2 K mg fl (lcD2 vs it ga te) σ H Q) : tLc (tIb K mg fl it) g (tT K mg (setF fl is) dYes) (tN K mg (setF fl is) te) vs σ H Q := by
  obtain ⟨F, δ, rs, er, ef, q⟩ := h
  have hsl := er.len
  obtain ⟨ds, ei, ef⟩ := bind_some ef
  split at ef
  case isFalse => cases ef
  rename_i hz
  refine ⟨F, δ, ds, er, ei, fun J H1 s w Dd nD => ?_⟩
  let F' : List Addr → AP1 := fun ps b => F b ∨ b ∈ Dd :: ps
  let Iv : Nat → Hp → Prop := fun i Hc => Same H1 Hc ∧ ∃ ps accd rest, Hc Dd = some (.lst (ps.map V.ref)) ∧ (∀ a ∈ Dd :: ps, H1 a = none) ∧ (Dd :: ps).Nodup ∧ InnL K mg (F' ps) Hc ps accd ∧ ps.length = i ∧ lcGo2 vs ga te δ (ds.drop i) = some rest ∧ accd ++ rest = rs
  refine ⟨fun i m Hc => m = ds.length - i ∧ i ≤ ds.length ∧ Iv i Hc,
    ⟨ds.length, by rw [Nat.sub_zero], Nat.zero_le _, sm_upd nD, [], [], rs, upd_same, fun a ha => by rw [List.mem_singleton] at ha; rw [ha]; exact nD, List.nodup_cons.mpr ⟨(fun z => nomatch z), List.nodup_nil⟩, trivial, rfl, by rw [List.drop_zero]; exact ef, rfl⟩, ?_⟩
  rintro i m Hc ⟨rfl, hi, sc, ps, accd, rest, hD, hn, nd, hacc, hal, hgo, hrs⟩
  have hdF : ∀ a, F' ps a → Hc a ≠ none := fun a z => by
    rcases z with z | z
    · exact dom_same (s.trans sc) er.dom a z
    · rcases List.mem_cons.mp z with z | z
      · rw [z, hD]
        exact (fun z => nomatch z)
      · exact hacc.mem a z
  have hFa : ∀ b, H1 b ≠ none → F' ps b → F b := fun b hb z => z.elim id fun e => absurd (hn b e) hb
  obtain ⟨wi, ws⟩ := w Hc (F' ps) (fun b o e _ => sc b o e) hFa hdF
  by_cases hlt : i < ds.length
  · refine .inr ?_
    have ed : ds[i]? = some ds[i] := List.getElem?_eq_getElem hlt
    obtain ⟨go, yl⟩ := wi i _ ed
    refine ⟨go, Iv (i + 1), fun H' z => ⟨ds.length - (i + 1), by omega, rfl, hlt, z⟩, fun x H' y => ?_⟩
    obtain ⟨sy, ry⟩ := yl x H' y
    rw [List.drop_eq_getElem_cons hlt] at hgo
    obtain ⟨as, ea, hgo⟩ := bind_some hgo
    obtain ⟨dx, ex, hgo⟩ := bind_some hgo
    obtain ⟨rest', er', erest⟩ := map_some hgo
    obtain ⟨ei', tr⟩ := hT (F' ps) x (L2.wipe σ vs) H' (fun σ2 H2 => L2.wipe σ2 vs = L2.wipe σ vs ∧ tT K mg (setF fl is) dYes σ2 H2 fun b H3 =>
      if b = true then tN K mg (setF fl is) te σ2 H3 fun y H4 => ∃ acc, H4 Dd = some (.lst acc) ∧ acc.length < sizeLine ∧ Iv (i + 1) (upd H4 Dd (.lst (acc ++ [y])))
      else Iv (i + 1) H3) ds[i] as ry ea
    refine tr fun us ru => ⟨wipe_set σ fun j hj => hv j (by rw [← ei', ← ru.idx]; exact hj), ?_⟩
    have scy : Same H1 H' := sc.trans sy
    have hdF' : ∀ a, F' ps a → H' a ≠ none := dom_same sy hdF
    have er1 : ER K mg fl (F' ps) σ H' δ := er.stay (s.trans scy) (fun b hb z => hFa b (fun e => by
      cases eo : H b with
      | none => exact hb eo
      | some o => rw [s b o eo] at e; cases e) z) hdF'
    have er2 : ER K mg (setF fl is) (F' ps) (setS (L2.wipe σ vs) us) H' (setD (wipeD δ vs) as) := by
      rw [← ei']
      exact (er1.wipe vs).sets (fun j hj => by rw [wipe_length]; exact Nat.lt_of_lt_of_le (hl j (by rw [← ei']; exact hj)) hsl) ru
    refine ⟨F' ps, _, true, er2, rfl, fun H3 s3 => iteT ⟨F' ps, _, dx, er2.same s3, ex, fun a xs H4 s4 na ta ra => ?_⟩⟩
    have s04 : Same Hc H4 := sy.trans (s3.trans s4)
    have hD4 : H4 Dd = some (.lst (ps.map V.ref)) := s04 _ _ hD
    have na0 : Hc a = none := (sy.trans s3).free na
    have na1 : H1 a = none := sc.free na0
    have haD : a ≠ Dd := fun z => by rw [z, hD] at na0; cases na0
    have haps : a ∉ ps := fun z => hacc.mem a z na0
    refine ⟨ps.map V.ref, hD4, by rw [List.length_map, hal]; omega, fun b o eb => ?_, ps ++ [a], accd ++ [.lst dx], rest', ?_, fun b hb => ?_, ?_, ?_, ?_, er', ?_⟩
    · have hb : b ≠ Dd := fun z => by rw [z, nD] at eb; cases eb
      rw [upd_ne hb]
      exact s04 b o (sc b o eb)
    · rw [upd_same, List.map_append]
      rfl
    · rcases List.mem_cons.mp hb with hb | hb
      · rw [hb]; exact nD
      · rcases List.mem_append.mp hb with hb | hb
        · exact hn b (List.mem_cons_of_mem _ hb)
        · rw [List.mem_singleton] at hb
          rw [hb]; exact na1
    · have := List.nodup_cons.mp nd
      refine List.nodup_cons.mpr ⟨fun z => ?_, List.nodup_append.mpr ⟨this.2, List.nodup_cons.mpr ⟨(fun z => nomatch z), List.nodup_nil⟩, fun b hb b' hb' => ?_⟩⟩
      · rcases List.mem_append.mp z with z | z
        · exact this.1 z
        · rw [List.mem_singleton] at z
          exact haD z.symm
      · rw [List.mem_singleton] at hb'
        rw [hb']
        exact fun z => haps (by rw [← z]; exact hb)
    · refine InnL.append (hacc.imp (fun b hb ys eb => ?_) fun _ _ r => RepL.stay (fun b o eb nb => ⟨?_, fun z => ?_⟩) _ _ r) ⟨⟨xs, dx, rfl, by rw [upd_ne haD]; exact ta, RepL.stay (fun b o eb nb => ⟨?_, fun z => nb ?_⟩) _ _ ra⟩, trivial⟩
      · rw [upd_ne fun z => (List.nodup_cons.mp nd).1 (by rw [← z]; exact hb)]
        exact s04 _ _ eb
      · rw [upd_ne fun z => nb (.inr (by rw [z]; exact List.mem_cons_self))]
        exact s04 _ _ eb
      · rcases z with z | z
        · exact nb (.inl z)
        · rcases List.mem_cons.mp z with z | z
          · exact nb (.inr (by rw [z]; exact List.mem_cons_self))
          · rcases List.mem_append.mp z with z | z
            · exact nb (.inr (List.mem_cons_of_mem _ z))
            · rw [List.mem_singleton] at z
              rw [z, na0] at eb
              cases eb
      · rw [upd_ne fun z => nb (.inl (.inr (by rw [z]; exact List.mem_cons_self)))]
        exact eb
      · rcases z with z | z
        · exact .inl (.inl z)
        · rcases List.mem_cons.mp z with z | z
          · exact .inl (.inr (by rw [z]; exact List.mem_cons_self))
          · rcases List.mem_append.mp z with z | z
            · exact .inl (.inr (List.mem_cons_of_mem _ z))
            · rw [List.mem_singleton] at z
              exact .inr z
    · rw [List.length_append, hal]
      rfl
    · rw [List.append_assoc]
      show accd ++ (.lst dx :: rest') = rs
      rw [erest]
      exact hrs
  · have he : i = ds.length := by omega
    subst he
    rw [List.drop_length] at hgo
    have hr : rest = [] := by
      cases hgo
      rfl
    subst hr
    rw [List.append_nil] at hrs
    subst hrs
    exact .inl ⟨ws, q Dd ps Hc (s.trans sc) (fun a ha => s.free (hn a ha)) nd hD hacc⟩
section
variable {X : Cx} {k : Nat} {fl fl1 fl' fL fr : List Fl} {pos p1 p2 apos cpos spos tpos : Pos} {e e2 ie je a b : Expr} {es : List Expr} {fe ge fi fj : DE} {fa : DA} {x : Str} {i j : Nat} {bs : List Bool} {fn : List D → Option (List D)}
theorem n2Lc {tg iter elt : Expr} {scope : Scope} {own : List (Str × Nat)} {is : List Nat} {it : DI} {ga : Tg} {g : TG} {te : DA} (hc : X.calm = true) (hN : X.N.Nodup) (hi : PI X tg iter (tIb X.K X.mg fl it)) (ok : BlkOk X.N X.env.scope scope own)
    (hg : ∀ (s : Shared) (H : Hp) (C : Addr) (cl : List (Str × Addr)) (fp : List Addr), PG (X.blk s H scope (compEnvC scope cl C X.env) fp) tg g) (hT : TGR X.K X.mg g ga is)
    (he : ∀ (s : Shared) (H : Hp) (C : Addr) (cl : List (Str × Addr)) (fp : List Addr), PE (X.blk s H scope (compEnvC scope cl C X.env) fp) elt (tN X.K X.mg (setF fl is) te))
    (hv : (∀ i ∈ is, i ∈ own.map (·.2)) ∧ ∀ i ∈ is, i < fl.length := by decide) (hs : ∀ x, foldedSetIterable iter X.env x = pure x := by intro _; rfl) :
    PE X (.ListComp elt [⟨tg, iter, [], 0⟩] scope pos) (tN2 X.K X.mg fl (lcD2 (own.map (·.2)) it ga te)) :=
  PE_imp (pe_lc hc hN hi ok hg (fun s H C cl fp => ptNil) he hs) fun σ H Q h => lc_read2 hT hv.1 hv.2 h
/-- name = [new list for ..] -/
theorem s_set2Lc (i : Nat) {tg iter elt : Expr} {scope : Scope} {own : List (Str × Nat)} {is : List Nat} {it : DI} {ga : Tg} {g : TG} {te : DA} (hc : X.calm = true) (hN : X.N.Nodup) (hin : PI X tg iter (tIb X.K X.mg fl it)) (ok : BlkOk X.N X.env.scope scope own)
    (hg : ∀ (s : Shared) (H : Hp) (C : Addr) (cl : List (Str × Addr)) (fp : List Addr), PG (X.blk s H scope (compEnvC scope cl C X.env) fp) tg g) (hT : TGR X.K X.mg g ga is)
    (he : ∀ (s : Shared) (H : Hp) (C : Addr) (cl : List (Str × Addr)) (fp : List Addr), PE (X.blk s H scope (compEnvC scope cl C X.env) fp) elt (tN X.K X.mg (setF fl is) te))
    (hsw : swapsWith (.ListComp elt [⟨tg, iter, [], 0⟩] scope pos) (some (.Name x p1)) spos.line X.env = pure true)
    (hv : (∀ i ∈ is, i ∈ own.map (·.2)) ∧ ∀ i ∈ is, i < fl.length := by decide) (hl : i < fl.length := by decide) (ho : Fl.nf fl[i]? = true := by rfl) (hf : fl.set i .o2 = fl' := by rfl) (hi : X.N[i]? = some x := by rfl) (hx : X.env.scope.names.lookup x = some .local := by rfl)
    (hs : ∀ x, foldedSetIterable iter X.env x = pure x := by intro _; rfl) : PS X (.Assign [.Name x p1] (.ListComp elt [⟨tg, iter, [], 0⟩] scope pos) spos) (tsD X.K X.mg fl fl' fL fr (sSet2 i (lcD2 (own.map (·.2)) it ga te))) :=
  PS_imp (ps_setLc (tt := tT X.K X.mg (setF fl is) dYes) hc hN hi hx hsw hin ok hg (fun s H C cl fp => ptNil) he hs) fun E σ H ⟨c, G, δ, o, sr, e, ok⟩ => by
    obtain ⟨d, e1, rfl⟩ := map_some e
    subst hf
    exact lc_read2 hT hv.1 hv.2 ⟨_, δ, d, sr.er, e1, fun p ps H' s na nd t l => ok _ _ H' (sr.set2 s hl ho na nd t l)⟩
/-- xs[a], xs[b] = u, v -/
theorem s_swap (i : Nat) {u v : Expr} {tk k2 : Nat} {pt pt2 sp1 sp2 : Pos} {x2 : Str} {q1 q2 : Pos} (hp : PA X [u, v] (tAs X.K X.mg fl [true, true] fa)) (hi : PE X ie (tB X.K X.mg fl fi)) (hj : PE X je (tB X.K X.mg fl fj)) (hc : X.calm = true) (hk : fl[i]? = some .ow ∨ fl[i]? = some .io := by first | exact .inl rfl | exact .inr rfl) (hx : X.N[i]? = some x := by rfl)
    (hv : Vis X.env.scope x := by first | exact Or.inl rfl | exact Or.inr (Or.inl rfl) | exact Or.inr (Or.inr rfl)) (hd : (x == ("__debug__" : Str)) = false := by decide) (hcd : (x == ("__classdict__" : Str)) = false := by decide)
    (ha1 : ∀ w, assign (.Subscript (.Name x q1) ie sp1) X.env w = (do
      let ov ← holding [w] (eval (.Name x q1) X.env)
      let iv ← holding [w, ov] (eval ie X.env)
      standAt sp1
      holding [w, ov, iv] (setItem ov iv w)
      release [w, ov, iv] []) := by intro _; rfl)
    (ha2 : ∀ w, assign (.Subscript (.Name x q2) je sp2) X.env w = (do
      let ov ← holding [w] (eval (.Name x q2) X.env)
      let iv ← holding [w, ov] (eval je X.env)
      standAt sp2
      holding [w, ov, iv] (setItem ov iv w)
      release [w, ov, iv] []) := by intro _; rfl)
    (hs1 : (assignEach [.Subscript (.Name x q1) ie sp1, .Subscript (.Name x q2) je sp2] X.env).map (·.2) = assign (.Subscript (.Name x q1) ie sp1) X.env :: (assignEach [.Subscript (.Name x q2) je sp2] X.env).map (·.2) := by rfl)
    (hs2 : (assignEach [.Subscript (.Name x q2) je sp2] X.env).map (·.2) = assign (.Subscript (.Name x q2) je sp2) X.env :: (assignEach [] X.env).map (·.2) := by rfl)
    (hn : (assignEach [.Subscript (.Name x q1) ie sp1, .Subscript (.Name x q2) je sp2] X.env).length = 2 := by rfl) (hst : (assignEach [.Subscript (.Name x q1) ie sp1, .Subscript (.Name x q2) je sp2] X.env).findIdx? (·.1) = none := by rfl)
    (hs : swapsWithSole [.Tuple [.Subscript (.Name x q1) ie sp1, .Subscript (.Name x q2) je sp2] tk pt] (.Tuple [u, v] k2 pt2) pos.line X.env = pure false := by rfl)
    (hw : swappedStores [.Tuple [.Subscript (.Name x q1) ie sp1, .Subscript (.Name x q2) je sp2] tk pt] (.Tuple [u, v] k2 pt2) X.env = pure none := by rfl)
    (h1 : (assignEach [.Tuple [.Subscript (.Name x q1) ie sp1, .Subscript (.Name x q2) je sp2] tk pt] X.env).map (·.2) = [assign (.Tuple [.Subscript (.Name x q1) ie sp1, .Subscript (.Name x q2) je sp2] tk pt) X.env] := by rfl) :
    PS X (.Assign [.Tuple [.Subscript (.Name x q1) ie sp1, .Subscript (.Name x q2) je sp2] tk pt] (.Tuple [u, v] k2 pt2) pos) (tsD X.K X.mg fl fl fL fr (sSwap i fi fj fa)) :=
  PS_imp (ps_asg (pe_tup hp) (pg_tup hc (pgs_cons (pg_sub (pe_var hx hv hd hcd) hi set_list ha1) (pgs_cons (pg_sub (pe_var hx hv hd hcd) hj set_list ha2) pgs_nil hs2) hs1) hn hst) hs hw h1) fun E σ H ⟨c, G, δ, o, sr, e, ok⟩ => by
    obtain ⟨vs, e1, e⟩ := bind_some e
    refine ⟨_, δ, vs, sr.er, e1, fun us H1 s1 r1 => ?_⟩
    match vs, us, r1 with
    | [du, dv], [wu, wv], r1 =>
      obtain ⟨⟨_, ru⟩, ⟨_, rv⟩, _⟩ := r1
      have ru := ru rfl
      have rv := rv rfl
      refine ⟨by show 2 ≤ sizeLine; decide, fun p np => ?_⟩
      have s2 := sm_upd (o := .tup [wu, wv]) np
      have sr1 := (sr.same s1).same s2
      obtain ⟨o1, e2, e⟩ := bind_some e
      obtain ⟨d1, ed1, e2⟩ := bind_some e2
      cases ed1
      obtain ⟨ds, e3, e2⟩ := bind_some e2
      obtain ⟨k1, e4, e2⟩ := bind_some e2
      obtain ⟨ds1, e5, rfl⟩ := map_some e2
      obtain ⟨d2, ed2, e⟩ := bind_some e
      cases ed2
      obtain ⟨ds', e6, e⟩ := bind_some e
      obtain ⟨k2, e7, e⟩ := bind_some e
      obtain ⟨ds2, e8, rfl⟩ := map_some e
      cases k1 with
      | int k1 =>
        cases k2 with
        | int k2 =>
          obtain ⟨j1, e9, rfl⟩ := map_some e5
          obtain ⟨j2, e10, rfl⟩ := map_some e8
          obtain ⟨q, xs, eg, es, t, l⟩ := at_lst sr1 hk e3
          refine ⟨p, _, rfl, SqT.of upd_same, rfl, wu, [wv], rfl, _, es, _, δ, _, sr1.er, e4, fun iv H3 s3 r3 => ?_⟩
          have sr3 := sr1.same s3
          refine ⟨q, xs, k1, j1, rfl, r3.int, s3 _ _ t, by rw [l.len]; exact e9, ?_⟩
          have ru3 := (ru.same s2).same s3
          have rv3 := (rv.same s2).same s3
          have l4 := (l.same s3).set ru3 j1
          have sr4 := sr3.put' hk es l4
          obtain ⟨q', xs', eg', es', t', l'⟩ := at_lst sr4 hk e6
          rw [es] at es'
          cases es'
          have hqF : FF c.M0 G fl q := by
            obtain ⟨kk, ek, kk'⟩ := own_kind hk
            exact .inr ⟨i, kk, ek, kk'.elim (fun z => by rw [z]; rfl) (fun z => by rw [z]; rfl), by rw [eg]; exact List.mem_cons_self⟩
          have rv4 : Rep X.K X.mg (FF c.M0 G fl) (upd H3 q (.lst (xs.set j1 wu))) wv dv := Rep.stay (fun b o eb nb => ⟨by rw [upd_ne fun z => nb (by rw [z]; exact hqF)]; exact eb, nb⟩) _ _ rv3
          refine ⟨wv, [], rfl, _, es, _, _, _, sr4.er, e7, fun iv2 H5 s5 r5 => ?_⟩
          exact ⟨q, xs', k2, j2, rfl, r5.int, s5 _ _ t', by rw [l'.len]; exact e10, rfl, ok G σ _ ((sr4.same s5).put' hk es ((l'.same s5).set (rv4.same s5) j2))⟩
        | _ => cases e8
      | _ => cases e5
    | [], _ :: _, r => exact r.elim
    | [], [], r => cases e
    | [_], [], r => exact r.elim
    | [_], [_], r => cases e
    | [_], _ :: _ :: _, r => exact r.2.elim
    | _ :: _ :: _, [], r => exact r.elim
    | _ :: _ :: _, [_], r => exact r.2.elim
    | _ :: _ :: _ :: _, [_, _], r => exact r.2.2.elim
    | _ :: _ :: [], _ :: _ :: _ :: _, r => exact r.2.2.elim
    | _ :: _ :: _ :: _, _ :: _ :: _ :: _, r => cases e
end
end DL

end

section
set_option Elab.async false
set_option linter.all false
set_option maxRecDepth 100000
namespace DL
open PySem PySem.Spec PyProof.Rows L2
/-! ### a first argument that is written: a list of the caller's, or the object that is made -/
section
variable {K : PySem.W.Frag} {mg : Mg} {F : AP1} {H : Hp}
theorem SR.start1 {N : List Str} {n : Nat} {bs : List Bool} {vs : List V} {ds : List D} {k : Fl} {v0 : V} {d0 : D} {p : Addr} (hk : k = .io ∨ k = .sf) (hd : ∀ a, F a → H a ≠ none) (hF : F p) (r : RepAs K mg F H bs vs ds) (hb : bs.all id = true) (hN : N.length = n + 1)
    (hn : bs.length ≤ n) (ok : SlotOk K mg (fun H0 Chg => H0 = H ∧ Chg = fun b => b = p) F H [p] v0 d0 k) :
    SR K mg ⟨fun H0 Chg => H0 = H ∧ Chg = fun b => b = p, fun a => F a ∧ a ≠ p, [(0, p)]⟩ (fun i => if i = 0 then [p] else []) (k :: flA bs n) (L2.start N (v0 :: vs)) H (some d0 :: stD n ds) := by
  obtain ⟨l1, l2⟩ := r.len
  have ok0 : k.own = true := hk.elim (fun z => by rw [z]; rfl) fun z => by rw [z]; rfl
  have own : ∀ (i : Nat) (k : Fl), (flA bs n)[i]? = some k → k = .cl := fun i k e => by
    rcases app_get e with ⟨_, e⟩ | ⟨_, e⟩
    · rw [List.getElem?_map] at e
      obtain ⟨b, eb, rfl⟩ := map_some e
      have := List.all_eq_true.mp hb b (List.mem_of_getElem? eb)
      have hb' : b = true := this
      rw [hb']
      rfl
    · exact e
  have zero : ∀ (i : Nat) (l : Fl), (k :: flA bs n)[i]? = some l → l.own = true → i = 0 ∧ l = k := fun i l e o => by
    cases i with
    | zero =>
      cases e
      exact ⟨rfl, rfl⟩
    | succ i =>
      have := own i l e
      subst this
      cases o
  have hFF : ∀ a, FF (fun a => F a ∧ a ≠ p) (fun i => if i = 0 then [p] else []) (k :: flA bs n) a ↔ F a := fun a => by
    constructor
    · rintro (z | ⟨i, l, e, o, m⟩)
      · exact z.1
      · obtain ⟨rfl, _⟩ := zero i l e o
        have m' : a ∈ [p] := m
        rw [List.mem_singleton] at m'
        rw [m']
        exact hF
    · intro z
      by_cases ha : a = p
      · exact .inr ⟨0, k, rfl, ok0, by rw [ha]; exact List.mem_cons_self⟩
      · exact .inl ⟨z, ha⟩
  have kp : Kp F (FF (fun a => F a ∧ a ≠ p) (fun i => if i = 0 then [p] else []) (k :: flA bs n)) H H := fun b o e nb => ⟨e, fun z => nb ((hFF b).mp z)⟩
  have hs : L2.start N (v0 :: vs) = some v0 :: (vs.map some ++ List.replicate (n - vs.length) none) := by
    unfold L2.start
    rw [hN]
    show some v0 :: (vs.map some ++ List.replicate (n + 1 - (vs.length + 1)) none) = _
    rw [Nat.add_sub_add_right]
  refine ⟨⟨H, _, rfl, rfl⟩, fun a z => hd a z.1, fun H0 Chg hB b e => by rw [← hB.1]; exact e, fun H0 Chg hB b o e _ => by rw [← hB.1]; exact e, ?_, ?_, fun i d l el nl ed => ?_, fun i l el ol => ?_, fun i l a el ol m => ?_, fun i j l1 l2 a e1 o1 e2 o2 _ _ => ?_, fun q => ?_⟩
  · rw [hs, List.length_cons, List.length_cons, List.length_append, List.length_map, List.length_replicate]
    unfold flA
    rw [List.length_append, List.length_map, List.length_replicate, l1]
  · rw [List.length_cons, List.length_cons]
    unfold stD flA
    rw [List.length_append, List.length_append, List.length_map, List.length_map, List.length_replicate, List.length_replicate, l2]
  · rw [hs]
    cases i with
    | zero =>
      cases el
      cases ed
      exact ⟨v0, rfl, ok.stay kp (fun _ _ _ _ e => e) fun _ _ e _ => e⟩
    | succ i =>
      have hc := own i l el
      subst hc
      have ed' : (stD n ds)[i]? = some (some d) := ed
      rcases app_get ed' with ⟨hl, ed'⟩ | ⟨_, e⟩
      · rw [List.getElem?_map] at ed'
        obtain ⟨d', e3, e4⟩ := map_some ed'
        cases e4
        obtain ⟨b, v, eb, ev, r1, r2⟩ := r.get e3
        have hlv := (List.getElem?_eq_some_iff.mp ev).1
        have hb' : b = true := List.all_eq_true.mp hb b (List.mem_of_getElem? eb)
        refine ⟨v, ?_, Rep.stay kp _ _ (r2 hb')⟩
        show (vs.map some ++ _)[i]? = _
        rw [List.getElem?_append_left (by rw [List.length_map]; exact hlv), List.getElem?_map, ev]
        rfl
      · cases e
  · obtain ⟨rfl, _⟩ := zero i l el ol
    exact ⟨d0, rfl⟩
  · obtain ⟨rfl, _⟩ := zero i l el ol
    have m' : a ∈ [p] := m
    rw [List.mem_singleton] at m'
    rw [m']
    exact ⟨hd p hF, fun z => z.2 rfl, fun H0 Chg hB => .inr (by rw [hB.2])⟩
  · rw [(zero i l1 e1 o1).1, (zero j l2 e2 o2).1]
  · constructor
    · intro z
      have z' : q ∈ [(0, p)] := z
      rw [List.mem_singleton] at z'
      rw [z']
      exact ⟨by show Fl.nf (some k) = false; rcases hk with rfl | rfl <;> rfl, rfl⟩
    · rintro ⟨e, g⟩
      have e0 : q.1 = 0 := by
        cases q1 : q.1 with
        | zero => rfl
        | succ i =>
          rw [q1] at e
          have e' : Fl.nf (flA bs n)[i]? = false := e
          cases q2 : (flA bs n)[i]? with
          | none => rw [q2] at e'; cases e'
          | some l => rw [q2, own i l q2] at e'; cases e'
      rw [e0] at g
      have g' : [p] = [q.2] := g
      have g2 : p = q.2 := (List.cons.inj g').1
      show q ∈ [(0, p)]
      rw [List.mem_singleton, g2, ← e0]
end
/-! ### in place -/
/-- the answer, and the list behind -/
def runIo (n : Nat) (f : DS) (ds : List D) : Option (D × List D) := match ds with
  | d0 :: ds => (f (some d0 :: stD n ds)).bind fun o => match o with
    | .rt d δ => (lstAt 0 δ).map fun es => (d, es)
    | .nx δ => (lstAt 0 δ).map fun es => (.non, es)
    | _ => none
  | _ => none
def spIo (K : PySem.W.Frag) (mg : Mg) (bs : List Bool) (f : List D → Option (D × List D)) : Sp := fun vs H Q _ => ∃ F p us xs es ds d es', vs = .ref p :: us ∧ (∀ a, F a → H a ≠ none) ∧ F p ∧ H p = some (.lst xs) ∧ RepL K mg F H xs es ∧ RepAs K mg F H bs us ds ∧ f (.lst es :: ds) = some (d, es') ∧
  ∀ v H' xs', (∀ b o, H b = some o → b ≠ p → H' b = some o) → H' p = some (.lst xs') → RepL K mg F H' xs' es' → Rep K mg F H' v d → Q v H'
section
variable {P : Program} {w : World} {K : PySem.W.Frag} {mg : Str → Option Value} {base : Heap} {x qual : Str} {st : Stmt} {f : Addr} {fd : FuncData} {N ps : List Str} {k : Nat} {bs : List Bool}
theorem calIo (n : Nat) (fb : DS) {ff : List D → Option (D × List D)} (d : Df K mg x x st ps) (S : FnScope N ps (defScope st)) (e : ff = runIo n fb) (h : ∀ f, BodyOk P w K mg base x st f N k (.io :: flA bs n) (.io :: flN n) fb) (hN : N.length = n + 1 := by rfl) (hb : bs.length + 1 = ps.length := by rfl) (hn : bs.length ≤ n := by decide) (ha : bs.all id = true := by rfl) :
    Cal P w K mg base (k + 1) x (spIo K mg bs ff) := by
  subst e
  obtain ⟨f, fd, F, m, b⟩ := d.ex
  refine ⟨f, fd, ps, F.ok S (fun vs H Q E ⟨F, p, us, xs, es, ds, d, es', e, _, _, _, _, r, _⟩ => by rw [e, List.length_cons, r.len.1, hb]) fun cdv A outer s H vs Q E hr ⟨F, p, us, xs, es, ds, d, es', ev, hd, hF, t, l, r, ef, q⟩ => ?_, m, F.kp, b⟩
  subst ev
  obtain ⟨fl', hw, hp⟩ := h f cdv A outer s H E hr
  rw [hN] at hp
  refine ⟨_, hp, ?_⟩
  obtain ⟨o, eo, ed⟩ := bind_some ef
  have sr0 := SR.start1 (N := N) (v0 := .ref p) (d0 := .lst es) (.inl rfl) hd hF r ha hN hn ⟨p, xs, es, rfl, rfl, rfl, t, l⟩
  -- behind it
  have fin : ∀ (G : Nat → List Addr) (σ : L2.St) (H' : Hp) (δ : DSt) (es2 : List D) (v : V) (d2 : D), SR K mg ⟨fun H0 Chg => H0 = H ∧ Chg = fun b => b = p, fun a => F a ∧ a ≠ p, [(0, p)]⟩ G (.io :: flN n) σ H' δ → lstAt 0 δ = some es2 →
      Rep K mg (FF (fun a => F a ∧ a ≠ p) G (.io :: flN n)) H' v d2 → (d2, es2) = (d, es') → Q v H' := fun G σ H' δ es2 v d2 sr el rv ee => by
    cases ee
    obtain ⟨i0, g0⟩ := (sr.ios (0, p)).mp List.mem_cons_self
    have g0' : G 0 = [p] := g0
    obtain ⟨p', xs', ds', eg, es3, ed3, t3, l3⟩ := sr.at_ow (i := 0) rfl (.inr rfl)
    rw [g0'] at eg
    cases eg
    have z := lstAt_of el
    rw [ed3] at z
    cases z
    have hFF : ∀ a, FF (fun a => F a ∧ a ≠ p) G (.io :: flN n) a ↔ F a := fun a => by
      constructor
      · rintro (z | ⟨i, l, e, o, m⟩)
        · exact z.1
        · cases i with
          | zero =>
            rw [g0', List.mem_singleton] at m
            rw [m]
            exact hF
          | succ i =>
            rw [flN_own (show (flN n)[i]? = some l from e)] at o
            cases o
      · intro z
        by_cases ha : a = p
        · exact .inr ⟨0, .io, rfl, rfl, by rw [g0', ha]; exact List.mem_cons_self⟩
        · exact .inl ⟨z, ha⟩
    have kp : Kp (FF (fun a => F a ∧ a ≠ p) G (.io :: flN n)) F H' H' := fun b o e nb => ⟨e, fun z => nb ((hFF b).mpr z)⟩
    exact q v H' xs' (fun b o e nb => sr.base H _ ⟨rfl, rfl⟩ b o e nb) t3 (RepL.stay kp _ _ l3) (Rep.stay kp _ _ rv)
  refine ⟨_, _, _, o, sr0, eo, ?_⟩
  cases o with
  | nx δ =>
    obtain ⟨es2, el, ee⟩ := map_some ed
    intro G σ H' sr
    exact fin G σ H' δ es2 .non .non (sr.weak hw) el .non ee
  | rt d' δ =>
    obtain ⟨es2, el, ee⟩ := map_some ed
    intro G σ H' v sr rv
    exact fin G σ H' δ es2 v d' sr el rv ee
  | _ => cases ed
end
def sAsgIo (i : Nat) (ff : List D → Option (D × List D)) (fa : DA) (ga : Tg) : DS := fun δ => (lstAt i δ).bind fun es => (fa δ).bind fun ds => (ff (.lst es :: ds)).bind fun r => (ga r.1).map fun as => .nx (setD (δ.set i (some (.lst r.2))) as)
/-- a list in a slot, changed elsewhere -/
theorem SR.moved {K : PySem.W.Frag} {mg : Mg} {c : Ctx} {G : Nat → List Addr} {fl : List Fl} {σ : L2.St} {H H' : Hp} {δ : DSt} (h : SR K mg c G fl σ H δ) {i : Nat} {k : Fl} {p : Addr} {ys : List V} {es : List D} (ek : fl[i]? = some k) (hk : k = .ow ∨ k = .io) (ep : σ[i]? = some (some (.ref p)))
    (keep : ∀ b o, H b = some o → b ≠ p → H' b = some o) (t : H' p = some (.lst ys)) (r : RepL K mg (FF c.M0 G fl) H' ys es) : SR K mg c G fl σ H' (δ.set i (some (.lst es))) := by
  obtain ⟨q, xs, ds, eg, eq, ed, _, _⟩ := h.at_ow ek hk
  rw [ep] at eq
  cases eq
  have ok : k.own = true := hk.elim (fun z => by rw [z]; rfl) fun z => by rw [z]; rfl
  have hi := (List.getElem?_eq_some_iff.mp ek).1
  have z := h.one (i := i) (k' := k) (v' := .ref p) (d' := .lst es) (g := G i) (H' := H') hi (fun w => ?_) (fun b o e n => keep b o e fun z => n k ek ok (by rw [eg, z]; exact List.mem_cons_self)) (fun b e => ?_) (fun _ b hb => ?_) fun kp _ => ?_
  · rw [set_id ek, set_id ep, setG_id] at z
    exact z
  · exact ⟨ek, rfl⟩
  · by_cases hb : b = p
    · rw [hb, t]
      exact (fun z => nomatch z)
    · cases q : H b with
      | none => exact absurd q e
      | some o => rw [keep b o q hb]; exact (fun z => nomatch z)
  · rw [eg, List.mem_singleton] at hb
    subst hb
    exact ⟨by rw [t]; exact (fun z => nomatch z), .inr ⟨k, ek, ok, by rw [eg]; exact List.mem_cons_self⟩⟩
  · rw [set_id ek, setG_id]
    rcases hk with rfl | rfl
    · exact ⟨p, ys, es, eg, rfl, rfl, t, r⟩
    · exact ⟨p, ys, es, eg, rfl, rfl, t, r⟩
section
variable {X : Cx} {k j : Nat} {fl fl1 fl' fL fr : List Fl} {pos p1 p2 apos cpos spos tpos : Pos} {e e2 ie je a b : Expr} {es : List Expr} {fe ge fi fj : DE} {fa : DA} {x y : Str} {i : Nat} {bs : List Bool} {ff : List D → Option (D × List D)}
/-- target = f(xs, ..), f writes xs -/
theorem s_asgIo (i : Nat) {tg : Expr} {g : TG} {ga : Tg} {is : List Nat} (c : Cal X.prog X.w X.K X.mg X.base k y (spIo X.K X.mg bs ff)) (hr : Room j X.A) (hkj : k ≤ j) (ha : PA X es (tAs X.K X.mg fl bs fa)) (hg : PG X tg g) (hT : TGR X.K X.mg g ga is) (hk : fl[i]? = some .ow ∨ fl[i]? = some .io := by first | exact .inl rfl | exact .inr rfl) (hx : X.N[i]? = some x := by rfl) (hf : setF fl is = fl' := by rfl) (hl : okSet fl is = true := by rfl) (hgl : Gl X y := by rfl)
    (hv : Vis X.env.scope x := by first | exact Or.inl rfl | exact Or.inr (Or.inl rfl) | exact Or.inr (Or.inr rfl)) (hd : (x == ("__debug__" : Str)) = false := by decide) (hcd : (x == ("__classdict__" : Str)) = false := by decide)
    (hdb : (y == ("__debug__" : Str)) = false := by decide) (hst : starEach (.Name x p2 :: es) X.env = (false, eval (.Name x p2) X.env) :: starEach es X.env := by rfl) (hpl : (backTo cpos (starEach es X.env)).any (·.1) = false := by rfl)
    (hs : swapsWithSole [tg] (.Call (.Name y p1) (.Name x p2 :: es) [] cpos) pos.line X.env = pure false := by rfl) (hw : swappedStores [tg] (.Call (.Name y p1) (.Name x p2 :: es) [] cpos) X.env = pure none := by rfl) (h1 : (assignEach [tg] X.env).map (·.2) = [assign tg X.env] := by rfl) :
    PS X (.Assign [tg] (.Call (.Name y p1) (.Name x p2 :: es) [] cpos) pos) (tsD X.K X.mg fl fl' fL fr (sAsgIo i ff fa ga)) := by
  obtain ⟨f, fd, ps, F, m, kp, b⟩ := c.ex
  refine PS_imp (ps_asg (pe_call F (hr.mono hkj) hgl m kp b .nil pass0 (pa_cons (pe_var hx hv hd hcd) ha hst) hdb hst hpl) hg hs hw h1) fun E σ H ⟨c, G, δ, o, sr, e, ok⟩ => ?_
  obtain ⟨es0, e1, e⟩ := bind_some e
  obtain ⟨ds, e2, e⟩ := bind_some e
  obtain ⟨r, e3, e⟩ := bind_some e
  obtain ⟨as, e4, rfl⟩ := map_some e
  subst hf
  obtain ⟨p, xs, eg, es1, t, l⟩ := at_lst sr hk e1
  have hpF : FF c.M0 G fl p := by
    obtain ⟨kk, ek, kk'⟩ := own_kind hk
    exact .inr ⟨i, kk, ek, kk'.elim (fun z => by rw [z]; rfl) (fun z => by rw [z]; rfl), by rw [eg]; exact List.mem_cons_self⟩
  refine ⟨_, es1, _, δ, ds, sr.er, e2, fun us H' s ru => ?_⟩
  have sr' := sr.same s
  refine ⟨FF c.M0 G fl, p, us, xs, es0, ds, r.1, r.2, by rw [List.append_nil], sr'.dom, hpF, s _ _ t, l.same s, ru, e3, fun v H2 xs' keep t2 l2 rv => ?_⟩
  obtain ⟨ei, tr⟩ := hT _ v σ H2 E.nx _ as rv e4
  refine tr fun ws rw' => ?_
  obtain ⟨kk, ek, kk'⟩ := own_kind hk
  have z := (sr'.moved ek kk' es1 keep t2 l2).setU (as := as) (by rw [ei]; exact okSet_of hl) rw'
  rw [ei] at z
  exact ok _ _ H2 z
end
end DL

end

section
set_option Elab.async false
set_option linter.all false
set_option maxRecDepth 100000
namespace DL
open PySem PySem.Spec PyProof.Rows L2
/-! ### objects -/
def isObjD (c m : Str) : D → Bool
  | .obj c' ns _ => decide (c' = c) && !ns.elem m
  | _ => false
def dMeth (c m : Str) (ff : List D → Option D) (fo : DE) (fa : DA) : DE := fun δ => (fo δ).bind fun d => (fa δ).bind fun ds => if isObjD c m d = true then ff (d :: ds) else none
def isCls (c : Str) : D → Bool
  | .obj c' _ _ => decide (c' = c)
  | _ => false
def dPropF0 (c : Str) (ff : List D → Option D) (fo : DE) : DE := fun δ => (fo δ).bind fun d => if isCls c d = true then ff [d] else none
/-- flat data: a tuple of ints -/
def flat1 : D → Bool
  | .tup ds => ds.all fun d => match d with
    | .int _ => true
    | _ => false
  | _ => false
def dPropF (c : Str) (ff : List D → Option D) (fo : DE) : DE := fun δ => (fo δ).bind fun d => if isCls c d = true then (ff [d]).bind fun r => if flat1 r = true then some r else none else none
def sFldS (i : Nat) (cs : List Str) (f : Str) (fv : DE) : DS := fun δ => (fv δ).bind fun d => match δ.getD i none with
  | some (.obj c ns ds) => if c ∈ cs ∧ f ∉ ns ∧ ns.length < 1000 then some (.nx (δ.set i (some (.obj c (ns ++ [f]) (ds ++ [d]))))) else none
  | _ => none
def runI (n : Nat) (c : Str) (f : DS) (ds : List D) : Option (List Str × List D) := (f (some (.obj c [] []) :: stD n ds)).bind fun o => match o with
  | .nx δ => match δ.getD 0 none with
    | some (.obj c' ns es) => if c' = c then some (ns, es) else none
    | _ => none
  | _ => none
/-- a class made -/
def mkD (c : Str) (ff : List D → Option (List Str × List D)) (ds : List D) : Option D := (ff ds).map fun r => .obj c r.1 r.2
theorem lookup_none {m : Str} : ∀ {fs : List (Str × V)}, m ∉ fs.map (·.1) → fs.lookup m = none
  | [], _ => rfl
  | (g, v) :: fs, h => by
    rw [List.lookup_cons]
    have h1 : (m == g) = false := by
      cases q : (m == g) with
      | false => rfl
      | true => exact absurd (by rw [List.map_cons, eq_of_beq q]; exact List.mem_cons_self) h
    rw [h1]
    exact lookup_none fun z => h (List.mem_cons_of_mem _ z)
theorem putF_new {f : Str} {v : V} : ∀ {fs : List (Str × V)}, f ∉ fs.map (·.1) → putF f v fs = fs ++ [(f, v)]
  | [], _ => rfl
  | (g, x) :: fs, h => by
    have hg : ¬ g = f := fun z => h (by rw [List.map_cons, z]; exact List.mem_cons_self)
    show (if g = f then (g, v) :: fs else (g, x) :: putF f v fs) = _
    rw [if_neg hg, putF_new fun z => h (List.mem_cons_of_mem _ z)]
    rfl
section
variable {X : Cx} {k j : Nat} {fl fl1 fl' fL fr : List Fl} {pos p1 p2 p' apos cpos spos tpos : Pos} {e e2 ie je a b o : Expr} {es : List Expr} {fe ge fi fj fo : DE} {fa : DA} {x y cn m fn : Str} {i : Nat} {bs : List Bool} {ff : List D → Option D} {fI : List D → Option (List Str × List D)} {cs : List Str}
/-- self.f in __init__ -/
theorem dFldS (i : Nat) (hK : ∀ c ∈ cs, ∀ C, X.mg c = some (.ref C) → Cls X.K C ∧ NoAttr X.K C fn) (hs : fl[i]? = some .sf := by rfl) (hN : X.N[i]? = some x := by rfl) (hv : Vis X.env.scope x := by first | exact Or.inl rfl | exact Or.inr (Or.inl rfl) | exact Or.inr (Or.inr rfl)) (hd : (x == ("__debug__" : Str)) = false := by decide)
    (hcd : (x == ("__classdict__" : Str)) = false := by decide) (hb : attributeBase (.Name x p1) fn X.env (eval (.Name x p1) X.env) = eval (.Name x p1) X.env := by rfl) : PE X (.Attribute (.Name x p1) fn pos) (tD X.K X.mg fl (dC1 (gFld cs fn) (dvar i))) :=
  PE_imp (pe_fld (pe_var hN hv hd hcd) hb) fun σ H Q ⟨F, δ, d, er, ef, q⟩ => by
    obtain ⟨dx, e1, ef⟩ := bind_some ef
    obtain ⟨v, ev, p, C, dxx, fs, c, ns, ds, rfl, rfl, t, mm, e3, l⟩ := er.slotS i dx hs (dvar_at e1)
    replace ef : (if c ∈ cs then (ns.zip ds).lookup fn else none) = some d := ef
    split at ef
    · rename_i hz
      subst e3
      obtain ⟨u, lu, ru⟩ := fs_lookup l ef
      exact ⟨_, ev, _, _, _, _, u, rfl, t, (hK c hz _ mm).1, (hK c hz _ mm).2, lu, q u H (Same.refl H) ru⟩
    · cases ef
theorem SR.putS {K : PySem.W.Frag} {mg : Mg} {c : Ctx} {G : Nat → List Addr} {fl : List Fl} {σ : L2.St} {H : Hp} {δ : DSt} (h : SR K mg c G fl σ H δ) {p C dx : Addr} {gs : List (Str × V)} {cn : Str} {es : List D} (ek : fl[i]? = some .sf) (eg : G i = [p]) (ep : σ[i]? = some (some (.ref p))) (m : mg cn = some (.ref C)) (r : RepL K mg (FF c.M0 G fl) H (gs.map (·.2)) es) :
    SR K mg c G fl σ (upd H p (.ins C dx gs)) (δ.set i (some (.obj cn (gs.map (·.1)) es))) := by
  have hi := (List.getElem?_eq_some_iff.mp ek).1
  have hpF : FF c.M0 G fl p := .inr ⟨i, .sf, ek, rfl, by rw [eg]; exact List.mem_cons_self⟩
  have z := h.one (i := i) (k' := .sf) (v' := .ref p) (d' := .obj cn (gs.map (·.1)) es) (g := G i) (H' := upd H p (.ins C dx gs)) hi (fun w => ⟨ek, rfl⟩) (fun b o e n => ?_) (fun b e => ?_) (fun _ b hb => ?_) fun kp _ => ?_
  · rw [set_id ek, set_id ep, setG_id] at z
    exact z
  · rw [upd_ne fun z => n .sf ek rfl (by rw [eg, z]; exact List.mem_cons_self)]
    exact e
  · by_cases hb : b = p
    · rw [hb, upd_same]
      exact (fun z => nomatch z)
    · rw [upd_ne hb]
      exact e
  · rw [eg, List.mem_singleton] at hb
    subst hb
    exact ⟨by rw [upd_same]; exact (fun z => nomatch z), .inr ⟨.sf, ek, rfl, by rw [eg]; exact List.mem_cons_self⟩⟩
  · rw [set_id ek, setG_id]
    exact ⟨⟨p, eg, rfl⟩, p, C, dx, gs, cn, _, es, rfl, rfl, upd_same, m, rfl, RepL.stay (fun b o eb nb => ⟨by rw [upd_ne fun z => nb (by rw [z]; exact hpF)]; exact eb, nb⟩) _ _ r⟩
/-- self.f = value in __init__ -/
theorem s_fldS (i : Nat) (cs : List Str) (hK : ∀ c ∈ cs, ∀ C, X.mg c = some (.ref C) → Cls X.K C ∧ NoAttr X.K C fn) (he : PE X e (tD X.K X.mg fl fe)) (hs : fl[i]? = some .sf := by rfl) (hN : X.N[i]? = some x := by rfl) (hv : Vis X.env.scope x := by first | exact Or.inl rfl | exact Or.inr (Or.inl rfl) | exact Or.inr (Or.inr rfl)) (hd : (x == ("__debug__" : Str)) = false := by decide)
    (hcd : (x == ("__classdict__" : Str)) = false := by decide) (hsw : swapsWith e (some (.Attribute (.Name x p1) fn p')) pos.line X.env = pure false := by rfl) : PS X (.Assign [.Attribute (.Name x p1) fn p'] e pos) (tsD X.K X.mg fl fl fL fr (sFldS i cs fn fe)) :=
  PS_imp (ps_fld (pe_var hN hv hd hcd) he hsw) fun E σ H ⟨c, G, δ, o, sr, e, ok⟩ => by
    obtain ⟨d, e1, e⟩ := bind_some e
    split at e
    case h_2 => cases e
    rename_i cn ns ds heq
    split at e
    case isFalse => cases e
    rename_i hz
    cases e
    obtain ⟨v, ev, ⟨p, eg, rfl⟩, p2, C, dxx, fs, cn', ns', ds', e5, e6, t, mm, e3, l⟩ := sr.slot i _ .sf hs (fun z => nomatch z) (getD_of heq)
    cases e5
    cases e6
    refine ⟨_, δ, d, sr.er, e1, fun y H' s r => ⟨_, ev, p, C, dxx, fs, rfl, s _ _ t, (hK cn hz.1 _ mm).1, (hK cn hz.1 _ mm).2, ?_, ?_⟩⟩
    · rw [← List.length_map (as := fs) (·.1), e3]
      exact hz.2.2
    · rw [putF_new (by rw [e3]; exact hz.2.1)]
      have z := (sr.same s).putS (dx := dxx) (gs := fs ++ [(fn, y)]) (es := ds ++ [d]) hs eg ev mm (by rw [List.map_append]; exact (l.same s).append (.cons r .nil))
      rw [List.map_append, e3] at z
      exact ok G σ _ z
/-! methods, properties, classes by their names -/
structure Met (P : Program) (w : World) (K : PySem.W.Frag) (mg : Str → Option Value) (base : Heap) (k : Nat) (c m : Str) (sp : Sp) : Prop where
  ex : ∃ C f fd ps, mg c = some (.ref C) ∧ Cls K C ∧ Meth K C m f ∧ FnOk P w K mg base CX0 k f fd ps sp ∧ Binds K fd ps []
structure Prp (P : Program) (w : World) (K : PySem.W.Frag) (mg : Str → Option Value) (base : Heap) (k : Nat) (c m : Str) (sp : Sp) : Prop where
  ex : ∃ C p g fd ps, mg c = some (.ref C) ∧ Cls K C ∧ PropOf K C m p g ∧ FnOk P w K mg base CX0 k g fd ps sp ∧ Binds K fd ps []
structure Mak (P : Program) (w : World) (K : PySem.W.Frag) (mg : Str → Option Value) (base : Heap) (k : Nat) (c : Str) (sp : Addr → Sp) : Prop where
  ex : ∃ C f fd ps, mg c = some (.ref C) ∧ Mk K C f ∧ FnOk P w K mg base CX0 k f fd ps (sp C) ∧ Binds K fd ps []
/-- .. as they stand behind the top -/
structure Dm (K : PySem.W.Frag) (mg : Str → Option Value) (c m qual : Str) (st : Stmt) (ps : List Str) : Prop where
  ex : ∃ C f fd, mg c = some (.ref C) ∧ Cls K C ∧ Meth K C m f ∧ Fun K m qual st f fd ∧ Binds K fd ps []
structure Dp (K : PySem.W.Frag) (mg : Str → Option Value) (c m qual : Str) (st : Stmt) (ps : List Str) : Prop where
  ex : ∃ C p g fd, mg c = some (.ref C) ∧ Cls K C ∧ PropOf K C m p g ∧ Fun K m qual st g fd ∧ Binds K fd ps []
structure Di (K : PySem.W.Frag) (mg : Str → Option Value) (c qual : Str) (st : Stmt) (ps : List Str) : Prop where
  ex : ∃ C f fd, mg c = some (.ref C) ∧ Mk K C f ∧ Fun K "__init__" qual st f fd ∧ Binds K fd ps []
def spI (K : PySem.W.Frag) (mg : Mg) (c : Str) (bs : List Bool) (f : List D → Option (List Str × List D)) (C : Addr) : Sp := fun vs H Q _ => ∃ F p dx us ds r, vs = .ref p :: us ∧ (∀ a, F a → H a ≠ none) ∧ F p ∧ H p = some (.ins C dx []) ∧ mg c = some (.ref C) ∧ RepAs K mg F H bs us ds ∧ f ds = some r ∧
  ∀ H' dx' fs, (∀ b o, H b = some o → b ≠ p → H' b = some o) → H' p = some (.ins C dx' fs) → fs.map (·.1) = r.1 → RepL K mg F H' (fs.map (·.2)) r.2 → Q .non H'
section
variable {P : Program} {w : World} {K : PySem.W.Frag} {mg : Str → Option Value} {base : Heap} {x qual : Str} {st : Stmt} {f : Addr} {fd : FuncData} {N ps : List Str} {k : Nat} {bs : List Bool} {c m : Str}
theorem metD (n : Nat) (fb : DS) {ff : List D → Option D} (d : Dm K mg c m qual st ps) (S : FnScope N ps (defScope st)) (e : ff = runD n fb) (h : ∀ f, BodyOk P w K mg base qual st f N k (flA bs n) (flN n) fb) (hN : N.length = n := by rfl) (hb : bs.length = ps.length := by rfl) (hn : bs.length ≤ n := by decide) : Met P w K mg base (k + 1) c m (spD K mg bs ff) := by
  subst hN
  subst e
  obtain ⟨C, f, fd, mm, cl, me, F, b⟩ := d.ex
  exact ⟨C, f, fd, ps, mm, cl, me, fnD F S (h f) hb hn, b⟩
theorem prpD (n : Nat) (fb : DS) {ff : List D → Option D} (d : Dp K mg c m qual st ps) (S : FnScope N ps (defScope st)) (e : ff = runD n fb) (h : ∀ f, BodyOk P w K mg base qual st f N k (flA bs n) (flN n) fb) (hN : N.length = n := by rfl) (hb : bs.length = ps.length := by rfl) (hn : bs.length ≤ n := by decide) : Prp P w K mg base (k + 1) c m (spD K mg bs ff) := by
  subst hN
  subst e
  obtain ⟨C, p, f, fd, mm, cl, me, F, b⟩ := d.ex
  exact ⟨C, p, f, fd, ps, mm, cl, me, fnD F S (h f) hb hn, b⟩
theorem makI (n : Nat) (fb : DS) {ff : List D → Option (List Str × List D)} (d : Di K mg c qual st ps) (S : FnScope N ps (defScope st)) (e : ff = runI n c fb) (h : ∀ f, BodyOk P w K mg base qual st f N k (.sf :: flA bs n) (.sf :: flN n) fb) (hN : N.length = n + 1 := by rfl) (hb : bs.length + 1 = ps.length := by rfl) (hn : bs.length ≤ n := by decide) (ha : bs.all id = true := by rfl) :
    Mak P w K mg base (k + 1) c (spI K mg c bs ff) := by
  subst e
  obtain ⟨C, f, fd, mm, mk, F, b⟩ := d.ex
  refine ⟨C, f, fd, ps, mm, mk, F.ok S (fun vs H Q E ⟨F, p, dx, us, ds, r', ev, _, _, _, _, r, _⟩ => by rw [ev, List.length_cons, r.len.1, hb]) fun cdv A outer s H vs Q E hr ⟨F, p, dx, us, ds, r', ev, hd, hF, t, mc, r, ef, q⟩ => ?_, b⟩
  subst ev
  obtain ⟨fl', hw, hp⟩ := h f cdv A outer s H E hr
  rw [hN] at hp
  refine ⟨_, hp, ?_⟩
  obtain ⟨o, eo, ed⟩ := bind_some ef
  have sr0 := SR.start1 (N := N) (v0 := .ref p) (d0 := .obj c [] []) (.inr rfl) hd hF r ha hN hn ⟨⟨p, rfl, rfl⟩, p, C, dx, [], c, [], [], rfl, rfl, t, mc, rfl, .nil⟩
  refine ⟨_, _, _, o, sr0, eo, ?_⟩
  cases o with
  | nx δ =>
    intro G σ H' sr'
    have sr := sr'.weak hw
    have ed' : (match δ.getD 0 none with
      | some (.obj c' ns es) => if c' = c then some (ns, es) else none
      | _ => none) = some r' := ed
    split at ed'
    case h_2 => cases ed'
    rename_i c' ns es' heq
    split at ed'
    case isFalse => cases ed'
    rename_i hc
    subst hc
    cases ed'
    obtain ⟨i0, g0⟩ := (sr.ios (0, p)).mp List.mem_cons_self
    have g0' : G 0 = [p] := g0
    obtain ⟨v, ev, ⟨p3, eg, rfl⟩, p2, C2, dxx, fs, cn', ns', ds', e5, e6, t2, m2, e3, l⟩ := sr.slot 0 _ .sf rfl (fun z => nomatch z) (getD_of heq)
    cases e5
    cases e6
    rw [mm] at m2
    cases m2
    rw [g0'] at eg
    cases eg
    have hFF : ∀ a, FF (fun a => F a ∧ a ≠ p) G (.sf :: flN n) a ↔ F a := fun a => by
      constructor
      · rintro (z | ⟨i, l, e, o, m⟩)
        · exact z.1
        · cases i with
          | zero =>
            rw [g0', List.mem_singleton] at m
            rw [m]
            exact hF
          | succ i =>
            rw [flN_own (show (flN n)[i]? = some l from e)] at o
            cases o
      · intro z
        by_cases ha : a = p
        · exact .inr ⟨0, .sf, rfl, rfl, by rw [g0', ha]; exact List.mem_cons_self⟩
        · exact .inl ⟨z, ha⟩
    exact q H' dxx fs (fun b o e nb => sr.base H _ ⟨rfl, rfl⟩ b o e nb) t2 e3 (RepL.stay (fun b o e nb => ⟨e, fun z => nb ((hFF b).mpr z)⟩) _ _ l)
  | rt d' δ => cases ed
  | _ => cases ed
end
theorem RepAs.clean {K : PySem.W.Frag} {mg : Mg} {F F' : AP1} {H H' : Hp} (h : ∀ v d, Rep K mg F H v d → Rep K mg F' H' v d) : ∀ {bs : List Bool} {vs : List V} {ds : List D}, bs.all id = true → RepAs K mg F H bs vs ds → RepAs K mg F' H' bs vs ds
  | [], [], [], _, _ => trivial
  | b :: bs, v :: vs, d :: ds, e, r => by
    have e' : (id b && bs.all id) = true := e
    rw [Bool.and_eq_true] at e'
    have z := h v d (r.1.2 e'.1)
    exact ⟨⟨.inl z, fun _ => z⟩, RepAs.clean h e'.2 r.2⟩
  | [], _ :: _, _, _, h => h.elim
  | [], [], _ :: _, _, h => h.elim
  | _ :: _, [], _, _, h => h.elim
  | _ :: _, _ :: _, [], _, h => h.elim
section
variable {k j : Nat} {p' : Pos}
/-- o.m(e, ..) -/
theorem dMt {pl : Sem Bool} (c : Met X.prog X.w X.K X.mg X.base k cn m (spD X.K X.mg (true :: bs) ff)) (hr : Room j X.A) (hk : k ≤ j) (ho : PE X o (tD X.K X.mg fl fo)) (ha : PA X (e :: es) (tAs X.K X.mg fl bs fa))
    (hst : starEach (e :: es) X.env = (false, eval e X.env) :: starEach es X.env := by rfl) (hpl : (backTo pos (starEach es X.env)).any (·.1) = false := by rfl)
    (ht : eval (.Call (.Attribute o m apos) (e :: es) [] pos) X.env = (do
      let ov ← eval o X.env
      standAt apos.atName
      let (f, first) ← holding [ov] (getMethod ov m pl)
      callWith pos f first (backTo pos (starEach (e :: es) X.env)) (backToKw pos (keywordEach [] X.env))) := by rfl) :
    PE X (.Call (.Attribute o m apos) (e :: es) [] pos) (tD X.K X.mg fl (dMeth cn m ff fo fa)) := by
  obtain ⟨C, f, fd, ps, mm, cl, me, F, b⟩ := c.ex
  refine PE_imp (pe_meth ho cl me F (hr.mono hk) b .nil pass0 ha hst hpl ht) fun σ H Q ⟨F, δ, d, er, ef, q⟩ => ?_
  obtain ⟨dx, e1, ef1⟩ := bind_some ef
  obtain ⟨ds, e2, ef2⟩ := bind_some ef1
  by_cases hz : isObjD cn m dx = true
  case neg => rw [if_neg hz] at ef2; cases ef2
  rw [if_pos hz] at ef2
  refine ⟨F, δ, dx, er, e1, fun v H1 s1 r1 => ?_⟩
  cases dx with
  | obj c' ns es' =>
    have hz' : (decide (c' = cn) && !ns.elem m) = true := hz
    rw [Bool.and_eq_true] at hz'
    have hc : c' = cn := of_decide_eq_true hz'.1
    subst hc
    have r0 := r1
    cases r1 with
    | obj t n mg' en rl =>
      rw [mm] at mg'
      cases mg'
      subst en
      refine ⟨_, _, _, rfl, t, lookup_none fun z => ?_, F, δ, ds, er.same s1, e2, fun us H2 s2 ru => ⟨F, .obj c' _ es' :: ds, d, dom_same (s1.trans s2) er.dom, ⟨⟨.inl (r0.same s2), fun _ => r0.same s2⟩, by rw [List.append_nil]; exact ru⟩, ef2, fun u H3 s3 r3 => q u H3 ((s1.trans s2).trans s3) r3⟩⟩
      have z2 := List.elem_iff.mpr z
      rw [z2] at hz'
      cases hz'.2
  | _ => cases hz
/-- o.m() -/
theorem dMt0 {pl : Sem Bool} (c : Met X.prog X.w X.K X.mg X.base k cn m (spD X.K X.mg [true] ff)) (hr : Room j X.A) (hk : k ≤ j) (ho : PE X o (tD X.K X.mg fl fo))
    (ht : eval (.Call (.Attribute o m apos) [] [] pos) X.env = (do
      let ov ← eval o X.env
      standAt apos.atName
      let (f, first) ← holding [ov] (getMethod ov m pl)
      callWith pos f first (backTo pos (starEach [] X.env)) (backToKw pos (keywordEach [] X.env))) := by rfl) :
    PE X (.Call (.Attribute o m apos) [] [] pos) (tD X.K X.mg fl (dMeth cn m ff fo aNil)) := by
  obtain ⟨C, f, fd, ps, mm, cl, me, F, b⟩ := c.ex
  refine PE_imp (pe_meth0 ho cl me F (hr.mono hk) b .nil pass0 ht) fun σ H Q ⟨F, δ, d, er, ef, q⟩ => ?_
  obtain ⟨dx, e1, ef1⟩ := bind_some ef
  obtain ⟨ds, e2, ef2⟩ := bind_some ef1
  cases e2
  by_cases hz : isObjD cn m dx = true
  case neg => rw [if_neg hz] at ef2; cases ef2
  rw [if_pos hz] at ef2
  refine ⟨F, δ, dx, er, e1, fun v H1 s1 r1 => ?_⟩
  cases dx with
  | obj c' ns es' =>
    have hz' : (decide (c' = cn) && !ns.elem m) = true := hz
    rw [Bool.and_eq_true] at hz'
    have hc : c' = cn := of_decide_eq_true hz'.1
    subst hc
    have r0 := r1
    cases r1 with
    | obj t n mg' en rl =>
      rw [mm] at mg'
      cases mg'
      subst en
      refine ⟨_, _, _, rfl, t, lookup_none fun z => ?_, F, [.obj c' _ es'], d, dom_same s1 er.dom, ⟨⟨.inl r0, fun _ => r0⟩, trivial⟩, ef2, fun u H3 s3 r3 => q u H3 (s1.trans s3) r3⟩
      have z2 := List.elem_iff.mpr z
      rw [z2] at hz'
      cases hz'.2
  | _ => cases hz
/-- o.f, a property -/
theorem dProp (c : Prp X.prog X.w X.K X.mg X.base k cn m (spD X.K X.mg [true] ff)) (hr : Room j X.A) (hk : k + 1 ≤ j) (ho : PE X o (tD X.K X.mg fl fo)) (hab : attributeBase o m X.env (eval o X.env) = eval o X.env := by rfl) :
    PE X (.Attribute o m pos) (tD X.K X.mg fl (dPropF0 cn ff fo)) := by
  obtain ⟨C, p, g, fd, ps, mm, cl, hp, F, b⟩ := c.ex
  refine PE_imp (pe_prop ho cl hp F (hr.mono hk) b .nil pass0 hab) fun σ H Q ⟨F, δ, d, er, ef, q⟩ => ?_
  obtain ⟨dx, e1, ef2⟩ := bind_some ef
  by_cases hz : isCls cn dx = true
  case neg => rw [if_neg hz] at ef2; cases ef2
  rw [if_pos hz] at ef2
  refine ⟨F, δ, dx, er, e1, fun v H1 s1 r1 => ?_⟩
  cases dx with
  | obj c' ns es' =>
    have hc : c' = cn := of_decide_eq_true hz
    subst hc
    have r0 := r1
    cases r1 with
    | obj t n mg' en rl =>
      rw [mm] at mg'
      cases mg'
      exact ⟨_, _, _, rfl, t, F, [.obj c' ns es'], d, dom_same s1 er.dom, ⟨⟨.inl r0, fun _ => r0⟩, trivial⟩, ef2, fun u H3 s3 r3 => q u H3 (s1.trans s3) r3⟩
  | _ => cases hz
theorem ints_of_all : ∀ {ds : List D}, (ds.all fun d => match d with | .int _ => true | _ => false) = true → ∃ ns : List Int, ds = ns.map D.int
  | [], _ => ⟨[], rfl⟩
  | d :: ds, h => by
    rw [List.all_cons, Bool.and_eq_true] at h
    obtain ⟨ns, e⟩ := ints_of_all h.2
    cases d with
    | int i => exact ⟨i :: ns, by rw [e]; rfl⟩
    | _ => cases h.1
/-- self.f in __init__, a property whose value is flat -/
theorem dPropS (i : Nat) (c : Prp X.prog X.w X.K X.mg X.base k cn m (spD X.K X.mg [true] ff)) (hr : Room j X.A) (hk : k + 1 ≤ j) (hs : fl[i]? = some .sf := by rfl) (hN : X.N[i]? = some x := by rfl) (hv : Vis X.env.scope x := by first | exact Or.inl rfl | exact Or.inr (Or.inl rfl) | exact Or.inr (Or.inr rfl)) (hd : (x == ("__debug__" : Str)) = false := by decide)
    (hcd : (x == ("__classdict__" : Str)) = false := by decide) (hab : attributeBase (.Name x p1) m X.env (eval (.Name x p1) X.env) = eval (.Name x p1) X.env := by rfl) :
    PE X (.Attribute (.Name x p1) m pos) (tD X.K X.mg fl (dPropF cn ff (dvar i))) := by
  obtain ⟨C, p, g, fd, ps, mm, cl, hp, F, b⟩ := c.ex
  refine PE_imp (pe_prop (pe_var hN hv hd hcd) cl hp F (hr.mono hk) b .nil pass0 hab) fun σ H Q ⟨F, δ, d, er, ef, q⟩ => ?_
  obtain ⟨dx, e1, ef2⟩ := bind_some ef
  by_cases hz : isCls cn dx = true
  case neg => rw [if_neg hz] at ef2; cases ef2
  rw [if_pos hz] at ef2
  obtain ⟨r, e2, ef3⟩ := bind_some ef2
  by_cases hfl : flat1 r = true
  case neg => rw [if_neg hfl] at ef3; cases ef3
  rw [if_pos hfl] at ef3
  cases ef3
  obtain ⟨v, ev, p0, C0, dxx, fs, c', ns, ds, rfl, rfl, t, mg', en, rl⟩ := er.slotS i dx hs (dvar_at e1)
  have hc : c' = cn := of_decide_eq_true hz
  subst hc
  rw [mm] at mg'
  cases mg'
  have kp : Kp F (fun a => F a ∧ a ≠ p0) H H := fun b o e n => ⟨e, fun z => n z.1⟩
  have r0 : Rep X.K X.mg (fun a => F a ∧ a ≠ p0) H (.ref p0) (.obj c' ns ds) := .obj t (fun z => z.2 rfl) mm en (RepL.stay kp _ _ rl)
  refine ⟨_, ev, _, _, _, rfl, t, fun a => F a ∧ a ≠ p0, [.obj c' ns ds], d, fun a z => er.dom a z.1, ⟨⟨.inl r0, fun _ => r0⟩, trivial⟩, e2, fun u H3 s3 r3 => q u H3 s3 ?_⟩
  cases d with
  | tup es =>
    obtain ⟨ns2, rfl⟩ := ints_of_all (show (es.all _) = true from hfl)
    cases r3 with
    | tup tt ll =>
      have e4 := ll.ints
      subst e4
      refine .tup (tt.elim (fun z => .inl ⟨z.1, fun w => z.2 ⟨w, fun e => ?_⟩⟩) .inr) (RepL.of_ints ns2)
      subst e
      rcases z.1 with z1 | ⟨o, z1⟩
      · rw [s3 _ _ t] at z1
        cases z1
      · rw [s3 _ _ t] at z1
        cases z1
  | _ => cases hfl
/-- C(e, ..) -/
theorem dMk (c : Mak X.prog X.w X.K X.mg X.base k cn (spI X.K X.mg cn bs fI)) (hr : Room j X.A) (hk : k + 1 ≤ j) (ha : PA X (e :: es) (tAs X.K X.mg fl bs fa)) (hb : bs.all id = true := by rfl) (hg : Gl X cn := by rfl) (hdb : (cn == ("__debug__" : Str)) = false := by decide)
    (he : starEach (e :: es) X.env = (false, eval e X.env) :: starEach es X.env := by rfl) (hpl : (backTo pos (starEach es X.env)).any (·.1) = false := by rfl) :
    PE X (.Call (.Name cn p1) (e :: es) [] pos) (tD X.K X.mg fl (dCal (mkD cn fI) fa)) := by
  obtain ⟨C, f, fd, ps, mm, mk, F, b⟩ := c.ex
  refine PE_imp (pe_make mk F (hr.mono hk) hg mm b .nil pass0 ha hdb he hpl) fun σ H Q ⟨F, δ, d, er, ef, q⟩ => ?_
  obtain ⟨ds, e1, e2⟩ := bind_some ef
  obtain ⟨r, e3, rfl⟩ := map_some e2
  refine ⟨F, δ, ds, er, e1, fun us H1 s1 ru x dx nx nd ne => ?_⟩
  have hF1 : ∀ a, F a → H1 a ≠ none := dom_same s1 er.dom
  have hFx : ¬ F x := fun z => hF1 x z nx
  have s2 : ∀ b o, H1 b = some o → (upd (upd H1 dx (.own x)) x (.ins C dx [])) b = some o := fun b o e => by
    rw [upd_ne (fun z => by rw [z, nx] at e; cases e), upd_ne (fun z => by rw [z, nd] at e; cases e)]
    exact e
  have kp : Kp F (fun a => F a ∨ a = x) H1 (upd (upd H1 dx (.own x)) x (.ins C dx [])) := fun b o e n => ⟨s2 b o e, fun z => z.elim n fun w => by rw [w, nx] at e; cases e⟩
  refine ⟨fun a => F a ∨ a = x, x, dx, us, ds, r, by rw [List.append_nil], fun a z => ?_, .inr rfl, upd_same, mm, RepAs.clean (fun v d r => Rep.stay kp _ _ r) hb ru, e3, fun H' dx' fs keep t en rl => ⟨rfl, ?_⟩⟩
  · rcases z with z | z
    · cases q2 : H1 a with
      | none => exact absurd q2 (hF1 a z)
      | some o => rw [s2 a o q2]; exact (fun z => nomatch z)
    · rw [z, upd_same]; exact (fun z => nomatch z)
  · refine q (.ref x) H' (fun b o e => keep b o (s2 b o (s1 b o e)) fun z => ?_) (.obj t hFx mm en (RepL.stay (fun b o e n => ⟨e, fun z => n (.inl z)⟩) _ _ rl))
    have e' := s1 b o e
    rw [z, nx] at e'
    cases e'
end
end
end DL

end

section
set_option Elab.async false
set_option linter.all false
set_option maxRecDepth 100000
namespace DL
open PySem PySem.Spec PyProof.Rows L2
/-- a def that is not asked anything -/
theorem cal0 {P : Program} {w : World} {K : PySem.W.Frag} {mg : Str → Option Value} {base : Heap} {x : Str} {st : Stmt} {ps : List Str} {k : Nat} {bs : List Bool} (d : Df K mg x x st ps) : Cal P w K mg base k x (spD K mg bs fun _ => none) := by
  obtain ⟨f, fd, F, m, b⟩ := d.ex
  exact ⟨f, fd, ps, ⟨(fun vs H Q E ⟨_, _, _, _, _, e, _⟩ => by cases e), (fun A outer s H args us vs Q E _ _ _ _ ⟨_, _, _, _, _, e, _⟩ => by cases e)⟩, m, F.kp, b⟩
end DL

end

section
set_option Elab.async false
set_option linter.all false
set_option maxRecDepth 100000
/-! zip over any number of lists and tuples of one length, given by a star; the target a name -/
namespace DLS
open PySem PySem.Spec PyProof.Rows L2 DLZ
theorem nn {a b : Nat} (h : a < b ∨ b < a) : a ≠ b := by omega
structure Rc where
  b : Bool
  a : Nat
  items : Array Value
abbrev IsZ (h : Heap) (z TI TO : Addr) (f0 f1 : Value) : Prop :=
  h.get? z = some { cls := .type "zip", dict := none, data := .fields #[f0, f1, .bool false, .ref TI, .ref TO], slots := #[] }
def TupIs (h : Heap) (T : Addr) (vs : List Value) : Prop := h.get? T = some { cls := .type "tuple", data := .seq vs.toArray }
def Its (n0 n : Nat) : List Value := (List.range n).map fun j => .ref (n0 + j)
theorem Its_len {n0 n : Nat} : (Its n0 n).length = n := by simp [Its]
theorem zipIdx_drop {l : List Value} {k : Nat} {x : Value × Nat} {rest : List (Value × Nat)} (h : x :: rest = l.zipIdx.drop k) : ∃ v, l[k]? = some v ∧ x = (v, k) ∧ rest = l.zipIdx.drop (k + 1) := by
  have h1 : l.zipIdx[k]? = some x := by
    have : (l.zipIdx.drop k)[0]? = some x := by rw [← h]; rfl
    rw [List.getElem?_drop] at this
    simpa using this
  rw [List.getElem?_zipIdx] at h1
  obtain ⟨v, e1, e2⟩ := DL.map_some h1
  refine ⟨v, e1, by rw [← e2]; simp, ?_⟩
  have : rest = (x :: rest).drop 1 := rfl
  rw [this, h, List.drop_drop]
theorem Its_at {n0 n k : Nat} {v : Value} (h : (Its n0 n)[k]? = some v) : k < n ∧ v = .ref (n0 + k) := by
  unfold Its at h
  rw [List.getElem?_map] at h
  obtain ⟨j, e1, e2⟩ := DL.map_some h
  have := List.getElem?_eq_some_iff.mp e1
  obtain ⟨hl, e⟩ := this
  rw [List.length_range] at hl
  rw [List.getElem_range] at e
  exact ⟨hl, by rw [← e2, ← e]⟩
section
variable {prog : Program} {w : World} {A : Around} {E : Value → Shared → Prop} {s : Shared}
theorem wpAny_alive {a : Addr} {Q : Option Obj → Shared → Prop} (h : Q (s.heap.get? a) s) : wpAny (model prog w) A (loadIfAlive a) Q E s := fun Γ p hΓ => by
  show Sem.wp _ Γ (.loadIfAlive a .pure) _ _ p s
  rw [Sem.wp_loadIfAlive]
  exact h
theorem wpAny_updTup {T : Addr} {vs : List Value} {x : Value} {k : Nat} {Q : Unit → Shared → Prop} (hT : TupIs s.heap T vs) (hl : vs.length ≤ sizeLine)
    (h : ∀ h', TupIs h' T (vs.set k x) → Heap.SameBut T s.heap h' → Q () { s with heap := h' }) :
    wpAny (model prog w) A (updateSeq T (·.setIfInBounds k x)) Q E s := by
  refine wpAny_updateSeq hT rfl (h _ ?_ (Heap.SameBut.update ..)) (by rw [List.size_toArray]; exact hl) (by rw [Array.size_setIfInBounds, List.size_toArray]; exact Nat.le_succ_of_le hl)
  show _ = _
  rw [Heap.get?_update_self _ hT rfl]
  simp [Obj.mapSeq]
/-- the iterators within a turn: the first k have moved -/
def StK (n0 i k : Nat) (L : List Rc) (h : Heap) : Prop := ∀ j r, L[j]? = some r → SqIt r.b h (n0 + j) r.a (if j < k then i + 1 else i) ∧ SqAt r.b h r.a r.items
/-- what is written: the cells n0 .. n0 + n + 2 but the tuple of the iterators -/
def Kept (n0 n : Nat) (h h' : Heap) : Prop := ∀ c o, (c < n0 ∨ n0 + n + 2 < c ∨ c = n0 + n) → h.get? c = some o → h'.get? c = some o
theorem Kept.refl {n0 n : Nat} {h : Heap} : Kept n0 n h h := fun _ _ _ e => e
theorem Kept.but {n0 n x : Nat} {h h' h2 : Heap} (k : Kept n0 n h h') (s : Heap.SameBut x h' h2) (hx : n0 ≤ x ∧ x ≤ n0 + n + 2 ∧ x ≠ n0 + n) : Kept n0 n h h2 := fun c o hc e => s.extBut c o (fun z => by subst z; omega) (k c o hc e)
theorem SqAt.but {b : Bool} {x a : Addr} {items : Array Value} {h h' : Heap} (st : SqAt b h a items) (s : Heap.SameBut x h h') (hx : a ≠ x) : SqAt b h' a items := by
  cases b
  · exact Heap.IsTuple.at st fun o e => s.extBut a o hx e
  · exact Heap.IsList.at st fun o e => s.extBut a o hx e
theorem StK.but {n0 i k x : Nat} {L : List Rc} {h h' : Heap} (st : StK n0 i k L h) (s : Heap.SameBut x h h') (hx : n0 + L.length ≤ x) (ha : ∀ (j : Nat) (r : Rc), L[j]? = some r → r.a < n0) : StK n0 i k L h' := fun j r e => by
  obtain ⟨h1, h2⟩ := st j r e
  have hj := (List.getElem?_eq_some_iff.mp e).1
  have := ha j r e
  exact ⟨h1.at fun o eo => s.extBut _ _ (nn (by omega)) eo, SqAt.but h2 s (nn (by omega))⟩
/-- one iterator moves -/
theorem StK.next {n0 i k : Nat} {L : List Rc} {h h' : Heap} {r : Rc} (st : StK n0 i k L h) (er : L[k]? = some r) (h1 : SqIt r.b h' (n0 + k) r.a (i + 1)) (s : Heap.SameBut (n0 + k) h h') (ha : ∀ (j : Nat) (r : Rc), L[j]? = some r → r.a < n0) : StK n0 i (k + 1) L h' := fun j q e => by
  have hj := (List.getElem?_eq_some_iff.mp e).1
  have := ha j q e
  obtain ⟨h3, h4⟩ := st j q e
  by_cases hjk : j = k
  · subst hjk
    rw [er] at e
    cases e
    rw [if_pos (Nat.lt_succ_self _)]
    exact ⟨h1, SqAt.but h4 s (nn (Or.inl (Nat.lt_of_lt_of_le this (Nat.le_add_right _ _))))⟩
  · refine ⟨?_, SqAt.but h4 s (nn (Or.inl (Nat.lt_of_lt_of_le this (Nat.le_add_right _ _))))⟩
    have h5 : SqIt q.b h' (n0 + j) q.a (if j < k then i + 1 else i) := h3.at fun o eo => s.extBut _ _ (fun z => hjk (Nat.add_left_cancel z)) eo
    by_cases hlt : j < k
    · rw [if_pos hlt] at h5
      rw [if_pos (Nat.lt_succ_of_lt hlt)]
      exact h5
    · rw [if_neg hlt] at h5
      rw [if_neg fun z => hlt (Nat.lt_of_le_of_ne (Nat.le_of_lt_succ z) hjk)]
      exact h5
theorem set_take {α : Type} {xs olds : List α} {k : Nat} {x : α} (hx : xs[k]? = some x) (hl : xs.length = olds.length) : (xs.take k ++ olds.drop k).set k x = xs.take (k + 1) ++ olds.drop (k + 1) := by
  have hk := (List.getElem?_eq_some_iff.mp hx).1
  apply List.ext_getElem?
  intro j
  rw [List.getElem?_set, List.length_append, List.length_take, List.length_drop]
  by_cases h1 : k = j
  · subst h1
    rw [if_pos rfl, if_pos (by omega), List.getElem?_append_left (by rw [List.length_take]; omega), List.getElem?_take, if_pos (by omega), hx]
  · rw [if_neg h1]
    by_cases h2 : j < k
    · rw [List.getElem?_append_left (by rw [List.length_take]; omega), List.getElem?_append_left (by rw [List.length_take]; omega), List.getElem?_take, List.getElem?_take, if_pos h2, if_pos (by omega)]
    · rw [List.getElem?_append_right (by rw [List.length_take]; omega), List.getElem?_append_right (by rw [List.length_take]; omega), List.getElem?_drop, List.getElem?_drop, List.length_take, List.length_take]
      congr 1
      omega

/-- what stands within a turn of the loop that fills the owned tuple -/
structure LoopO (n0 i k : Nat) (L : List Rc) (xs olds : List Value) (f1 : Value) (h h' : Heap) : Prop where
  z : IsZ h' (n0 + L.length + 2) (n0 + L.length) (n0 + L.length + 1) .ellipsis f1
  t : TupIs h' (n0 + L.length + 1) (xs.take k ++ olds.drop k)
  st : StK n0 i k L h'
  sz : h'.objs.size = h.objs.size
  kp : Kept n0 L.length h h'
theorem next_owned {n0 i : Nat} {L : List Rc} {xs olds : List Value} {f0 f1 : Value} {Q : Value → Shared → Prop} (hh : A.handled = none) (ha : ∀ (j : Nat) (r : Rc), L[j]? = some r → r.a < n0) (hL : L ≠ []) (hl : L.length ≤ 1000)
    (hz : IsZ s.heap (n0 + L.length + 2) (n0 + L.length) (n0 + L.length + 1) f0 f1) (hTI : TupIs s.heap (n0 + L.length) (Its n0 L.length)) (hTO : TupIs s.heap (n0 + L.length + 1) olds) (ho : olds.length = L.length) (hx : xs.length = L.length)
    (hit : ∀ (j : Nat) (r : Rc) (x : Value), L[j]? = some r → xs[j]? = some x → r.items[i]? = some x) (st : StK n0 i 0 L s.heap) (hf : f0 = .none ∨ ∃ a : Nat, f0 = rawInt a ∧ s.heap.get? a = none)
    (hQ : ∀ h' tk, IsZ h' (n0 + L.length + 2) (n0 + L.length) (n0 + L.length + 1) (rawInt s.heap.objs.size) (.bool false) → TupIs h' (n0 + L.length + 1) xs → StK n0 (i + 1) 0 L h' → TupIs h' s.heap.objs.size xs → Kept n0 L.length s.heap h' → Q (.ref s.heap.objs.size) { s with heap := h', toks := tk }) :
    wpAny (model prog w) A (Builtin.«zip.__next__» ⟨[.ref (n0 + L.length + 2)], []⟩) (fun fin s' => ∃ v, fin = .done (.ret v) ∧ Q v s') E s := by
  obtain ⟨hp, g, d, tk0, os⟩ := s
  show wpAny _ _ (field (.ref (n0 + L.length + 2)) 2 >>= _) _ _ _
  refine wpAny_bind (wpAny_field hz rfl (x := .bool false) rfl ?_)
  show wpAny _ _ (field (.ref (n0 + L.length + 2)) 3 >>= _) _ _ _
  refine wpAny_bind (wpAny_field hz rfl (x := .ref (n0 + L.length)) rfl ?_)
  refine wpAny_bind (wpAny_seqItems hTI rfl ?_)
  have hne : (Its n0 L.length).toArray.isEmpty = false := by
    cases L with
    | nil => exact absurd rfl hL
    | cons r L => simp [Its]
  show wpAny _ _ (if (Its n0 L.length).toArray.isEmpty = true then _ else _) _ _ _
  rw [hne, if_neg Bool.false_ne_true]
  show wpAny _ _ (Builtin.SmallTypes.ownedTupleIsFree (.ref (n0 + L.length + 2)) >>= _) _ _ _
  refine wpAny_bind ?_
  have free : ∀ {Q' : Bool → Shared → Prop}, Q' true ⟨hp, g, d, tk0, os⟩ → wpAny (model prog w) A (Builtin.SmallTypes.ownedTupleIsFree (.ref (n0 + L.length + 2))) Q' E ⟨hp, g, d, tk0, os⟩ := fun {Q'} q => by
    unfold Builtin.SmallTypes.ownedTupleIsFree
    refine wpAny_bind (wpAny_field hz rfl (x := f0) rfl ?_)
    rcases hf with rfl | ⟨a, rfl, hn⟩
    · exact wpAny_pure q
    · show wpAny _ _ (loadIfAlive a >>= _) _ _ _
      refine wpAny_bind (wpAny_alive ?_)
      rw [show (Shared.heap ⟨hp, g, d, tk0, os⟩).get? a = none from hn]
      exact wpAny_pure q
  refine free ?_
  simp only [if_true]
  refine wpAny_bind (wpAny_rule ?_)
  refine wpAny_bind (wpAny_field hz rfl (x := .ref (n0 + L.length + 1)) rfl ?_)
  refine wpAny_bind (wpAny_setField_rec hz (by simp) fun g0 hz0 hs0 => ?_)
  replace hz0 : IsZ g0 (n0 + L.length + 2) (n0 + L.length) (n0 + L.length + 1) .ellipsis f1 := hz0
  replace hs0 : Heap.SameBut (n0 + L.length + 2) hp g0 := hs0
  refine wpAny_bind ?_
  have l0 : LoopO n0 i 0 L xs olds f1 hp g0 := ⟨hz0, by
    rw [List.take_zero, List.drop_zero, List.nil_append]
    exact hs0.extBut _ _ (nn (by omega)) hTO, st.but hs0 (by omega) ha, hs0.1, Kept.refl.but hs0 ⟨by omega, by omega, by omega⟩⟩
  refine wpAny_forIn_list _ (fun rest b s' => b = ⟨none, PUnit.unit⟩ ∧ ∃ k h' tk', rest = (Its n0 L.length).zipIdx.drop k ∧ s' = ⟨h', g, d, tk', os⟩ ∧ k ≤ L.length ∧ LoopO n0 i k L xs olds f1 hp h') _ (fun x rest b s' I => ?_) (fun b s' I => ?_) _ _ ⟨rfl, 0, g0, tk0, rfl, rfl, Nat.zero_le _, l0⟩
  · obtain ⟨rfl, k, h', tk', er, rfl, hk, lo⟩ := I
    obtain ⟨v, e1, rfl, rfl⟩ := zipIdx_drop er
    obtain ⟨hkL, rfl⟩ := Its_at e1
    have eL : L[k]? = some L[k] := List.getElem?_eq_getElem hkL
    have ex : xs[k]? = some xs[k] := List.getElem?_eq_getElem (by omega)
    have eit := hit k _ _ eL ex
    obtain ⟨h1, h2⟩ := lo.st k _ eL
    rw [if_neg (Nat.lt_irrefl k)] at h1
    have hak := ha k _ eL
    refine wpAny_bind (wpAny_onRaise ?_)
    show wpAny _ _ (Builtin.SmallTypes.nextOf (.ref (n0 + k)) >>= _) _ _ _
    refine wpAny_bind ((draws_sq (prog := prog) (w := w) L[k].b hh (n0 + k) L[k].a (nn (by omega)) L[k].items).item i _ _ _ (Array.getElem?_eq_some_iff.mp eit).1 ⟨h1, h2⟩ fun x p1 tk1 hx1 sn1 hp1 => wpAny_pure ?_)
    have exx : xs[k] = x := Option.some.inj (eit.symm.trans hx1)
    replace hp1 : Heap.SameBut (n0 + k) h' p1 := hp1
    have hT1 : TupIs p1 (n0 + L.length + 1) (xs.take k ++ olds.drop k) := hp1.extBut _ _ (nn (by omega)) lo.t
    refine wpAny_bind (wpAny_seqItems (s := ⟨p1, g, d, tk1, os⟩) hT1 rfl ?_)
    refine wpAny_bind (wpAny_updTup (s := ⟨p1, g, d, tk1, os⟩) hT1 (by rw [List.length_append, List.length_take, List.length_drop]; exact Nat.le_of_lt (small1000 (by omega))) fun g1 hT2 hs2 => ?_)
    rw [← exx, set_take ex (by omega)] at hT2
    replace hs2 : Heap.SameBut (n0 + L.length + 1) p1 g1 := hs2
    refine wpAny_bind (wpAny_letGo (wpAny_pure ?_))
    refine ⟨rfl, k + 1, g1, tk1, rfl, rfl, hkL, ?_⟩
    exact ⟨hs2.extBut _ _ (nn (by omega)) (hp1.extBut _ _ (nn (by omega)) lo.z), hT2, (lo.st.next eL sn1.1 hp1 ha).but hs2 (by omega) ha, by rw [hs2.1, hp1.1, lo.sz], (lo.kp.but hp1 ⟨by omega, by omega, by omega⟩).but hs2 ⟨by omega, by omega, by omega⟩⟩
  · obtain ⟨rfl, k, h', tk', er, rfl, hk, lo⟩ := I
    have hkn : k = L.length := by
      have := congrArg List.length er
      rw [List.length_drop, List.length_zipIdx, Its_len, List.length_nil] at this
      omega
    subst hkn
    have lt := lo.t
    rw [List.take_of_length_le (by omega), List.drop_eq_nil_of_le (by omega), List.append_nil] at lt
    show wpAny _ _ (seqItems? (.ref (n0 + L.length + 1)) >>= _) _ _ _
    refine wpAny_bind (wpAny_seqItems (s := ⟨h', g, d, tk', os⟩) lt rfl ?_)
    show wpAny _ _ (newTuple xs.toArray.toList >>= _) _ _ _
    rw [show xs.toArray.toList = xs by simp]
    refine wpAny_bind (wpAny_newTuple ?_ (Nat.le_of_lt (small1000 (by omega))))
    have hzlt : n0 + L.length + 2 < h'.objs.size := Heap.lt_size lo.z
    show wpAny _ _ (Builtin.SmallTypes.ownedTupleHandOut (.ref (n0 + L.length + 2)) (.ref h'.objs.size) >>= _) _ _ ⟨h'.push { cls := .type "tuple", data := .seq xs.toArray }, g, d, tk', os⟩
    refine wpAny_bind ?_
    unfold Builtin.SmallTypes.ownedTupleHandOut
    have hz₆ : IsZ (h'.push { cls := .type "tuple", data := .seq xs.toArray }) (n0 + L.length + 2) (n0 + L.length) (n0 + L.length + 1) .ellipsis f1 := Heap.get?_push_of_some _ lo.z
    refine wpAny_bind (wpAny_setField_rec hz₆ (by simp) fun h₇ hz₇ hs₇ => ?_)
    replace hz₇ : IsZ h₇ (n0 + L.length + 2) (n0 + L.length) (n0 + L.length + 1) (rawInt h'.objs.size) f1 := hz₇
    refine wpAny_setField_rec hz₇ (by simp) fun h₈ hz₈ hs₈ => ?_
    replace hz₈ : IsZ h₈ (n0 + L.length + 2) (n0 + L.length) (n0 + L.length + 1) (rawInt h'.objs.size) (.bool false) := hz₈
    replace hs₇ : Heap.SameBut (n0 + L.length + 2) (h'.push { cls := .type "tuple", data := .seq xs.toArray }) h₇ := hs₇
    replace hs₈ : Heap.SameBut (n0 + L.length + 2) h₇ h₈ := hs₈
    have up : ∀ c o, c ≠ n0 + L.length + 2 → h'.get? c = some o → h₈.get? c = some o := fun c o c1 e => hs₈.extBut _ _ c1 (hs₇.extBut _ _ c1 (Heap.get?_push_of_some _ e))
    have hT₈ : TupIs h₈ h'.objs.size xs := hs₈.extBut _ _ (Nat.ne_of_gt hzlt) (hs₇.extBut _ _ (Nat.ne_of_gt hzlt) (Heap.get?_push_size _ rfl))
    have hsz : h'.objs.size = hp.objs.size := lo.sz
    rw [hsz] at hz₈ hT₈
    refine wpAny_pure ⟨_, rfl, ?_⟩
    show Q (.ref h'.objs.size) ⟨h₈, g, d, tk', os⟩
    rw [hsz]
    refine hQ h₈ tk' hz₈ (up _ _ (nn (by omega)) lt) (fun j r e => ?_) hT₈ fun c o hc e => up c o (nn (by omega)) (lo.kp c o hc e)
    have hj := (List.getElem?_eq_some_iff.mp e).1
    have haj := ha j r e
    obtain ⟨h3, h4⟩ := lo.st j r e
    rw [if_pos hj] at h3
    rw [if_neg (Nat.not_lt_zero j)]
    refine ⟨h3.at fun o eo => up _ o (nn (by omega)) eo, ?_⟩
    cases r with
    | mk b a items =>
      cases b
      · exact Heap.IsTuple.at h4 fun o eo => up _ o (nn (by omega)) eo
      · exact Heap.IsList.at h4 fun o eo => up _ o (nn (by omega)) eo
end
end DLS

end

section
set_option Elab.async false
set_option linter.all false
set_option maxRecDepth 100000
namespace DLS
open PySem PySem.Spec PyProof.Rows L2 DLZ
section
variable {prog : Program} {w : World} {A : Around} {E : Value → Shared → Prop} {s : Shared}
structure LoopP (n0 i k : Nat) (L : List Rc) (olds : List Value) (f0 : Value) (h h' : Heap) : Prop where
  z : IsZ h' (n0 + L.length + 2) (n0 + L.length) (n0 + L.length + 1) f0 (.bool true)
  t : TupIs h' (n0 + L.length + 1) olds
  st : StK n0 i k L h'
  sz : h'.objs.size = h.objs.size
  kp : Kept n0 L.length h h'
theorem its_ne {n0 : Nat} {L : List Rc} (hL : L ≠ []) : (Its n0 L.length).toArray.isEmpty = false := by
  cases L with
  | nil => exact absurd rfl hL
  | cons r L => simp [Its]
/-- the tuple that was handed out is still held -/
theorem not_free {z TI TO a : Nat} {b : Bool} {Q : Bool → Shared → Prop} (hz : IsZ s.heap z TI TO (rawInt a) (.bool b)) (hal : s.heap.get? a ≠ none)
    (hQ : ∀ h', IsZ h' z TI TO (rawInt a) (.bool true) → Heap.SameBut z s.heap h' → Q false { s with heap := h' }) : wpAny (model prog w) A (Builtin.SmallTypes.ownedTupleIsFree (.ref z)) Q E s := by
  unfold Builtin.SmallTypes.ownedTupleIsFree
  refine wpAny_bind (wpAny_field hz rfl (x := rawInt a) rfl ?_)
  show wpAny _ _ (loadIfAlive a >>= _) _ _ _
  refine wpAny_bind (wpAny_alive ?_)
  cases ho : s.heap.get? a with
  | none => exact absurd ho hal
  | some o =>
    show wpAny _ _ (field (.ref z) 1 >>= _) _ _ _
    refine wpAny_bind (wpAny_field hz rfl (x := .bool b) rfl ?_)
    cases b with
    | true =>
      refine wpAny_pure ?_
      exact hQ s.heap hz ⟨rfl, fun _ _ => rfl⟩
    | false =>
      refine wpAny_bind (wpAny_setField_rec hz (by simp) fun h' hz' hs' => ?_)
      exact wpAny_pure (hQ h' hz' hs')
theorem next_plain {n0 i a : Nat} {b : Bool} {L : List Rc} {xs olds : List Value} {Q : Value → Shared → Prop} (hh : A.handled = none) (ha : ∀ (j : Nat) (r : Rc), L[j]? = some r → r.a < n0) (hL : L ≠ []) (hl : L.length ≤ 1000)
    (hz : IsZ s.heap (n0 + L.length + 2) (n0 + L.length) (n0 + L.length + 1) (rawInt a) (.bool b)) (hTI : TupIs s.heap (n0 + L.length) (Its n0 L.length)) (hTO : TupIs s.heap (n0 + L.length + 1) olds) (hx : xs.length = L.length)
    (hit : ∀ (j : Nat) (r : Rc) (x : Value), L[j]? = some r → xs[j]? = some x → r.items[i]? = some x) (st : StK n0 i 0 L s.heap) (hal : s.heap.get? a ≠ none)
    (hQ : ∀ h' tk, IsZ h' (n0 + L.length + 2) (n0 + L.length) (n0 + L.length + 1) (rawInt a) (.bool true) → TupIs h' (n0 + L.length + 1) olds → StK n0 (i + 1) 0 L h' → TupIs h' s.heap.objs.size xs → Kept n0 L.length s.heap h' → Q (.ref s.heap.objs.size) { s with heap := h', toks := tk }) :
    wpAny (model prog w) A (Builtin.«zip.__next__» ⟨[.ref (n0 + L.length + 2)], []⟩) (fun fin s' => ∃ v, fin = .done (.ret v) ∧ Q v s') E s := by
  obtain ⟨hp, g, d, tk0, os⟩ := s
  show wpAny _ _ (field (.ref (n0 + L.length + 2)) 2 >>= _) _ _ _
  refine wpAny_bind (wpAny_field hz rfl (x := .bool false) rfl ?_)
  show wpAny _ _ (field (.ref (n0 + L.length + 2)) 3 >>= _) _ _ _
  refine wpAny_bind (wpAny_field hz rfl (x := .ref (n0 + L.length)) rfl ?_)
  refine wpAny_bind (wpAny_seqItems hTI rfl ?_)
  show wpAny _ _ (if (Its n0 L.length).toArray.isEmpty = true then _ else _) _ _ _
  rw [its_ne hL, if_neg Bool.false_ne_true]
  show wpAny _ _ (Builtin.SmallTypes.ownedTupleIsFree (.ref (n0 + L.length + 2)) >>= _) _ _ _
  refine wpAny_bind (not_free hz hal fun g0 hz0 hs0 => ?_)
  replace hs0 : Heap.SameBut (n0 + L.length + 2) hp g0 := hs0
  simp only [Bool.false_eq_true, if_false]
  refine wpAny_bind ?_
  rw [List.forIn_toArray]
  have l0 : LoopP n0 i 0 L olds (rawInt a) hp g0 := ⟨hz0, hs0.extBut _ _ (nn (by omega)) hTO, st.but hs0 (by omega) ha, hs0.1, Kept.refl.but hs0 ⟨by omega, by omega, by omega⟩⟩
  refine wpAny_forIn_list _ (fun rest b s' => ∃ k h' tk', b = ⟨none, (xs.take k).toArray⟩ ∧ rest = (Its n0 L.length).drop k ∧ s' = ⟨h', g, d, tk', os⟩ ∧ k ≤ L.length ∧ LoopP n0 i k L olds (rawInt a) hp h') _ (fun x rest b s' I => ?_) (fun b s' I => ?_) _ _ ⟨0, g0, tk0, rfl, rfl, rfl, Nat.zero_le _, l0⟩
  · obtain ⟨k, h', tk', rfl, er, rfl, hk, lo⟩ := I
    have e0 : (Its n0 L.length)[k]? = some x := by
      have : ((Its n0 L.length).drop k)[0]? = some x := by rw [← er]; rfl
      rw [List.getElem?_drop] at this
      simpa using this
    have e2 : rest = (Its n0 L.length).drop (k + 1) := by
      have : rest = (x :: rest).drop 1 := rfl
      rw [this, er, List.drop_drop]
    obtain ⟨hkL, rfl⟩ := Its_at e0
    have eL : L[k]? = some L[k] := List.getElem?_eq_getElem hkL
    have ex : xs[k]? = some xs[k] := List.getElem?_eq_getElem (by omega)
    have eit := hit k _ _ eL ex
    obtain ⟨h1, h2⟩ := lo.st k _ eL
    rw [if_neg (Nat.lt_irrefl k)] at h1
    have hak := ha k _ eL
    refine wpAny_bind (wpAny_holding ?_)
    show wpAny _ _ (Builtin.SmallTypes.nextOf (.ref (n0 + k)) >>= _) _ _ _
    refine wpAny_bind ((draws_sq (prog := prog) (w := w) L[k].b hh (n0 + k) L[k].a (nn (by omega)) L[k].items).item i _ _ _ (Array.getElem?_eq_some_iff.mp eit).1 ⟨h1, h2⟩ fun x p1 tk1 hx1 sn1 hp1 => wpAny_pure ?_)
    have exx : xs[k] = x := Option.some.inj (eit.symm.trans hx1)
    replace hp1 : Heap.SameBut (n0 + k) h' p1 := hp1
    refine wpAny_pure ⟨k + 1, p1, tk1, ?_, e2, rfl, hkL, hp1.extBut _ _ (nn (by omega)) lo.z, hp1.extBut _ _ (nn (by omega)) lo.t, lo.st.next eL sn1.1 hp1 ha, by rw [hp1.1, lo.sz], lo.kp.but hp1 ⟨by omega, by omega, by omega⟩⟩
    have e4 : xs.take (k + 1) = xs.take k ++ [x] := by rw [List.take_succ, ex, ← exx]; rfl
    rw [e4]
    simp
  · obtain ⟨k, h', tk', rfl, er, rfl, hk, lo⟩ := I
    have hkn : k = L.length := by
      have := congrArg List.length er
      rw [List.length_drop, Its_len, List.length_nil] at this
      omega
    subst hkn
    rw [List.take_of_length_le (Nat.le_of_eq hx)]
    show wpAny _ _ (newTuple xs.toArray.toList >>= _) _ _ _
    rw [show xs.toArray.toList = xs by simp]
    refine wpAny_bind (wpAny_newTuple ?_ (Nat.le_of_lt (small1000 (by omega))))
    have hsz : h'.objs.size = hp.objs.size := lo.sz
    have up : ∀ c o, h'.get? c = some o → (h'.push { cls := .type "tuple", data := .seq xs.toArray }).get? c = some o := fun c o e => Heap.get?_push_of_some _ e
    have hT : TupIs (h'.push { cls := .type "tuple", data := .seq xs.toArray }) h'.objs.size xs := Heap.get?_push_size _ rfl
    rw [hsz] at hT
    refine wpAny_pure ⟨_, rfl, ?_⟩
    show Q (.ref h'.objs.size) ⟨h'.push { cls := .type "tuple", data := .seq xs.toArray }, g, d, tk', os⟩
    rw [hsz]
    refine hQ _ tk' (up _ _ lo.z) (up _ _ lo.t) (fun j r e => ?_) hT fun c o hc e => up c o (lo.kp c o hc e)
    have hj := (List.getElem?_eq_some_iff.mp e).1
    obtain ⟨h3, h4⟩ := lo.st j r e
    rw [if_pos hj] at h3
    rw [if_neg (Nat.not_lt_zero j)]
    refine ⟨h3.at fun o eo => up _ o eo, ?_⟩
    cases r with
    | mk b a items =>
      cases b
      · exact Heap.IsTuple.at h4 fun o eo => up _ o eo
      · exact Heap.IsList.at h4 fun o eo => up _ o eo
/-- the first iterator has come to its end -/
theorem next_end {n0 i : Nat} {L : List Rc} {olds : List Value} {f0 : Value} {b : Bool} {Q : Fin → Shared → Prop} (hh : A.handled = none) (ha : ∀ (j : Nat) (r : Rc), L[j]? = some r → r.a < n0) (hL : L ≠ [])
    (hz : IsZ s.heap (n0 + L.length + 2) (n0 + L.length) (n0 + L.length + 1) f0 (.bool b)) (hTI : TupIs s.heap (n0 + L.length) (Its n0 L.length)) (hTO : TupIs s.heap (n0 + L.length + 1) olds)
    (hend : ∀ r, L[0]? = some r → r.items.size = i) (st : StK n0 i 0 L s.heap) (hf : f0 = .none ∨ ∃ a : Nat, f0 = rawInt a)
    (hE : ∀ h' tk e, Kept n0 L.length s.heap h' → (∃ o, h'.get? e = some o ∧ o.cls = .type "StopIteration") → E (.ref e) { s with heap := h', toks := tk }) :
    wpAny (model prog w) A (Builtin.«zip.__next__» ⟨[.ref (n0 + L.length + 2)], []⟩) Q E s := by
  obtain ⟨hp, g, d, tk0, os⟩ := s
  show wpAny _ _ (field (.ref (n0 + L.length + 2)) 2 >>= _) _ _ _
  refine wpAny_bind (wpAny_field hz rfl (x := .bool false) rfl ?_)
  show wpAny _ _ (field (.ref (n0 + L.length + 2)) 3 >>= _) _ _ _
  refine wpAny_bind (wpAny_field hz rfl (x := .ref (n0 + L.length)) rfl ?_)
  refine wpAny_bind (wpAny_seqItems hTI rfl ?_)
  show wpAny _ _ (if (Its n0 L.length).toArray.isEmpty = true then _ else _) _ _ _
  rw [its_ne hL, if_neg Bool.false_ne_true]
  show wpAny _ _ (Builtin.SmallTypes.ownedTupleIsFree (.ref (n0 + L.length + 2)) >>= _) _ _ _
  have hpos : 0 < L.length := by
    cases L with
    | nil => exact absurd rfl hL
    | cons _ _ => exact Nat.succ_pos _
  have e0 : L[0]? = some L[0] := List.getElem?_eq_getElem hpos
  have ha0 := ha 0 _ e0
  have sz0 := hend _ e0
  -- the two ways
  have plain : ∀ a : Nat, f0 = rawInt a → hp.get? a ≠ none → wpAny (model prog w) A (Builtin.SmallTypes.ownedTupleIsFree (.ref (n0 + L.length + 2))) (fun r s' => r = false ∧ ∃ g0, s' = ⟨g0, g, d, tk0, os⟩ ∧ Heap.SameBut (n0 + L.length + 2) hp g0 ∧ IsZ g0 (n0 + L.length + 2) (n0 + L.length) (n0 + L.length + 1) f0 (.bool true)) E ⟨hp, g, d, tk0, os⟩ := fun a e hal => by
    subst e
    exact not_free hz hal fun h' hz' hs' => ⟨rfl, h', rfl, hs', hz'⟩
  have free : (f0 = .none ∨ ∃ a : Nat, f0 = rawInt a ∧ hp.get? a = none) → wpAny (model prog w) A (Builtin.SmallTypes.ownedTupleIsFree (.ref (n0 + L.length + 2))) (fun r s' => r = true ∧ s' = ⟨hp, g, d, tk0, os⟩) E ⟨hp, g, d, tk0, os⟩ := fun hf => by
    unfold Builtin.SmallTypes.ownedTupleIsFree
    refine wpAny_bind (wpAny_field hz rfl (x := f0) rfl ?_)
    rcases hf with rfl | ⟨a, rfl, hn⟩
    · exact wpAny_pure ⟨rfl, rfl⟩
    · show wpAny _ _ (loadIfAlive a >>= _) _ _ _
      refine wpAny_bind (wpAny_alive ?_)
      rw [show (Shared.heap ⟨hp, g, d, tk0, os⟩).get? a = none from hn]
      exact wpAny_pure ⟨rfl, rfl⟩
  by_cases hfree : f0 = .none ∨ ∃ a : Nat, f0 = rawInt a ∧ hp.get? a = none
  · refine wpAny_bind (wpAny_mono (free hfree) (fun r s' h => ?_) fun _ _ x => x)
    obtain ⟨rfl, rfl⟩ := h
    simp only [if_true]
    refine wpAny_bind (wpAny_rule ?_)
    refine wpAny_bind (wpAny_field hz rfl (x := .ref (n0 + L.length + 1)) rfl ?_)
    refine wpAny_bind (wpAny_setField_rec hz (by simp) fun g0 hz0 hs0 => ?_)
    replace hz0 : IsZ g0 (n0 + L.length + 2) (n0 + L.length) (n0 + L.length + 1) .ellipsis (.bool b) := hz0
    replace hs0 : Heap.SameBut (n0 + L.length + 2) hp g0 := hs0
    refine wpAny_bind ?_
    refine wpAny_forIn_list _ (fun rest b s' => rest = (Its n0 L.length).zipIdx ∧ s' = ⟨g0, g, d, tk0, os⟩) _ (fun x rest bb s' I => ?_) (fun bb s' I => ?_) _ _ ⟨rfl, rfl⟩
    · obtain ⟨er, rfl⟩ := I
      obtain ⟨v, e1, rfl, rfl⟩ := zipIdx_drop (k := 0) (l := Its n0 L.length) (by rw [List.drop_zero]; exact er)
      obtain ⟨_, rfl⟩ := Its_at e1
      obtain ⟨h1, h2⟩ := (st.but hs0 (Nat.le_add_right _ _) ha) 0 _ e0
      rw [if_neg (Nat.lt_irrefl 0)] at h1
      refine wpAny_bind (wpAny_onRaise ?_)
      show wpAny _ _ (Builtin.SmallTypes.nextOf (.ref (n0 + 0)) >>= _) _ _ _
      refine wpAny_bind ((draws_sq (prog := prog) (w := w) L[0].b hh (n0 + 0) L[0].a (nn (by omega)) L[0].items).done ⟨g0, g, d, tk0, os⟩ _ _ (by rw [sz0]; exact ⟨h1, h2⟩) fun q e hq he => ?_)
      replace hq : Heap.ExtBut (n0 + 0) g0 q := hq
      obtain ⟨oe, hoe, hce⟩ := he
      replace hoe : q.get? e = some oe := hoe
      have hzq : IsZ q (n0 + L.length + 2) (n0 + L.length) (n0 + L.length + 1) .ellipsis (.bool b) := hq _ _ (nn (by omega)) hz0
      have hez : e ≠ n0 + L.length + 2 := fun x => by subst x; rw [hzq] at hoe; cases hoe; simp at hce
      refine wpAny_setField_rec (s := ⟨q, g, d, tk0, os⟩) hzq (by simp) fun q' _ hq' => ?_
      replace hq' : Heap.SameBut (n0 + L.length + 2) q q' := hq'
      exact hE q' tk0 e (fun c o hc x => hq'.extBut _ _ (nn (by omega)) (hq _ _ (nn (by omega)) (hs0.extBut _ _ (nn (by omega)) x))) ⟨oe, hq'.extBut _ _ hez hoe, hce⟩
    · obtain ⟨er, _⟩ := I
      have := congrArg List.length er
      rw [List.length_zipIdx, Its_len, List.length_nil] at this
      omega
  · obtain ⟨a, ea, hal⟩ : ∃ a : Nat, f0 = rawInt a ∧ hp.get? a ≠ none := by
      rcases hf with z | ⟨a, z⟩
      · exact absurd (.inl z) hfree
      · exact ⟨a, z, fun q => hfree (.inr ⟨a, z, q⟩)⟩
    refine wpAny_bind (wpAny_mono (plain a ea hal) (fun r s' h => ?_) fun _ _ x => x)
    obtain ⟨rfl, g0, rfl, hs0, hz0⟩ := h
    simp only [Bool.false_eq_true, if_false]
    refine wpAny_bind ?_
    rw [List.forIn_toArray]
    refine wpAny_forIn_list _ (fun rest b s' => rest = Its n0 L.length ∧ s' = ⟨g0, g, d, tk0, os⟩) _ (fun x rest bb s' I => ?_) (fun bb s' I => ?_) _ _ ⟨rfl, rfl⟩
    · obtain ⟨er, rfl⟩ := I
      have e1 : (Its n0 L.length)[0]? = some x := by rw [← er]; rfl
      obtain ⟨_, rfl⟩ := Its_at e1
      obtain ⟨h1, h2⟩ := (st.but hs0 (Nat.le_add_right _ _) ha) 0 _ e0
      rw [if_neg (Nat.lt_irrefl 0)] at h1
      refine wpAny_bind (wpAny_holding ?_)
      show wpAny _ _ (Builtin.SmallTypes.nextOf (.ref (n0 + 0)) >>= _) _ _ _
      refine wpAny_bind ((draws_sq (prog := prog) (w := w) L[0].b hh (n0 + 0) L[0].a (nn (by omega)) L[0].items).done ⟨g0, g, d, tk0, os⟩ _ _ (by rw [sz0]; exact ⟨h1, h2⟩) fun q e hq he => ?_)
      replace hq : Heap.ExtBut (n0 + 0) g0 q := hq
      exact hE q tk0 e (fun c o hc x => hq _ _ (nn (by omega)) (hs0.extBut _ _ (nn (by omega)) x)) he
    · obtain ⟨er, _⟩ := I
      have := congrArg List.length er
      rw [Its_len, List.length_nil] at this
      omega
end
end DLS

end

section
set_option Elab.async false
set_option linter.all false
set_option maxRecDepth 100000
namespace DLS
open PySem PySem.Spec PyProof.Rows L2 DLZ
section
variable {prog : Program} {w : World} {A : Around} {E : Value → Shared → Prop} {s : Shared}
abbrev Src := Bool × Nat
def vsOf (R : List Src) : List Value := R.map fun r => .ref r.2
def pushIts (h : Heap) : List Src → Heap
  | [] => h
  | r :: rs => pushIts (h.push (itO r.1 r.2)) rs
theorem itO_free (b : Bool) (a : Addr) : (itO b a).slots = #[] := by cases b <;> rfl
theorem pushIts_size : ∀ (R : List Src) (h : Heap), (pushIts h R).objs.size = h.objs.size + R.length
  | [], h => rfl
  | r :: rs, h => by
    show (pushIts (h.push (itO r.1 r.2)) rs).objs.size = _
    rw [pushIts_size rs, Heap.size_push, List.length_cons]
    omega
theorem pushIts_keep : ∀ (R : List Src) (h : Heap) (c : Addr) (o : Obj), h.get? c = some o → (pushIts h R).get? c = some o
  | [], _, _, _, e => e
  | r :: rs, h, c, o, e => pushIts_keep rs _ c o (Heap.get?_push_of_some _ e)
theorem pushIts_at : ∀ (R : List Src) (h : Heap) (j : Nat) (r : Src), R[j]? = some r → (pushIts h R).get? (h.objs.size + j) = some (itO r.1 r.2)
  | [], _, _, _, e => by simp at e
  | r :: rs, h, 0, q, e => by
    cases e
    refine pushIts_keep rs _ _ _ ?_
    rw [Nat.add_zero]
    exact Heap.get?_push_size _ (by cases r with | mk b a => cases b <;> rfl)
  | r :: rs, h, j + 1, q, e => by
    have z := pushIts_at rs (h.push (itO r.1 r.2)) j q e
    rw [Heap.size_push] at z
    rw [show h.objs.size + (j + 1) = h.objs.size + 1 + j by omega]
    exact z
theorem Its_succ {n0 n : Nat} : Its n0 (n + 1) = Its n0 n ++ [.ref (n0 + n)] := by
  unfold Its
  rw [List.range_succ, List.map_append]
  rfl
theorem iterAll_run {R : List Src} {Q : List Value → Shared → Prop} (hR : ∀ r ∈ R, ∃ items, SqAt r.1 s.heap r.2 items) (hQ : Q (Its s.heap.objs.size R.length) { s with heap := pushIts s.heap R }) :
    wpAny (model prog w) A (Builtin.SmallTypes.iterAll (vsOf R)) Q E s := by
  obtain ⟨hp, g, d, tk, os⟩ := s
  unfold Builtin.SmallTypes.iterAll
  refine wpAny_bind ?_
  refine wpAny_forIn_list _ (fun rest b s' => ∃ k, k ≤ R.length ∧ rest = vsOf (R.drop k) ∧ b = (Its hp.objs.size k).toArray ∧ s' = ⟨pushIts hp (R.take k), g, d, tk, os⟩) _ (fun x rest b s' I => ?_) (fun b s' I => ?_) _ _ ⟨0, Nat.zero_le _, rfl, rfl, rfl⟩
  · obtain ⟨k, hk, er, rfl, rfl⟩ := I
    have hkl : k < R.length := by
      have := congrArg List.length er
      rw [List.length_cons] at this
      simp [vsOf] at this
      omega
    rw [List.drop_eq_getElem_cons hkl] at er
    have er' : x :: rest = .ref R[k].2 :: vsOf (R.drop (k + 1)) := er
    injection er' with e1 e2
    subst e1
    obtain ⟨items, hi⟩ := hR _ (List.getElem_mem hkl)
    have B := begins_sq R[k].1 R[k].2 items
    refine wpAny_bind (wpAny_holding (B.iter prog w _ _ _ _ (B.keeps _ _ hi fun b o' e => pushIts_keep _ _ _ _ e) ?_))
    have ts : R.take (k + 1) = R.take k ++ [R[k]] := by rw [List.take_succ, List.getElem?_eq_getElem hkl]; rfl
    have pa : ∀ (R1 R2 : List Src) (h : Heap), pushIts h (R1 ++ R2) = pushIts (pushIts h R1) R2 := fun R1 => by
      induction R1 with
      | nil => intro R2 h; rfl
      | cons r rs ih => intro R2 h; exact ih R2 _
    have hsz : (pushIts hp (R.take k)).objs.size = hp.objs.size + k := by rw [pushIts_size, List.length_take]; omega
    refine wpAny_pure ⟨k + 1, hkl, e2, ?_, ?_⟩
    · show (Its hp.objs.size k).toArray.push (.ref (pushIts hp (R.take k)).objs.size) = _
      rw [hsz, Its_succ]
      simp
    · rw [ts, pa]
      rfl
  · obtain ⟨k, hk, er, rfl, rfl⟩ := I
    have hkl : k = R.length := by
      have := congrArg List.length er
      simp [vsOf] at this
      omega
    subst hkl
    rw [List.take_of_length_le (Nat.le_refl _)]
    refine wpAny_pure ?_
    rw [show (Its hp.objs.size R.length).toArray.toList = Its hp.objs.size R.length by simp]
    exact hQ
def zHeap (h : Heap) (R : List Src) : Heap :=
  ((((pushIts h R).push { cls := .type "tuple", data := .seq (Its h.objs.size R.length).toArray }).push { cls := .type "tuple", data := .seq (List.replicate R.length Value.none).toArray }).push
    { cls := .type "zip", data := .fields #[.none, .bool false, .bool false, .ref (h.objs.size + R.length), .ref (h.objs.size + R.length + 1)] })
theorem meets_zip_newN {R : List Src} (hl : R.length ≤ 1000) :
    Meets (Builtin.«zip.__new__» ⟨.type "zip" :: vsOf R, []⟩) (fun _ Rr s => (∀ r ∈ R, ∃ items, SqAt r.1 s.heap r.2 items) ∧
      Rr (.ok (.ret (.ref (s.heap.objs.size + R.length + 2)))) { s with heap := zHeap s.heap R }) :=
  .of_wp fun prog w A Rr s h => by
    obtain ⟨hp, g, d, tk, os⟩ := s; obtain ⟨hR, h⟩ := h
    have hsub := sub_zip
    have q1 : ∀ {A' : Around} {E : Value → Shared → Prop} {Q : List Value → Shared → Prop}, Q (Its hp.objs.size R.length) ⟨pushIts hp R, g, d, tk, os⟩ → wpAny (model prog w) A' (Builtin.SmallTypes.iterAll (vsOf R)) Q E ⟨hp, g, d, tk, os⟩ :=
      fun q => iterAll_run (s := ⟨hp, g, d, tk, os⟩) hR q
    have lI : (Its hp.objs.size R.length).length ≤ sizeLine := by rw [Its_len]; exact Nat.le_of_lt (small1000 hl)
    have en : List.map (fun _ => Value.none) (Its hp.objs.size R.length) = List.replicate R.length Value.none := by
      rw [List.map_const', Its_len]
    have s1 : (pushIts hp R).objs.size = hp.objs.size + R.length := pushIts_size R hp
    have q2 : ∀ {A' : Around} {E : Value → Shared → Prop} {Q : Value → Shared → Prop}, Q (.ref (hp.objs.size + R.length)) ⟨(pushIts hp R).push { cls := .type "tuple", data := .seq (Its hp.objs.size R.length).toArray }, g, d, tk, os⟩ → wpAny (model prog w) A' (newTuple (Its hp.objs.size R.length)) Q E ⟨pushIts hp R, g, d, tk, os⟩ :=
      fun q => wpAny_newTuple (by rw [show (Shared.heap ⟨pushIts hp R, g, d, tk, os⟩).objs.size = hp.objs.size + R.length from s1]; exact q) lI
    have q3 : ∀ {A' : Around} {E : Value → Shared → Prop} {Q : Value → Shared → Prop}, Q (.ref (hp.objs.size + R.length + 1)) ⟨((pushIts hp R).push { cls := .type "tuple", data := .seq (Its hp.objs.size R.length).toArray }).push { cls := .type "tuple", data := .seq (List.replicate R.length Value.none).toArray }, g, d, tk, os⟩ →
        wpAny (model prog w) A' (newTuple (List.map (fun _ => Value.none) (Its hp.objs.size R.length))) Q E ⟨(pushIts hp R).push { cls := .type "tuple", data := .seq (Its hp.objs.size R.length).toArray }, g, d, tk, os⟩ :=
      fun q => by
        rw [en]
        refine wpAny_newTuple ?_ (by rw [List.length_replicate]; exact Nat.le_of_lt (small1000 hl))
        rw [show (Shared.heap ⟨(pushIts hp R).push { cls := .type "tuple", data := .seq (Its hp.objs.size R.length).toArray }, g, d, tk, os⟩).objs.size = hp.objs.size + R.length + 1 from by rw [Heap.size_push, s1]]
        exact q
    wp_walk using q1, q2, q3
    refine ⟨_, rfl, ?_⟩
    have s2 : (((pushIts hp R).push { cls := .type "tuple", data := .seq (Its hp.objs.size R.length).toArray }).push { cls := .type "tuple", data := .seq (List.replicate R.length Value.none).toArray }).objs.size = hp.objs.size + R.length + 2 := by
      rw [Heap.size_push, Heap.size_push, s1]
    rw [s2]
    exact h
theorem typeCall_zip (vs : List Value) : checkTypeCall "zip" ⟨vs, []⟩ = pure () := by kernel_rfl
theorem newCall_zip : ∀ vs : List Value, vs.length ≤ 12 → checkBuiltinCall "zip.__new__" ⟨.type "zip" :: vs, []⟩ = pure ()
  | [], _ => by kernel_rfl
  | [x0], _ => by kernel_rfl
  | [x0, x1], _ => by kernel_rfl
  | [x0, x1, x2], _ => by kernel_rfl
  | [x0, x1, x2, x3], _ => by kernel_rfl
  | [x0, x1, x2, x3, x4], _ => by kernel_rfl
  | [x0, x1, x2, x3, x4, x5], _ => by kernel_rfl
  | [x0, x1, x2, x3, x4, x5, x6], _ => by kernel_rfl
  | [x0, x1, x2, x3, x4, x5, x6, x7], _ => by kernel_rfl
  | [x0, x1, x2, x3, x4, x5, x6, x7, x8], _ => by kernel_rfl
  | [x0, x1, x2, x3, x4, x5, x6, x7, x8, x9], _ => by kernel_rfl
  | [x0, x1, x2, x3, x4, x5, x6, x7, x8, x9, x10], _ => by kernel_rfl
  | [x0, x1, x2, x3, x4, x5, x6, x7, x8, x9, x10, x11], _ => by kernel_rfl
  | _ :: _ :: _ :: _ :: _ :: _ :: _ :: _ :: _ :: _ :: _ :: _ :: _ :: r, h => by simp at h
theorem args_object_init (obj : Value) (vs : List Value) : argsOk "object.__init__" ⟨obj :: vs, []⟩ := by unfold argsOk; kernel_rfl
end
end DLS

end

section
set_option Elab.async false
set_option linter.all false
set_option maxRecDepth 100000
namespace DLS
open PySem PySem.Spec PyProof.Rows L2 DLZ
section
variable {prog : Program} {w : World} {A : Around} {E : Value → Shared → Prop} {s : Shared}
theorem pushAt (h : Heap) (o : Obj) (hf : o.isFreed = false) : (h.push o).get? h.objs.size = some o := Heap.get?_push_size _ hf
/-- zip(*R) begins -/
theorem zip_beginsN {R : List Src} {Q : Value → Shared → Prop} (hl : R.length ≤ 12) (hR : ∀ r ∈ R, ∃ items, SqAt r.1 s.heap r.2 items)
    (h : ∀ h', IsZ h' (s.heap.objs.size + R.length + 2) (s.heap.objs.size + R.length) (s.heap.objs.size + R.length + 1) .none (.bool false) → TupIs h' (s.heap.objs.size + R.length) (Its s.heap.objs.size R.length) →
      TupIs h' (s.heap.objs.size + R.length + 1) (List.replicate R.length Value.none) → (∀ j r, R[j]? = some r → SqIt r.1 h' (s.heap.objs.size + j) r.2 0) →
      (∀ c o, s.heap.get? c = some o → h'.get? c = some o) → Q (.ref (s.heap.objs.size + R.length + 2)) { s with heap := h' }) :
    wpAny (model prog w) A (call (.type "zip") (vsOf R)) Q E s := by
  refine callType_new F.called_zip (by decide) (typeCall_zip _) (newCall_zip _ (by simpa [vsOf] using hl)) (fun obj => args_object_init obj _) F.entry_zip_new (meets_zip_newN (by omega)) ⟨hR, ?_⟩
  have s1 := pushIts_size R s.heap
  have gZ : (zHeap s.heap R).get? (s.heap.objs.size + R.length + 2) = some { cls := .type "zip", data := .fields #[.none, .bool false, .bool false, .ref (s.heap.objs.size + R.length), .ref (s.heap.objs.size + R.length + 1)] } := by
    unfold zHeap
    have := pushAt (((pushIts s.heap R).push { cls := .type "tuple", data := .seq (Its s.heap.objs.size R.length).toArray }).push { cls := .type "tuple", data := .seq (List.replicate R.length Value.none).toArray }) ({ cls := .type "zip", data := .fields #[.none, .bool false, .bool false, .ref (s.heap.objs.size + R.length), .ref (s.heap.objs.size + R.length + 1)] } : Obj) rfl
    rw [Heap.size_push, Heap.size_push, s1] at this
    exact this
  have gO : (zHeap s.heap R).get? (s.heap.objs.size + R.length + 1) = some { cls := .type "tuple", data := .seq (List.replicate R.length Value.none).toArray } := by
    unfold zHeap
    have := pushAt ((pushIts s.heap R).push { cls := .type "tuple", data := .seq (Its s.heap.objs.size R.length).toArray }) ({ cls := .type "tuple", data := .seq (List.replicate R.length Value.none).toArray } : Obj) rfl
    rw [Heap.size_push, s1] at this
    exact Heap.get?_push_of_some _ this
  have gT : (zHeap s.heap R).get? (s.heap.objs.size + R.length) = some { cls := .type "tuple", data := .seq (Its s.heap.objs.size R.length).toArray } := by
    unfold zHeap
    have := pushAt (pushIts s.heap R) ({ cls := .type "tuple", data := .seq (Its s.heap.objs.size R.length).toArray } : Obj) rfl
    rw [s1] at this
    exact Heap.get?_push_of_some _ (Heap.get?_push_of_some _ this)
  have gk : ∀ c o, (pushIts s.heap R).get? c = some o → (zHeap s.heap R).get? c = some o := fun c o e => Heap.get?_push_of_some _ (Heap.get?_push_of_some _ (Heap.get?_push_of_some _ e))
  show _ ∧ _
  exact ⟨⟨_, gZ, rfl⟩, h _ gZ gT gO (fun j r e => itO_it r.1 (gk _ _ (pushIts_at R _ j r e))) fun c o e => gk c o (pushIts_keep R _ c o e)⟩
/-! next -/
theorem pyNext_item {n0 i : Nat} {L : List Rc} {xs olds : List Value} {f0 : Value} {b : Bool} {Q : Option Value → Shared → Prop} (hh : A.in1.handled = none) (ha : ∀ (j : Nat) (r : Rc), L[j]? = some r → r.a < n0) (hL : L ≠ []) (hl : L.length ≤ 1000)
    (hz : IsZ s.heap (n0 + L.length + 2) (n0 + L.length) (n0 + L.length + 1) f0 (.bool b)) (hTI : TupIs s.heap (n0 + L.length) (Its n0 L.length)) (hTO : TupIs s.heap (n0 + L.length + 1) olds) (ho : olds.length = L.length) (hx : xs.length = L.length)
    (hit : ∀ (j : Nat) (r : Rc) (x : Value), L[j]? = some r → xs[j]? = some x → r.items[i]? = some x) (st : StK n0 i 0 L s.heap) (hf : f0 = .none ∨ ∃ a : Nat, f0 = rawInt a)
    (hQ : ∀ h' tk (a : Nat) b' olds', IsZ h' (n0 + L.length + 2) (n0 + L.length) (n0 + L.length + 1) (rawInt a) (.bool b') → TupIs h' (n0 + L.length + 1) olds' → olds'.length = L.length → StK n0 (i + 1) 0 L h' → TupIs h' s.heap.objs.size xs → Kept n0 L.length s.heap h' → Q (some (.ref s.heap.objs.size)) { s with heap := h', toks := tk }) :
    wpAny (model prog w) A (pyNext (.ref (n0 + L.length + 2))) Q E s := by
  have hT : s.TypeIs (.ref (n0 + L.length + 2)) "zip" := ⟨_, hz, rfl⟩
  unfold pyNext
  by_cases hfree : f0 = .none ∨ ∃ a : Nat, f0 = rawInt a ∧ s.heap.get? a = none
  · exact wpAny_bind (wpAny_attempt (wpAny_callSpecial?_slot (name := Str.ofString "__next__") hT F.slot_zip_next
      (wpAny_call_entry F.slot_zip_next hT F.entry_zip_next
        (next_owned hh ha hL hl hz hTI hTO ho hx hit st hfree fun h' tk a1 a2 a3 a4 a5 => wpAny_pure (hQ h' tk _ _ _ a1 a2 hx a3 a4 a5)) (F.args_zip_next_1 _))))
  · obtain ⟨a, ea, hal⟩ : ∃ a : Nat, f0 = rawInt a ∧ s.heap.get? a ≠ none := by
      rcases hf with z | ⟨a, z⟩
      · exact absurd (.inl z) hfree
      · exact ⟨a, z, fun q => hfree (.inr ⟨a, z, q⟩)⟩
    subst ea
    exact wpAny_bind (wpAny_attempt (wpAny_callSpecial?_slot (name := Str.ofString "__next__") hT F.slot_zip_next
      (wpAny_call_entry F.slot_zip_next hT F.entry_zip_next
        (next_plain hh ha hL hl hz hTI hTO hx hit st hal fun h' tk a1 a2 a3 a4 a5 => wpAny_pure (hQ h' tk _ _ _ a1 a2 ho a3 a4 a5)) (F.args_zip_next_1 _))))
theorem pyNext_end {n0 i : Nat} {L : List Rc} {olds : List Value} {f0 : Value} {b : Bool} {Q : Option Value → Shared → Prop} (hh : A.in1.handled = none) (ha : ∀ (j : Nat) (r : Rc), L[j]? = some r → r.a < n0) (hL : L ≠ [])
    (hz : IsZ s.heap (n0 + L.length + 2) (n0 + L.length) (n0 + L.length + 1) f0 (.bool b)) (hTI : TupIs s.heap (n0 + L.length) (Its n0 L.length)) (hTO : TupIs s.heap (n0 + L.length + 1) olds)
    (hend : ∀ r, L[0]? = some r → r.items.size = i) (st : StK n0 i 0 L s.heap) (hf : f0 = .none ∨ ∃ a : Nat, f0 = rawInt a)
    (hQ : ∀ h' tk, Kept n0 L.length s.heap h' → Q none { s with heap := h', toks := tk }) : wpAny (model prog w) A (pyNext (.ref (n0 + L.length + 2))) Q E s := by
  have hT : s.TypeIs (.ref (n0 + L.length + 2)) "zip" := ⟨_, hz, rfl⟩
  unfold pyNext
  refine wpAny_bind (wpAny_attempt (wpAny_callSpecial?_slot (name := Str.ofString "__next__") hT F.slot_zip_next
    (wpAny_call_entry F.slot_zip_next hT F.entry_zip_next (next_end hh ha hL hz hTI hTO hend st hf fun h' tk e hk he => ?_) (F.args_zip_next_1 _))))
  obtain ⟨o, ho, hc⟩ := he
  refine wpAny_bind (wpAny_isInstance (T := "StopIteration") (b := true) ⟨o, ho, hc⟩ isSubtype_stop ?_)
  exact wpAny_pure (hQ _ _ hk)
theorem pyIter_z {z TI TO : Addr} {f0 f1 : Value} {Q : Value → Shared → Prop} (hz : IsZ s.heap z TI TO f0 f1) (h : Q (.ref z) s) : wpAny (model prog w) A (pyIter (.ref z)) Q E s := by
  have hT : s.TypeIs (.ref z) "zip" := ⟨_, hz, rfl⟩
  refine wpAny_pyIter_slot hT F.slot_zip_iter (wpAny_call_entry F.slot_zip_iter hT F.entry_zip_iter ?_ (F.args_zip_iter_1 _))
  show wpAny _ _ (ret (.ref z)) _ _ s
  exact wpAny_pure ⟨_, rfl, "zip", _, hT, F.slot_zip_next.lookup, h⟩
end
/-- what is walked: the i-th items of all, as a new tuple -/
def RS (K : PySem.W.Frag) (H : Hp) (R : List Src) (xss : List (List V)) : Prop := xss.length = R.length ∧ ∀ (j : Nat) (r : Src) (xs : List V), R[j]? = some r → xss[j]? = some xs → SqA K r.1 H r.2 xs
def ItN (K : PySem.W.Frag) (R : List Src) : It :=
  ⟨fun i H => ∃ (xss : List (List V)) (ys : List V), RS K H R xss ∧ ys.length = R.length ∧ ∀ (j : Nat) (xs : List V) (y : V), xss[j]? = some xs → ys[j]? = some y → xs[i]? = some y,
   fun i H v H' => ∃ T ys, v = .ref T ∧ H T = none ∧ H' = upd H T (.tup ys) ∧ ys.length = R.length ∧ ∀ xss, RS K H R xss → ∀ (j : Nat) (xs : List V) (y : V), xss[j]? = some xs → ys[j]? = some y → xs[i]? = some y,
   fun i H => ∃ (xss : List (List V)), RS K H R xss ∧ ∀ xs, xss[0]? = some xs → xs.length = i⟩
theorem mkL {X : Cx} {pins : List (Addr × Obj)} {σ : L2.St} {H : Hp} {s : Shared} (I : Inv X pins σ H s) : ∀ (R : List Src) (xss : List (List V)), RS X.K H R xss →
    ∃ L : List Rc, L.length = R.length ∧ ∀ (j : Nat) (r : Src) (xs : List V), R[j]? = some r → xss[j]? = some xs → ∃ its : List Value, L[j]? = some ⟨r.1, r.2, its.toArray⟩ ∧ Vals xs its ∧ SqAt r.1 s.heap r.2 its.toArray
  | [], xss, h => ⟨[], rfl, fun j r xs e => by simp at e⟩
  | r :: R, [], h => by cases h.1
  | r :: R, xs :: xss, h => by
    obtain ⟨L, e1, e2⟩ := mkL I R xss ⟨Nat.succ.inj h.1, fun j q ys a b => h.2 (j + 1) q ys a b⟩
    obtain ⟨its, rv, sq⟩ := Inv_sq I (h.2 0 r xs rfl rfl)
    refine ⟨⟨r.1, r.2, its.toArray⟩ :: L, by rw [List.length_cons, List.length_cons, e1], fun j q ys a b => ?_⟩
    cases j with
    | zero =>
      cases a
      cases b
      exact ⟨its, rfl, rv, sq⟩
    | succ j => exact e2 j q ys a b
theorem RS.inj {X : Cx} {pins : List (Addr × Obj)} {σ : L2.St} {H : Hp} {s : Shared} (I : Inv X pins σ H s) {R : List Src} {xss yss : List (List V)} (h : RS X.K H R xss) (h' : RS X.K H R yss) : xss = yss := by
  apply List.ext_getElem?
  intro j
  by_cases hj : j < R.length
  · have l1 : j < xss.length := by rw [h.1]; exact hj
    have l2 : j < yss.length := by rw [h'.1]; exact hj
    have e1 : xss[j]? = some xss[j] := List.getElem?_eq_getElem l1
    have e2 : yss[j]? = some yss[j] := List.getElem?_eq_getElem l2
    have e3 : R[j]? = some R[j] := List.getElem?_eq_getElem hj
    rw [e1, e2, Inv_sq_inj I (h.2 j _ _ e3 e1) (h'.2 j _ _ e3 e2)]
  · rw [List.getElem?_eq_none_iff.mpr (by rw [h.1]; omega), List.getElem?_eq_none_iff.mpr (by rw [h'.1]; omega)]
def tnN (n0 : Nat) (R : List Src) (i : Nat) (h : Heap) : Prop := ∃ f0 b olds, IsZ h (n0 + R.length + 2) (n0 + R.length) (n0 + R.length + 1) f0 (.bool b) ∧ (f0 = .none ∨ ∃ a : Nat, f0 = rawInt a) ∧ TupIs h (n0 + R.length) (Its n0 R.length) ∧ TupIs h (n0 + R.length + 1) olds ∧ olds.length = R.length ∧
  ∀ (j : Nat) (r : Src), R[j]? = some r → SqIt r.1 h (n0 + j) r.2 i
def fpN (n0 n : Nat) : List Addr := (n0 + n + 2) :: (List.range (n + 2)).map fun j => n0 + j
theorem mem_fpN {n0 n c : Nat} : c ∈ fpN n0 n ↔ n0 ≤ c ∧ c ≤ n0 + n + 2 := by
  unfold fpN
  rw [List.mem_cons, List.mem_map]
  constructor
  · rintro (h | ⟨j, hj, e⟩)
    · subst h; omega
    · rw [List.mem_range] at hj
      omega
  · intro h
    by_cases hc : c = n0 + n + 2
    · exact .inl hc
    · exact .inr ⟨c - n0, by rw [List.mem_range]; omega, by omega⟩
end DLS

end

section
set_option Elab.async false
set_option linter.all false
set_option maxRecDepth 100000
namespace DLS
open PySem PySem.Spec PyProof.Rows L2 DLZ
theorem vals_of : ∀ {ys : List V} {us : List Value}, ys.length = us.length → (∀ (j : Nat) (y : V) (u : Value), ys[j]? = some y → us[j]? = some u → RelV y u) → Vals ys us
  | [], [], _, _ => .nil
  | y :: ys, u :: us, h, f => .cons (f 0 y u rfl rfl) (vals_of (Nat.succ.inj h) fun j a b e1 e2 => f (j + 1) a b e1 e2)
  | [], _ :: _, h, _ => by cases h
  | _ :: _, [], h, _ => by cases h
theorem fp_cases {n0 n c : Nat} (h1 : n0 ≤ c) (h2 : c ≤ n0 + n + 2) : c = n0 + n + 2 ∨ c = n0 + n ∨ c = n0 + n + 1 ∨ (c - n0 < n ∧ n0 + (c - n0) = c) := by omega
theorem turn_zipN {P : Program} {w : World} {K : PySem.W.Frag} {x : Str} {tpos : Pos} {n0 : Nat} {R : List Src} (hR : R ≠ []) (hl : R.length ≤ 1000) (ha : ∀ r ∈ R, r.2 < n0) :
    Turn P w K (.Name x tpos) (ItN K R) (fpN n0 R.length) (n0 + R.length + 2) (tnN n0 R) where
  mem := mem_fpN.mpr ⟨by omega, Nat.le_refl _⟩
  obj := fun i h st c hc => by
    obtain ⟨f0, b, olds, hz, _, hTI, hTO, _, hI⟩ := st
    obtain ⟨c1, c2⟩ := mem_fpN.mp hc
    rcases fp_cases c1 c2 with q | q | q | ⟨hj, q⟩
    · rw [q]
      exact ⟨_, hz, fun v q => nomatch q⟩
    · rw [q]
      exact ⟨_, hTI, fun v q => nomatch q⟩
    · rw [q]
      exact ⟨_, hTO, fun v q => nomatch q⟩
    · have z := hI (c - n0) _ (List.getElem?_eq_getElem hj)
      rw [q] at z
      exact z.has
  keep := fun i h h' st k => by
    obtain ⟨f0, b, olds, hz, hf, hTI, hTO, ho, hI⟩ := st
    refine ⟨f0, b, olds, k _ (mem_fpN.mpr ⟨by omega, by omega⟩) _ hz, hf, k _ (mem_fpN.mpr ⟨by omega, by omega⟩) _ hTI, k _ (mem_fpN.mpr ⟨by omega, by omega⟩) _ hTO, ho, fun j r e => (hI j r e).at fun o eo => k _ (mem_fpN.mpr ⟨by omega, ?_⟩) o eo⟩
    have := (List.getElem?_eq_some_iff.mp e).1
    omega
  item := by
    intro X hP hw hK hc i pins s σ H E I hf st hg
    subst hP hw hK
    obtain ⟨f0, b, olds, hz, hf0, hTI, hTO, ho, hI⟩ := st
    obtain ⟨xss, ys, hrs, hly, hys⟩ := hg
    obtain ⟨L, hLl, hL⟩ := mkL I R xss hrs
    have hh : X.A.in1.handled = none := I.ok.hd hc
    -- the row of L at j
    have atL : ∀ (j : Nat), j < R.length → ∃ (r : Src) (xs : List V) (its : List Value) (y : V) (u : Value), R[j]? = some r ∧ xss[j]? = some xs ∧ L[j]? = some ⟨r.1, r.2, its.toArray⟩ ∧ SqAt r.1 s.heap r.2 its.toArray ∧ ys[j]? = some y ∧ its[i]? = some u ∧ RelV y u := fun j hj => by
      have l1 : j < xss.length := by rw [hrs.1]; exact hj
      have l2 : j < ys.length := by rw [hly]; exact hj
      obtain ⟨its, e1, rv, sq⟩ := hL j _ _ (List.getElem?_eq_getElem hj) (List.getElem?_eq_getElem l1)
      obtain ⟨u, eu, ru⟩ := rv.get (hys j _ _ (List.getElem?_eq_getElem l1) (List.getElem?_eq_getElem l2))
      exact ⟨_, _, its, _, u, List.getElem?_eq_getElem hj, List.getElem?_eq_getElem l1, e1, sq, List.getElem?_eq_getElem l2, eu, ru⟩
    let us : List Value := (List.range R.length).map fun j => match L[j]? with
      | some r => (r.items[i]?).getD .none
      | none => .none
    have hus : us.length = R.length := by simp [us]
    have usat : ∀ (j : Nat) (u : Value), us[j]? = some u → j < R.length ∧ u = (match L[j]? with
      | some r => (r.items[i]?).getD .none
      | none => .none) := fun j u e => by
      have hj : j < R.length := by rw [← hus]; exact (List.getElem?_eq_some_iff.mp e).1
      refine ⟨hj, ?_⟩
      have e' : us[j]? = some (match L[j]? with
        | some r => (r.items[i]?).getD .none
        | none => .none) := by
        show ((List.range R.length).map _)[j]? = _
        rw [List.getElem?_map, List.getElem?_range hj]
        rfl
      rw [e] at e'
      exact Option.some.inj e'
    have hv : Vals ys us := vals_of (by rw [hly, hus]) fun j y u e1 e2 => by
      obtain ⟨hj, eu⟩ := usat j u e2
      obtain ⟨r, xs, its, y', u', _, _, eL, _, ey, ei, ru⟩ := atL j hj
      rw [e1] at ey
      cases ey
      rw [eL] at eu
      have ei' : its.toArray[i]? = some u' := by simpa using ei
      have eu' : u = (its.toArray[i]?).getD .none := eu
      rw [ei'] at eu'
      rw [eu']
      exact ru
    have haL : ∀ (j : Nat) (r : Rc), L[j]? = some r → r.a < n0 := fun j r e => by
      have hj : j < R.length := by rw [← hLl]; exact (List.getElem?_eq_some_iff.mp e).1
      obtain ⟨q, _, its, _, _, eq, _, eL, _⟩ := atL j hj
      rw [e] at eL
      cases eL
      exact ha q (List.mem_of_getElem? eq)
    have hLne : L ≠ [] := fun z => hR (List.length_eq_zero_iff.mp (by rw [← hLl, z]; rfl))
    have stK : StK n0 i 0 L s.heap := fun j r e => by
      have hj : j < R.length := by rw [← hLl]; exact (List.getElem?_eq_some_iff.mp e).1
      obtain ⟨q, _, its, _, _, eq, _, eL, sq, _⟩ := atL j hj
      rw [e] at eL
      cases eL
      rw [if_neg (Nat.not_lt_zero j)]
      exact ⟨hI j q eq, sq⟩
    rw [← hLl] at hz hTI hTO ho hus
    have hzn : n0 + R.length + 2 = n0 + L.length + 2 := by rw [hLl]
    rw [hzn]
    refine pyNext_item hh haL hLne (by rw [hLl]; exact hl) hz hTI hTO ho hus (fun j r u e1 e2 => ?_) stK hf0 fun h' tk a b' olds' z1 z2 z3 z4 z5 kp => ?_
    · obtain ⟨hj, eu⟩ := usat j u e2
      obtain ⟨q, xs, its, y', u', _, _, eL, _, ey, ei, ru⟩ := atL j hj
      rw [e1] at eL
      cases eL
      rw [e1] at eu
      have ei' : its.toArray[i]? = some u' := by simpa using ei
      have eu' : u = (its.toArray[i]?).getD .none := eu
      rw [ei'] at eu'
      rw [eu']
      exact ei'
    · refine ⟨.ref s.heap.objs.size, rfl, ?_⟩
      show wpAny _ _ (pure ()) _ _ _
      refine wpAny_pure ?_
      have hT : H s.heap.objs.size = none := I.hok.fresh (Nat.le_refl _)
      have new : ObjOk X.prog X.w (upd H s.heap.objs.size (.tup ys)) h' s.heap.objs.size (.tup ys) := ⟨by rw [hly]; exact Nat.le_of_lt (small1000 hl), us, hv, ⟨_, z5, rfl, _, rfl⟩⟩
      have I1 : Inv X pins σ (upd H s.heap.objs.size (.tup ys)) { s with heap := h', toks := tk } :=
        I.turnedNew (t' := tk) (ch := fpN n0 R.length) (fun c o hb q => kp c o (by
          have : ¬ (n0 ≤ c ∧ c ≤ n0 + R.length + 2) := fun m => hb (mem_fpN.mpr m)
          rw [hLl]
          by_cases h1 : c < n0
          · exact .inl h1
          · exact .inr (.inl (by
              by_cases h2 : n0 + R.length + 2 < c
              · exact h2
              · exact absurd ⟨Nat.le_of_not_lt h1, Nat.le_of_not_lt h2⟩ this))) q) hf (Nat.le_refl _) new
      refine ⟨.ref s.heap.objs.size, _, I1, rfl, ⟨_, ys, rfl, hT, rfl, hly, fun xss' h2 => by rw [RS.inj I h2 hrs]; exact hys⟩, ?_, fun c hcm => ?_⟩
      · rw [hLl] at z1 z2 z3 kp
        refine ⟨_, b', olds', z1, .inr ⟨a, rfl⟩, kp _ _ (.inr (.inr rfl)) (by rw [hLl] at hTI; exact hTI), z2, z3, fun j r e => ?_⟩
        have hj := (List.getElem?_eq_some_iff.mp e).1
        obtain ⟨q, _, its, _, _, eq, _, eL, _⟩ := atL j hj
        rw [e] at eq
        cases eq
        have := (z4 j _ eL).1
        rw [if_neg (Nat.not_lt_zero j)] at this
        exact this
      · have hlt : c < s.heap.objs.size := by
          have m := mem_fpN.mp hcm
          have : n0 + L.length + 2 < s.heap.objs.size := Heap.lt_size hz
          rw [hLl] at this
          exact Nat.lt_of_le_of_lt m.2 this
        rw [upd_ne (Nat.ne_of_lt hlt)]
        exact (hf c hcm).1
  done := by
    intro X hP hw hK hc i pins s σ H E I hf st hg
    subst hP hw hK
    obtain ⟨f0, b, olds, hz, hf0, hTI, hTO, ho, hI⟩ := st
    obtain ⟨xss, hrs, hend⟩ := hg
    obtain ⟨L, hLl, hL⟩ := mkL I R xss hrs
    have hh : X.A.in1.handled = none := I.ok.hd hc
    have atL : ∀ (j : Nat), j < R.length → ∃ (r : Src) (xs : List V) (its : List Value), R[j]? = some r ∧ xss[j]? = some xs ∧ L[j]? = some ⟨r.1, r.2, its.toArray⟩ ∧ Vals xs its ∧ SqAt r.1 s.heap r.2 its.toArray := fun j hj => by
      have l1 : j < xss.length := by rw [hrs.1]; exact hj
      obtain ⟨its, e1, rv, sq⟩ := hL j _ _ (List.getElem?_eq_getElem hj) (List.getElem?_eq_getElem l1)
      exact ⟨_, _, its, List.getElem?_eq_getElem hj, List.getElem?_eq_getElem l1, e1, rv, sq⟩
    have haL : ∀ (j : Nat) (r : Rc), L[j]? = some r → r.a < n0 := fun j r e => by
      have hj : j < R.length := by rw [← hLl]; exact (List.getElem?_eq_some_iff.mp e).1
      obtain ⟨q, _, its, eq, _, eL, _⟩ := atL j hj
      rw [e] at eL
      cases eL
      exact ha q (List.mem_of_getElem? eq)
    have hLne : L ≠ [] := fun z => hR (List.length_eq_zero_iff.mp (by rw [← hLl, z]; rfl))
    have stK : StK n0 i 0 L s.heap := fun j r e => by
      have hj : j < R.length := by rw [← hLl]; exact (List.getElem?_eq_some_iff.mp e).1
      obtain ⟨q, _, its, eq, _, eL, _, sq⟩ := atL j hj
      rw [e] at eL
      cases eL
      rw [if_neg (Nat.not_lt_zero j)]
      exact ⟨hI j q eq, sq⟩
    rw [← hLl] at hz hTI hTO
    have hzn : n0 + R.length + 2 = n0 + L.length + 2 := by rw [hLl]
    rw [hzn]
    refine pyNext_end hh haL hLne hz hTI hTO (fun r e => ?_) stK hf0 fun h' tk kp => ⟨rfl, I.turnedL (t' := tk) (ch := fpN n0 R.length) (fun c o hb q => kp c o (by
          have : ¬ (n0 ≤ c ∧ c ≤ n0 + R.length + 2) := fun m => hb (mem_fpN.mpr m)
          rw [hLl]
          by_cases h1 : c < n0
          · exact .inl h1
          · exact .inr (.inl (by
              by_cases h2 : n0 + R.length + 2 < c
              · exact h2
              · exact absurd ⟨Nat.le_of_not_lt h1, Nat.le_of_not_lt h2⟩ this))) q) hf⟩
    have hj : 0 < R.length := by rw [← hLl]; exact (List.getElem?_eq_some_iff.mp e).1
    obtain ⟨q, xs, its, _, ex, eL, rv, _⟩ := atL 0 hj
    rw [e] at eL
    cases eL
    have := hend xs ex
    rw [← this, rv.length]
    simp
  self := fun A i s Q E st h => by
    obtain ⟨f0, b, olds, hz, _⟩ := st
    exact pyIter_z hz h
section
variable {M : Model} {A : Around} {E : Value → Shared → Prop} {s : Shared} {env : Env} {pos p : Pos} {e : Expr} {Q : Value → Shared → Prop} {T : String}
theorem callWith_typeS (h : wpAny M A (eval e env) (fun v s₁ => PySem.W.StarOf M A E v (fun vs s₂ => wpAny M A (call (.type T) vs) Q E s₂) s₁) E s)
    (he : starEach [.Starred e p] env = [(true, eval e env)] := by rfl) :
    wpAny M A (callWith pos (.type T) [] (backTo pos (starEach [.Starred e p] env)) []) Q E s := by
  rw [he]
  unfold callWith
  refine wpAny_bind (wpAny_holding (wpAny_mono (PySem.W.ks_lone (Q := fun a s₂ => a.kw = [] ∧ wpAny M A (call (.type T) a.pos) Q E s₂) (thn h fun v s₁ h₁ => ?_)) (fun a s₁ h₁ => wpAny_bind (wpAny_standAt ?_)) fun _ _ x => x))
  · unfold PySem.W.StarOf at h₁ ⊢
    exact wpAny_mono h₁ (fun b s₂ h₂ => ⟨h₂.1, wpAny_mono h₂.2 (fun vs s₃ h₃ => ⟨rfl, h₃⟩) fun _ _ x => x⟩) fun _ _ x => x
  · obtain ⟨ek, h₁⟩ := h₁
    simp only [List.any_cons, List.any_nil, Bool.or_false, Bool.true_or, Bool.or_true]
    refine wpAny_bind (wpAny_pure ?_)
    rw [ek]
    exact wpAny_bind (wpAny_mono (wpAny_operating h₁) (fun r s₂ hr => wpAny_bind (wpAny_holding (wpAny_point (wpAny_pure hr)))) fun _ _ x => x)
end
end DLS

end

section
set_option Elab.async false
set_option linter.all false
set_option maxRecDepth 100000
namespace DLS
open PySem PySem.Spec PyProof.Rows L2 DLZ
def iStarV (K : PySem.W.Frag) (te : TE) : TI := fun σ H Rr => te σ H fun x H1 => ∃ a xs R xss, x = .ref a ∧ (SqT K H1 a xs ∨ SqL K H1 a xs) ∧ xs = R.map (fun r : Src => V.ref r.2) ∧ R ≠ [] ∧ R.length ≤ 12 ∧ RS K H1 R xss ∧ Rr (ItN K R) H1
theorem vals_refs : ∀ {R : List Src} {us : List Value}, Vals (R.map fun r : Src => V.ref r.2) us → us = vsOf R
  | [], _, .nil => rfl
  | r :: R, _, .cons h t => by
    cases h
    rw [vals_refs t]
    rfl
theorem pi_star {X : Cx} {e : Expr} {te : TE} {p pos tpos sp_ : Pos} {y : Str} (hg : Gl X "zip") (hm : X.mg "zip" = none) (he : PE X e te) (hst : starEach [.Starred e sp_] X.env = [(true, eval e X.env)] := by rfl) :
    PI X (.Name y tpos) (.Call (.Name "zip" p) [.Starred e sp_] [] pos) (iStarV X.K te) := by
  refine ⟨fun pins s σ H Rr I h => ?_⟩
  refine Call_ (ld_blt I hg hm PyProof.Rows.boot_zip (callWith_typeS (thn (he.run pins s σ H _ I h) fun v s1 ⟨x, H1, I1, r1, q1⟩ => ?_) hst))
  obtain ⟨a, xs, R, xss, rfl, hs, ex, hR, hl, hrs, q⟩ := q1
  obtain rfl : v = Value.ref a := r1
  refine StX.star_any I1 hs fun us s2 I2 rv => ?_
  subst ex
  rw [vals_refs rv]
  have hsq : ∀ r ∈ R, ∃ items, SqAt r.1 s2.heap r.2 items := fun r hr => by
    obtain ⟨j, hj⟩ := List.getElem?_of_mem hr
    have hjl := (List.getElem?_eq_some_iff.mp hj).1
    obtain ⟨its, _, p⟩ := Inv_sq I2 (hrs.2 j r _ hj (List.getElem?_eq_getElem (by rw [hrs.1]; exact hjl)))
    exact ⟨_, p⟩
  refine zip_beginsN hl hsq fun h' hz hTI hTO hI hk => pyIter_z hz ?_
  have I3 : Inv X pins σ H1 { s2 with heap := h' } := I2.kept (t' := s2.toks) hk
  have ha : ∀ r ∈ R, r.2 < s2.heap.objs.size := fun r hr => by
    obtain ⟨its, p⟩ := hsq r hr
    exact p.lt
  have fresh : ∀ c, c ∈ fpN s2.heap.objs.size R.length → FpOk X pins H1 c := fun c hcm => by
    have hle := (mem_fpN.mp hcm).1
    exact I2.fpOk hle (I2.hok.fresh hle)
  exact ⟨s2.heap.objs.size + R.length + 2, fpN s2.heap.objs.size R.length, _, _, H1, rfl, I3, turn_zipN hR (by omega) ha, ⟨.none, false, _, hz, .inl rfl, hTI, hTO, by rw [List.length_replicate], hI⟩, fresh, q⟩
end DLS
namespace DL
open PySem PySem.Spec PyProof.Rows L2 DLZ DLS
/-! ### zip(*rows) as data -/
def colsD : List (List D) → Option (List D)
  | [] => none
  | r :: rs => if (r :: rs).length ≤ 12 ∧ (rs.all fun q => q.length == r.length) = true then some ((List.range r.length).map fun i => D.tup ((r :: rs).map fun q => q.getD i .non)) else none
def iStar (f : DE) : DI := fun δ => (f δ).bind fun d => d.items.bind fun rows => (rows.mapM D.items).bind colsD
/-- a row, off F -/
theorem Rep.row {K : PySem.W.Frag} {mg : Mg} {F : AP1} {H : Hp} {v : V} {d : D} {es : List D} (r : Rep K mg F H v d) (e : d.items = some es) :
    ∃ (b : Bool) (a : Addr) (xs : List V), v = .ref a ∧ (∀ H2 : Hp, (∀ c o, H c = some o → ¬ F c → H2 c = some o) → SqA K b H2 a xs) ∧ RepL K mg F H xs es := by
  cases r with
  | lst t l =>
    cases e
    exact ⟨true, _, _, rfl, fun H2 k => SqL.of (k _ _ t.1 t.2), l⟩
  | tup t l =>
    cases e
    exact ⟨false, _, _, rfl, fun H2 k => TupA.kp (P := fun b => ¬ F b) k (fun _ z => z) t, l⟩
  | _ => cases e
def RowsOk (K : PySem.W.Frag) (mg : Mg) (F : AP1) (H : Hp) (R : List Src) (xss : List (List V)) (rs : List (List D)) : Prop :=
  xss.length = R.length ∧ rs.length = R.length ∧ (∀ H2 : Hp, (∀ c o, H c = some o → ¬ F c → H2 c = some o) → RS K H2 R xss) ∧ ∀ (j : Nat) (xs : List V) (es : List D), xss[j]? = some xs → rs[j]? = some es → RepL K mg F H xs es
theorem rows_of {K : PySem.W.Frag} {mg : Mg} {F : AP1} {H : Hp} : ∀ {ds : List D} {vs : List V} {rs : List (List D)}, RepL K mg F H vs ds → ds.mapM D.items = some rs → ∃ R xss, vs = R.map (fun r : Src => V.ref r.2) ∧ RowsOk K mg F H R xss rs
  | [], _, rs, .nil, e => by
    cases e
    exact ⟨[], [], rfl, rfl, rfl, fun H2 k => ⟨rfl, fun j r xs e => by simp at e⟩, fun j xs es e => by simp at e⟩
  | d :: ds, _, rs, .cons h t, e => by
    rw [List.mapM_cons] at e
    obtain ⟨es, e1, e⟩ := bind_some e
    obtain ⟨rs', e2, e⟩ := bind_some e
    cases e
    obtain ⟨R, xss, ev, l1, l2, hR, hX⟩ := rows_of t e2
    obtain ⟨b, a, xs, rfl, hs, l⟩ := h.row e1
    refine ⟨(b, a) :: R, xs :: xss, by rw [ev]; rfl, by rw [List.length_cons, List.length_cons, l1], by rw [List.length_cons, List.length_cons, l2], fun H2 k => ⟨by rw [List.length_cons, List.length_cons, l1], fun j r ys e e' => ?_⟩, fun j ys es' e e' => ?_⟩
    · cases j with
      | zero =>
        cases e
        cases e'
        exact hs H2 k
      | succ j => exact (hR H2 k).2 j r ys e e'
    · cases j with
      | zero =>
        cases e
        cases e'
        exact l
      | succ j => exact hX j ys es' e e'
theorem RepL.of_get {K : PySem.W.Frag} {mg : Mg} {F : AP1} {H : Hp} : ∀ {vs : List V} {ds : List D}, vs.length = ds.length → (∀ (j : Nat) (v : V) (d : D), vs[j]? = some v → ds[j]? = some d → Rep K mg F H v d) → RepL K mg F H vs ds
  | [], [], _, _ => .nil
  | v :: vs, d :: ds, h, f => .cons (f 0 v d rfl rfl) (RepL.of_get (Nat.succ.inj h) fun j a b e1 e2 => f (j + 1) a b e1 e2)
  | [], _ :: _, h, _ => by cases h
  | _ :: _, [], h, _ => by cases h
theorem walk_star {K : PySem.W.Frag} {mg : Mg} {F : AP1} {H1 : Hp} {R : List Src} {xss : List (List V)} {rs : List (List D)} {ds : List D} (ok : RowsOk K mg F H1 R xss rs) (e : colsD rs = some ds) : WalkR K mg (fun b => ¬ F b) (ItN K R) F ds H1 := fun H F' k hs hn => by
  obtain ⟨l1, l2, hR, hX⟩ := ok
  cases rs with
  | nil => cases e
  | cons r0 rs =>
    replace e : (if (r0 :: rs).length ≤ 12 ∧ (rs.all fun q => q.length == r0.length) = true then some ((List.range r0.length).map fun i => D.tup ((r0 :: rs).map fun q => q.getD i .non)) else none) = some ds := e
    split at e
    case isFalse => cases e
    rename_i hc
    cases e
    have hRS := hR H k
    have hlen : ∀ (j : Nat) (es : List D), (r0 :: rs)[j]? = some es → es.length = r0.length := fun j es e => by
      cases j with
      | zero => cases e; rfl
      | succ j => exact eq_of_beq (List.all_eq_true.mp hc.2 es (List.mem_of_getElem? (show rs[j]? = some es from e)))
    have hxl : ∀ (j : Nat) (xs : List V), xss[j]? = some xs → ∃ es, (r0 :: rs)[j]? = some es ∧ RepL K mg F H1 xs es ∧ xs.length = r0.length := fun j xs e => by
      have hj := (List.getElem?_eq_some_iff.mp e).1
      have e2 : (r0 :: rs)[j]? = some (r0 :: rs)[j] := List.getElem?_eq_getElem (by rw [l2, ← l1]; exact hj)
      have l := hX j _ _ e e2
      exact ⟨_, e2, l, by rw [l.len]; exact hlen j _ e2⟩
    refine ⟨fun i d ed => ?_, xss, hRS, fun xs e => ?_⟩
    · rw [List.getElem?_map] at ed
      obtain ⟨i', ei, rfl⟩ := map_some ed
      have hi : i < r0.length := by
        have := (List.getElem?_eq_some_iff.mp ei).1
        rwa [List.length_range] at this
      have ei' : i' = i := by
        rw [List.getElem?_range hi] at ei
        exact (Option.some.inj ei).symm
      subst ei'
      refine ⟨⟨xss, xss.map fun xs => xs.getD i' .non, hRS, by rw [List.length_map, l1], fun j xs y e1 e2 => ?_⟩, fun x H' y => ?_⟩
      · rw [List.getElem?_map, e1] at e2
        cases e2
        obtain ⟨_, _, _, hl⟩ := hxl j xs e1
        show xs[i']? = some (xs.getD i' .non)
        rw [List.getD_eq_getElem?_getD, List.getElem?_eq_getElem (by omega)]
        rfl
      · obtain ⟨T, ys, rfl, nT, rfl, hly, hys⟩ := y
        have hF : ¬ F' T := fun z => hn T z nT
        refine ⟨sm_upd nT, .tup (.inl ⟨.inl upd_same, hF⟩) (RepL.of_get (by rw [List.length_map, hly, l2]) fun j v d e1 e2 => ?_)⟩
        rw [List.getElem?_map] at e2
        obtain ⟨es, e3, rfl⟩ := map_some e2
        have hj : j < xss.length := by
          have := (List.getElem?_eq_some_iff.mp e1).1
          rw [l1, ← hly]
          exact this
        have e4 : xss[j]? = some xss[j] := List.getElem?_eq_getElem hj
        obtain ⟨es', e5, l, hl⟩ := hxl j _ e4
        rw [e3] at e5
        cases e5
        have e6 := hys xss hRS j _ _ e4 e1
        obtain ⟨d', e7, rv⟩ := l.get' e6
        rw [List.getD_eq_getElem?_getD, e7]
        exact Rep.stay (fun b o eb nb => ⟨by rw [upd_ne (fun z => by have := k b o eb nb; rw [z, nT] at this; cases this)]; exact k b o eb nb, fun z => nb (hs b (by rw [eb]; exact fun z => nomatch z) z)⟩) _ _ rv
    · obtain ⟨_, _, _, hl⟩ := hxl 0 xs e
      rw [List.length_map, List.length_range, hl]
section
variable {X : Cx} {fl : List Fl} {e : Expr} {f : DE} {p pos tpos sp_ : Pos} {y : Str}
theorem piStar (hg : Gl X "zip") (hm : X.mg "zip" = none) (he : PE X e (tD X.K X.mg fl f)) (hst : starEach [.Starred e sp_] X.env = [(true, eval e X.env)] := by rfl) :
    PI X (.Name y tpos) (.Call (.Name "zip" p) [.Starred e sp_] [] pos) (tIc X.K X.mg fl (iStar f)) :=
  PI_imp (pi_star hg hm he hst) fun σ H Rr ⟨F, δ, ds, er, ei, q⟩ => by
    obtain ⟨d, e1, ei⟩ := bind_some ei
    obtain ⟨rows, e2, ei⟩ := bind_some ei
    obtain ⟨rs, e3, ei⟩ := bind_some ei
    refine ⟨F, δ, d, er, e1, fun v H1 s r => ?_⟩
    obtain ⟨b, a, xs, rfl, hs, l⟩ := r.row e2
    obtain ⟨R, xss, ev, ok⟩ := rows_of l e3
    have hsq := hs H1 fun _ _ e _ => e
    have hne : R ≠ [] := fun z => by
      have := ok.2.1
      rw [z] at this
      cases rs with
      | nil => cases ei
      | cons _ _ => cases this
    have hl : R.length ≤ 12 := by
      rw [← ok.2.1]
      cases rs with
      | nil => cases ei
      | cons r0 rs =>
        replace ei : (if (r0 :: rs).length ≤ 12 ∧ (rs.all fun q => q.length == r0.length) = true then some ((List.range r0.length).map fun i => D.tup ((r0 :: rs).map fun q => q.getD i .non)) else none) = some ds := ei
        split at ei
        · rename_i hc
          exact hc.1
        · cases ei
    refine ⟨a, xs, R, xss, rfl, ?_, ev, hne, hl, ok.2.2.1 H1 (fun _ _ e _ => e), q _ H1 s (walk_star ok ei)⟩
    cases b with
    | true => exact .inr hsq
    | false => exact .inl hsq
end
end DL
namespace DL
open PySem PySem.Spec PyProof.Rows L2
theorem fnD_n {P : Program} {w : World} {K : PySem.W.Frag} {mg : Str → Option Value} {base : Heap} {x qual : Str} {st : Stmt} {f : Addr} {fd : FuncData} {N ps : List Str} {k : Nat} {bs : List Bool} (n : Nat) (fb : DS) {ff : List D → Option D} (F : Fun K x qual st f fd) (S : FnScope N ps (defScope st)) (e : ff = runD n fb)
    (h : BodyOk P w K mg base qual st f N k (flA bs n) (flN n) fb) (hN : N.length = n := by rfl) (hb : bs.length = ps.length := by rfl) (hn : bs.length ≤ n := by decide) : FnOk P w K mg base CX0 (k + 1) f fd ps (spD K mg bs ff) := by
  subst hN
  subst e
  exact fnD F S h hb hn
end DL

end

section
set_option Elab.async false
set_option linter.all false
set_option maxRecDepth 100000
/-! Facts about the data functions: no program in sight. -/
namespace DL
open PySem PySem.Spec PyProof.Rows L2
abbrev dI (xs : List Int) : D := .tup (xs.map .int)
abbrev lI (xs : List Int) : D := .lst (xs.map .int)
abbrev dM (M : List (List Int)) : D := .tup (M.map dI)
abbrev lM (M : List (List Int)) : D := .lst (M.map fun r => lI r)
theorem gSum_l (ns : List Int) : gSum (lI ns) = some (.int ns.sum) := by
  show (D.ints (ns.map .int)).map _ = _
  rw [ints_map]
  rfl
theorem gSum_t (ns : List Int) : gSum (dI ns) = some (.int ns.sum) := by
  show (D.ints (ns.map .int)).map _ = _
  rw [ints_map]
  rfl
theorem gMax_l (n : Int) (ns : List Int) : gMax (lI (n :: ns)) = some (.int (ns.foldl max n)) := by
  show (D.ints ((n :: ns).map .int)).bind _ = _
  rw [ints_map]
  rfl
theorem gMin_l (n : Int) (ns : List Int) : gMin (lI (n :: ns)) = some (.int (ns.foldl min n)) := by
  show (D.ints ((n :: ns).map .int)).bind _ = _
  rw [ints_map]
  rfl
theorem gMax_t (n : Int) (ns : List Int) : gMax (dI (n :: ns)) = some (.int (ns.foldl max n)) := by
  show (D.ints ((n :: ns).map .int)).bind _ = _
  rw [ints_map]
  rfl
theorem gMin_t (n : Int) (ns : List Int) : gMin (dI (n :: ns)) = some (.int (ns.foldl min n)) := by
  show (D.ints ((n :: ns).map .int)).bind _ = _
  rw [ints_map]
  rfl
theorem gAll_l (bs : List Bool) : gAll (.lst (bs.map .bl)) = some (.bl (bs.all id)) := by
  show (D.bools (bs.map .bl)).map _ = _
  rw [bools_map]
  rfl
theorem gAny_l (bs : List Bool) : gAny (.lst (bs.map .bl)) = some (.bl (bs.any id)) := by
  show (D.bools (bs.map .bl)).map _ = _
  rw [bools_map]
  rfl
theorem pyS_int (a : Int) : D.pyS (.int a) = some (.int a) := rfl
theorem gEq_int (a b : Int) : gEq (.int a) (.int b) = some (.bl (a == b)) := rfl
theorem gNe_int (a b : Int) : gNe (.int a) (.int b) = some (.bl (!(a == b))) := rfl
theorem gEq_bl (a b : Bool) : gEq (.bl a) (.bl b) = some (.bl (a == b)) := by cases a <;> cases b <;> rfl
/-! ### sizes -/
theorem log2_lt {n k : Nat} (h : n < 2 ^ k) (hk : 0 < k) : n.log2 < k := by
  by_cases h0 : n = 0
  · subst h0
    exact hk
  · exact (Nat.log2_lt h0).mpr h
theorem mulOk_of {a b : Int} (h1 : a.natAbs < 2 ^ 40000000) (h2 : b.natAbs < 2 ^ 40000000) : mulOk a b = true := by
  have z1 := log2_lt h1 (by omega)
  have z2 := log2_lt h2 (by omega)
  exact decide_eq_true (by omega)
theorem gMul_int {a b : Int} (h : mulOk a b = true) : gMul (.int a) (.int b) = some (.int (a * b)) := by
  show (if mulOk a b = true then some (D.int (a * b)) else none) = _
  rw [if_pos h]
theorem divOk_of {b : Int} (h0 : b ≠ 0) (h2 : b.natAbs < 2 ^ 8000) : divOk b = true := by
  have z2 := log2_lt h2 (by omega)
  unfold divOk
  rw [decide_eq_true h0, decide_eq_true (show b.natAbs.log2 < 9000 by omega)]
  rfl
theorem gDiv_int {a b : Int} (h : divOk b = true) : gDiv (.int a) (.int b) = some (.int (a.fdiv b)) := by
  show (if divOk b = true then some (D.int (a.fdiv b)) else none) = _
  rw [if_pos h]
theorem gMod_int {a b : Int} (h : b ≠ 0) : gMod (.int a) (.int b) = some (.int (a.fmod b)) := by
  show (if b ≠ 0 then some (D.int (a.fmod b)) else none) = _
  rw [if_pos h]
/-! ### comprehensions -/
theorem lcGo_map {α : Type} {vs : List Nat} {ga : Tg} {tt : DT} {te : DE} {δ : DSt} {g : α → D} {f : α → D} : ∀ {xs : List α}, (∀ x ∈ xs, ∃ as, ga (g x) = some as ∧ tt (setD (wipeD δ vs) as) = some true ∧ te (setD (wipeD δ vs) as) = some (f x)) → lcGo vs ga tt te δ (xs.map g) = some (xs.map f)
  | [], _ => rfl
  | x :: xs, h => by
    obtain ⟨as, e1, e2, e3⟩ := h x List.mem_cons_self
    show (ga (g x)).bind _ = _
    rw [e1]
    show (tt (setD (wipeD δ vs) as)).bind _ = _
    rw [e2]
    show (te (setD (wipeD δ vs) as)).bind _ = _
    rw [e3]
    show (lcGo vs ga tt te δ (xs.map g)).map _ = _
    rw [lcGo_map fun y hy => h y (List.mem_cons_of_mem _ hy)]
    rfl
/-- [te for target in it] -/
theorem lc_map {α : Type} {vs : List Nat} {it : DI} {ga : Tg} {tt : DT} {te : DE} {δ : DSt} {g : α → D} {f : α → D} (xs : List α) (hi : it δ = some (xs.map g)) (hl : xs.length ≤ 1000)
    (h : ∀ x ∈ xs, ∃ as, ga (g x) = some as ∧ tt (setD (wipeD δ vs) as) = some true ∧ te (setD (wipeD δ vs) as) = some (f x)) : lcD vs it ga tt te δ = some (xs.map f) := by
  unfold lcD
  rw [hi]
  show (if (xs.map g).length ≤ sizeLine then _ else _) = _
  rw [if_pos (by rw [List.length_map]; exact Nat.le_of_lt (small1000 hl)), lcGo_map h]
theorem lcGo_filter {α : Type} {vs : List Nat} {ga : Tg} {tt : DT} {te : DE} {δ : DSt} {g : α → D} {f : α → D} {p : α → Bool} : ∀ {xs : List α}, (∀ x ∈ xs, ∃ as, ga (g x) = some as ∧ tt (setD (wipeD δ vs) as) = some (p x) ∧ (p x = true → te (setD (wipeD δ vs) as) = some (f x))) → lcGo vs ga tt te δ (xs.map g) = some ((xs.filter p).map f)
  | [], _ => rfl
  | x :: xs, h => by
    obtain ⟨as, e1, e2, e3⟩ := h x List.mem_cons_self
    have ih := lcGo_filter fun y hy => h y (List.mem_cons_of_mem _ hy)
    show (ga (g x)).bind _ = _
    rw [e1]
    show (tt (setD (wipeD δ vs) as)).bind _ = _
    rw [e2]
    by_cases hp : p x = true
    · rw [hp, List.filter_cons_of_pos hp]
      show (te (setD (wipeD δ vs) as)).bind _ = _
      rw [e3 hp]
      show (lcGo vs ga tt te δ (xs.map g)).map _ = _
      rw [ih]
      rfl
    · have hp' : p x = false := by
        cases q : p x with
        | true => exact absurd q hp
        | false => rfl
      rw [hp', List.filter_cons_of_neg hp]
      exact ih
theorem lc_filter {α : Type} {vs : List Nat} {it : DI} {ga : Tg} {tt : DT} {te : DE} {δ : DSt} {g : α → D} {f : α → D} {p : α → Bool} (xs : List α) (hi : it δ = some (xs.map g)) (hl : xs.length ≤ 1000)
    (h : ∀ x ∈ xs, ∃ as, ga (g x) = some as ∧ tt (setD (wipeD δ vs) as) = some (p x) ∧ (p x = true → te (setD (wipeD δ vs) as) = some (f x))) : lcD vs it ga tt te δ = some ((xs.filter p).map f) := by
  unfold lcD
  rw [hi]
  show (if (xs.map g).length ≤ sizeLine then _ else _) = _
  rw [if_pos (by rw [List.length_map]; exact Nat.le_of_lt (small1000 hl)), lcGo_filter h]
theorem lcGo2_map {α : Type} {vs : List Nat} {ga : Tg} {te : DA} {δ : DSt} {g : α → D} {f : α → List D} : ∀ {xs : List α}, (∀ x ∈ xs, ∃ as, ga (g x) = some as ∧ te (setD (wipeD δ vs) as) = some (f x)) → lcGo2 vs ga te δ (xs.map g) = some (xs.map fun x => .lst (f x))
  | [], _ => rfl
  | x :: xs, h => by
    obtain ⟨as, e1, e3⟩ := h x List.mem_cons_self
    show (ga (g x)).bind _ = _
    rw [e1]
    show (te (setD (wipeD δ vs) as)).bind _ = _
    rw [e3]
    show (lcGo2 vs ga te δ (xs.map g)).map _ = _
    rw [lcGo2_map fun y hy => h y (List.mem_cons_of_mem _ hy)]
    rfl
theorem lc2_map {α : Type} {vs : List Nat} {it : DI} {ga : Tg} {te : DA} {δ : DSt} {g : α → D} {f : α → List D} (xs : List α) (hi : it δ = some (xs.map g)) (hl : xs.length ≤ 1000)
    (h : ∀ x ∈ xs, ∃ as, ga (g x) = some as ∧ te (setD (wipeD δ vs) as) = some (f x)) : lcD2 vs it ga te δ = some (xs.map fun x => .lst (f x)) := by
  unfold lcD2
  rw [hi]
  show (if (xs.map g).length ≤ sizeLine then _ else _) = _
  rw [if_pos (by rw [List.length_map]; exact Nat.le_of_lt (small1000 hl)), lcGo2_map h]
/-! ### what is walked -/
theorem zipD_map {α β : Type} (f : α → D) (g : β → D) : ∀ (xs : List α) (ys : List β), zipD (xs.map f) (ys.map g) = (xs.zip ys).map fun p => .tup [f p.1, g p.2]
  | [], ys => by cases ys <;> rfl
  | x :: xs, [] => rfl
  | x :: xs, y :: ys => by
    show D.tup [f x, g y] :: zipD (xs.map f) (ys.map g) = _
    rw [zipD_map f g xs ys]
    rfl
theorem rangeD_map (lo : Int) (n : Nat) : rangeD lo n = (List.range n).map fun i => .int (lo + (i : Nat)) := rfl
theorem rangeD_0 (n : Nat) : rangeD 0 n = (List.range n).map fun i => .int (i : Nat) := by
  unfold rangeD
  apply List.map_congr_left
  intro i _
  rw [Int.zero_add]
/-! ### subscripts, slices -/
theorem atI_nat {α : Type} (xs : List α) (k : Nat) : atI xs (k : Int) = xs[k]? := by
  unfold L2.atI ixN
  rw [if_pos (Int.natCast_nonneg k)]
  by_cases h : k < xs.length
  · rw [if_pos (by omega)]
    rfl
  · rw [if_neg (by omega)]
    exact (List.getElem?_eq_none_iff.mpr (by omega)).symm
theorem atI_0 {α : Type} (x : α) (xs : List α) : atI (x :: xs) 0 = some x := atI_nat (x :: xs) 0
theorem atI_1 {α : Type} (x y : α) (xs : List α) : atI (x :: y :: xs) 1 = some y := atI_nat (x :: y :: xs) 1
theorem cutD_from {α : Type} (xs : List α) (k : Nat) : cutD xs (some (k : Int)) none = xs.drop k := by
  unfold cutD
  rw [HT.sIx_nat, HT.sIx_none]
  by_cases h : k ≤ xs.length
  · rw [Nat.min_eq_left h, List.take_of_length_le (by rw [List.length_drop]; exact Nat.le_refl _)]
  · rw [Nat.min_eq_right (by omega), List.drop_length, List.drop_eq_nil_of_le (by omega), List.take_nil]
theorem cutD_to {α : Type} (xs : List α) (k : Nat) : cutD xs none (some (k : Int)) = xs.take k := by
  unfold cutD
  rw [HT.sIx_nat, HT.sIx_none, Nat.sub_zero, List.drop_zero]
  by_cases h : k ≤ xs.length
  · rw [Nat.min_eq_left h]
  · rw [Nat.min_eq_right (by omega), List.take_length, List.take_of_length_le (by omega)]
theorem cutD_mid {α : Type} (xs : List α) (a b : Nat) : cutD xs (some (a : Int)) (some (b : Int)) = (xs.take b).drop a := by
  unfold cutD
  rw [HT.sIx_nat, HT.sIx_nat]
  apply List.ext_getElem?
  intro j
  rw [List.getElem?_take, List.getElem?_drop, List.getElem?_drop, List.getElem?_take]
  by_cases h1 : j < min b xs.length - min a xs.length
  · rw [if_pos h1, if_pos (by omega), show min a xs.length + j = a + j by omega]
  · rw [if_neg h1]
    split
    · rename_i h2
      rw [List.getElem?_eq_none_iff.mpr (by omega)]
    · rfl
theorem cutD_1 {α : Type} (x : α) (xs : List α) : cutD (x :: xs) (some 1) none = xs := cutD_from (x :: xs) 1
end DL

end

section
set_option Elab.async false
set_option linter.all false
set_option maxRecDepth 100000
namespace DL
open PySem PySem.Spec PyProof.Rows L2
/-- a tuple or a list -/
def sqD (b : Bool) (ds : List D) : D := match b with
  | true => .tup ds
  | false => .lst ds
theorem sq_items (b : Bool) (ds : List D) : (sqD b ds).items = some ds := by cases b <;> rfl
theorem sq_len (b : Bool) (ds : List D) : gLen (sqD b ds) = some (.int ds.length) := by cases b <;> rfl
theorem sq_ix (b : Bool) (ds : List D) (i : Int) : gIx (sqD b ds) (.int i) = atI ds i := by cases b <;> rfl
theorem sq_tup (b : Bool) (ds : List D) : gTuple (sqD b ds) = some (.tup ds) := by cases b <;> rfl
theorem sq_sl (b : Bool) (ds : List D) (lo hi : Option Int) : gSl (sqD b ds) lo hi = some (sqD b (cutD ds lo hi)) := by cases b <;> rfl
/-- the least, the greatest of a list that is not empty -/
def minL : List Int → Int
  | [] => 0
  | n :: ns => ns.foldl min n
def maxL : List Int → Int
  | [] => 0
  | n :: ns => ns.foldl max n
theorem gMin_sq (b : Bool) {ns : List Int} (h : ns ≠ []) : gMin (sqD b (ns.map .int)) = some (.int (minL ns)) := by
  cases ns with
  | nil => exact absurd rfl h
  | cons n ns =>
    cases b
    · exact gMin_l n ns
    · exact gMin_t n ns
theorem gMax_sq (b : Bool) {ns : List Int} (h : ns ≠ []) : gMax (sqD b (ns.map .int)) = some (.int (maxL ns)) := by
  cases ns with
  | nil => exact absurd rfl h
  | cons n ns =>
    cases b
    · exact gMax_l n ns
    · exact gMax_t n ns
theorem minL_mem {ns : List Int} (h : ns ≠ []) : minL ns ∈ ns := by
  cases ns with
  | nil => exact absurd rfl h
  | cons n ns => exact (foldl_min_spec ns n).1
theorem minL_le {ns : List Int} {a : Int} (h : a ∈ ns) : minL ns ≤ a := by
  cases ns with
  | nil => cases h
  | cons n ns => exact (foldl_min_spec ns n).2 a h
theorem maxL_mem {ns : List Int} (h : ns ≠ []) : maxL ns ∈ ns := by
  cases ns with
  | nil => exact absurd rfl h
  | cons n ns => exact (foldl_max_spec ns n).1
theorem le_maxL {ns : List Int} {a : Int} (h : a ∈ ns) : a ≤ maxL ns := by
  cases ns with
  | nil => cases h
  | cons n ns => exact (foldl_max_spec ns n).2 a h
theorem maxL_eq {ns : List Int} {a : Int} (h : a ∈ ns) (h2 : ∀ b ∈ ns, b ≤ a) : maxL ns = a := Int.le_antisymm (h2 _ (maxL_mem fun z => by rw [z] at h; cases h)) (le_maxL h)
theorem minL_eq {ns : List Int} {a : Int} (h : a ∈ ns) (h2 : ∀ b ∈ ns, a ≤ b) : minL ns = a := Int.le_antisymm (minL_le h) (h2 _ (minL_mem fun z => by rw [z] at h; cases h))
/-! ### for loops -/
theorem forGo_nil {ga : Tg} {fb : DS} {δ : DSt} : forGo ga fb [] δ = some (.nx δ) := rfl
theorem forGo_nx {ga : Tg} {fb : DS} {δ δ' : DSt} {d : D} {ds : List D} {as : List (Nat × D)} (e1 : ga d = some as) (e2 : fb (setD δ as) = some (.nx δ')) : forGo ga fb (d :: ds) δ = forGo ga fb ds δ' := by
  show (ga d).bind _ = _
  rw [e1]
  show (fb (setD δ as)).bind _ = _
  rw [e2]
  rfl
theorem forGo_ct {ga : Tg} {fb : DS} {δ δ' : DSt} {d : D} {ds : List D} {as : List (Nat × D)} (e1 : ga d = some as) (e2 : fb (setD δ as) = some (.ct δ')) : forGo ga fb (d :: ds) δ = forGo ga fb ds δ' := by
  show (ga d).bind _ = _
  rw [e1]
  show (fb (setD δ as)).bind _ = _
  rw [e2]
  rfl
theorem forGo_bk {ga : Tg} {fb : DS} {δ δ' : DSt} {d : D} {ds : List D} {as : List (Nat × D)} (e1 : ga d = some as) (e2 : fb (setD δ as) = some (.bk δ')) : forGo ga fb (d :: ds) δ = some (.nx δ') := by
  show (ga d).bind _ = _
  rw [e1]
  show (fb (setD δ as)).bind _ = _
  rw [e2]
  rfl
theorem forGo_rt {ga : Tg} {fb : DS} {δ δ' : DSt} {d r : D} {ds : List D} {as : List (Nat × D)} (e1 : ga d = some as) (e2 : fb (setD δ as) = some (.rt r δ')) : forGo ga fb (d :: ds) δ = some (.rt r δ') := by
  show (ga d).bind _ = _
  rw [e1]
  show (fb (setD δ as)).bind _ = _
  rw [e2]
  rfl
/-- a loop whose turns keep P -/
theorem forGo_inv {ga : Tg} {fb : DS} {P : Nat → DSt → Prop} {ds : List D} (hs : ∀ i d δ, ds[i]? = some d → P i δ → ∃ as δ', ga d = some as ∧ fb (setD δ as) = some (.nx δ') ∧ P (i + 1) δ') : ∀ (k i : Nat) (δ : DSt), i + k = ds.length → P i δ → ∃ δ', forGo ga fb (ds.drop i) δ = some (.nx δ') ∧ P ds.length δ'
  | 0, i, δ, hk, hP => by
    rw [List.drop_eq_nil_of_le (by omega)]
    refine ⟨δ, rfl, ?_⟩
    rw [← hk]
    exact hP
  | k + 1, i, δ, hk, hP => by
    have hi : i < ds.length := by omega
    rw [List.drop_eq_getElem_cons hi]
    obtain ⟨as, δ', e1, e2, hP'⟩ := hs i _ δ (List.getElem?_eq_getElem hi) hP
    rw [forGo_nx e1 e2]
    exact forGo_inv hs k (i + 1) δ' (by omega) hP'
theorem forGo_all {ga : Tg} {fb : DS} (P : Nat → DSt → Prop) {ds : List D} {δ : DSt} (h0 : P 0 δ) (hs : ∀ i d δ, ds[i]? = some d → P i δ → ∃ as δ', ga d = some as ∧ fb (setD δ as) = some (.nx δ') ∧ P (i + 1) δ') : ∃ δ', forGo ga fb ds δ = some (.nx δ') ∧ P ds.length δ' := by
  obtain ⟨δ', e, h⟩ := forGo_inv hs ds.length 0 δ (by omega) h0
  exact ⟨δ', e, h⟩
/-! ### statements by parts -/
theorem sq_nx {f g : DS} {δ δ' : DSt} (h : f δ = some (.nx δ')) : sq f g δ = g δ' := by
  show (f δ).bind _ = _
  rw [h]
  rfl
theorem sq_rt {f g : DS} {δ δ' : DSt} {d : D} (h : f δ = some (.rt d δ')) : sq f g δ = some (.rt d δ') := by
  show (f δ).bind _ = _
  rw [h]
  rfl
theorem sSet_eq {i : Nat} {f : DE} {δ : DSt} {d : D} (h : f δ = some d) : sSet i f δ = some (.nx (δ.set i (some d))) := by
  show (f δ).map _ = _
  rw [h]
  rfl
theorem sSetN_eq {i : Nat} {f : DA} {δ : DSt} {d : List D} (h : f δ = some d) : sSetN i f δ = some (.nx (δ.set i (some (.lst d)))) := by
  show (f δ).map _ = _
  rw [h]
  rfl
theorem sSet2_eq {i : Nat} {f : DA} {δ : DSt} {d : List D} (h : f δ = some d) : sSet2 i f δ = some (.nx (δ.set i (some (.lst d)))) := by
  show (f δ).map _ = _
  rw [h]
  rfl
theorem sRet_eq {f : DE} {δ : DSt} {d : D} (h : f δ = some d) : sRet f δ = some (.rt d δ) := by
  show (f δ).map _ = _
  rw [h]
  rfl
theorem sIf_t {t : DT} {f g : DS} {δ : DSt} (h : t δ = some true) : sIf t f g δ = f δ := by
  show (t δ).bind _ = _
  rw [h]
  rfl
theorem sIf_f {t : DT} {f g : DS} {δ : DSt} (h : t δ = some false) : sIf t f g δ = g δ := by
  show (t δ).bind _ = _
  rw [h]
  rfl
theorem sIf_b {t : DT} {f g : DS} {δ : DSt} {b : Bool} (h : t δ = some b) : sIf t f g δ = if b = true then f δ else g δ := by
  show (t δ).bind _ = _
  rw [h]
  rfl
theorem sFor_eq {it : DI} {ga : Tg} {fb : DS} {δ : DSt} {ds : List D} (h : it δ = some ds) : sFor it ga fb δ = forGo ga fb ds δ := by
  show (it δ).bind _ = _
  rw [h]
  rfl
theorem sAsg_eq {f : DE} {ga : Tg} {δ : DSt} {d : D} {as : List (Nat × D)} (h : f δ = some d) (h2 : ga d = some as) : sAsg f ga δ = some (.nx (setD δ as)) := by
  show (f δ).bind _ = _
  rw [h]
  show (ga d).map _ = _
  rw [h2]
  rfl
theorem runD_rt {n : Nat} {f : DS} {ds : List D} {d : D} {δ : DSt} (h : f (stD n ds) = some (.rt d δ)) : runD n f ds = some d := by
  show (f (stD n ds)).bind _ = _
  rw [h]
  rfl
theorem runN_rn {n : Nat} {f : DS} {ds es : List D} {δ : DSt} (h : f (stD n ds) = some (.rn es δ)) : runN n f ds = some es := by
  show (f (stD n ds)).bind _ = _
  rw [h]
  rfl
theorem run2_r2 {n : Nat} {f : DS} {ds es : List D} {δ : DSt} (h : f (stD n ds) = some (.r2 es δ)) : run2 n f ds = some es := by
  show (f (stD n ds)).bind _ = _
  rw [h]
  rfl
/-! expressions by parts -/
theorem dC1_eq {g : D → Option D} {f : DE} {δ : DSt} {d : D} (h : f δ = some d) : dC1 g f δ = g d := by
  show (f δ).bind _ = _
  rw [h]
  rfl
theorem dLst_eq {f : DA} {δ : DSt} {ds : List D} (h : f δ = some ds) : dLst f δ = some (.lst ds) := by
  show (f δ).map _ = _
  rw [h]
  rfl
theorem dBin_eq {g : D → D → Option D} {f1 f2 : DE} {δ : DSt} {a b : D} (h1 : f1 δ = some a) (h2 : f2 δ = some b) : dBin g f1 f2 δ = g a b := by
  show (f1 δ).bind _ = _
  rw [h1]
  show (f2 δ).bind _ = _
  rw [h2]
  rfl
theorem dTup_eq {f : DA} {δ : DSt} {ds : List D} (h : f δ = some ds) : dTup f δ = some (.tup ds) := by
  show (f δ).map _ = _
  rw [h]
  rfl
theorem aCons_eq {f : DE} {g : DA} {δ : DSt} {d : D} {ds : List D} (h1 : f δ = some d) (h2 : g δ = some ds) : aCons f g δ = some (d :: ds) := by
  show (f δ).bind _ = _
  rw [h1]
  show (g δ).map _ = _
  rw [h2]
  rfl
theorem dCal_eq {ff : List D → Option D} {fa : DA} {δ : DSt} {ds : List D} (h : fa δ = some ds) : dCal ff fa δ = ff ds := by
  show (fa δ).bind _ = _
  rw [h]
  rfl
theorem aCal_eq {ff : List D → Option (List D)} {fa : DA} {δ : DSt} {ds : List D} (h : fa δ = some ds) : aCal ff fa δ = ff ds := by
  show (fa δ).bind _ = _
  rw [h]
  rfl
theorem iSeq_eq {f : DE} {δ : DSt} {d : D} {ds : List D} (h : f δ = some d) (h2 : d.items = some ds) : iSeq f δ = some ds := by
  show (f δ).bind _ = _
  rw [h]
  exact h2
theorem iZip_eq {f g : DE} {δ : DSt} {d d' : D} {ds ds' : List D} (h : f δ = some d) (h' : g δ = some d') (h2 : d.items = some ds) (h3 : d'.items = some ds') : iZip f g δ = some (zipD ds ds') := by
  show (f δ).bind _ = _
  rw [h]
  show (g δ).bind _ = _
  rw [h']
  show d.items.bind _ = _
  rw [h2]
  show d'.items.map _ = _
  rw [h3]
  rfl
theorem iR1_eq {f : DE} {δ : DSt} {n : Nat} (h : f δ = some (.int n)) (hn : n ≤ 1000) : iR1 f δ = some ((List.range n).map fun i => .int (i : Nat)) := by
  unfold iR1
  rw [h, Option.bind_some]
  have h1 : (n : Int) < 2 ^ 62 ∧ -(2 ^ 62) ≤ (n : Int) := ⟨by omega, by omega⟩
  have e := rangeD_0 n
  simp only [h1, and_self, if_true, Int.toNat_natCast, e]
end DL

end

section
set_option Elab.async false
set_option linter.all false
set_option maxRecDepth 100000
namespace DL
open PySem PySem.Spec PyProof.Rows L2
theorem tor_f {f g : DT} {δ : DSt} (h : f δ = some false) : tor f g δ = g δ := by
  show (f δ).bind _ = _
  rw [h]
  rfl
theorem tor_t {f g : DT} {δ : DSt} (h : f δ = some true) : tor f g δ = some true := by
  show (f δ).bind _ = _
  rw [h]
  rfl
theorem tor_b {f g : DT} {δ : DSt} {a b : Bool} (h : f δ = some a) (h2 : g δ = some b) : tor f g δ = some (a || b) := by
  cases a
  · rw [tor_f h, h2]
    rfl
  · exact tor_t h
theorem tand_t {f g : DT} {δ : DSt} (h : f δ = some true) : tand f g δ = g δ := by
  show (f δ).bind _ = _
  rw [h]
  rfl
theorem tand_f {f g : DT} {δ : DSt} (h : f δ = some false) : tand f g δ = some false := by
  show (f δ).bind _ = _
  rw [h]
  rfl
theorem tand_b {f g : DT} {δ : DSt} {a b : Bool} (h : f δ = some a) (h2 : g δ = some b) : tand f g δ = some (a && b) := by
  cases a
  · exact tand_f h
  · rw [tand_t h, h2]
    rfl
theorem tnot_eq {f : DT} {δ : DSt} {b : Bool} (h : f δ = some b) : tnot f δ = some (!b) := by
  show (f δ).map _ = _
  rw [h]
  rfl
theorem asT_eq {f : DE} {δ : DSt} {b : Bool} (h : f δ = some (.bl b)) : asT f δ = some b := by
  show (f δ).bind _ = _
  rw [h]
  rfl
theorem tru_bl {f : DE} {δ : DSt} {b : Bool} (h : f δ = some (.bl b)) : tru f δ = some b := by
  show (f δ).bind _ = _
  rw [h]
  rfl
theorem tru_d {f : DE} {δ : DSt} {d : D} (h : f δ = some d) : tru f δ = D.tru d := by
  show (f δ).bind _ = _
  rw [h]
  rfl
theorem vand_b {f g : DE} {δ : DSt} {a b : Bool} (h : f δ = some (.bl a)) (h2 : g δ = some (.bl b)) : vand f g δ = some (.bl (a && b)) := by
  show (asT f δ).bind _ = _
  rw [asT_eq h]
  cases a
  · rfl
  · show g δ = _
    rw [h2]
    rfl
theorem vand_f {f g : DE} {δ : DSt} (h : f δ = some (.bl false)) : vand f g δ = some (.bl false) := by
  show (asT f δ).bind _ = _
  rw [asT_eq h]
  rfl
theorem vand_t {f g : DE} {δ : DSt} (h : f δ = some (.bl true)) : vand f g δ = g δ := by
  show (asT f δ).bind _ = _
  rw [asT_eq h]
  rfl
theorem vor_b {f g : DE} {δ : DSt} {a b : Bool} (h : f δ = some (.bl a)) (h2 : g δ = some (.bl b)) : vor f g δ = some (.bl (a || b)) := by
  show (asT f δ).bind _ = _
  rw [asT_eq h]
  cases a
  · show g δ = _
    rw [h2]
    rfl
  · rfl
theorem vor_t {f g : DE} {δ : DSt} (h : f δ = some (.bl true)) : vor f g δ = some (.bl true) := by
  show (asT f δ).bind _ = _
  rw [asT_eq h]
  rfl
theorem vor_f {f g : DE} {δ : DSt} (h : f δ = some (.bl false)) : vor f g δ = g δ := by
  show (asT f δ).bind _ = _
  rw [asT_eq h]
  rfl
theorem vnot_b {f : DE} {δ : DSt} {a : Bool} (h : f δ = some (.bl a)) : vnot f δ = some (.bl (!a)) := by
  show (asT f δ).map _ = _
  rw [asT_eq h]
  rfl
theorem dite_t {t : DT} {f g : DE} {δ : DSt} (h : t δ = some true) : dite' t f g δ = f δ := by
  show (t δ).bind _ = _
  rw [h]
  rfl
theorem dite_f {t : DT} {f g : DE} {δ : DSt} (h : t δ = some false) : dite' t f g δ = g δ := by
  show (t δ).bind _ = _
  rw [h]
  rfl
theorem oAt_eq {f : DE} {δ : DSt} {i : Int} (h : f δ = some (.int i)) : oAt f δ = some (some i) := by
  show (f δ).bind _ = _
  rw [h]
  rfl
theorem dSlice_eq {f : DE} {lo hi : DO} {δ : DSt} {d : D} {l u : Option Int} (h : f δ = some d) (h1 : lo δ = some l) (h2 : hi δ = some u) : dSlice f lo hi δ = gSl d l u := by
  show (f δ).bind _ = _
  rw [h]
  show (lo δ).bind _ = _
  rw [h1]
  show (hi δ).bind _ = _
  rw [h2]
  rfl
theorem dMeth_eq {c m : Str} {ff : List D → Option D} {fo : DE} {fa : DA} {δ : DSt} {d : D} {ds : List D} (h : fo δ = some d) (h1 : fa δ = some ds) (h2 : isObjD c m d = true) : dMeth c m ff fo fa δ = ff (d :: ds) := by
  show (fo δ).bind _ = _
  rw [h]
  show (fa δ).bind _ = _
  rw [h1]
  show (if isObjD c m d = true then _ else _) = _
  rw [if_pos h2]
theorem dPropF0_eq {c : Str} {ff : List D → Option D} {fo : DE} {δ : DSt} {d : D} (h : fo δ = some d) (h2 : isCls c d = true) : dPropF0 c ff fo δ = ff [d] := by
  show (fo δ).bind _ = _
  rw [h]
  show (if isCls c d = true then _ else _) = _
  rw [if_pos h2]
theorem flat_rep {α : Type} (k : Nat) (x : α) : (List.replicate k [x]).flatten = List.replicate k x := by
  induction k with
  | zero => rfl
  | succ k ih =>
    rw [List.replicate_succ, List.flatten_cons, ih, List.replicate_succ]
    rfl
theorem gMul_rep {x : D} {k : Nat} (h : k ≤ 1000) : gMul (.tup [x]) (.int k) = some (.tup (List.replicate k x)) := by
  show (if ((k : Int) ≤ 1000 ∧ -1000 ≤ (k : Int)) ∧ [x].length ≤ 1000 then some (D.tup (List.replicate (k : Int).toNat [x]).flatten) else none) = _
  have h1 : ((k : Int) ≤ 1000 ∧ -1000 ≤ (k : Int)) ∧ [x].length ≤ 1000 := ⟨⟨by omega, by omega⟩, by show 1 ≤ 1000; omega⟩
  rw [if_pos h1, Int.toNat_natCast, flat_rep]
theorem gAdd_tup {a b : List D} (h : a.length + b.length ≤ 1000) : gAdd (.tup a) (.tup b) = some (.tup (a ++ b)) := by
  show (if a.length + b.length ≤ sizeLine then some (D.tup (a ++ b)) else none) = _
  rw [if_pos (Nat.le_of_lt (small1000 h))]
theorem gAdd_lst {a b : List D} (h : a.length + b.length ≤ 1000) : gAdd (.lst a) (.lst b) = some (.lst (a ++ b)) := by
  show (if a.length + b.length ≤ sizeLine then some (D.lst (a ++ b)) else none) = _
  rw [if_pos (Nat.le_of_lt (small1000 h))]
theorem gMul_sq {b : Bool} {ds : List D} {k : Nat} : True := trivial
theorem map_lI (M : List (List Int)) : (M.map fun r => lI r) = M.map fun r => sqD false (r.map .int) := rfl
theorem sExt_eq {i : Nat} {f : DE} {δ : DSt} {ds es : List D} (h : lstAt i δ = some ds) (h2 : f δ = some (.lst es)) (hl : ds.length + es.length ≤ 1000) : sExt i f δ = some (.nx (δ.set i (some (.lst (ds ++ es))))) := by
  show (lstAt i δ).bind _ = _
  rw [h]
  show (f δ).bind _ = _
  rw [h2]
  show (if ds.length + es.length ≤ sizeLine then _ else _) = _
  rw [if_pos (Nat.le_of_lt (small1000 hl))]
theorem sApp_eq {i : Nat} {f : DE} {δ : DSt} {ds : List D} {e : D} (h : lstAt i δ = some ds) (h2 : f δ = some e) (hl : ds.length < 1000) : sApp i f δ = some (.nx (δ.set i (some (.lst (ds ++ [e]))))) := by
  show (lstAt i δ).bind _ = _
  rw [h]
  show (f δ).bind _ = _
  rw [h2]
  show (if ds.length < sizeLine then _ else _) = _
  rw [if_pos (small1000 (Nat.le_of_lt hl))]
theorem sApp2_eq {i : Nat} {f : DA} {δ : DSt} {ds : List D} {e : List D} (h : lstAt i δ = some ds) (h2 : f δ = some e) (hl : ds.length < 1000) : sApp2 i f δ = some (.nx (δ.set i (some (.lst (ds ++ [.lst e]))))) := by
  show (lstAt i δ).bind _ = _
  rw [h]
  show (f δ).bind _ = _
  rw [h2]
  show (if ds.length < sizeLine then _ else _) = _
  rw [if_pos (small1000 (Nat.le_of_lt hl))]
theorem setI_nat {ds : List D} {k : Nat} {d : D} (h : k < ds.length) : setI ds (.int k) d = some (ds.set k d) := by
  show (ixN ds.length (k : Int)).map _ = _
  unfold L2.ixN
  rw [if_pos (Int.natCast_nonneg k), if_pos (by omega)]
  rfl
theorem sSetI_eq {i : Nat} {fi fv : DE} {δ : DSt} {ds : List D} {k : Nat} {d : D} (h : fv δ = some d) (h1 : lstAt i δ = some ds) (h2 : fi δ = some (.int k)) (hk : k < ds.length) : sSetI i fi fv δ = some (.nx (δ.set i (some (.lst (ds.set k d))))) := by
  show (fv δ).bind _ = _
  rw [h]
  show (lstAt i δ).bind _ = _
  rw [h1]
  show (fi δ).bind _ = _
  rw [h2]
  show (setI ds (.int k) d).map _ = _
  rw [setI_nat hk]
  rfl
theorem aItems_eq {f : DE} {δ : DSt} {d : D} (h : f δ = some d) : aItems f δ = d.items := by
  show (f δ).bind _ = _
  rw [h]
  rfl
end DL
namespace DL
open PySem PySem.Spec PyProof.Rows L2
theorem dChain_le {fa fb fc : DE} {δ : DSt} {a b c : Int} (h1 : fa δ = some (.int a)) (h2 : fb δ = some (.int b)) (h3 : fc δ = some (.int c)) : dChain gLe gLe fa fb fc δ = some (decide (a ≤ b) && decide (b ≤ c)) := by
  unfold dChain
  rw [h1, Option.bind_some, h2, Option.bind_some]
  show (match D.bl (decide (a ≤ b)) with | .bl true => _ | .bl false => _ | _ => _) = _
  by_cases h : a ≤ b
  · rw [decide_eq_true h]
    show (fc δ).bind _ = _
    rw [h3]
    rfl
  · rw [decide_eq_false h]
    rfl
theorem sFldS_eq {i : Nat} {cs : List Str} {f c : Str} {ns : List Str} {ds : List D} {fv : DE} {δ : DSt} {d : D} (h : fv δ = some d) (h2 : δ.getD i none = some (.obj c ns ds)) (hz : c ∈ cs ∧ f ∉ ns ∧ ns.length < 1000) : sFldS i cs f fv δ = some (.nx (δ.set i (some (.obj c (ns ++ [f]) (ds ++ [d]))))) := by
  unfold sFldS
  rw [h, Option.bind_some, h2]
  show (if c ∈ cs ∧ f ∉ ns ∧ ns.length < 1000 then _ else none) = _
  rw [if_pos hz]
theorem runI_nx {n : Nat} {c : Str} {f : DS} {ds es : List D} {ns : List Str} {δ : DSt} (h : f (some (.obj c [] []) :: stD n ds) = some (.nx δ)) (h2 : δ.getD 0 none = some (.obj c ns es)) : runI n c f ds = some (ns, es) := by
  unfold runI
  rw [h, Option.bind_some]
  show (match δ.getD 0 none with | some (.obj c' ns es) => if c' = c then some (ns, es) else none | _ => none) = _
  rw [h2]
  show (if c = c then some (ns, es) else none) = _
  rw [if_pos rfl]
theorem dPropF_eq {c : Str} {ff : List D → Option D} {fo : DE} {δ : DSt} {d r : D} (h : fo δ = some d) (h2 : isCls c d = true) (h3 : ff [d] = some r) (h4 : flat1 r = true) : dPropF c ff fo δ = some r := by
  unfold dPropF
  rw [h, Option.bind_some, if_pos h2, h3, Option.bind_some, if_pos h4]
theorem isCls_of (c : Str) (ns : List Str) (ds : List D) : isCls c (.obj c ns ds) = true := decide_eq_true rfl
theorem gFld_of {cs : List Str} {c f : Str} {ns : List Str} {ds : List D} (h : c ∈ cs) : gFld cs f (.obj c ns ds) = (ns.zip ds).lookup f := by
  show (if c ∈ cs then _ else _) = _
  rw [if_pos h]
theorem lookup_hit {f : Str} {d : D} {r : List (Str × D)} : ((f, d) :: r).lookup f = some d := by
  rw [List.lookup_cons, beq_self_eq_true]
theorem lookup_miss {f g : Str} {d : D} {r : List (Str × D)} (h : (f == g) = false) : ((g, d) :: r).lookup f = r.lookup f := by
  rw [List.lookup_cons, h]
end DL

end

section
set_option Elab.async false
set_option linter.all false
set_option maxRecDepth 100000
namespace K69
open PySem PySem.Spec PyProof.Rows L2 DL
def b_Game_sizes : DS :=
 (sRet (dTup (aCons (dC1 gLen (dC1 (gFld ["Game"] "first") (dvar 0))) (aCons (dC1 gLen (dBin gIx (dC1 (gFld ["Game"] "first") (dvar 0)) (dcon (.int 0)))) aNil))))
def f_Game_sizes : List D → Option D := runD 1 b_Game_sizes
def b_Problem___init__ : DS :=
 (sq (sSet 3 (dC1 gLen (dvar 2)))
 (sq (sIf (tor (tnot (dChain gLe gLe (dcon (.int 1)) (dvar 3) (dcon (.int 6)))) (tor (asT (dBin gNe (dC1 gLen (dvar 1)) (dvar 3))) (tru (dC1 gAny (dLst (lcD [4] (iSeq (dvar 1)) (gaName 4) dYes (dBin gNe (dC1 gLen (dvar 4)) (dvar 3))))))))
 sNo
 sNx)
 (sq (sFldS 0 ["Problem"] "table" (dvar 1))
 (sq (sFldS 0 ["Problem"] "q" (dvar 2))
 (sFldS 0 ["Problem"] "size" (dvar 3))))))
def f_Problem___init__ : List D → Option (List Str × List D) := runI 4 "Problem" b_Problem___init__
def b__are_alike : DS :=
 (sq (sIf (tor (tnot (tru (dvar 0))) (asT (dBin gNe (dC1 gLen (dvar 1)) (dC1 gLen (dvar 0)))))
 (sRet (dcon (.bl false)))
 sNx)
 (sq (sSet 2 (dC1 gLen (dBin gIx (dvar 0) (dcon (.int 0)))))
 (sq (sIf (tor (asT (dBin gEq (dvar 2) (dcon (.int 0)))) (asT (dBin gGt (dBin gAdd (dC1 gLen (dvar 0)) (dvar 2)) (dcon (.int 6)))))
 (sRet (dcon (.bl false)))
 sNx)
 (sRet (dC1 gAll (dLst (lcD [3] (iSeq (dBin gAdd (dvar 0) (dvar 1))) (gaName 3) dYes (dBin gEq (dC1 gLen (dvar 3)) (dvar 2)))))))))
def f__are_alike : List D → Option D := runD 4 b__are_alike
def b__negative : DS :=
 (sRet (dC1 gTuple (dLst (lcD [2] (iSeq (dvar 0)) (gaName 2) dYes (dC1 gTuple (dLst (lcD [1] (iSeq (dvar 2)) (gaName 1) dYes (dC1 gNeg (dvar 1)))))))))
def f__negative : List D → Option D := runD 3 b__negative
def b__raised : DS :=
 (sq (sSet 1 (dC1 gMin (dLst (lcD [2] (iSeq (dvar 0)) (gaName 2) dYes (dC1 gMin (dvar 2))))))
 (sRet (dC1 gTuple (dLst (lcD [2] (iSeq (dvar 0)) (gaName 2) dYes (dC1 gTuple (dLst (lcD [3] (iSeq (dvar 2)) (gaName 3) dYes (dBin gAdd (dBin gSub (dvar 3) (dvar 1)) (dcon (.int 1)))))))))))
def f__raised : List D → Option D := runD 4 b__raised
def b_transposed : DS :=
 (sRet (dC1 gTuple (dLst (lcD [1] (iStar (dvar 0)) (gaName 1) dYes (dC1 gTuple (dvar 1))))))
def f_transposed : List D → Option D := runD 2 b_transposed
def b_Game___init__ : DS :=
 (sq (sIf (tnot (tru (dCal f__are_alike (aCons (dvar 1) (aCons (dvar 2) aNil)))))
 sNo
 sNx)
 (sq (sFldS 0 ["Game"] "first" (dvar 1))
 (sq (sFldS 0 ["Game"] "second" (dvar 2))
 (sq (sAsg (dPropF "Game" f_Game_sizes (dvar 0)) (gaTup 2 (gaCons (gaName 3) (gaCons (gaName 4) gaNil))))
 (sq (sSetN 5 (lcD [6] (iSeq (dCal f__negative (aCons (dCal f__raised (aCons (dvar 1) aNil)) aNil))) (gaName 6) dYes (dBin gAdd (dBin gMul (dTup (aCons (dcon (.int 0)) aNil)) (dvar 3)) (dvar 6))))
 (sq (sExt 5 (dLst (lcD [6] (iSeq (dCal f__negative (aCons (dCal f_transposed (aCons (dCal f__raised (aCons (dvar 2) aNil)) aNil)) aNil))) (gaName 6) dYes (dBin gAdd (dvar 6) (dBin gMul (dTup (aCons (dcon (.int 0)) aNil)) (dvar 4))))))
 (sFldS 0 ["Game"] "problem" (dCal (mkD "Problem" f_Problem___init__) (aCons (dC1 gTuple (dvar 5)) (aCons (dBin gMul (dTup (aCons (dcon (.int 1)) aNil)) (dBin gAdd (dvar 3) (dvar 4))) aNil))))))))))
def f_Game___init__ : List D → Option (List Str × List D) := runI 6 "Game" b_Game___init__
def b_dot : DS :=
 (sRet (dC1 gSum (dLst (lcD [2, 3] (iZip (dvar 0) (dvar 1)) (gaTup 2 (gaCons (gaName 2) (gaCons (gaName 3) gaNil))) dYes (dBin gMul (dvar 2) (dvar 3))))))
def f_dot : List D → Option D := runD 4 b_dot
def b_product : DS :=
 (sRet (dC1 gTuple (dLst (lcD [2] (iSeq (dvar 0)) (gaName 2) dYes (dCal f_dot (aCons (dvar 2) (aCons (dvar 1) aNil)))))))
def f_product : List D → Option D := runD 3 b_product
def b_ratio : DS :=
 (sq (sSet 2 (dBin (gII fun a b => ((Nat.gcd a.natAbs b.natAbs : Nat) : Int)) (dvar 0) (dvar 1)))
 (sq (sIf (asT (dBin gLt (dvar 1) (dcon (.int 0))))
 (sSet 2 (dC1 gNeg (dvar 2)))
 sNx)
 (sRet (dTup (aCons (dBin gDiv (dvar 0) (dvar 2)) (aCons (dBin gDiv (dvar 1) (dvar 2)) aNil))))))
def f_ratio : List D → Option D := runD 3 b_ratio
def b_Game_payoffs : DS :=
 (sq (sSet 3 (dBin gMul (dBin gIx (dvar 1) (dcon (.int 0))) (dBin gIx (dvar 2) (dcon (.int 0)))))
 (sq (sSet 4 (dCal f_dot (aCons (dSlice (dvar 1) (oAt (dcon (.int 1))) oNo) (aCons (dCal f_product (aCons (dC1 (gFld ["Game"] "first") (dvar 0)) (aCons (dSlice (dvar 2) (oAt (dcon (.int 1))) oNo) aNil))) aNil))))
 (sq (sSet 5 (dCal f_dot (aCons (dSlice (dvar 1) (oAt (dcon (.int 1))) oNo) (aCons (dCal f_product (aCons (dC1 (gFld ["Game"] "second") (dvar 0)) (aCons (dSlice (dvar 2) (oAt (dcon (.int 1))) oNo) aNil))) aNil))))
 (sRet (dTup (aCons (dCal f_ratio (aCons (dvar 4) (aCons (dvar 3) aNil))) (aCons (dCal f_ratio (aCons (dvar 5) (aCons (dvar 3) aNil))) aNil)))))))
def f_Game_payoffs : List D → Option D := runD 6 b_Game_payoffs
def b_Problem_slacks : DS :=
 (sq (sSet 2 (dSlice (dvar 1) (oAt (dcon (.int 1))) oNo))
 (sRet (dC1 gTuple (dLst (lcD [3, 4] (iZip (dC1 (gFld ["Problem"] "q") (dvar 0)) (dC1 (gFld ["Problem"] "table") (dvar 0))) (gaTup 2 (gaCons (gaName 3) (gaCons (gaName 4) gaNil))) dYes (dBin gAdd (dBin gMul (dvar 3) (dBin gIx (dvar 1) (dcon (.int 0)))) (dCal f_dot (aCons (dvar 4) (aCons (dvar 2) aNil)))))))))
def f_Problem_slacks : List D → Option D := runD 5 b_Problem_slacks
def b_Problem_fits : DS :=
 (sq (sSet 2 (dMeth "Problem" "slacks" f_Problem_slacks (dvar 0) (aCons (dvar 1) aNil)))
 (sq (sIf (tor (tru (dC1 gAny (dLst (lcD [3] (iSeq (dvar 1)) (gaName 3) dYes (dBin gLt (dvar 3) (dcon (.int 0))))))) (tru (dC1 gAny (dLst (lcD [3] (iSeq (dvar 2)) (gaName 3) dYes (dBin gLt (dvar 3) (dcon (.int 0))))))))
 (sRet (dcon (.bl false)))
 sNx)
 (sRet (dC1 gAll (dLst (lcD [4, 5] (iZip (dSlice (dvar 1) (oAt (dcon (.int 1))) oNo) (dvar 2)) (gaTup 2 (gaCons (gaName 4) (gaCons (gaName 5) gaNil))) dYes (dBin gEq (dBin gMul (dvar 4) (dvar 5)) (dcon (.int 0)))))))))
def f_Problem_fits : List D → Option D := runD 6 b_Problem_fits
def b__law_columns : DS :=
 (sRet (dC1 gTuple (dLst (lcD [2] (iR1 (dC1 gLen (dBin gIx (dvar 0) (dcon (.int 0))))) (gaName 2) dYes (dC1 gTuple (dLst (lcD [1] (iSeq (dvar 0)) (gaName 1) dYes (dBin gIx (dvar 1) (dvar 2)))))))))
def f__law_columns : List D → Option D := runD 3 b__law_columns
def b__law_dot : DS :=
 (sRet (dC1 gSum (dLst (lcD [2, 3] (iZip (dvar 0) (dvar 1)) (gaTup 2 (gaCons (gaName 2) (gaCons (gaName 3) gaNil))) dYes (dBin gMul (dvar 2) (dvar 3))))))
def f__law_dot : List D → Option D := runD 4 b__law_dot
def b__law_is_best : DS :=
 (sq (sSet 2 (dC1 gMax (dvar 1)))
 (sRet (dC1 gAll (dLst (lcD [3, 4] (iZip (dvar 0) (dvar 1)) (gaTup 2 (gaCons (gaName 3) (gaCons (gaName 4) gaNil))) dYes (vor (dBin gLe (dvar 3) (dcon (.int 0))) (dBin gEq (dvar 4) (dvar 2))))))))
def f__law_is_best : List D → Option D := runD 5 b__law_is_best
def b__law_is_strategy : DS :=
 (sRet (vand (dBin gGe (dBin gIx (dvar 0) (dcon (.int 0))) (dcon (.int 1))) (vand (dBin gEq (dBin gIx (dvar 0) (dcon (.int 0))) (dC1 gSum (dSlice (dvar 0) (oAt (dcon (.int 1))) oNo))) (dBin gGe (dC1 gMin (dSlice (dvar 0) (oAt (dcon (.int 1))) oNo)) (dcon (.int 0))))))
def f__law_is_strategy : List D → Option D := runD 1 b__law_is_strategy
def b__law_is_equilibrium : DS :=
 (sq (sIf (tor (tnot (tru (dCal f__law_is_strategy (aCons (dvar 2) aNil)))) (tnot (tru (dCal f__law_is_strategy (aCons (dvar 3) aNil)))))
 (sRet (dcon (.bl false)))
 sNx)
 (sq (sIf (tnot (tru (dCal f__law_is_best (aCons (dSlice (dvar 2) (oAt (dcon (.int 1))) oNo) (aCons (dLst (lcD [4] (iSeq (dvar 0)) (gaName 4) dYes (dCal f__law_dot (aCons (dvar 4) (aCons (dSlice (dvar 3) (oAt (dcon (.int 1))) oNo) aNil))))) aNil)))))
 (sRet (dcon (.bl false)))
 sNx)
 (sRet (dCal f__law_is_best (aCons (dSlice (dvar 3) (oAt (dcon (.int 1))) oNo) (aCons (dLst (lcD [5] (iSeq (dCal f__law_columns (aCons (dvar 1) aNil))) (gaName 5) dYes (dCal f__law_dot (aCons (dvar 5) (aCons (dSlice (dvar 2) (oAt (dcon (.int 1))) oNo) aNil))))) aNil))))))
def f__law_is_equilibrium : List D → Option D := runD 6 b__law_is_equilibrium
def b__law_divisor : DS :=
 (sq (sFor (iR1 (dcon (.int 400))) (gaName 2)
 (sq (sIf (asT (dBin gEq (dvar 1) (dcon (.int 0))))
 sBk
 sNx)
 (sPar 0 1 (aCons (dvar 1) (aCons (dBin gMod (dC1 gInt (dvar 0)) (dvar 1)) aNil)))))
 (sRet (dvar 0)))
def f__law_divisor : List D → Option D := runD 3 b__law_divisor
def b__law_ratio : DS :=
 (sq (sSet 2 (dCal f__law_divisor (aCons (dC1 gAbs (dvar 0)) (aCons (dvar 1) aNil))))
 (sRet (dTup (aCons (dBin gDiv (dvar 0) (dvar 2)) (aCons (dBin gDiv (dvar 1) (dvar 2)) aNil)))))
def f__law_ratio : List D → Option D := runD 3 b__law_ratio
def b__law_mean : DS :=
 (sq (sSet 3 (dC1 gSum (dLst (lcD [4] (iR1 (dC1 gLen (dvar 0))) (gaName 4) dYes (dBin gMul (dBin gIx (dvar 1) (dBin gAdd (dcon (.int 1)) (dvar 4))) (dCal f__law_dot (aCons (dBin gIx (dvar 0) (dvar 4)) (aCons (dSlice (dvar 2) (oAt (dcon (.int 1))) oNo) aNil))))))))
 (sRet (dCal f__law_ratio (aCons (dvar 3) (aCons (dBin gMul (dBin gIx (dvar 1) (dcon (.int 0))) (dBin gIx (dvar 2) (dcon (.int 0)))) aNil)))))
def f__law_mean : List D → Option D := runD 5 b__law_mean
def b__law_primitive : DS :=
 (sq (sSet 1 (dcon (.int 0)))
 (sq (sFor (iSeq (dvar 0)) (gaName 2)
 (sSet 1 (dite' (asT (dBin gGt (dvar 1) (dcon (.int 0)))) (dCal f__law_divisor (aCons (dC1 gAbs (dvar 2)) (aCons (dvar 1) aNil))) (dC1 gAbs (dvar 2)))))
 (sq (sIf (asT (dBin gEq (dvar 1) (dcon (.int 0))))
 (sRet (dC1 gTuple (dvar 0)))
 sNx)
 (sRet (dC1 gTuple (dLst (lcD [2] (iSeq (dvar 0)) (gaName 2) dYes (dBin gDiv (dvar 2) (dvar 1)))))))))
def f__law_primitive : List D → Option D := runD 3 b__law_primitive
def b__law_raised : DS :=
 (sq (sSet 1 (dC1 gMin (dLst (lcD [2] (iSeq (dvar 0)) (gaName 2) dYes (dC1 gMin (dvar 2))))))
 (sRet (dC1 gTuple (dLst (lcD [2] (iSeq (dvar 0)) (gaName 2) dYes (dC1 gTuple (dLst (lcD [3] (iSeq (dvar 2)) (gaName 3) dYes (dBin gAdd (dBin gSub (dvar 3) (dvar 1)) (dcon (.int 1)))))))))))
def f__law_raised : List D → Option D := runD 4 b__law_raised
def b__law_point : DS :=
 (sq (sSet 4 (dC1 gMax (dLst (lcD [5] (iSeq (dCal f__law_raised (aCons (dvar 0) aNil))) (gaName 5) dYes (dCal f__law_dot (aCons (dvar 5) (aCons (dSlice (dvar 3) (oAt (dcon (.int 1))) oNo) aNil)))))))
 (sq (sSet 6 (dC1 gMax (dLst (lcD [7] (iSeq (dCal f__law_columns (aCons (dCal f__law_raised (aCons (dvar 1) aNil)) aNil))) (gaName 7) dYes (dCal f__law_dot (aCons (dvar 7) (aCons (dSlice (dvar 2) (oAt (dcon (.int 1))) oNo) aNil)))))))
 (sRet (dCal f__law_primitive (aCons (dBin gAdd (dBin gAdd (dTup (aCons (dBin gMul (dvar 4) (dvar 6)) aNil)) (dC1 gTuple (dLst (lcD [8] (iSeq (dSlice (dvar 2) (oAt (dcon (.int 1))) oNo)) (gaName 8) dYes (dBin gMul (dvar 4) (dvar 8)))))) (dC1 gTuple (dLst (lcD [8] (iSeq (dSlice (dvar 3) (oAt (dcon (.int 1))) oNo)) (gaName 8) dYes (dBin gMul (dvar 6) (dvar 8)))))) aNil)))))
def f__law_point : List D → Option D := runD 9 b__law_point
def b__law_same (f__law_same : List D → Option D) : DS :=
 (sq (sIf (tru (dIsI .tuple (dvar 1)))
 (sq (sIf (tor (tnot (tru (dIsI .tuple (dvar 0)))) (asT (dBin gNe (dC1 gLen (dvar 0)) (dC1 gLen (dvar 1)))))
 (sRet (dcon (.bl false)))
 sNx)
 (sRet (dC1 gAll (dLst (lcD [2, 3] (iZip (dvar 0) (dvar 1)) (gaTup 2 (gaCons (gaName 2) (gaCons (gaName 3) gaNil))) dYes (dCal f__law_same (aCons (dvar 2) (aCons (dvar 3) aNil))))))))
 sNx)
 (sq (sIf (tor (asT (dBin gIs (dvar 1) (dcon .non))) (tru (dIsI .bool (dvar 1))))
 (sRet (dite' (asT (dBin gIs (dvar 1) (dcon .non))) (dBin gIs (dvar 0) (dcon .non)) (vand (dIsI .bool (dvar 0)) (dBin gEq (dvar 0) (dvar 1)))))
 sNx)
 (sq (sIf (tru (dIsI .str (dvar 1)))
 (sRet (vand (dIsI .str (dvar 0)) (dBin gEq (dvar 0) (dvar 1))))
 sNx)
 (sRet (vand (dIsI .int (dvar 0)) (vand (vnot (dIsI .bool (dvar 0))) (dBin gEq (dvar 0) (dvar 1))))))))
def r__law_same : Nat → List D → Option D
  | 0 => fun _ => none
  | n + 1 => runD 4 (b__law_same (r__law_same n))
def f__law_same : List D → Option D := r__law_same 4
def b_primitive : DS :=
 (sq (sSet 1 (dcon (.int 0)))
 (sq (sFor (iSeq (dvar 0)) (gaName 2)
 (sSet 1 (dBin (gII fun a b => ((Nat.gcd a.natAbs b.natAbs : Nat) : Int)) (dvar 1) (dvar 2))))
 (sq (sIf (asT (dBin gLe (dvar 1) (dcon (.int 1))))
 (sRet (dvar 0))
 sNx)
 (sRet (dC1 gTuple (dLst (lcD [2] (iSeq (dvar 0)) (gaName 2) dYes (dBin gDiv (dvar 2) (dvar 1)))))))))
def f_primitive : List D → Option D := runD 3 b_primitive
def b_point : DS :=
 (sRet (dCal f_primitive (aCons (dBin gAdd (dTup (aCons (dvar 0) aNil)) (dC1 gTuple (dvar 1))) aNil)))
def f_point : List D → Option D := runD 2 b_point
def b__strategy : DS :=
 (sRet (dCal f_point (aCons (dC1 gSum (dvar 0)) (aCons (dvar 0) aNil))))
def f__strategy : List D → Option D := runD 1 b__strategy
def b_from_point : DS :=
 (sq (sSet 2 (dC1 gLen (dC1 (gFld ["Game"] "first") (dvar 0))))
 (sq (sSet 3 (dSlice (dvar 1) (oAt (dcon (.int 1))) (oAt (dBin gAdd (dcon (.int 1)) (dvar 2)))))
 (sq (sIf (asT (dBin gEq (dC1 gSum (dvar 3)) (dcon (.int 0))))
 (sRet (dcon .non))
 sNx)
 (sRet (dTup (aCons (dCal f__strategy (aCons (dvar 3) aNil)) (aCons (dCal f__strategy (aCons (dSlice (dvar 1) (oAt (dBin gAdd (dcon (.int 1)) (dvar 2))) oNo) aNil)) aNil)))))))
def f_from_point : List D → Option D := runD 4 b_from_point
def b__is_best : DS :=
 (sq (sSet 2 (dC1 gMax (dvar 1)))
 (sRet (dC1 gAll (dLst (lcD [3, 4] (iZip (dvar 0) (dvar 1)) (gaTup 2 (gaCons (gaName 3) (gaCons (gaName 4) gaNil))) dYes (vor (dBin gEq (dvar 3) (dcon (.int 0))) (dBin gEq (dvar 4) (dvar 2))))))))
def f__is_best : List D → Option D := runD 5 b__is_best
def b__is_strategy : DS :=
 (sRet (vand (dBin gGe (dBin gIx (dvar 0) (dcon (.int 0))) (dcon (.int 1))) (vand (dBin gEq (dBin gIx (dvar 0) (dcon (.int 0))) (dC1 gSum (dSlice (dvar 0) (oAt (dcon (.int 1))) oNo))) (dC1 gAll (dLst (lcD [1] (iSeq (dvar 0)) (gaName 1) dYes (dBin gGe (dvar 1) (dcon (.int 0)))))))))
def f__is_strategy : List D → Option D := runD 2 b__is_strategy
def b_is_equilibrium : DS :=
 (sq (sIf (tor (tnot (tru (dCal f__is_strategy (aCons (dvar 1) aNil)))) (tnot (tru (dCal f__is_strategy (aCons (dvar 2) aNil)))))
 (sRet (dcon (.bl false)))
 sNx)
 (sq (sIf (tnot (tru (dCal f__is_best (aCons (dSlice (dvar 1) (oAt (dcon (.int 1))) oNo) (aCons (dCal f_product (aCons (dC1 (gFld ["Game"] "first") (dvar 0)) (aCons (dSlice (dvar 2) (oAt (dcon (.int 1))) oNo) aNil))) aNil)))))
 (sRet (dcon (.bl false)))
 sNx)
 (sRet (dCal f__is_best (aCons (dSlice (dvar 2) (oAt (dcon (.int 1))) oNo) (aCons (dCal f_product (aCons (dCal f_transposed (aCons (dC1 (gFld ["Game"] "second") (dvar 0)) aNil)) (aCons (dSlice (dvar 1) (oAt (dcon (.int 1))) oNo) aNil))) aNil))))))
def f_is_equilibrium : List D → Option D := runD 3 b_is_equilibrium
def b_to_point : DS :=
 (sq (sSet 3 (dC1 gLen (dC1 (gFld ["Game"] "first") (dvar 0))))
 (sq (sSet 4 (dCal f_product (aCons (dC1 (gFld ["Problem"] "table") (dC1 (gFld ["Game"] "problem") (dvar 0))) (aCons (dBin gAdd (dSlice (dvar 1) (oAt (dcon (.int 1))) oNo) (dSlice (dvar 2) (oAt (dcon (.int 1))) oNo)) aNil))))
 (sq (sSet 5 (dC1 gNeg (dC1 gMin (dSlice (dvar 4) oNo (oAt (dvar 3))))))
 (sq (sSet 6 (dC1 gNeg (dC1 gMin (dSlice (dvar 4) (oAt (dvar 3)) oNo))))
 (sq (sSet 7 (dBin gAdd (dLst (lcD [8] (iSeq (dSlice (dvar 1) (oAt (dcon (.int 1))) oNo)) (gaName 8) dYes (dBin gMul (dvar 5) (dvar 8)))) (dLst (lcD [8] (iSeq (dSlice (dvar 2) (oAt (dcon (.int 1))) oNo)) (gaName 8) dYes (dBin gMul (dvar 6) (dvar 8))))))
 (sRet (dCal f_point (aCons (dBin gMul (dvar 5) (dvar 6)) (aCons (dC1 gTuple (dvar 7)) aNil)))))))))
def f_to_point : List D → Option D := runD 9 b_to_point
def b__law_led : DS :=
 (sq (sSet 5 (dCal f__law_is_equilibrium (aCons (dvar 1) (aCons (dvar 2) (aCons (dvar 3) (aCons (dvar 4) aNil))))))
 (sq (sIf (tnot (tru (dCal f__law_same (aCons (dCal f_is_equilibrium (aCons (dvar 0) (aCons (dvar 3) (aCons (dvar 4) aNil)))) (aCons (dvar 5) aNil)))))
 (sRet (dcon (.bl false)))
 sNx)
 (sq (sIf (tnot (tru (dCal f__law_same (aCons (dMeth "Game" "payoffs" f_Game_payoffs (dvar 0) (aCons (dvar 3) (aCons (dvar 4) aNil))) (aCons (dTup (aCons (dCal f__law_mean (aCons (dvar 1) (aCons (dvar 3) (aCons (dvar 4) aNil)))) (aCons (dCal f__law_mean (aCons (dvar 2) (aCons (dvar 3) (aCons (dvar 4) aNil)))) aNil))) aNil)))))
 (sRet (dcon (.bl false)))
 sNx)
 (sq (sSet 6 (dCal f__law_point (aCons (dvar 1) (aCons (dvar 2) (aCons (dvar 3) (aCons (dvar 4) aNil))))))
 (sq (sIf (tor (tnot (tru (dCal f__law_same (aCons (dCal f_to_point (aCons (dvar 0) (aCons (dvar 3) (aCons (dvar 4) aNil)))) (aCons (dvar 6) aNil))))) (tnot (tru (dCal f__law_same (aCons (dMeth "Problem" "fits" f_Problem_fits (dC1 (gFld ["Game"] "problem") (dvar 0)) (aCons (dvar 6) aNil)) (aCons (dvar 5) aNil))))))
 (sRet (dcon (.bl false)))
 sNx)
 (sRet (vor (vnot (dvar 5)) (dCal f__law_same (aCons (dCal f_from_point (aCons (dvar 0) (aCons (dvar 6) aNil))) (aCons (dTup (aCons (dCal f__law_primitive (aCons (dvar 3) aNil)) (aCons (dCal f__law_primitive (aCons (dvar 4) aNil)) aNil))) aNil))))))))))
def f__law_led : List D → Option D := runD 7 b__law_led
def b__law_asked : DS :=
 (sq (sFor (iSeq (dvar 3)) (gaName 5)
 (sFor (iSeq (dvar 4)) (gaName 6)
 (sIf (tnot (tru (dCal f__law_led (aCons (dvar 0) (aCons (dvar 1) (aCons (dvar 2) (aCons (dvar 5) (aCons (dvar 6) aNil))))))))
 (sRet (dcon (.bl false)))
 sNx)))
 (sRet (dcon (.bl true))))
def f__law_asked : List D → Option D := runD 7 b__law_asked
def b__law_cell : DS :=
 (sq (sIf (asT (dBin gLt (dvar 1) (dC1 gLen (dvar 0))))
 (sRet (dC1 gInt (dBin gIx (dvar 0) (dvar 1))))
 sNx)
 (sRet (dBin gMul (dvar 1) (dcon (.int 104729)))))
def f__law_cell : List D → Option D := runD 2 b__law_cell
def b__law_numbers : DS :=
 (sq (sSetN 3 aNil)
 (sq (sIf (asT (dBin gGe (dvar 0) (dBin gPow (dcon (.int 10)) (dcon (.int 18)))))
 (sq (sSet 4 (dBin gSub (dvar 0) (dBin gPow (dcon (.int 10)) (dcon (.int 18)))))
 (sq (sFor (iR1 (dvar 1)) (gaName 5)
 (sq (sApp 3 (dBin gMod (dC1 gInt (dvar 4)) (dvar 2)))
 (sSet 4 (dBin gDiv (dvar 4) (dvar 2)))))
 (sRetL 3)))
 sNx)
 (sq (sFor (iR1 (dvar 1)) (gaName 5)
 (sq (sSet 6 (dBin gMod (dC1 gInt (dBin gAdd (dBin gAdd (dBin gMul (dvar 0) (dcon (.int 48271))) (dBin gMul (dvar 5) (dcon (.int 69621)))) (dcon (.int 12345)))) (dcon (.int 2147483647))))
 (sq (sSet 6 (dBin gMod (dC1 gInt (dBin gAdd (dBin gAdd (dBin gMul (dvar 6) (dcon (.int 16807))) (dBin gDiv (dvar 6) (dcon (.int 127)))) (dBin gMul (dvar 5) (dcon (.int 40692))))) (dcon (.int 2147483399))))
 (sApp 3 (dBin gMod (dBin gDiv (dvar 6) (dcon (.int 7))) (dvar 2))))))
 (sRetL 3))))
def f__law_numbers : List D → Option (List D) := runN 7 b__law_numbers
def b__law_planted : DS :=
 (sq (sSet2 4 aNil)
 (sq (sFor (iR1 (dC1 gLen (dvar 0))) (gaName 5)
 (sq (sSet 6 (dCal f__law_dot (aCons (dBin gIx (dvar 0) (dvar 5)) (aCons (dSlice (dvar 3) (oAt (dcon (.int 1))) oNo) aNil))))
 (sq (sIf (asT (dBin gEq (dBin gIx (dvar 2) (dBin gAdd (dcon (.int 1)) (dvar 5))) (dcon (.int 0))))
 (sSet 6 (dBin gAdd (dvar 6) (dBin gIx (dvar 1) (dvar 5))))
 sNx)
 (sApp2 4 (lcD [7] (iSeq (dBin gIx (dvar 0) (dvar 5))) (gaName 7) dYes (dBin gSub (dBin gMul (dBin gIx (dvar 3) (dcon (.int 0))) (dvar 7)) (dvar 6)))))))
 (sRetL2 4)))
def f__law_planted : List D → Option (List D) := run2 8 b__law_planted
def b__law_rows : DS :=
 (sq (sSet 4 (dLst (lcD [5] (iSeq (dLst (aCal f__law_numbers (aCons (dvar 0) (aCons (dBin gMul (dvar 1) (dvar 2)) (aCons (dvar 3) aNil)))))) (gaName 5) dYes (dBin gSub (dvar 5) (dBin gDiv (dvar 3) (dcon (.int 2)))))))
 (sRet2 (lcD2 [6] (iR1 (dvar 1)) (gaName 6) (aSlice (dvar 4) (oAt (dBin gMul (dvar 6) (dvar 2))) (oAt (dBin gAdd (dBin gMul (dvar 6) (dvar 2)) (dvar 2)))))))
def f__law_rows : List D → Option (List D) := run2 7 b__law_rows
def b__law_strategy : DS :=
 (sq (sSetN 3 (lcD [4] (iSeq (dLst (aCal f__law_numbers (aCons (dvar 0) (aCons (dvar 1) (aCons (dvar 2) aNil)))))) (gaName 4) dYes (dBin (gII fun i j => if j > i then j else i) (dcon (.int 0)) (dBin gSub (dvar 4) (dBin gDiv (dvar 2) (dcon (.int 3)))))))
 (sq (sIf (asT (dBin gEq (dC1 gSum (dvar 3)) (dcon (.int 0))))
 (sSetI 3 (dBin gMod (dC1 gInt (dvar 0)) (dvar 1)) (dcon (.int 1)))
 sNx)
 (sRet (dBin gAdd (dTup (aCons (dC1 gSum (dvar 3)) aNil)) (dC1 gTuple (dvar 3))))))
def f__law_strategy : List D → Option D := runD 5 b__law_strategy
def b__law_built : DS :=
 (sq (sSet 2 (dC1 gAbs (dCal f__law_cell (aCons (dvar 0) (aCons (dvar 1) aNil)))))
 (sq (sSet 3 (dBin gAdd (dcon (.int 1)) (dBin gMod (dvar 2) (dcon (.int 3)))))
 (sq (sSet 4 (dBin gAdd (dcon (.int 1)) (dBin gMod (dBin gDiv (dvar 2) (dcon (.int 3))) (dcon (.int 3)))))
 (sq (sSet 5 (dBin gIx (dLst (aCons (dcon (.int 3)) (aCons (dcon (.int 9)) (aCons (dcon (.int 2001)) (aCons (dcon (.int 2000000001)) aNil))))) (dBin gMod (dBin gDiv (dvar 2) (dcon (.int 9))) (dcon (.int 4)))))
 (sq (sSet 6 (dCal f__law_strategy (aCons (dCal f__law_cell (aCons (dvar 0) (aCons (dBin gAdd (dvar 1) (dcon (.int 1))) aNil))) (aCons (dvar 3) (aCons (dBin gAdd (dcon (.int 7)) (dBin gMul (dcon (.int 93)) (dBin gMod (dBin gDiv (dvar 2) (dcon (.int 36))) (dcon (.int 2))))) aNil)))))
 (sq (sSet 7 (dCal f__law_strategy (aCons (dCal f__law_cell (aCons (dvar 0) (aCons (dBin gAdd (dvar 1) (dcon (.int 2))) aNil))) (aCons (dvar 4) (aCons (dBin gAdd (dcon (.int 7)) (dBin gMul (dcon (.int 93)) (dBin gMod (dBin gDiv (dvar 2) (dcon (.int 36))) (dcon (.int 2))))) aNil)))))
 (sq (sSet2 8 (aCal f__law_rows (aCons (dCal f__law_cell (aCons (dvar 0) (aCons (dBin gAdd (dvar 1) (dcon (.int 3))) aNil))) (aCons (dvar 3) (aCons (dvar 4) (aCons (dvar 5) aNil))))))
 (sq (sSet2 9 (aCal f__law_rows (aCons (dCal f__law_cell (aCons (dvar 0) (aCons (dBin gAdd (dvar 1) (dcon (.int 4))) aNil))) (aCons (dvar 4) (aCons (dvar 3) (aCons (dvar 5) aNil))))))
 (sq (sSet 10 (dBin gMod (dC1 gAbs (dCal f__law_cell (aCons (dvar 0) (aCons (dBin gAdd (dvar 1) (dcon (.int 5))) aNil)))) (dcon (.int 8))))
 (sq (sIf (asT (dBin gGt (dvar 10) (dcon (.int 0))))
 (sq (sSet 11 (dLst (aCal f__law_numbers (aCons (dCal f__law_cell (aCons (dvar 0) (aCons (dBin gAdd (dvar 1) (dcon (.int 6))) aNil))) (aCons (dBin gAdd (dvar 3) (dvar 4)) (aCons (dcon (.int 4)) aNil))))))
 (sq (sSet2 8 (aCal f__law_planted (aCons (dvar 8) (aCons (dSlice (dvar 11) oNo (oAt (dvar 3))) (aCons (dvar 6) (aCons (dvar 7) aNil))))))
 (sSet2 9 (aCal f__law_planted (aCons (dvar 9) (aCons (dSlice (dvar 11) (oAt (dvar 3)) oNo) (aCons (dvar 7) (aCons (dvar 6) aNil))))))))
 sNx)
 (sq (sIf (dChain gLe gLe (dcon (.int 1)) (dvar 10) (dcon (.int 3)))
 (sq (sSet 12 (dLst (aCal f__law_numbers (aCons (dCal f__law_cell (aCons (dvar 0) (aCons (dBin gAdd (dvar 1) (dcon (.int 7))) aNil))) (aCons (dcon (.int 3)) (aCons (dcon (.int 18)) aNil))))))
 (sq (sSet 13 (dBin gIx (dLst (aCons (dcon (.int 1)) (aCons (dcon (.int 2)) (aCons (dC1 gNeg (dcon (.int 1))) aNil)))) (dBin gSub (dvar 10) (dcon (.int 1)))))
 (sIf (asT (dBin gEq (dBin gMod (dBin gIx (dvar 12) (dcon (.int 2))) (dcon (.int 2))) (dcon (.int 0))))
 (sSetII 8 (dBin gMod (dBin gIx (dvar 12) (dcon (.int 0))) (dvar 3)) (dBin gMod (dBin gIx (dvar 12) (dcon (.int 1))) (dvar 4)) (dBin gAdd (dBin gIx (dBin gIx (dvar 8) (dBin gMod (dBin gIx (dvar 12) (dcon (.int 0))) (dvar 3))) (dBin gMod (dBin gIx (dvar 12) (dcon (.int 1))) (dvar 4))) (dvar 13)))
 (sSetII 9 (dBin gMod (dBin gIx (dvar 12) (dcon (.int 1))) (dvar 4)) (dBin gMod (dBin gIx (dvar 12) (dcon (.int 0))) (dvar 3)) (dBin gAdd (dBin gIx (dBin gIx (dvar 9) (dBin gMod (dBin gIx (dvar 12) (dcon (.int 1))) (dvar 4))) (dBin gMod (dBin gIx (dvar 12) (dcon (.int 0))) (dvar 3))) (dvar 13))))))
 sNx)
 (sRet (dTup (aCons (dC1 gTuple (dLst (lcD [14] (iSeq (dvar 8)) (gaName 14) dYes (dC1 gTuple (dvar 14))))) (aCons (dCal f__law_columns (aCons (dvar 9) aNil)) (aCons (dvar 6) (aCons (dvar 7) aNil)))))))))))))))))
def f__law_built : List D → Option D := runD 15 b__law_built
def b__law_refused : DS :=
 (sq (sFor (iSeq (dvar 3)) (gaName 5)
 (sIf (tnot (tru (dCal f__law_same (aCons (dCal f_is_equilibrium (aCons (dvar 0) (aCons (dvar 5) (aCons (dBin gIx (dvar 4) (dcon (.int 0))) aNil)))) (aCons (dCal f__law_is_equilibrium (aCons (dvar 1) (aCons (dvar 2) (aCons (dvar 5) (aCons (dBin gIx (dvar 4) (dcon (.int 0))) aNil))))) aNil)))))
 (sRet (dcon (.bl false)))
 sNx))
 (sq (sFor (iSeq (dvar 4)) (gaName 6)
 (sIf (tnot (tru (dCal f__law_same (aCons (dCal f_is_equilibrium (aCons (dvar 0) (aCons (dBin gIx (dvar 3) (dcon (.int 0))) (aCons (dvar 6) aNil)))) (aCons (dCal f__law_is_equilibrium (aCons (dvar 1) (aCons (dvar 2) (aCons (dBin gIx (dvar 3) (dcon (.int 0))) (aCons (dvar 6) aNil))))) aNil)))))
 (sRet (dcon (.bl false)))
 sNx))
 (sRet (dcon (.bl true)))))
def f__law_refused : List D → Option D := runD 7 b__law_refused
def b__law_spoilt : DS :=
 (sq (sSet 2 (dBin gSub (dC1 gLen (dvar 1)) (dcon (.int 1))))
 (sq (sSet 3 (dBin gMod (dC1 gInt (dvar 0)) (dvar 2)))
 (sq (sSetN 4 (aItems (dvar 1)))
 (sq (sSetI 4 (dBin gAdd (dcon (.int 1)) (dvar 3)) (dBin gSub (dBin gSub (dBin gIx (dvar 4) (dBin gAdd (dcon (.int 1)) (dvar 3))) (dBin gIx (dvar 1) (dcon (.int 0)))) (dcon (.int 1))))
 (sq (sSetI 4 (dBin gAdd (dcon (.int 1)) (dBin gMod (dBin gAdd (dvar 3) (dcon (.int 1))) (dvar 2))) (dBin gAdd (dBin gAdd (dBin gIx (dvar 4) (dBin gAdd (dcon (.int 1)) (dBin gMod (dBin gAdd (dvar 3) (dcon (.int 1))) (dvar 2)))) (dBin gIx (dvar 1) (dcon (.int 0)))) (dcon (.int 1))))
 (sRet (dLst (aCons (dBin gMul (dTup (aCons (dcon (.int 0)) aNil)) (dBin gAdd (dvar 2) (dcon (.int 1)))) (aCons (dBin gAdd (dTup (aCons (dBin gAdd (dBin gIx (dvar 1) (dcon (.int 0))) (dcon (.int 1))) aNil)) (dSlice (dvar 1) (oAt (dcon (.int 1))) oNo)) (aCons (dBin gAdd (dTup (aCons (dBin gSub (dBin gIx (dvar 1) (dcon (.int 0))) (dcon (.int 1))) aNil)) (dSlice (dvar 1) (oAt (dcon (.int 1))) oNo)) (aCons (dC1 gTuple (dvar 4)) aNil)))))))))))
def f__law_spoilt : List D → Option D := runD 5 b__law_spoilt
def b__law_strategies : DS :=
 (sq (sSet 2 (dBin gSub (dC1 gLen (dvar 1)) (dcon (.int 1))))
 (sq (sSet 3 (dLst (aCal f__law_numbers (aCons (dvar 0) (aCons (dcon (.int 2)) (aCons (dcon (.int 12)) aNil))))))
 (sq (sSet 4 (dBin gAdd (dTup (aCons (dcon (.int 1)) aNil)) (dC1 gTuple (dLst (lcD [5] (iR1 (dvar 2)) (gaName 5) dYes (dC1 gInt (dBin gEq (dvar 5) (dBin gMod (dBin gIx (dvar 3) (dcon (.int 0))) (dvar 2)))))))))
 (sRet (dLst (aCons (dvar 1) (aCons (dC1 gTuple (dLst (lcD [6] (iSeq (dvar 1)) (gaName 6) dYes (dBin gMul (dBin gAdd (dcon (.int 2)) (dBin gMod (dBin gIx (dvar 3) (dcon (.int 1))) (dcon (.int 3)))) (dvar 6))))) (aCons (dvar 4) (aCons (dCal f__law_strategy (aCons (dBin gAdd (dvar 0) (dcon (.int 5))) (aCons (dvar 2) (aCons (dcon (.int 7)) aNil)))) aNil)))))))))
def f__law_strategies : List D → Option D := runD 7 b__law_strategies
def b__law_table : DS :=
 (sq (sSet 2 (dC1 gLen (dvar 0)))
 (sq (sSet 3 (dC1 gLen (dBin gIx (dvar 0) (dcon (.int 0)))))
 (sq (sSetN 4 (lcD [6] (iSeq (dCal f__law_raised (aCons (dvar 0) aNil))) (gaName 6) dYes (dBin gAdd (dBin gMul (dTup (aCons (dcon (.int 0)) aNil)) (dvar 2)) (dC1 gTuple (dLst (lcD [5] (iSeq (dvar 6)) (gaName 5) dYes (dC1 gNeg (dvar 5))))))))
 (sq (sSet 4 (dBin gAdd (dvar 4) (dLst (lcD [7] (iSeq (dCal f__law_columns (aCons (dCal f__law_raised (aCons (dvar 1) aNil)) aNil))) (gaName 7) dYes (dBin gAdd (dC1 gTuple (dLst (lcD [5] (iSeq (dvar 7)) (gaName 5) dYes (dC1 gNeg (dvar 5))))) (dBin gMul (dTup (aCons (dcon (.int 0)) aNil)) (dvar 3)))))))
 (sRet (dC1 gTuple (dvar 4)))))))
def f__law_table : List D → Option D := runD 8 b__law_table
def b__law_told : DS :=
 (sq (sSet 3 (dBin gAdd (dC1 gLen (dvar 1)) (dC1 gLen (dBin gIx (dvar 1) (dcon (.int 0))))))
 (sq (sIf (tnot (tru (dCal f__law_same (aCons (dPropF0 "Game" f_Game_sizes (dvar 0)) (aCons (dTup (aCons (dC1 gLen (dvar 1)) (aCons (dC1 gLen (dBin gIx (dvar 1) (dcon (.int 0)))) aNil))) aNil)))))
 (sRet (dcon (.bl false)))
 sNx)
 (sq (sIf (tor (tnot (tru (dCal f__law_same (aCons (dC1 (gFld ["Game"] "first") (dvar 0)) (aCons (dvar 1) aNil))))) (tnot (tru (dCal f__law_same (aCons (dC1 (gFld ["Game"] "second") (dvar 0)) (aCons (dvar 2) aNil))))))
 (sRet (dcon (.bl false)))
 sNx)
 (sq (sIf (tor (tnot (tru (dCal f__law_same (aCons (dC1 (gFld ["Problem"] "table") (dC1 (gFld ["Game"] "problem") (dvar 0))) (aCons (dCal f__law_table (aCons (dvar 1) (aCons (dvar 2) aNil))) aNil))))) (tnot (tru (dCal f__law_same (aCons (dC1 (gFld ["Problem"] "q") (dC1 (gFld ["Game"] "problem") (dvar 0))) (aCons (dBin gMul (dTup (aCons (dcon (.int 1)) aNil)) (dvar 3)) aNil))))))
 (sRet (dcon (.bl false)))
 sNx)
 (sRet (dBin gIs (dCal f_from_point (aCons (dvar 0) (aCons (dBin gAdd (dTup (aCons (dcon (.int 1)) aNil)) (dBin gMul (dTup (aCons (dcon (.int 0)) aNil)) (dvar 3))) aNil))) (dcon .non)))))))
def f__law_told : List D → Option D := runD 4 b__law_told
def b_law : DS :=
 (sq (sSetN 1 aNil)
 (sq (sFor (iSeq (dTup (aCons (dcon (.int 0)) (aCons (dcon (.int 20)) aNil)))) (gaName 2)
 (sq (sAsg (dCal f__law_built (aCons (dvar 0) (aCons (dvar 2) aNil))) (gaTup 4 (gaCons (gaName 3) (gaCons (gaName 4) (gaCons (gaName 5) (gaCons (gaName 6) gaNil))))))
 (sq (sSet 7 (dCal f__law_strategies (aCons (dCal f__law_cell (aCons (dvar 0) (aCons (dBin gAdd (dvar 2) (dcon (.int 8))) aNil))) (aCons (dvar 5) aNil))))
 (sq (sSet 8 (dCal f__law_strategies (aCons (dCal f__law_cell (aCons (dvar 0) (aCons (dBin gAdd (dvar 2) (dcon (.int 9))) aNil))) (aCons (dvar 6) aNil))))
 (sApp 1 (dTup (aCons (dCal (mkD "Game" f_Game___init__) (aCons (dvar 3) (aCons (dvar 4) aNil))) (aCons (dvar 3) (aCons (dvar 4) (aCons (dvar 7) (aCons (dvar 8) aNil)))))))))))
 (sq (sFor (iSeq (dvar 1)) (gaTup 5 (gaCons (gaName 9) (gaCons (gaName 3) (gaCons (gaName 4) (gaCons (gaName 7) (gaCons (gaName 8) gaNil))))))
 (sq (sIf (tor (tnot (tru (dCal f__law_told (aCons (dvar 9) (aCons (dvar 3) (aCons (dvar 4) aNil)))))) (tnot (tru (dCal f__law_asked (aCons (dvar 9) (aCons (dvar 3) (aCons (dvar 4) (aCons (dvar 7) (aCons (dvar 8) aNil)))))))))
 (sRet (dcon (.bl false)))
 sNx)
 (sq (sSet 10 (dBin gAdd (dLst (aCons (dBin gIx (dvar 7) (dcon (.int 0))) aNil)) (dCal f__law_spoilt (aCons (dCal f__law_cell (aCons (dvar 0) (aCons (dcon (.int 10)) aNil))) (aCons (dBin gIx (dvar 7) (dcon (.int 0))) aNil)))))
 (sIf (tnot (tru (dCal f__law_refused (aCons (dvar 9) (aCons (dvar 3) (aCons (dvar 4) (aCons (dvar 10) (aCons (dBin gAdd (dLst (aCons (dBin gIx (dvar 8) (dcon (.int 0))) aNil)) (dCal f__law_spoilt (aCons (dCal f__law_cell (aCons (dvar 0) (aCons (dcon (.int 11)) aNil))) (aCons (dBin gIx (dvar 8) (dcon (.int 0))) aNil)))) aNil))))))))
 (sRet (dcon (.bl false)))
 sNx))))
 (sq (sAsg (dBin gIx (dvar 1) (dcon (.int 0))) (gaTup 5 (gaCons (gaName 9) (gaCons (gaName 3) (gaCons (gaName 4) (gaCons (gaName 7) (gaCons (gaName 8) gaNil)))))))
 (sRet (vand (dCal f__law_told (aCons (dvar 9) (aCons (dvar 3) (aCons (dvar 4) aNil)))) (dCal f__law_asked (aCons (dvar 9) (aCons (dvar 3) (aCons (dvar 4) (aCons (dSlice (dvar 7) oNo (oAt (dcon (.int 1)))) (aCons (dSlice (dvar 8) oNo (oAt (dcon (.int 2)))) aNil))))))))))))
def f_law : List D → Option D := runD 11 b_law
end K69

end

section
set_option Elab.async false
set_option linter.all false
set_option maxRecDepth 100000
set_option maxHeartbeats 0
namespace K69
open PySem PySem.Spec PyProof.Rows L2 DL
def top (i : Nat) : Stmt := PySem.Challenge.pw_oneofeachpair_k69_equilibria_led.main.body.getD i (.Pass ⟨0, 0, 0, 0⟩)
abbrev s_Game_sizes : Stmt := inClass (top 19) 3
abbrev s_Problem___init__ : Stmt := inClass (top 13) 0
abbrev s__are_alike : Stmt := top 18
abbrev s__negative : Stmt := top 17
abbrev s__raised : Stmt := top 16
abbrev s_transposed : Stmt := top 5
abbrev s_Game___init__ : Stmt := inClass (top 19) 1
abbrev s_dot : Stmt := top 3
abbrev s_product : Stmt := top 4
abbrev s_ratio : Stmt := top 7
abbrev s_Game_payoffs : Stmt := inClass (top 19) 4
abbrev s_Problem_slacks : Stmt := inClass (top 13) 1
abbrev s_Problem_fits : Stmt := inClass (top 13) 2
abbrev s__law_columns : Stmt := top 34
abbrev s__law_dot : Stmt := top 29
abbrev s__law_is_best : Stmt := top 38
abbrev s__law_is_strategy : Stmt := top 37
abbrev s__law_is_equilibrium : Stmt := top 39
abbrev s__law_divisor : Stmt := top 31
abbrev s__law_ratio : Stmt := top 33
abbrev s__law_mean : Stmt := top 40
abbrev s__law_primitive : Stmt := top 32
abbrev s__law_raised : Stmt := top 35
abbrev s__law_point : Stmt := top 41
abbrev s__law_same : Stmt := top 30
abbrev s_primitive : Stmt := top 6
abbrev s_point : Stmt := top 14
abbrev s__strategy : Stmt := top 24
abbrev s_from_point : Stmt := top 25
abbrev s__is_best : Stmt := top 21
abbrev s__is_strategy : Stmt := top 20
abbrev s_is_equilibrium : Stmt := top 22
abbrev s_to_point : Stmt := top 23
abbrev s__law_led : Stmt := top 49
abbrev s__law_asked : Stmt := top 50
abbrev s__law_cell : Stmt := top 27
abbrev s__law_numbers : Stmt := top 28
abbrev s__law_planted : Stmt := top 44
abbrev s__law_rows : Stmt := top 43
abbrev s__law_strategy : Stmt := top 42
abbrev s__law_built : Stmt := top 45
abbrev s__law_refused : Stmt := top 51
abbrev s__law_spoilt : Stmt := top 47
abbrev s__law_strategies : Stmt := top 46
abbrev s__law_table : Stmt := top 36
abbrev s__law_told : Stmt := top 48
abbrev s_law : Stmt := top 52
structure Txt (K : PySem.W.Frag) (mg : Str → Option Value) : Prop where
  d_Game_sizes : Dp K mg "Game" "sizes" "Game.sizes" s_Game_sizes ["self"]
  d_Problem___init__ : Di K mg "Problem" "Problem.__init__" s_Problem___init__ ["self", "table", "q"]
  d__are_alike : Df K mg "_are_alike" "_are_alike" s__are_alike ["first", "second"]
  d__negative : Df K mg "_negative" "_negative" s__negative ["matrix"]
  d__raised : Df K mg "_raised" "_raised" s__raised ["matrix"]
  d_transposed : Df K mg "transposed" "transposed" s_transposed ["matrix"]
  d_Game___init__ : Di K mg "Game" "Game.__init__" s_Game___init__ ["self", "first", "second"]
  d_dot : Df K mg "dot" "dot" s_dot ["first", "second"]
  d_product : Df K mg "product" "product" s_product ["matrix", "vector"]
  d_ratio : Df K mg "ratio" "ratio" s_ratio ["upper", "lower"]
  d_Game_payoffs : Dm K mg "Game" "payoffs" "Game.payoffs" s_Game_payoffs ["self", "x", "y"]
  d_Problem_slacks : Dm K mg "Problem" "slacks" "Problem.slacks" s_Problem_slacks ["self", "x"]
  d_Problem_fits : Dm K mg "Problem" "fits" "Problem.fits" s_Problem_fits ["self", "x"]
  d__law_columns : Df K mg "_law_columns" "_law_columns" s__law_columns ["matrix"]
  d__law_dot : Df K mg "_law_dot" "_law_dot" s__law_dot ["first", "second"]
  d__law_is_best : Df K mg "_law_is_best" "_law_is_best" s__law_is_best ["weights", "sums"]
  d__law_is_strategy : Df K mg "_law_is_strategy" "_law_is_strategy" s__law_is_strategy ["x"]
  d__law_is_equilibrium : Df K mg "_law_is_equilibrium" "_law_is_equilibrium" s__law_is_equilibrium ["first", "second", "x", "y"]
  d__law_divisor : Df K mg "_law_divisor" "_law_divisor" s__law_divisor ["a", "b"]
  d__law_ratio : Df K mg "_law_ratio" "_law_ratio" s__law_ratio ["upper", "lower"]
  d__law_mean : Df K mg "_law_mean" "_law_mean" s__law_mean ["matrix", "x", "y"]
  d__law_primitive : Df K mg "_law_primitive" "_law_primitive" s__law_primitive ["vector"]
  d__law_raised : Df K mg "_law_raised" "_law_raised" s__law_raised ["matrix"]
  d__law_point : Df K mg "_law_point" "_law_point" s__law_point ["first", "second", "x", "y"]
  d__law_same : Df K mg "_law_same" "_law_same" s__law_same ["found", "due"]
  d_primitive : Df K mg "primitive" "primitive" s_primitive ["vector"]
  d_point : Df K mg "point" "point" s_point ["scale", "numbers"]
  d__strategy : Df K mg "_strategy" "_strategy" s__strategy ["weights"]
  d_from_point : Df K mg "from_point" "from_point" s_from_point ["game", "z"]
  d__is_best : Df K mg "_is_best" "_is_best" s__is_best ["weights", "sums"]
  d__is_strategy : Df K mg "_is_strategy" "_is_strategy" s__is_strategy ["x"]
  d_is_equilibrium : Df K mg "is_equilibrium" "is_equilibrium" s_is_equilibrium ["game", "x", "y"]
  d_to_point : Df K mg "to_point" "to_point" s_to_point ["game", "x", "y"]
  d__law_led : Df K mg "_law_led" "_law_led" s__law_led ["game", "first", "second", "x", "y"]
  d__law_asked : Df K mg "_law_asked" "_law_asked" s__law_asked ["game", "first", "second", "xs", "ys"]
  d__law_cell : Df K mg "_law_cell" "_law_cell" s__law_cell ["script", "k"]
  d__law_numbers : Df K mg "_law_numbers" "_law_numbers" s__law_numbers ["cell", "count", "base"]
  d__law_planted : Df K mg "_law_planted" "_law_planted" s__law_planted ["rows", "lows", "own", "other"]
  d__law_rows : Df K mg "_law_rows" "_law_rows" s__law_rows ["cell", "count", "width", "base"]
  d__law_strategy : Df K mg "_law_strategy" "_law_strategy" s__law_strategy ["cell", "size", "base"]
  d__law_built : Df K mg "_law_built" "_law_built" s__law_built ["script", "at"]
  d__law_refused : Df K mg "_law_refused" "_law_refused" s__law_refused ["game", "first", "second", "xs", "ys"]
  d__law_spoilt : Df K mg "_law_spoilt" "_law_spoilt" s__law_spoilt ["cell", "planted"]
  d__law_strategies : Df K mg "_law_strategies" "_law_strategies" s__law_strategies ["cell", "planted"]
  d__law_table : Df K mg "_law_table" "_law_table" s__law_table ["first", "second"]
  d__law_told : Df K mg "_law_told" "_law_told" s__law_told ["game", "first", "second"]
  d_law : Df K mg "law" "law" s_law ["script"]
  n_abs : mg "abs" = none
  n_all : mg "all" = none
  n_any : mg "any" = none
  n_bool : mg "bool" = none
  n_int : mg "int" = none
  n_isinstance : mg "isinstance" = none
  n_len : mg "len" = none
  n_list : mg "list" = none
  n_max : mg "max" = none
  n_min : mg "min" = none
  n_range : mg "range" = none
  n_str : mg "str" = none
  n_sum : mg "sum" = none
  n_tuple : mg "tuple" = none
  n_zip : mg "zip" = none
  k_table : ∀ c ∈ (["Problem"] : List Str), ∀ C, mg c = some (.ref C) → Cls K C ∧ NoAttr K C "table"
  k_q : ∀ c ∈ (["Problem"] : List Str), ∀ C, mg c = some (.ref C) → Cls K C ∧ NoAttr K C "q"
  k_size : ∀ c ∈ (["Problem"] : List Str), ∀ C, mg c = some (.ref C) → Cls K C ∧ NoAttr K C "size"
  k_first : ∀ c ∈ (["Game"] : List Str), ∀ C, mg c = some (.ref C) → Cls K C ∧ NoAttr K C "first"
  k_second : ∀ c ∈ (["Game"] : List Str), ∀ C, mg c = some (.ref C) → Cls K C ∧ NoAttr K C "second"
  k_problem : ∀ c ∈ (["Game"] : List Str), ∀ C, mg c = some (.ref C) → Cls K C ∧ NoAttr K C "problem"
  g_LARGEST : ∃ t, mg "LARGEST" = some (.int 6 t)
  g_gcd : mg "gcd" = some (.builtin "math.gcd")
section
variable {P : Program} {w : World} {K : PySem.W.Frag} {mg : Str → Option Value} {base : Heap}
theorem sc_Game_sizes : FnScope ["self"] ["self"] (defScope s_Game_sizes) := ⟨rfl, rfl, rfl, by decide +kernel, rfl, by decide +kernel, by decide +kernel⟩
theorem ok_Game_sizes (T : Txt K mg) : Prp P w K mg base 1 "Game" "sizes" (spD K mg [true] f_Game_sizes) :=
  prpD 1 b_Game_sizes T.d_Game_sizes sc_Game_sizes rfl fun f cdv A outer s H E hr => have hu := hr.units; ⟨[.no], rfl,
 (s_one (s_ret (dTuple (paC (dCallB c_len (by rfl) T.n_len (by rfl) (cB (dFld (cs := ["Game"]) T.k_first (cB (pvC 0))))) (paC (dCallB c_len (by rfl) T.n_len (by rfl) (cB (dIx (cB (dFld (cs := ["Game"]) T.k_first (cB (pvC 0)))) (cB dInt)))) paNil)))))⟩
theorem sc_Problem___init__ : FnScope ["self", "table", "q", "size", "row"] ["self", "table", "q"] (defScope s_Problem___init__) := ⟨rfl, rfl, rfl, by decide +kernel, rfl, by decide +kernel, by decide +kernel⟩
theorem ok_Problem___init__ (T : Txt K mg) : Mak P w K mg base 1 "Problem" (spI K mg "Problem" [true, true] f_Problem___init__) :=
  makI 4 b_Problem___init__ T.d_Problem___init__ sc_Problem___init__ rfl fun f cdv A outer s H E hr => have hu := hr.units; ⟨[.sf, .cl, .cl, .cl, .cl], rfl,
 (s_cons (s_set (fl' := [.sf, .cl, .cl, .cl, .cl]) 3 (dCallB c_len (by rfl) T.n_len (by rfl) (cB (pvC 2))) sc_Problem___init__.nd)
 (s_cons (s_if (fl' := [.sf, .cl, .cl, .cl, .cl]) ((wOr (tNot' (tChain' r_le r_le (cB dInt) (cB (pvC 3)) (cB (dGlobI (by rfl) T.g_LARGEST)))) (wOr (tCmp (r_ne hu) (cB (dCallB c_len (by rfl) T.n_len (by rfl) (cB (pvC 1)))) (cB (pvC 3)) (nomark _)) (pw_or1 (tTru (cB (dCallB (c_any rfl) (by rfl) T.n_any (by rfl) (cB (cD (nLc rfl sc_Problem___init__.nd (piB (cB (pvC 1))) (blk_by (own := [("row", 4)]) (by rfl)) (fun _ _ _ _ _ => (pg_name (i := 4) sc_Problem___init__.nd rfl (by first | exact Or.inl rfl | exact Or.inr rfl))) (tgr_name 4) (fun _ _ _ _ _ => ptNil) (fun _ _ _ _ _ => (dCmp (r_ne hu) (cB (dCallB c_len (by rfl) T.n_len (by rfl) (cB (pvC 4)))) (cB (pvC 3)) (nomark _))))))))))))).pt
 (s_one s_never)
 s_nil)
 (s_cons (s_fldS 0 ["Problem"] T.k_table (pvC 1))
 (s_cons (s_fldS 0 ["Problem"] T.k_q (pvC 2))
 (s_one (s_fldS 0 ["Problem"] T.k_size (pvC 3)))))))⟩
theorem sc__are_alike : FnScope ["first", "second", "width", "row"] ["first", "second"] (defScope s__are_alike) := ⟨rfl, rfl, rfl, by decide +kernel, rfl, by decide +kernel, by decide +kernel⟩
theorem ok__are_alike (T : Txt K mg) : Cal P w K mg base 1 "_are_alike" (spD K mg [true, true] f__are_alike) :=
  calD 4 b__are_alike T.d__are_alike sc__are_alike rfl fun f cdv A outer s H E hr => have hu := hr.units; ⟨[.no, .no, .no, .no], rfl,
 (s_cons (s_if (fl' := [.cl, .cl, .cl, .cl]) ((wOr (tNot' (tTru (cB (pvC 0)))) (pw_or1 (tCmp (r_ne hu) (cB (dCallB c_len (by rfl) T.n_len (by rfl) (cB (pvC 1)))) (cB (dCallB c_len (by rfl) T.n_len (by rfl) (cB (pvC 0)))) (nomark _))))).pt
 (s_one (s_ret dBl))
 s_nil)
 (s_cons (s_set (fl' := [.cl, .cl, .cl, .cl]) 2 (dCallB c_len (by rfl) T.n_len (by rfl) (cB (dIx (cB (pvC 0)) (cB dInt)))) sc__are_alike.nd)
 (s_cons (s_if (fl' := [.cl, .cl, .cl, .cl]) ((wOr (tCmp (r_eq hu) (cB (pvC 2)) (cB dInt) (nomark _)) (pw_or1 (tCmp r_gt (cB (dOp r_add (cB (dCallB c_len (by rfl) T.n_len (by rfl) (cB (pvC 0)))) (cB (pvC 2)))) (cB (dGlobI (by rfl) T.g_LARGEST)) (nomark _))))).pt
 (s_one (s_ret dBl))
 s_nil)
 (s_one (s_ret (dCallB (c_all rfl) (by rfl) T.n_all (by rfl) (cB (cD (nLc rfl sc__are_alike.nd (piB (cB (dOp r_add (cB (pvC 0)) (cB (pvC 1))))) (blk_by (own := [("row", 3)]) (by rfl)) (fun _ _ _ _ _ => (pg_name (i := 3) sc__are_alike.nd rfl (by first | exact Or.inl rfl | exact Or.inr rfl))) (tgr_name 3) (fun _ _ _ _ _ => ptNil) (fun _ _ _ _ _ => (dCmp (r_eq hu) (cB (dCallB c_len (by rfl) T.n_len (by rfl) (cB (pvC 3)))) (cB (pvC 2)) (nomark _))))))))))))⟩
theorem sc__negative : FnScope ["matrix", "item", "row"] ["matrix"] (defScope s__negative) := ⟨rfl, rfl, rfl, by decide +kernel, rfl, by decide +kernel, by decide +kernel⟩
theorem ok__negative (T : Txt K mg) : Cal P w K mg base 1 "_negative" (spD K mg [true] f__negative) :=
  calD 3 b__negative T.d__negative sc__negative rfl fun f cdv A outer s H E hr => have hu := hr.units; ⟨[.no, .no, .no], rfl,
 (s_one (s_ret (dCallT c_tuple (by rfl) T.n_tuple (by rfl) (cB (cD (nLc rfl sc__negative.nd (piB (cB (pvC 0))) (blk_by (own := [("row", 2)]) (by rfl)) (fun _ _ _ _ _ => (pg_name (i := 2) sc__negative.nd rfl (by first | exact Or.inl rfl | exact Or.inr rfl))) (tgr_name 2) (fun _ _ _ _ _ => ptNil) (fun _ _ _ _ _ => (dCallT c_tuple (by rfl) T.n_tuple (by rfl) (cB (cD (nLc rfl sc__negative.nd (piB (cB (pvC 2))) (blk_by (own := [("item", 1)]) (by rfl)) (fun _ _ _ _ _ => (pg_name (i := 1) sc__negative.nd rfl (by first | exact Or.inl rfl | exact Or.inr rfl))) (tgr_name 1) (fun _ _ _ _ _ => ptNil) (fun _ _ _ _ _ => (dNeg (cB (pvC 1)))))))))))))))⟩
theorem sc__raised : FnScope ["matrix", "least", "row", "item"] ["matrix"] (defScope s__raised) := ⟨rfl, rfl, rfl, by decide +kernel, rfl, by decide +kernel, by decide +kernel⟩
theorem ok__raised (T : Txt K mg) : Cal P w K mg base 1 "_raised" (spD K mg [true] f__raised) :=
  calD 4 b__raised T.d__raised sc__raised rfl fun f cdv A outer s H E hr => have hu := hr.units; ⟨[.no, .no, .no, .no], rfl,
 (s_cons (s_set (fl' := [.cl, .cl, .cl, .cl]) 1 (dCallB (c_min rfl) (by rfl) T.n_min (by rfl) (cB (cD (nLc rfl sc__raised.nd (piB (cB (pvC 0))) (blk_by (own := [("row", 2)]) (by rfl)) (fun _ _ _ _ _ => (pg_name (i := 2) sc__raised.nd rfl (by first | exact Or.inl rfl | exact Or.inr rfl))) (tgr_name 2) (fun _ _ _ _ _ => ptNil) (fun _ _ _ _ _ => (dCallB (c_min rfl) (by rfl) T.n_min (by rfl) (cB (pvC 2)))))))) sc__raised.nd)
 (s_one (s_ret (dCallT c_tuple (by rfl) T.n_tuple (by rfl) (cB (cD (nLc rfl sc__raised.nd (piB (cB (pvC 0))) (blk_by (own := [("row", 2)]) (by rfl)) (fun _ _ _ _ _ => (pg_name (i := 2) sc__raised.nd rfl (by first | exact Or.inl rfl | exact Or.inr rfl))) (tgr_name 2) (fun _ _ _ _ _ => ptNil) (fun _ _ _ _ _ => (dCallT c_tuple (by rfl) T.n_tuple (by rfl) (cB (cD (nLc rfl sc__raised.nd (piB (cB (pvC 2))) (blk_by (own := [("item", 3)]) (by rfl)) (fun _ _ _ _ _ => (pg_name (i := 3) sc__raised.nd rfl (by first | exact Or.inl rfl | exact Or.inr rfl))) (tgr_name 3) (fun _ _ _ _ _ => ptNil) (fun _ _ _ _ _ => (dOp r_add (cB (dOp r_sub (cB (pvC 3)) (cB (pvC 1)))) (cB dInt)))))))))))))))⟩
theorem sc_transposed : FnScope ["matrix", "column"] ["matrix"] (defScope s_transposed) := ⟨rfl, rfl, rfl, by decide +kernel, rfl, by decide +kernel, by decide +kernel⟩
theorem ok_transposed (T : Txt K mg) : Cal P w K mg base 1 "transposed" (spD K mg [true] f_transposed) :=
  calD 2 b_transposed T.d_transposed sc_transposed rfl fun f cdv A outer s H E hr => have hu := hr.units; ⟨[.no, .no], rfl,
 (s_one (s_ret (dCallT c_tuple (by rfl) T.n_tuple (by rfl) (cB (cD (nLc rfl sc_transposed.nd (iB (piStar (by rfl) T.n_zip (pvC 0))) (blk_by (own := [("column", 1)]) (by rfl)) (fun _ _ _ _ _ => (pg_name (i := 1) sc_transposed.nd rfl (by first | exact Or.inl rfl | exact Or.inr rfl))) (tgr_name 1) (fun _ _ _ _ _ => ptNil) (fun _ _ _ _ _ => (dCallT c_tuple (by rfl) T.n_tuple (by rfl) (cB (pvC 1))))))))))⟩
theorem sc_Game___init__ : FnScope ["self", "first", "second", "height", "width", "rows", "row"] ["self", "first", "second"] (defScope s_Game___init__) := ⟨rfl, rfl, rfl, by decide +kernel, rfl, by decide +kernel, by decide +kernel⟩
theorem ok_Game___init__ (T : Txt K mg) (c_Game_sizes : Prp P w K mg base 1 "Game" "sizes" (spD K mg [true] f_Game_sizes)) (c_Problem : Mak P w K mg base 1 "Problem" (spI K mg "Problem" [true, true] f_Problem___init__)) (c__are_alike : Cal P w K mg base 1 "_are_alike" (spD K mg [true, true] f__are_alike)) (c__negative : Cal P w K mg base 1 "_negative" (spD K mg [true] f__negative)) (c__raised : Cal P w K mg base 1 "_raised" (spD K mg [true] f__raised)) (c_transposed : Cal P w K mg base 1 "transposed" (spD K mg [true] f_transposed)) : Mak P w K mg base 3 "Game" (spI K mg "Game" [true, true] f_Game___init__) :=
  makI 6 b_Game___init__ T.d_Game___init__ sc_Game___init__ rfl fun f cdv A outer s H E hr => have hu := hr.units; ⟨[.sf, .cl, .cl, .cl, .cl, .ow, .cl], rfl,
 (s_cons (s_if (fl' := [.sf, .cl, .cl, .cl, .cl, .cl, .cl]) (tNot' (tTru (cB (dCl c__are_alike hr (by decide) (paC (pvC 1) (paC (pvC 2) paNil))))))
 (s_one s_never)
 s_nil)
 (s_cons (s_fldS 0 ["Game"] T.k_first (pvC 1))
 (s_cons (s_fldS 0 ["Game"] T.k_second (pvC 2))
 (s_cons (s_asg (fl' := [.sf, .cl, .cl, .cl, .cl, .cl, .cl]) (dPropS 0 c_Game_sizes hr (by decide)) (pg_tup rfl (pgs_cons (pg_name (i := 3) sc_Game___init__.nd rfl (by first | exact Or.inl rfl | exact Or.inr rfl)) (pgs_cons (pg_name (i := 4) sc_Game___init__.nd rfl (by first | exact Or.inl rfl | exact Or.inr rfl)) pgs_nil))) (tgr_tup (tgrs_cons (tgr_name 3) (tgrs_cons (tgr_name 4) tgrs_nil))))
 (s_cons (s_setLc (fl' := [.sf, .cl, .cl, .cl, .cl, .ow, .cl]) 5 rfl sc_Game___init__.nd (piB (cB (dCl c__negative hr (by decide) (paC (dCl c__raised hr (by decide) (paC (pvC 1) paNil)) paNil)))) (blk_by (own := [("row", 6)]) (by rfl)) (fun _ _ _ _ _ => (pg_name (i := 6) sc_Game___init__.nd rfl (by first | exact Or.inl rfl | exact Or.inr rfl))) (tgr_name 6) (fun _ _ _ _ _ => ptNil) (fun _ _ _ _ _ => (dOp r_add (cB (dOp r_mul (cB (dTuple (paC dInt paNil))) (cB (pvC 3)))) (cB (pvC 6)))) (sw_true rfl rfl rfl rfl))
 (s_cons (s_ext 5 (cD (nLc rfl sc_Game___init__.nd (piB (cB (dCl c__negative hr (by decide) (paC (dCl c_transposed hr (by decide) (paC (dCl c__raised hr (by decide) (paC (pvC 2) paNil)) paNil)) paNil)))) (blk_by (own := [("row", 6)]) (by rfl)) (fun _ _ _ _ _ => (pg_name (i := 6) sc_Game___init__.nd rfl (by first | exact Or.inl rfl | exact Or.inr rfl))) (tgr_name 6) (fun _ _ _ _ _ => ptNil) (fun _ _ _ _ _ => (dOp r_add (cB (pvC 6)) (cB (dOp r_mul (cB (dTuple (paC dInt paNil))) (cB (pvC 4)))))))))
 (s_one (s_fldS 0 ["Game"] T.k_problem (dMk c_Problem hr (by decide) (paC (dCallT c_tuple (by rfl) T.n_tuple (by rfl) (pvB 5)) (paC (dOp r_mul (cB (dTuple (paC dInt paNil))) (cB (dOp r_add (cB (pvC 3)) (cB (pvC 4))))) paNil)))))))))))⟩
theorem sc_dot : FnScope ["first", "second", "a", "b"] ["first", "second"] (defScope s_dot) := ⟨rfl, rfl, rfl, by decide +kernel, rfl, by decide +kernel, by decide +kernel⟩
theorem ok_dot (T : Txt K mg) : Cal P w K mg base 1 "dot" (spD K mg [true, true] f_dot) :=
  calD 4 b_dot T.d_dot sc_dot rfl fun f cdv A outer s H E hr => have hu := hr.units; ⟨[.no, .no, .no, .no], rfl,
 (s_one (s_ret (dCallB (c_sum rfl) (by rfl) T.n_sum (by rfl) (cB (cD (nLc rfl sc_dot.nd (piZip (by rfl) T.n_zip (cB (pvC 0)) (cB (pvC 1))) (blk_by (own := [("a", 2), ("b", 3)]) (by rfl)) (fun _ _ _ _ _ => (pg_tup rfl (pgs_cons (pg_name (i := 2) sc_dot.nd rfl (by first | exact Or.inl rfl | exact Or.inr rfl)) (pgs_cons (pg_name (i := 3) sc_dot.nd rfl (by first | exact Or.inl rfl | exact Or.inr rfl)) pgs_nil)))) (tgr_tup (tgrs_cons (tgr_name 2) (tgrs_cons (tgr_name 3) tgrs_nil))) (fun _ _ _ _ _ => ptNil) (fun _ _ _ _ _ => (dOp r_mul (cB (pvC 2)) (cB (pvC 3))))))))))⟩
theorem sc_product : FnScope ["matrix", "vector", "row"] ["matrix", "vector"] (defScope s_product) := ⟨rfl, rfl, rfl, by decide +kernel, rfl, by decide +kernel, by decide +kernel⟩
theorem ok_product (T : Txt K mg) (c_dot : Cal P w K mg base 1 "dot" (spD K mg [true, true] f_dot)) : Cal P w K mg base 2 "product" (spD K mg [true, true] f_product) :=
  calD 3 b_product T.d_product sc_product rfl fun f cdv A outer s H E hr => have hu := hr.units; ⟨[.no, .no, .no], rfl,
 (s_one (s_ret (dCallT c_tuple (by rfl) T.n_tuple (by rfl) (cB (cD (nLc rfl sc_product.nd (piB (cB (pvC 0))) (blk_by (own := [("row", 2)]) (by rfl)) (fun _ _ _ _ _ => (pg_name (i := 2) sc_product.nd rfl (by first | exact Or.inl rfl | exact Or.inr rfl))) (tgr_name 2) (fun _ _ _ _ _ => ptNil) (fun _ _ _ _ _ => (dCl c_dot hr (by decide) (paC (pvC 2) (paC (pvC 1) paNil))))))))))⟩
theorem sc_ratio : FnScope ["upper", "lower", "common"] ["upper", "lower"] (defScope s_ratio) := ⟨rfl, rfl, rfl, by decide +kernel, rfl, by decide +kernel, by decide +kernel⟩
theorem ok_ratio (T : Txt K mg) : Cal P w K mg base 1 "ratio" (spD K mg [true, true] f_ratio) :=
  calD 3 b_ratio T.d_ratio sc_ratio rfl fun f cdv A outer s H E hr => have hu := hr.units; ⟨[.no, .no, .no], rfl,
 (s_cons (s_set (fl' := [.cl, .cl, .cl]) 2 (dCallG2 c_gcd (by rfl) T.g_gcd (cB (pvC 0)) (cB (pvC 1))) sc_ratio.nd)
 (s_cons (s_if (fl' := [.cl, .cl, .cl]) (tCmp r_lt (cB (pvC 1)) (cB dInt) (nomark _))
 (s_one (s_set (fl' := [.cl, .cl, .cl]) 2 (dNeg (cB (pvC 2))) sc_ratio.nd))
 s_nil)
 (s_one (s_ret (dTuple (paC (dOp r_div (cB (pvC 0)) (cB (pvC 2))) (paC (dOp r_div (cB (pvC 1)) (cB (pvC 2))) paNil)))))))⟩
theorem sc_Game_payoffs : FnScope ["self", "x", "y", "scale", "first", "second"] ["self", "x", "y"] (defScope s_Game_payoffs) := ⟨rfl, rfl, rfl, by decide +kernel, rfl, by decide +kernel, by decide +kernel⟩
theorem ok_Game_payoffs (T : Txt K mg) (c_dot : Cal P w K mg base 1 "dot" (spD K mg [true, true] f_dot)) (c_product : Cal P w K mg base 2 "product" (spD K mg [true, true] f_product)) (c_ratio : Cal P w K mg base 1 "ratio" (spD K mg [true, true] f_ratio)) : Met P w K mg base 3 "Game" "payoffs" (spD K mg [true, true, true] f_Game_payoffs) :=
  metD 6 b_Game_payoffs T.d_Game_payoffs sc_Game_payoffs rfl fun f cdv A outer s H E hr => have hu := hr.units; ⟨[.no, .no, .no, .no, .no, .no], rfl,
 (s_cons (s_set (fl' := [.cl, .cl, .cl, .cl, .cl, .cl]) 3 (dOp r_mul (cB (dIx (cB (pvC 1)) (cB dInt))) (cB (dIx (cB (pvC 2)) (cB dInt)))) sc_Game_payoffs.nd)
 (s_cons (s_set (fl' := [.cl, .cl, .cl, .cl, .cl, .cl]) 4 (dCl c_dot hr (by decide) (paC (dSl (cB (pvC 1)) (poAt (cB dInt)) poNo) (paC (dCl c_product hr (by decide) (paC (dFld (cs := ["Game"]) T.k_first (cB (pvC 0))) (paC (dSl (cB (pvC 2)) (poAt (cB dInt)) poNo) paNil))) paNil))) sc_Game_payoffs.nd)
 (s_cons (s_set (fl' := [.cl, .cl, .cl, .cl, .cl, .cl]) 5 (dCl c_dot hr (by decide) (paC (dSl (cB (pvC 1)) (poAt (cB dInt)) poNo) (paC (dCl c_product hr (by decide) (paC (dFld (cs := ["Game"]) T.k_second (cB (pvC 0))) (paC (dSl (cB (pvC 2)) (poAt (cB dInt)) poNo) paNil))) paNil))) sc_Game_payoffs.nd)
 (s_one (s_ret (dTuple (paC (dCl c_ratio hr (by decide) (paC (pvC 4) (paC (pvC 3) paNil))) (paC (dCl c_ratio hr (by decide) (paC (pvC 5) (paC (pvC 3) paNil))) paNil))))))))⟩
theorem sc_Problem_slacks : FnScope ["self", "x", "rest", "a", "row"] ["self", "x"] (defScope s_Problem_slacks) := ⟨rfl, rfl, rfl, by decide +kernel, rfl, by decide +kernel, by decide +kernel⟩
theorem ok_Problem_slacks (T : Txt K mg) (c_dot : Cal P w K mg base 1 "dot" (spD K mg [true, true] f_dot)) : Met P w K mg base 2 "Problem" "slacks" (spD K mg [true, true] f_Problem_slacks) :=
  metD 5 b_Problem_slacks T.d_Problem_slacks sc_Problem_slacks rfl fun f cdv A outer s H E hr => have hu := hr.units; ⟨[.no, .no, .no, .no, .no], rfl,
 (s_cons (s_set (fl' := [.cl, .cl, .cl, .cl, .cl]) 2 (dSl (cB (pvC 1)) (poAt (cB dInt)) poNo) sc_Problem_slacks.nd)
 (s_one (s_ret (dCallT c_tuple (by rfl) T.n_tuple (by rfl) (cB (cD (nLc rfl sc_Problem_slacks.nd (piZip (by rfl) T.n_zip (cB (dFld (cs := ["Problem"]) T.k_q (cB (pvC 0)))) (cB (dFld (cs := ["Problem"]) T.k_table (cB (pvC 0))))) (blk_by (own := [("a", 3), ("row", 4)]) (by rfl)) (fun _ _ _ _ _ => (pg_tup rfl (pgs_cons (pg_name (i := 3) sc_Problem_slacks.nd rfl (by first | exact Or.inl rfl | exact Or.inr rfl)) (pgs_cons (pg_name (i := 4) sc_Problem_slacks.nd rfl (by first | exact Or.inl rfl | exact Or.inr rfl)) pgs_nil)))) (tgr_tup (tgrs_cons (tgr_name 3) (tgrs_cons (tgr_name 4) tgrs_nil))) (fun _ _ _ _ _ => ptNil) (fun _ _ _ _ _ => (dOp r_add (cB (dOp r_mul (cB (pvC 3)) (cB (dIx (cB (pvC 1)) (cB dInt))))) (cB (dCl c_dot hr (by decide) (paC (pvC 4) (paC (pvC 2) paNil)))))))))))))⟩
theorem sc_Problem_fits : FnScope ["self", "x", "slacks", "item", "a", "b"] ["self", "x"] (defScope s_Problem_fits) := ⟨rfl, rfl, rfl, by decide +kernel, rfl, by decide +kernel, by decide +kernel⟩
theorem ok_Problem_fits (T : Txt K mg) (c_Problem_slacks : Met P w K mg base 2 "Problem" "slacks" (spD K mg [true, true] f_Problem_slacks)) : Met P w K mg base 3 "Problem" "fits" (spD K mg [true, true] f_Problem_fits) :=
  metD 6 b_Problem_fits T.d_Problem_fits sc_Problem_fits rfl fun f cdv A outer s H E hr => have hu := hr.units; ⟨[.no, .no, .no, .no, .no, .no], rfl,
 (s_cons (s_set (fl' := [.cl, .cl, .cl, .cl, .cl, .cl]) 2 (dMt c_Problem_slacks hr (by decide) (pvC 0) (paC (pvC 1) paNil)) sc_Problem_fits.nd)
 (s_cons (s_if (fl' := [.cl, .cl, .cl, .cl, .cl, .cl]) ((wOr (tTru (cB (dCallB (c_any rfl) (by rfl) T.n_any (by rfl) (cB (cD (nLc rfl sc_Problem_fits.nd (piB (cB (pvC 1))) (blk_by (own := [("item", 3)]) (by rfl)) (fun _ _ _ _ _ => (pg_name (i := 3) sc_Problem_fits.nd rfl (by first | exact Or.inl rfl | exact Or.inr rfl))) (tgr_name 3) (fun _ _ _ _ _ => ptNil) (fun _ _ _ _ _ => (dCmp r_lt (cB (pvC 3)) (cB dInt) (nomark _))))))))) (pw_or1 (tTru (cB (dCallB (c_any rfl) (by rfl) T.n_any (by rfl) (cB (cD (nLc rfl sc_Problem_fits.nd (piB (cB (pvC 2))) (blk_by (own := [("item", 3)]) (by rfl)) (fun _ _ _ _ _ => (pg_name (i := 3) sc_Problem_fits.nd rfl (by first | exact Or.inl rfl | exact Or.inr rfl))) (tgr_name 3) (fun _ _ _ _ _ => ptNil) (fun _ _ _ _ _ => (dCmp r_lt (cB (pvC 3)) (cB dInt) (nomark _)))))))))))).pt
 (s_one (s_ret dBl))
 s_nil)
 (s_one (s_ret (dCallB (c_all rfl) (by rfl) T.n_all (by rfl) (cB (cD (nLc rfl sc_Problem_fits.nd (piZip (by rfl) T.n_zip (cB (dSl (cB (pvC 1)) (poAt (cB dInt)) poNo)) (cB (pvC 2))) (blk_by (own := [("a", 4), ("b", 5)]) (by rfl)) (fun _ _ _ _ _ => (pg_tup rfl (pgs_cons (pg_name (i := 4) sc_Problem_fits.nd rfl (by first | exact Or.inl rfl | exact Or.inr rfl)) (pgs_cons (pg_name (i := 5) sc_Problem_fits.nd rfl (by first | exact Or.inl rfl | exact Or.inr rfl)) pgs_nil)))) (tgr_tup (tgrs_cons (tgr_name 4) (tgrs_cons (tgr_name 5) tgrs_nil))) (fun _ _ _ _ _ => ptNil) (fun _ _ _ _ _ => (dCmp (r_eq hu) (cB (dOp r_mul (cB (pvC 4)) (cB (pvC 5)))) (cB dInt) (nomark _)))))))))))⟩
theorem sc__law_columns : FnScope ["matrix", "row", "j"] ["matrix"] (defScope s__law_columns) := ⟨rfl, rfl, rfl, by decide +kernel, rfl, by decide +kernel, by decide +kernel⟩
theorem ok__law_columns (T : Txt K mg) : Cal P w K mg base 1 "_law_columns" (spD K mg [true] f__law_columns) :=
  calD 3 b__law_columns T.d__law_columns sc__law_columns rfl fun f cdv A outer s H E hr => have hu := hr.units; ⟨[.no, .no, .no], rfl,
 (s_one (s_ret (dCallT c_tuple (by rfl) T.n_tuple (by rfl) (cB (cD (nLc rfl sc__law_columns.nd (iB (piR1 (by rfl) T.n_range (cB (dCallB c_len (by rfl) T.n_len (by rfl) (cB (dIx (cB (pvC 0)) (cB dInt))))))) (blk_by (own := [("j", 2)]) (by rfl)) (fun _ _ _ _ _ => (pg_name (i := 2) sc__law_columns.nd rfl (by first | exact Or.inl rfl | exact Or.inr rfl))) (tgr_name 2) (fun _ _ _ _ _ => ptNil) (fun _ _ _ _ _ => (dCallT c_tuple (by rfl) T.n_tuple (by rfl) (cB (cD (nLc rfl sc__law_columns.nd (piB (cB (pvC 0))) (blk_by (own := [("row", 1)]) (by rfl)) (fun _ _ _ _ _ => (pg_name (i := 1) sc__law_columns.nd rfl (by first | exact Or.inl rfl | exact Or.inr rfl))) (tgr_name 1) (fun _ _ _ _ _ => ptNil) (fun _ _ _ _ _ => (dIx (cB (pvC 1)) (cB (pvC 2)))))))))))))))⟩
theorem sc__law_dot : FnScope ["first", "second", "a", "b"] ["first", "second"] (defScope s__law_dot) := ⟨rfl, rfl, rfl, by decide +kernel, rfl, by decide +kernel, by decide +kernel⟩
theorem ok__law_dot (T : Txt K mg) : Cal P w K mg base 1 "_law_dot" (spD K mg [true, true] f__law_dot) :=
  calD 4 b__law_dot T.d__law_dot sc__law_dot rfl fun f cdv A outer s H E hr => have hu := hr.units; ⟨[.no, .no, .no, .no], rfl,
 (s_one (s_ret (dCallB (c_sum rfl) (by rfl) T.n_sum (by rfl) (cB (cD (nLc rfl sc__law_dot.nd (piZip (by rfl) T.n_zip (cB (pvC 0)) (cB (pvC 1))) (blk_by (own := [("a", 2), ("b", 3)]) (by rfl)) (fun _ _ _ _ _ => (pg_tup rfl (pgs_cons (pg_name (i := 2) sc__law_dot.nd rfl (by first | exact Or.inl rfl | exact Or.inr rfl)) (pgs_cons (pg_name (i := 3) sc__law_dot.nd rfl (by first | exact Or.inl rfl | exact Or.inr rfl)) pgs_nil)))) (tgr_tup (tgrs_cons (tgr_name 2) (tgrs_cons (tgr_name 3) tgrs_nil))) (fun _ _ _ _ _ => ptNil) (fun _ _ _ _ _ => (dOp r_mul (cB (pvC 2)) (cB (pvC 3))))))))))⟩
theorem sc__law_is_best : FnScope ["weights", "sums", "most", "weight", "level"] ["weights", "sums"] (defScope s__law_is_best) := ⟨rfl, rfl, rfl, by decide +kernel, rfl, by decide +kernel, by decide +kernel⟩
theorem ok__law_is_best (T : Txt K mg) : Cal P w K mg base 1 "_law_is_best" (spD K mg [true, true] f__law_is_best) :=
  calD 5 b__law_is_best T.d__law_is_best sc__law_is_best rfl fun f cdv A outer s H E hr => have hu := hr.units; ⟨[.no, .no, .no, .no, .no], rfl,
 (s_cons (s_set (fl' := [.cl, .cl, .cl, .cl, .cl]) 2 (dCallB (c_max rfl) (by rfl) T.n_max (by rfl) (cB (pvC 1))) sc__law_is_best.nd)
 (s_one (s_ret (dCallB (c_all rfl) (by rfl) T.n_all (by rfl) (cB (cD (nLc rfl sc__law_is_best.nd (piZip (by rfl) T.n_zip (cB (pvC 0)) (cB (pvC 1))) (blk_by (own := [("weight", 3), ("level", 4)]) (by rfl)) (fun _ _ _ _ _ => (pg_tup rfl (pgs_cons (pg_name (i := 3) sc__law_is_best.nd rfl (by first | exact Or.inl rfl | exact Or.inr rfl)) (pgs_cons (pg_name (i := 4) sc__law_is_best.nd rfl (by first | exact Or.inl rfl | exact Or.inr rfl)) pgs_nil)))) (tgr_tup (tgrs_cons (tgr_name 3) (tgrs_cons (tgr_name 4) tgrs_nil))) (fun _ _ _ _ _ => ptNil) (fun _ _ _ _ _ => (dOr (dCmp r_le (cB (pvC 3)) (cB dInt) (nomark _)) (pe_one (dCmp (r_eq hu) (cB (pvC 4)) (cB (pvC 2)) (nomark _))))))))))))⟩
theorem sc__law_is_strategy : FnScope ["x"] ["x"] (defScope s__law_is_strategy) := ⟨rfl, rfl, rfl, by decide +kernel, rfl, by decide +kernel, by decide +kernel⟩
theorem ok__law_is_strategy (T : Txt K mg) : Cal P w K mg base 1 "_law_is_strategy" (spD K mg [true] f__law_is_strategy) :=
  calD 1 b__law_is_strategy T.d__law_is_strategy sc__law_is_strategy rfl fun f cdv A outer s H E hr => have hu := hr.units; ⟨[.no], rfl,
 (s_one (s_ret (dAnd (dCmp r_ge (cB (dIx (cB (pvC 0)) (cB dInt))) (cB dInt) (nomark _)) (dAnd (dCmp (r_eq hu) (cB (dIx (cB (pvC 0)) (cB dInt))) (cB (dCallB (c_sum rfl) (by rfl) T.n_sum (by rfl) (cB (dSl (cB (pvC 0)) (poAt (cB dInt)) poNo)))) (nomark _)) (pe_one (dCmp r_ge (cB (dCallB (c_min rfl) (by rfl) T.n_min (by rfl) (cB (dSl (cB (pvC 0)) (poAt (cB dInt)) poNo)))) (cB dInt) (nomark _)))))))⟩
theorem sc__law_is_equilibrium : FnScope ["first", "second", "x", "y", "row", "column"] ["first", "second", "x", "y"] (defScope s__law_is_equilibrium) := ⟨rfl, rfl, rfl, by decide +kernel, rfl, by decide +kernel, by decide +kernel⟩
theorem ok__law_is_equilibrium (T : Txt K mg) (c__law_columns : Cal P w K mg base 1 "_law_columns" (spD K mg [true] f__law_columns)) (c__law_dot : Cal P w K mg base 1 "_law_dot" (spD K mg [true, true] f__law_dot)) (c__law_is_best : Cal P w K mg base 1 "_law_is_best" (spD K mg [true, true] f__law_is_best)) (c__law_is_strategy : Cal P w K mg base 1 "_law_is_strategy" (spD K mg [true] f__law_is_strategy)) : Cal P w K mg base 2 "_law_is_equilibrium" (spD K mg [true, true, true, true] f__law_is_equilibrium) :=
  calD 6 b__law_is_equilibrium T.d__law_is_equilibrium sc__law_is_equilibrium rfl fun f cdv A outer s H E hr => have hu := hr.units; ⟨[.no, .no, .no, .no, .no, .no], rfl,
 (s_cons (s_if (fl' := [.cl, .cl, .cl, .cl, .cl, .cl]) ((wOr (tNot' (tTru (cB (dCl c__law_is_strategy hr (by decide) (paC (pvC 2) paNil))))) (pw_or1 (tNot' (tTru (cB (dCl c__law_is_strategy hr (by decide) (paC (pvC 3) paNil)))))))).pt
 (s_one (s_ret dBl))
 s_nil)
 (s_cons (s_if (fl' := [.cl, .cl, .cl, .cl, .cl, .cl]) (tNot' (tTru (cB (dCl c__law_is_best hr (by decide) (paC (dSl (cB (pvC 2)) (poAt (cB dInt)) poNo) (paC (cD (nLc rfl sc__law_is_equilibrium.nd (piB (cB (pvC 0))) (blk_by (own := [("row", 4)]) (by rfl)) (fun _ _ _ _ _ => (pg_name (i := 4) sc__law_is_equilibrium.nd rfl (by first | exact Or.inl rfl | exact Or.inr rfl))) (tgr_name 4) (fun _ _ _ _ _ => ptNil) (fun _ _ _ _ _ => (dCl c__law_dot hr (by decide) (paC (pvC 4) (paC (dSl (cB (pvC 3)) (poAt (cB dInt)) poNo) paNil)))))) paNil))))))
 (s_one (s_ret dBl))
 s_nil)
 (s_one (s_ret (dCl c__law_is_best hr (by decide) (paC (dSl (cB (pvC 3)) (poAt (cB dInt)) poNo) (paC (cD (nLc rfl sc__law_is_equilibrium.nd (piB (cB (dCl c__law_columns hr (by decide) (paC (pvC 1) paNil)))) (blk_by (own := [("column", 5)]) (by rfl)) (fun _ _ _ _ _ => (pg_name (i := 5) sc__law_is_equilibrium.nd rfl (by first | exact Or.inl rfl | exact Or.inr rfl))) (tgr_name 5) (fun _ _ _ _ _ => ptNil) (fun _ _ _ _ _ => (dCl c__law_dot hr (by decide) (paC (pvC 5) (paC (dSl (cB (pvC 2)) (poAt (cB dInt)) poNo) paNil)))))) paNil)))))))⟩
theorem sc__law_divisor : FnScope ["a", "b", "k"] ["a", "b"] (defScope s__law_divisor) := ⟨rfl, rfl, rfl, by decide +kernel, rfl, by decide +kernel, by decide +kernel⟩
theorem ok__law_divisor (T : Txt K mg) : Cal P w K mg base 1 "_law_divisor" (spD K mg [true, true] f__law_divisor) :=
  calD 3 b__law_divisor T.d__law_divisor sc__law_divisor rfl fun f cdv A outer s H E hr => have hu := hr.units; ⟨[.no, .no, .no], rfl,
 (s_cons (s_for (fl := [.cl, .cl, .cl]) (flb := [.cl, .cl, .cl]) PassesOwn.never rfl (piR1 (by rfl) T.n_range (cB dInt)) (pg_name (i := 2) sc__law_divisor.nd rfl (by first | exact Or.inl rfl | exact Or.inr rfl)) (tgr_name 2)
 (s_cons (s_if (fl' := [.cl, .cl, .cl]) (tCmp (r_eq hu) (cB (pvC 1)) (cB dInt) (nomark _))
 (s_one s_break)
 s_nil)
 (s_one (s_par (fl' := [.cl, .cl, .cl]) 0 1 (paC (pvC 1) (paC (dOp r_mod (cB (dCallT c_int (by rfl) T.n_int (by rfl) (cB (pvC 0)))) (cB (pvC 1))) paNil)) rfl sc__law_divisor.nd rfl))))
 (s_one (s_ret (pvC 0))))⟩
theorem sc__law_ratio : FnScope ["upper", "lower", "common"] ["upper", "lower"] (defScope s__law_ratio) := ⟨rfl, rfl, rfl, by decide +kernel, rfl, by decide +kernel, by decide +kernel⟩
theorem ok__law_ratio (T : Txt K mg) (c__law_divisor : Cal P w K mg base 1 "_law_divisor" (spD K mg [true, true] f__law_divisor)) : Cal P w K mg base 2 "_law_ratio" (spD K mg [true, true] f__law_ratio) :=
  calD 3 b__law_ratio T.d__law_ratio sc__law_ratio rfl fun f cdv A outer s H E hr => have hu := hr.units; ⟨[.no, .no, .no], rfl,
 (s_cons (s_set (fl' := [.cl, .cl, .cl]) 2 (dCl c__law_divisor hr (by decide) (paC (dCallB c_abs (by rfl) T.n_abs (by rfl) (cB (pvC 0))) (paC (pvC 1) paNil))) sc__law_ratio.nd)
 (s_one (s_ret (dTuple (paC (dOp r_div (cB (pvC 0)) (cB (pvC 2))) (paC (dOp r_div (cB (pvC 1)) (cB (pvC 2))) paNil))))))⟩
theorem sc__law_mean : FnScope ["matrix", "x", "y", "upper", "i"] ["matrix", "x", "y"] (defScope s__law_mean) := ⟨rfl, rfl, rfl, by decide +kernel, rfl, by decide +kernel, by decide +kernel⟩
theorem ok__law_mean (T : Txt K mg) (c__law_dot : Cal P w K mg base 1 "_law_dot" (spD K mg [true, true] f__law_dot)) (c__law_ratio : Cal P w K mg base 2 "_law_ratio" (spD K mg [true, true] f__law_ratio)) : Cal P w K mg base 3 "_law_mean" (spD K mg [true, true, true] f__law_mean) :=
  calD 5 b__law_mean T.d__law_mean sc__law_mean rfl fun f cdv A outer s H E hr => have hu := hr.units; ⟨[.no, .no, .no, .no, .no], rfl,
 (s_cons (s_set (fl' := [.cl, .cl, .cl, .cl, .cl]) 3 (dCallB (c_sum rfl) (by rfl) T.n_sum (by rfl) (cB (cD (nLc rfl sc__law_mean.nd (iB (piR1 (by rfl) T.n_range (cB (dCallB c_len (by rfl) T.n_len (by rfl) (cB (pvC 0)))))) (blk_by (own := [("i", 4)]) (by rfl)) (fun _ _ _ _ _ => (pg_name (i := 4) sc__law_mean.nd rfl (by first | exact Or.inl rfl | exact Or.inr rfl))) (tgr_name 4) (fun _ _ _ _ _ => ptNil) (fun _ _ _ _ _ => (dOp r_mul (cB (dIx (cB (pvC 1)) (cB (dOp r_add (cB dInt) (cB (pvC 4)))))) (cB (dCl c__law_dot hr (by decide) (paC (dIx (cB (pvC 0)) (cB (pvC 4))) (paC (dSl (cB (pvC 2)) (poAt (cB dInt)) poNo) paNil)))))))))) sc__law_mean.nd)
 (s_one (s_ret (dCl c__law_ratio hr (by decide) (paC (pvC 3) (paC (dOp r_mul (cB (dIx (cB (pvC 1)) (cB dInt))) (cB (dIx (cB (pvC 2)) (cB dInt)))) paNil))))))⟩
theorem sc__law_primitive : FnScope ["vector", "common", "item"] ["vector"] (defScope s__law_primitive) := ⟨rfl, rfl, rfl, by decide +kernel, rfl, by decide +kernel, by decide +kernel⟩
theorem ok__law_primitive (T : Txt K mg) (c__law_divisor : Cal P w K mg base 1 "_law_divisor" (spD K mg [true, true] f__law_divisor)) : Cal P w K mg base 2 "_law_primitive" (spD K mg [true] f__law_primitive) :=
  calD 3 b__law_primitive T.d__law_primitive sc__law_primitive rfl fun f cdv A outer s H E hr => have hu := hr.units; ⟨[.no, .no, .no], rfl,
 (s_cons (s_set (fl' := [.cl, .cl, .cl]) 1 dInt sc__law_primitive.nd)
 (s_cons (s_for (fl := [.cl, .cl, .cl]) (flb := [.cl, .cl, .cl]) PassesOwn.never rfl (piC (pvC 0)) (pg_name (i := 2) sc__law_primitive.nd rfl (by first | exact Or.inl rfl | exact Or.inr rfl)) (tgr_name 2)
 (s_one (s_set (fl' := [.cl, .cl, .cl]) 1 (dIf (tCmp r_gt (cB (pvC 1)) (cB dInt) (nomark _)) (dCl c__law_divisor hr (by decide) (paC (dCallB c_abs (by rfl) T.n_abs (by rfl) (cB (pvC 2))) (paC (pvC 1) paNil))) (dCallB c_abs (by rfl) T.n_abs (by rfl) (cB (pvC 2)))) sc__law_primitive.nd)))
 (s_cons (s_if (fl' := [.cl, .cl, .cl]) (tCmp (r_eq hu) (cB (pvC 1)) (cB dInt) (nomark _))
 (s_one (s_ret (dCallT c_tuple (by rfl) T.n_tuple (by rfl) (cB (pvC 0)))))
 s_nil)
 (s_one (s_ret (dCallT c_tuple (by rfl) T.n_tuple (by rfl) (cB (cD (nLc rfl sc__law_primitive.nd (piB (cB (pvC 0))) (blk_by (own := [("item", 2)]) (by rfl)) (fun _ _ _ _ _ => (pg_name (i := 2) sc__law_primitive.nd rfl (by first | exact Or.inl rfl | exact Or.inr rfl))) (tgr_name 2) (fun _ _ _ _ _ => ptNil) (fun _ _ _ _ _ => (dOp r_div (cB (pvC 2)) (cB (pvC 1)))))))))))))⟩
theorem sc__law_raised : FnScope ["matrix", "low", "row", "a"] ["matrix"] (defScope s__law_raised) := ⟨rfl, rfl, rfl, by decide +kernel, rfl, by decide +kernel, by decide +kernel⟩
theorem ok__law_raised (T : Txt K mg) : Cal P w K mg base 1 "_law_raised" (spD K mg [true] f__law_raised) :=
  calD 4 b__law_raised T.d__law_raised sc__law_raised rfl fun f cdv A outer s H E hr => have hu := hr.units; ⟨[.no, .no, .no, .no], rfl,
 (s_cons (s_set (fl' := [.cl, .cl, .cl, .cl]) 1 (dCallB (c_min rfl) (by rfl) T.n_min (by rfl) (cB (cD (nLc rfl sc__law_raised.nd (piB (cB (pvC 0))) (blk_by (own := [("row", 2)]) (by rfl)) (fun _ _ _ _ _ => (pg_name (i := 2) sc__law_raised.nd rfl (by first | exact Or.inl rfl | exact Or.inr rfl))) (tgr_name 2) (fun _ _ _ _ _ => ptNil) (fun _ _ _ _ _ => (dCallB (c_min rfl) (by rfl) T.n_min (by rfl) (cB (pvC 2)))))))) sc__law_raised.nd)
 (s_one (s_ret (dCallT c_tuple (by rfl) T.n_tuple (by rfl) (cB (cD (nLc rfl sc__law_raised.nd (piB (cB (pvC 0))) (blk_by (own := [("row", 2)]) (by rfl)) (fun _ _ _ _ _ => (pg_name (i := 2) sc__law_raised.nd rfl (by first | exact Or.inl rfl | exact Or.inr rfl))) (tgr_name 2) (fun _ _ _ _ _ => ptNil) (fun _ _ _ _ _ => (dCallT c_tuple (by rfl) T.n_tuple (by rfl) (cB (cD (nLc rfl sc__law_raised.nd (piB (cB (pvC 2))) (blk_by (own := [("a", 3)]) (by rfl)) (fun _ _ _ _ _ => (pg_name (i := 3) sc__law_raised.nd rfl (by first | exact Or.inl rfl | exact Or.inr rfl))) (tgr_name 3) (fun _ _ _ _ _ => ptNil) (fun _ _ _ _ _ => (dOp r_add (cB (dOp r_sub (cB (pvC 3)) (cB (pvC 1)))) (cB dInt)))))))))))))))⟩
theorem sc__law_point : FnScope ["first", "second", "x", "y", "a", "row", "b", "column", "item"] ["first", "second", "x", "y"] (defScope s__law_point) := ⟨rfl, rfl, rfl, by decide +kernel, rfl, by decide +kernel, by decide +kernel⟩
theorem ok__law_point (T : Txt K mg) (c__law_columns : Cal P w K mg base 1 "_law_columns" (spD K mg [true] f__law_columns)) (c__law_dot : Cal P w K mg base 1 "_law_dot" (spD K mg [true, true] f__law_dot)) (c__law_primitive : Cal P w K mg base 2 "_law_primitive" (spD K mg [true] f__law_primitive)) (c__law_raised : Cal P w K mg base 1 "_law_raised" (spD K mg [true] f__law_raised)) : Cal P w K mg base 3 "_law_point" (spD K mg [true, true, true, true] f__law_point) :=
  calD 9 b__law_point T.d__law_point sc__law_point rfl fun f cdv A outer s H E hr => have hu := hr.units; ⟨[.no, .no, .no, .no, .no, .no, .no, .no, .no], rfl,
 (s_cons (s_set (fl' := [.cl, .cl, .cl, .cl, .cl, .cl, .cl, .cl, .cl]) 4 (dCallB (c_max rfl) (by rfl) T.n_max (by rfl) (cB (cD (nLc rfl sc__law_point.nd (piB (cB (dCl c__law_raised hr (by decide) (paC (pvC 0) paNil)))) (blk_by (own := [("row", 5)]) (by rfl)) (fun _ _ _ _ _ => (pg_name (i := 5) sc__law_point.nd rfl (by first | exact Or.inl rfl | exact Or.inr rfl))) (tgr_name 5) (fun _ _ _ _ _ => ptNil) (fun _ _ _ _ _ => (dCl c__law_dot hr (by decide) (paC (pvC 5) (paC (dSl (cB (pvC 3)) (poAt (cB dInt)) poNo) paNil)))))))) sc__law_point.nd)
 (s_cons (s_set (fl' := [.cl, .cl, .cl, .cl, .cl, .cl, .cl, .cl, .cl]) 6 (dCallB (c_max rfl) (by rfl) T.n_max (by rfl) (cB (cD (nLc rfl sc__law_point.nd (piB (cB (dCl c__law_columns hr (by decide) (paC (dCl c__law_raised hr (by decide) (paC (pvC 1) paNil)) paNil)))) (blk_by (own := [("column", 7)]) (by rfl)) (fun _ _ _ _ _ => (pg_name (i := 7) sc__law_point.nd rfl (by first | exact Or.inl rfl | exact Or.inr rfl))) (tgr_name 7) (fun _ _ _ _ _ => ptNil) (fun _ _ _ _ _ => (dCl c__law_dot hr (by decide) (paC (pvC 7) (paC (dSl (cB (pvC 2)) (poAt (cB dInt)) poNo) paNil)))))))) sc__law_point.nd)
 (s_one (s_ret (dCl c__law_primitive hr (by decide) (paC (dOp r_add (cB (dOp r_add (cB (dTuple (paC (dOp r_mul (cB (pvC 4)) (cB (pvC 6))) paNil))) (cB (dCallT c_tuple (by rfl) T.n_tuple (by rfl) (cB (cD (nLc rfl sc__law_point.nd (piB (cB (dSl (cB (pvC 2)) (poAt (cB dInt)) poNo))) (blk_by (own := [("item", 8)]) (by rfl)) (fun _ _ _ _ _ => (pg_name (i := 8) sc__law_point.nd rfl (by first | exact Or.inl rfl | exact Or.inr rfl))) (tgr_name 8) (fun _ _ _ _ _ => ptNil) (fun _ _ _ _ _ => (dOp r_mul (cB (pvC 4)) (cB (pvC 8))))))))))) (cB (dCallT c_tuple (by rfl) T.n_tuple (by rfl) (cB (cD (nLc rfl sc__law_point.nd (piB (cB (dSl (cB (pvC 3)) (poAt (cB dInt)) poNo))) (blk_by (own := [("item", 8)]) (by rfl)) (fun _ _ _ _ _ => (pg_name (i := 8) sc__law_point.nd rfl (by first | exact Or.inl rfl | exact Or.inr rfl))) (tgr_name 8) (fun _ _ _ _ _ => ptNil) (fun _ _ _ _ _ => (dOp r_mul (cB (pvC 6)) (cB (pvC 8)))))))))) paNil))))))⟩
theorem sc__law_same : FnScope ["found", "due", "a", "b"] ["found", "due"] (defScope s__law_same) := ⟨rfl, rfl, rfl, by decide +kernel, rfl, by decide +kernel, by decide +kernel⟩
theorem okr__law_same (T : Txt K mg) : ∀ n, Cal P w K mg base (n + 0) "_law_same" (spD K mg [true, true] (r__law_same n))
  | 0 => cal0 T.d__law_same
  | m + 1 => by
    have c__law_same := okr__law_same T m
    rw [show m + 1 + 0 = m + 0 + 1 by omega]
    exact calD 4 (b__law_same (r__law_same m)) T.d__law_same sc__law_same rfl fun f cdv A outer s H E hr => have hu := hr.units; ⟨[.no, .no, .no, .no], rfl,
 (s_cons (s_if (fl' := [.cl, .cl, .cl, .cl]) (tTru (cB (pIsI .tuple (by rfl) (by rfl) T.n_isinstance (by rfl) T.n_tuple (cB (pvC 1)))))
 (s_cons (s_if (fl' := [.cl, .cl, .cl, .cl]) ((wOr (tNot' (tTru (cB (pIsI .tuple (by rfl) (by rfl) T.n_isinstance (by rfl) T.n_tuple (cB (pvC 0)))))) (pw_or1 (tCmp (r_ne hu) (cB (dCallB c_len (by rfl) T.n_len (by rfl) (cB (pvC 0)))) (cB (dCallB c_len (by rfl) T.n_len (by rfl) (cB (pvC 1)))) (nomark _))))).pt
 (s_one (s_ret dBl))
 s_nil)
 (s_one (s_ret (dCallB (c_all rfl) (by rfl) T.n_all (by rfl) (cB (cD (nLc rfl sc__law_same.nd (piZip (by rfl) T.n_zip (cB (pvC 0)) (cB (pvC 1))) (blk_by (own := [("a", 2), ("b", 3)]) (by rfl)) (fun _ _ _ _ _ => (pg_tup rfl (pgs_cons (pg_name (i := 2) sc__law_same.nd rfl (by first | exact Or.inl rfl | exact Or.inr rfl)) (pgs_cons (pg_name (i := 3) sc__law_same.nd rfl (by first | exact Or.inl rfl | exact Or.inr rfl)) pgs_nil)))) (tgr_tup (tgrs_cons (tgr_name 2) (tgrs_cons (tgr_name 3) tgrs_nil))) (fun _ _ _ _ _ => ptNil) (fun _ _ _ _ _ => (dCl c__law_same hr (by omega) (paC (pvC 2) (paC (pvC 3) paNil)))))))))))
 s_nil)
 (s_cons (s_if (fl' := [.cl, .cl, .cl, .cl]) ((wOr (tCmp r_is (cB (pvC 1)) (cB dNon) (nomark _)) (pw_or1 (tTru (cB (pIsI .bool (by rfl) (by rfl) T.n_isinstance (by rfl) T.n_bool (cB (pvC 1)))))))).pt
 (s_one (s_ret (dIf (tCmp r_is (cB (pvC 1)) (cB dNon) (nomark _)) (dCmp r_is (cB (pvC 0)) (cB dNon) (nomark _)) (dAnd (pIsI .bool (by rfl) (by rfl) T.n_isinstance (by rfl) T.n_bool (cB (pvC 0))) (pe_one (dCmp (r_eq hu) (cB (pvC 0)) (cB (pvC 1)) (nomark _)))))))
 s_nil)
 (s_cons (s_if (fl' := [.cl, .cl, .cl, .cl]) (tTru (cB (pIsI .str (by rfl) (by rfl) T.n_isinstance (by rfl) T.n_str (cB (pvC 1)))))
 (s_one (s_ret (dAnd (pIsI .str (by rfl) (by rfl) T.n_isinstance (by rfl) T.n_str (cB (pvC 0))) (pe_one (dCmp (r_eq hu) (cB (pvC 0)) (cB (pvC 1)) (nomark _))))))
 s_nil)
 (s_one (s_ret (dAnd (pIsI .int (by rfl) (by rfl) T.n_isinstance (by rfl) T.n_int (cB (pvC 0))) (dAnd (dNot (pIsI .bool (by rfl) (by rfl) T.n_isinstance (by rfl) T.n_bool (cB (pvC 0)))) (pe_one (dCmp (r_eq hu) (cB (pvC 0)) (cB (pvC 1)) (nomark _))))))))))⟩
theorem ok__law_same (T : Txt K mg) : Cal P w K mg base 4 "_law_same" (spD K mg [true, true] f__law_same) := okr__law_same T 4
theorem sc_primitive : FnScope ["vector", "common", "item"] ["vector"] (defScope s_primitive) := ⟨rfl, rfl, rfl, by decide +kernel, rfl, by decide +kernel, by decide +kernel⟩
theorem ok_primitive (T : Txt K mg) : Cal P w K mg base 1 "primitive" (spD K mg [true] f_primitive) :=
  calD 3 b_primitive T.d_primitive sc_primitive rfl fun f cdv A outer s H E hr => have hu := hr.units; ⟨[.no, .no, .no], rfl,
 (s_cons (s_set (fl' := [.cl, .cl, .cl]) 1 dInt sc_primitive.nd)
 (s_cons (s_for (fl := [.cl, .cl, .cl]) (flb := [.cl, .cl, .cl]) PassesOwn.never rfl (piC (pvC 0)) (pg_name (i := 2) sc_primitive.nd rfl (by first | exact Or.inl rfl | exact Or.inr rfl)) (tgr_name 2)
 (s_one (s_set (fl' := [.cl, .cl, .cl]) 1 (dCallG2 c_gcd (by rfl) T.g_gcd (cB (pvC 1)) (cB (pvC 2))) sc_primitive.nd)))
 (s_cons (s_if (fl' := [.cl, .cl, .cl]) (tCmp r_le (cB (pvC 1)) (cB dInt) (nomark _))
 (s_one (s_ret (pvC 0)))
 s_nil)
 (s_one (s_ret (dCallT c_tuple (by rfl) T.n_tuple (by rfl) (cB (cD (nLc rfl sc_primitive.nd (piB (cB (pvC 0))) (blk_by (own := [("item", 2)]) (by rfl)) (fun _ _ _ _ _ => (pg_name (i := 2) sc_primitive.nd rfl (by first | exact Or.inl rfl | exact Or.inr rfl))) (tgr_name 2) (fun _ _ _ _ _ => ptNil) (fun _ _ _ _ _ => (dOp r_div (cB (pvC 2)) (cB (pvC 1)))))))))))))⟩
theorem sc_point : FnScope ["scale", "numbers"] ["scale", "numbers"] (defScope s_point) := ⟨rfl, rfl, rfl, by decide +kernel, rfl, by decide +kernel, by decide +kernel⟩
theorem ok_point (T : Txt K mg) (c_primitive : Cal P w K mg base 1 "primitive" (spD K mg [true] f_primitive)) : Cal P w K mg base 2 "point" (spD K mg [true, true] f_point) :=
  calD 2 b_point T.d_point sc_point rfl fun f cdv A outer s H E hr => have hu := hr.units; ⟨[.no, .no], rfl,
 (s_one (s_ret (dCl c_primitive hr (by decide) (paC (dOp r_add (cB (dTuple (paC (pvC 0) paNil))) (cB (dCallT c_tuple (by rfl) T.n_tuple (by rfl) (cB (pvC 1))))) paNil))))⟩
theorem sc__strategy : FnScope ["weights"] ["weights"] (defScope s__strategy) := ⟨rfl, rfl, rfl, by decide +kernel, rfl, by decide +kernel, by decide +kernel⟩
theorem ok__strategy (T : Txt K mg) (c_point : Cal P w K mg base 2 "point" (spD K mg [true, true] f_point)) : Cal P w K mg base 3 "_strategy" (spD K mg [true] f__strategy) :=
  calD 1 b__strategy T.d__strategy sc__strategy rfl fun f cdv A outer s H E hr => have hu := hr.units; ⟨[.no], rfl,
 (s_one (s_ret (dCl c_point hr (by decide) (paC (dCallB (c_sum rfl) (by rfl) T.n_sum (by rfl) (cB (pvC 0))) (paC (pvC 0) paNil)))))⟩
theorem sc_from_point : FnScope ["game", "z", "height", "x"] ["game", "z"] (defScope s_from_point) := ⟨rfl, rfl, rfl, by decide +kernel, rfl, by decide +kernel, by decide +kernel⟩
theorem ok_from_point (T : Txt K mg) (c__strategy : Cal P w K mg base 3 "_strategy" (spD K mg [true] f__strategy)) : Cal P w K mg base 4 "from_point" (spD K mg [true, true] f_from_point) :=
  calD 4 b_from_point T.d_from_point sc_from_point rfl fun f cdv A outer s H E hr => have hu := hr.units; ⟨[.no, .no, .no, .no], rfl,
 (s_cons (s_set (fl' := [.cl, .cl, .cl, .cl]) 2 (dCallB c_len (by rfl) T.n_len (by rfl) (cB (dFld (cs := ["Game"]) T.k_first (cB (pvC 0))))) sc_from_point.nd)
 (s_cons (s_set (fl' := [.cl, .cl, .cl, .cl]) 3 (dSl (cB (pvC 1)) (poAt (cB dInt)) (poAt (cB (dOp r_add (cB dInt) (cB (pvC 2)))))) sc_from_point.nd)
 (s_cons (s_if (fl' := [.cl, .cl, .cl, .cl]) (tCmp (r_eq hu) (cB (dCallB (c_sum rfl) (by rfl) T.n_sum (by rfl) (cB (pvC 3)))) (cB dInt) (nomark _))
 (s_one (s_ret dNon))
 s_nil)
 (s_one (s_ret (dTuple (paC (dCl c__strategy hr (by decide) (paC (pvC 3) paNil)) (paC (dCl c__strategy hr (by decide) (paC (dSl (cB (pvC 1)) (poAt (cB (dOp r_add (cB dInt) (cB (pvC 2))))) poNo) paNil)) paNil))))))))⟩
theorem sc__is_best : FnScope ["weights", "sums", "most", "weight", "item"] ["weights", "sums"] (defScope s__is_best) := ⟨rfl, rfl, rfl, by decide +kernel, rfl, by decide +kernel, by decide +kernel⟩
theorem ok__is_best (T : Txt K mg) : Cal P w K mg base 1 "_is_best" (spD K mg [true, true] f__is_best) :=
  calD 5 b__is_best T.d__is_best sc__is_best rfl fun f cdv A outer s H E hr => have hu := hr.units; ⟨[.no, .no, .no, .no, .no], rfl,
 (s_cons (s_set (fl' := [.cl, .cl, .cl, .cl, .cl]) 2 (dCallB (c_max rfl) (by rfl) T.n_max (by rfl) (cB (pvC 1))) sc__is_best.nd)
 (s_one (s_ret (dCallB (c_all rfl) (by rfl) T.n_all (by rfl) (cB (cD (nLc rfl sc__is_best.nd (piZip (by rfl) T.n_zip (cB (pvC 0)) (cB (pvC 1))) (blk_by (own := [("weight", 3), ("item", 4)]) (by rfl)) (fun _ _ _ _ _ => (pg_tup rfl (pgs_cons (pg_name (i := 3) sc__is_best.nd rfl (by first | exact Or.inl rfl | exact Or.inr rfl)) (pgs_cons (pg_name (i := 4) sc__is_best.nd rfl (by first | exact Or.inl rfl | exact Or.inr rfl)) pgs_nil)))) (tgr_tup (tgrs_cons (tgr_name 3) (tgrs_cons (tgr_name 4) tgrs_nil))) (fun _ _ _ _ _ => ptNil) (fun _ _ _ _ _ => (dOr (dCmp (r_eq hu) (cB (pvC 3)) (cB dInt) (nomark _)) (pe_one (dCmp (r_eq hu) (cB (pvC 4)) (cB (pvC 2)) (nomark _))))))))))))⟩
theorem sc__is_strategy : FnScope ["x", "item"] ["x"] (defScope s__is_strategy) := ⟨rfl, rfl, rfl, by decide +kernel, rfl, by decide +kernel, by decide +kernel⟩
theorem ok__is_strategy (T : Txt K mg) : Cal P w K mg base 1 "_is_strategy" (spD K mg [true] f__is_strategy) :=
  calD 2 b__is_strategy T.d__is_strategy sc__is_strategy rfl fun f cdv A outer s H E hr => have hu := hr.units; ⟨[.no, .no], rfl,
 (s_one (s_ret (dAnd (dCmp r_ge (cB (dIx (cB (pvC 0)) (cB dInt))) (cB dInt) (nomark _)) (dAnd (dCmp (r_eq hu) (cB (dIx (cB (pvC 0)) (cB dInt))) (cB (dCallB (c_sum rfl) (by rfl) T.n_sum (by rfl) (cB (dSl (cB (pvC 0)) (poAt (cB dInt)) poNo)))) (nomark _)) (pe_one (dCallB (c_all rfl) (by rfl) T.n_all (by rfl) (cB (cD (nLc rfl sc__is_strategy.nd (piB (cB (pvC 0))) (blk_by (own := [("item", 1)]) (by rfl)) (fun _ _ _ _ _ => (pg_name (i := 1) sc__is_strategy.nd rfl (by first | exact Or.inl rfl | exact Or.inr rfl))) (tgr_name 1) (fun _ _ _ _ _ => ptNil) (fun _ _ _ _ _ => (dCmp r_ge (cB (pvC 1)) (cB dInt) (nomark _))))))))))))⟩
theorem sc_is_equilibrium : FnScope ["game", "x", "y"] ["game", "x", "y"] (defScope s_is_equilibrium) := ⟨rfl, rfl, rfl, by decide +kernel, rfl, by decide +kernel, by decide +kernel⟩
theorem ok_is_equilibrium (T : Txt K mg) (c__is_best : Cal P w K mg base 1 "_is_best" (spD K mg [true, true] f__is_best)) (c__is_strategy : Cal P w K mg base 1 "_is_strategy" (spD K mg [true] f__is_strategy)) (c_product : Cal P w K mg base 2 "product" (spD K mg [true, true] f_product)) (c_transposed : Cal P w K mg base 1 "transposed" (spD K mg [true] f_transposed)) : Cal P w K mg base 3 "is_equilibrium" (spD K mg [true, true, true] f_is_equilibrium) :=
  calD 3 b_is_equilibrium T.d_is_equilibrium sc_is_equilibrium rfl fun f cdv A outer s H E hr => have hu := hr.units; ⟨[.no, .no, .no], rfl,
 (s_cons (s_if (fl' := [.cl, .cl, .cl]) ((wOr (tNot' (tTru (cB (dCl c__is_strategy hr (by decide) (paC (pvC 1) paNil))))) (pw_or1 (tNot' (tTru (cB (dCl c__is_strategy hr (by decide) (paC (pvC 2) paNil)))))))).pt
 (s_one (s_ret dBl))
 s_nil)
 (s_cons (s_if (fl' := [.cl, .cl, .cl]) (tNot' (tTru (cB (dCl c__is_best hr (by decide) (paC (dSl (cB (pvC 1)) (poAt (cB dInt)) poNo) (paC (dCl c_product hr (by decide) (paC (dFld (cs := ["Game"]) T.k_first (cB (pvC 0))) (paC (dSl (cB (pvC 2)) (poAt (cB dInt)) poNo) paNil))) paNil))))))
 (s_one (s_ret dBl))
 s_nil)
 (s_one (s_ret (dCl c__is_best hr (by decide) (paC (dSl (cB (pvC 2)) (poAt (cB dInt)) poNo) (paC (dCl c_product hr (by decide) (paC (dCl c_transposed hr (by decide) (paC (dFld (cs := ["Game"]) T.k_second (cB (pvC 0))) paNil)) (paC (dSl (cB (pvC 1)) (poAt (cB dInt)) poNo) paNil))) paNil)))))))⟩
theorem sc_to_point : FnScope ["game", "x", "y", "height", "sums", "first", "second", "numbers", "item"] ["game", "x", "y"] (defScope s_to_point) := ⟨rfl, rfl, rfl, by decide +kernel, rfl, by decide +kernel, by decide +kernel⟩
theorem ok_to_point (T : Txt K mg) (c_point : Cal P w K mg base 2 "point" (spD K mg [true, true] f_point)) (c_product : Cal P w K mg base 2 "product" (spD K mg [true, true] f_product)) : Cal P w K mg base 3 "to_point" (spD K mg [true, true, true] f_to_point) :=
  calD 9 b_to_point T.d_to_point sc_to_point rfl fun f cdv A outer s H E hr => have hu := hr.units; ⟨[.no, .no, .no, .no, .no, .no, .no, .no, .no], rfl,
 (s_cons (s_set (fl' := [.cl, .cl, .cl, .cl, .cl, .cl, .cl, .cl, .cl]) 3 (dCallB c_len (by rfl) T.n_len (by rfl) (cB (dFld (cs := ["Game"]) T.k_first (cB (pvC 0))))) sc_to_point.nd)
 (s_cons (s_set (fl' := [.cl, .cl, .cl, .cl, .cl, .cl, .cl, .cl, .cl]) 4 (dCl c_product hr (by decide) (paC (dFld (cs := ["Problem"]) T.k_table (cB (dFld (cs := ["Game"]) T.k_problem (cB (pvC 0))))) (paC (dOp r_add (cB (dSl (cB (pvC 1)) (poAt (cB dInt)) poNo)) (cB (dSl (cB (pvC 2)) (poAt (cB dInt)) poNo))) paNil))) sc_to_point.nd)
 (s_cons (s_set (fl' := [.cl, .cl, .cl, .cl, .cl, .cl, .cl, .cl, .cl]) 5 (dNeg (cB (dCallB (c_min rfl) (by rfl) T.n_min (by rfl) (cB (dSl (cB (pvC 4)) poNo (poAt (cB (pvC 3)))))))) sc_to_point.nd)
 (s_cons (s_set (fl' := [.cl, .cl, .cl, .cl, .cl, .cl, .cl, .cl, .cl]) 6 (dNeg (cB (dCallB (c_min rfl) (by rfl) T.n_min (by rfl) (cB (dSl (cB (pvC 4)) (poAt (cB (pvC 3))) poNo))))) sc_to_point.nd)
 (s_cons (s_set (fl' := [.cl, .cl, .cl, .cl, .cl, .cl, .cl, .cl, .cl]) 7 (dOp r_add (cB (cD (nLc rfl sc_to_point.nd (piB (cB (dSl (cB (pvC 1)) (poAt (cB dInt)) poNo))) (blk_by (own := [("item", 8)]) (by rfl)) (fun _ _ _ _ _ => (pg_name (i := 8) sc_to_point.nd rfl (by first | exact Or.inl rfl | exact Or.inr rfl))) (tgr_name 8) (fun _ _ _ _ _ => ptNil) (fun _ _ _ _ _ => (dOp r_mul (cB (pvC 5)) (cB (pvC 8))))))) (cB (cD (nLc rfl sc_to_point.nd (piB (cB (dSl (cB (pvC 2)) (poAt (cB dInt)) poNo))) (blk_by (own := [("item", 8)]) (by rfl)) (fun _ _ _ _ _ => (pg_name (i := 8) sc_to_point.nd rfl (by first | exact Or.inl rfl | exact Or.inr rfl))) (tgr_name 8) (fun _ _ _ _ _ => ptNil) (fun _ _ _ _ _ => (dOp r_mul (cB (pvC 6)) (cB (pvC 8)))))))) sc_to_point.nd)
 (s_one (s_ret (dCl c_point hr (by decide) (paC (dOp r_mul (cB (pvC 5)) (cB (pvC 6))) (paC (dCallT c_tuple (by rfl) T.n_tuple (by rfl) (cB (pvC 7))) paNil))))))))))⟩
theorem sc__law_led : FnScope ["game", "first", "second", "x", "y", "due", "z"] ["game", "first", "second", "x", "y"] (defScope s__law_led) := ⟨rfl, rfl, rfl, by decide +kernel, rfl, by decide +kernel, by decide +kernel⟩
theorem ok__law_led (T : Txt K mg) (c_Game_payoffs : Met P w K mg base 3 "Game" "payoffs" (spD K mg [true, true, true] f_Game_payoffs)) (c_Problem_fits : Met P w K mg base 3 "Problem" "fits" (spD K mg [true, true] f_Problem_fits)) (c__law_is_equilibrium : Cal P w K mg base 2 "_law_is_equilibrium" (spD K mg [true, true, true, true] f__law_is_equilibrium)) (c__law_mean : Cal P w K mg base 3 "_law_mean" (spD K mg [true, true, true] f__law_mean)) (c__law_point : Cal P w K mg base 3 "_law_point" (spD K mg [true, true, true, true] f__law_point)) (c__law_primitive : Cal P w K mg base 2 "_law_primitive" (spD K mg [true] f__law_primitive)) (c__law_same : Cal P w K mg base 4 "_law_same" (spD K mg [true, true] f__law_same)) (c_from_point : Cal P w K mg base 4 "from_point" (spD K mg [true, true] f_from_point)) (c_is_equilibrium : Cal P w K mg base 3 "is_equilibrium" (spD K mg [true, true, true] f_is_equilibrium)) (c_to_point : Cal P w K mg base 3 "to_point" (spD K mg [true, true, true] f_to_point)) : Cal P w K mg base 5 "_law_led" (spD K mg [true, true, true, true, true] f__law_led) :=
  calD 7 b__law_led T.d__law_led sc__law_led rfl fun f cdv A outer s H E hr => have hu := hr.units; ⟨[.no, .no, .no, .no, .no, .no, .no], rfl,
 (s_cons (s_set (fl' := [.cl, .cl, .cl, .cl, .cl, .cl, .cl]) 5 (dCl c__law_is_equilibrium hr (by decide) (paC (pvC 1) (paC (pvC 2) (paC (pvC 3) (paC (pvC 4) paNil))))) sc__law_led.nd)
 (s_cons (s_if (fl' := [.cl, .cl, .cl, .cl, .cl, .cl, .cl]) (tNot' (tTru (cB (dCl c__law_same hr (by decide) (paC (dCl c_is_equilibrium hr (by decide) (paC (pvC 0) (paC (pvC 3) (paC (pvC 4) paNil)))) (paC (pvC 5) paNil))))))
 (s_one (s_ret dBl))
 s_nil)
 (s_cons (s_if (fl' := [.cl, .cl, .cl, .cl, .cl, .cl, .cl]) (tNot' (tTru (cB (dCl c__law_same hr (by decide) (paC (dMt c_Game_payoffs hr (by decide) (pvC 0) (paC (pvC 3) (paC (pvC 4) paNil))) (paC (dTuple (paC (dCl c__law_mean hr (by decide) (paC (pvC 1) (paC (pvC 3) (paC (pvC 4) paNil)))) (paC (dCl c__law_mean hr (by decide) (paC (pvC 2) (paC (pvC 3) (paC (pvC 4) paNil)))) paNil))) paNil))))))
 (s_one (s_ret dBl))
 s_nil)
 (s_cons (s_set (fl' := [.cl, .cl, .cl, .cl, .cl, .cl, .cl]) 6 (dCl c__law_point hr (by decide) (paC (pvC 1) (paC (pvC 2) (paC (pvC 3) (paC (pvC 4) paNil))))) sc__law_led.nd)
 (s_cons (s_if (fl' := [.cl, .cl, .cl, .cl, .cl, .cl, .cl]) ((wOr (tNot' (tTru (cB (dCl c__law_same hr (by decide) (paC (dCl c_to_point hr (by decide) (paC (pvC 0) (paC (pvC 3) (paC (pvC 4) paNil)))) (paC (pvC 6) paNil)))))) (pw_or1 (tNot' (tTru (cB (dCl c__law_same hr (by decide) (paC (dMt c_Problem_fits hr (by decide) (dFld (cs := ["Game"]) T.k_problem (cB (pvC 0))) (paC (pvC 6) paNil)) (paC (pvC 5) paNil))))))))).pt
 (s_one (s_ret dBl))
 s_nil)
 (s_one (s_ret (dOr (dNot (pvC 5)) (pe_one (dCl c__law_same hr (by decide) (paC (dCl c_from_point hr (by decide) (paC (pvC 0) (paC (pvC 6) paNil))) (paC (dTuple (paC (dCl c__law_primitive hr (by decide) (paC (pvC 3) paNil)) (paC (dCl c__law_primitive hr (by decide) (paC (pvC 4) paNil)) paNil))) paNil))))))))))))⟩
theorem sc__law_asked : FnScope ["game", "first", "second", "xs", "ys", "x", "y"] ["game", "first", "second", "xs", "ys"] (defScope s__law_asked) := ⟨rfl, rfl, rfl, by decide +kernel, rfl, by decide +kernel, by decide +kernel⟩
theorem ok__law_asked (T : Txt K mg) (c__law_led : Cal P w K mg base 5 "_law_led" (spD K mg [true, true, true, true, true] f__law_led)) : Cal P w K mg base 6 "_law_asked" (spD K mg [true, true, true, true, true] f__law_asked) :=
  calD 7 b__law_asked T.d__law_asked sc__law_asked rfl fun f cdv A outer s H E hr => have hu := hr.units; ⟨[.no, .no, .no, .no, .no, .no, .no], rfl,
 (s_cons (s_for (fl := [.cl, .cl, .cl, .cl, .cl, .cl, .cl]) (flb := [.cl, .cl, .cl, .cl, .cl, .cl, .cl]) PassesOwn.never rfl (piC (pvC 3)) (pg_name (i := 5) sc__law_asked.nd rfl (by first | exact Or.inl rfl | exact Or.inr rfl)) (tgr_name 5)
 (s_one (s_for (fl := [.cl, .cl, .cl, .cl, .cl, .cl, .cl]) (flb := [.cl, .cl, .cl, .cl, .cl, .cl, .cl]) PassesOwn.never rfl (piC (pvC 4)) (pg_name (i := 6) sc__law_asked.nd rfl (by first | exact Or.inl rfl | exact Or.inr rfl)) (tgr_name 6)
 (s_one (s_if (fl' := [.cl, .cl, .cl, .cl, .cl, .cl, .cl]) (tNot' (tTru (cB (dCl c__law_led hr (by decide) (paC (pvC 0) (paC (pvC 1) (paC (pvC 2) (paC (pvC 5) (paC (pvC 6) paNil)))))))))
 (s_one (s_ret dBl))
 s_nil)))))
 (s_one (s_ret dBl)))⟩
theorem sc__law_cell : FnScope ["script", "k"] ["script", "k"] (defScope s__law_cell) := ⟨rfl, rfl, rfl, by decide +kernel, rfl, by decide +kernel, by decide +kernel⟩
theorem ok__law_cell (T : Txt K mg) : Cal P w K mg base 1 "_law_cell" (spD K mg [true, true] f__law_cell) :=
  calD 2 b__law_cell T.d__law_cell sc__law_cell rfl fun f cdv A outer s H E hr => have hu := hr.units; ⟨[.no, .no], rfl,
 (s_cons (s_if (fl' := [.cl, .cl]) (tCmp r_lt (cB (pvC 1)) (cB (dCallB c_len (by rfl) T.n_len (by rfl) (cB (pvC 0)))) (nomark _))
 (s_one (s_ret (dCallT c_int (by rfl) T.n_int (by rfl) (cB (dIx (cB (pvC 0)) (cB (pvC 1)))))))
 s_nil)
 (s_one (s_ret (dOp r_mul (cB (pvC 1)) (cB dInt)))))⟩
theorem sc__law_numbers : FnScope ["cell", "count", "base", "numbers", "rest", "k", "mixed"] ["cell", "count", "base"] (defScope s__law_numbers) := ⟨rfl, rfl, rfl, by decide +kernel, rfl, by decide +kernel, by decide +kernel⟩
theorem ok__law_numbers (T : Txt K mg) : Cal P w K mg base 1 "_law_numbers" (spN K mg [true, true, true] f__law_numbers) :=
  calN 7 b__law_numbers T.d__law_numbers sc__law_numbers rfl fun f cdv A outer s H E hr => have hu := hr.units; ⟨[.no, .no, .no, .no, .no, .no, .no], rfl,
 (s_cons (s_setN (fl' := [.cl, .cl, .cl, .ow, .cl, .cl, .cl]) 3 (nListD paNil) sc__law_numbers.nd)
 (s_cons (s_if (fl' := [.cl, .cl, .cl, .ow, .cl, .cl, .cl]) (tCmp r_ge (cB (pvC 0)) (cB (dOp r_pow (cB dInt) (cB dInt))) (nomark _))
 (s_cons (s_set (fl' := [.cl, .cl, .cl, .ow, .cl, .cl, .cl]) 4 (dOp r_sub (cB (pvC 0)) (cB (dOp r_pow (cB dInt) (cB dInt)))) sc__law_numbers.nd)
 (s_cons (s_for (fl := [.cl, .cl, .cl, .ow, .cl, .cl, .cl]) (flb := [.cl, .cl, .cl, .ow, .cl, .cl, .cl]) PassesOwn.never rfl (piR1 (by rfl) T.n_range (cB (pvC 1))) (pg_name (i := 5) sc__law_numbers.nd rfl (by first | exact Or.inl rfl | exact Or.inr rfl)) (tgr_name 5)
 (s_cons (s_app 3 (dOp r_mod (cB (dCallT c_int (by rfl) T.n_int (by rfl) (cB (pvC 4)))) (cB (pvC 2))))
 (s_one (s_set (fl' := [.cl, .cl, .cl, .ow, .cl, .cl, .cl]) 4 (dOp r_div (cB (pvC 4)) (cB (pvC 2))) sc__law_numbers.nd))))
 (s_one (s_retL 3))))
 s_nil)
 (s_cons (s_for (fl := [.cl, .cl, .cl, .ow, .cl, .cl, .cl]) (flb := [.cl, .cl, .cl, .ow, .cl, .cl, .cl]) PassesOwn.never rfl (piR1 (by rfl) T.n_range (cB (pvC 1))) (pg_name (i := 5) sc__law_numbers.nd rfl (by first | exact Or.inl rfl | exact Or.inr rfl)) (tgr_name 5)
 (s_cons (s_set (fl' := [.cl, .cl, .cl, .ow, .cl, .cl, .cl]) 6 (dOp r_mod (cB (dCallT c_int (by rfl) T.n_int (by rfl) (cB (dOp r_add (cB (dOp r_add (cB (dOp r_mul (cB (pvC 0)) (cB dInt))) (cB (dOp r_mul (cB (pvC 5)) (cB dInt))))) (cB dInt))))) (cB dInt)) sc__law_numbers.nd)
 (s_cons (s_set (fl' := [.cl, .cl, .cl, .ow, .cl, .cl, .cl]) 6 (dOp r_mod (cB (dCallT c_int (by rfl) T.n_int (by rfl) (cB (dOp r_add (cB (dOp r_add (cB (dOp r_mul (cB (pvC 6)) (cB dInt))) (cB (dOp r_div (cB (pvC 6)) (cB dInt))))) (cB (dOp r_mul (cB (pvC 5)) (cB dInt))))))) (cB dInt)) sc__law_numbers.nd)
 (s_one (s_app 3 (dOp r_mod (cB (dOp r_div (cB (pvC 6)) (cB dInt))) (cB (pvC 2))))))))
 (s_one (s_retL 3)))))⟩
theorem sc__law_planted : FnScope ["rows", "lows", "own", "other", "made", "k", "level", "a"] ["rows", "lows", "own", "other"] (defScope s__law_planted) := ⟨rfl, rfl, rfl, by decide +kernel, rfl, by decide +kernel, by decide +kernel⟩
theorem ok__law_planted (T : Txt K mg) (c__law_dot : Cal P w K mg base 1 "_law_dot" (spD K mg [true, true] f__law_dot)) : Cal P w K mg base 2 "_law_planted" (sp2 K mg [true, true, true, true] f__law_planted) :=
  cal2 8 b__law_planted T.d__law_planted sc__law_planted rfl fun f cdv A outer s H E hr => have hu := hr.units; ⟨[.no, .no, .no, .no, .no, .no, .no, .no], rfl,
 (s_cons (s_set2 (fl' := [.cl, .cl, .cl, .cl, .o2, .cl, .cl, .cl]) 4 n2Nil sc__law_planted.nd)
 (s_cons (s_for (fl := [.cl, .cl, .cl, .cl, .o2, .cl, .cl, .cl]) (flb := [.cl, .cl, .cl, .cl, .o2, .cl, .cl, .cl]) PassesOwn.never rfl (piR1 (by rfl) T.n_range (cB (dCallB c_len (by rfl) T.n_len (by rfl) (cB (pvC 0))))) (pg_name (i := 5) sc__law_planted.nd rfl (by first | exact Or.inl rfl | exact Or.inr rfl)) (tgr_name 5)
 (s_cons (s_set (fl' := [.cl, .cl, .cl, .cl, .o2, .cl, .cl, .cl]) 6 (dCl c__law_dot hr (by decide) (paC (dIx (cB (pvC 0)) (cB (pvC 5))) (paC (dSl (cB (pvC 3)) (poAt (cB dInt)) poNo) paNil))) sc__law_planted.nd)
 (s_cons (s_if (fl' := [.cl, .cl, .cl, .cl, .o2, .cl, .cl, .cl]) (tCmp (r_eq hu) (cB (dIx (cB (pvC 2)) (cB (dOp r_add (cB dInt) (cB (pvC 5)))))) (cB dInt) (nomark _))
 (s_one (s_set (fl' := [.cl, .cl, .cl, .cl, .o2, .cl, .cl, .cl]) 6 (dOp r_add (cB (pvC 6)) (cB (dIx (cB (pvC 1)) (cB (pvC 5))))) sc__law_planted.nd))
 s_nil)
 (s_one (s_app2 4 (nLc rfl sc__law_planted.nd (piB (cB (dIx (cB (pvC 0)) (cB (pvC 5))))) (blk_by (own := [("a", 7)]) (by rfl)) (fun _ _ _ _ _ => (pg_name (i := 7) sc__law_planted.nd rfl (by first | exact Or.inl rfl | exact Or.inr rfl))) (tgr_name 7) (fun _ _ _ _ _ => ptNil) (fun _ _ _ _ _ => (dOp r_sub (cB (dOp r_mul (cB (dIx (cB (pvC 3)) (cB dInt))) (cB (pvC 7)))) (cB (pvC 6))))))))))
 (s_one (s_retL2 4))))⟩
theorem sc__law_rows : FnScope ["cell", "count", "width", "base", "numbers", "a", "k"] ["cell", "count", "width", "base"] (defScope s__law_rows) := ⟨rfl, rfl, rfl, by decide +kernel, rfl, by decide +kernel, by decide +kernel⟩
theorem ok__law_rows (T : Txt K mg) (c__law_numbers : Cal P w K mg base 1 "_law_numbers" (spN K mg [true, true, true] f__law_numbers)) : Cal P w K mg base 2 "_law_rows" (sp2 K mg [true, true, true, true] f__law_rows) :=
  cal2 7 b__law_rows T.d__law_rows sc__law_rows rfl fun f cdv A outer s H E hr => have hu := hr.units; ⟨[.no, .no, .no, .no, .no, .no, .no], rfl,
 (s_cons (s_set (fl' := [.cl, .cl, .cl, .cl, .cl, .cl, .cl]) 4 (cD (nLc rfl sc__law_rows.nd (piB (cB (cD (nCl c__law_numbers hr (by decide) (paC (pvC 0) (paC (dOp r_mul (cB (pvC 1)) (cB (pvC 2))) (paC (pvC 3) paNil))))))) (blk_by (own := [("a", 5)]) (by rfl)) (fun _ _ _ _ _ => (pg_name (i := 5) sc__law_rows.nd rfl (by first | exact Or.inl rfl | exact Or.inr rfl))) (tgr_name 5) (fun _ _ _ _ _ => ptNil) (fun _ _ _ _ _ => (dOp r_sub (cB (pvC 5)) (cB (dOp r_div (cB (pvC 3)) (cB dInt))))))) sc__law_rows.nd)
 (s_one (s_ret2 (n2Lc rfl sc__law_rows.nd (iB (piR1 (by rfl) T.n_range (cB (pvC 1)))) (blk_by (own := [("k", 6)]) (by rfl)) (fun _ _ _ _ _ => (pg_name (i := 6) sc__law_rows.nd rfl (by first | exact Or.inl rfl | exact Or.inr rfl))) (tgr_name 6) (fun _ _ _ _ _ => (nSl (cB (pvC 4)) (poAt (cB (dOp r_mul (cB (pvC 6)) (cB (pvC 2))))) (poAt (cB (dOp r_add (cB (dOp r_mul (cB (pvC 6)) (cB (pvC 2)))) (cB (pvC 2)))))))))))⟩
theorem sc__law_strategy : FnScope ["cell", "size", "base", "weights", "a"] ["cell", "size", "base"] (defScope s__law_strategy) := ⟨rfl, rfl, rfl, by decide +kernel, rfl, by decide +kernel, by decide +kernel⟩
theorem ok__law_strategy (T : Txt K mg) (c__law_numbers : Cal P w K mg base 1 "_law_numbers" (spN K mg [true, true, true] f__law_numbers)) : Cal P w K mg base 2 "_law_strategy" (spD K mg [true, true, true] f__law_strategy) :=
  calD 5 b__law_strategy T.d__law_strategy sc__law_strategy rfl fun f cdv A outer s H E hr => have hu := hr.units; ⟨[.no, .no, .no, .no, .no], rfl,
 (s_cons (s_setLc (fl' := [.cl, .cl, .cl, .ow, .cl]) 3 rfl sc__law_strategy.nd (piB (cB (cD (nCl c__law_numbers hr (by decide) (paC (pvC 0) (paC (pvC 1) (paC (pvC 2) paNil))))))) (blk_by (own := [("a", 4)]) (by rfl)) (fun _ _ _ _ _ => (pg_name (i := 4) sc__law_strategy.nd rfl (by first | exact Or.inl rfl | exact Or.inr rfl))) (tgr_name 4) (fun _ _ _ _ _ => ptNil) (fun _ _ _ _ _ => (dCallB2 (c_max2 rfl) (by rfl) T.n_max (by rfl) (cB dInt) (cB (dOp r_sub (cB (pvC 4)) (cB (dOp r_div (cB (pvC 2)) (cB dInt))))))) (sw_true rfl rfl rfl rfl))
 (s_cons (s_if (fl' := [.cl, .cl, .cl, .ow, .cl]) (tCmp (r_eq hu) (cB (dCallB (c_sum rfl) (by rfl) T.n_sum (by rfl) (pvB 3))) (cB dInt) (nomark _))
 (s_one (s_setI 3 dInt (cB (dOp r_mod (cB (dCallT c_int (by rfl) T.n_int (by rfl) (cB (pvC 0)))) (cB (pvC 1))))))
 s_nil)
 (s_one (s_ret (dOp r_add (cB (dTuple (paC (dCallB (c_sum rfl) (by rfl) T.n_sum (by rfl) (pvB 3)) paNil))) (cB (dCallT c_tuple (by rfl) T.n_tuple (by rfl) (pvB 3))))))))⟩
theorem sc__law_built : FnScope ["script", "at", "kind", "m", "n", "base", "x", "y", "rows", "columns", "mode", "lows", "places", "change", "row"] ["script", "at"] (defScope s__law_built) := ⟨rfl, rfl, rfl, by decide +kernel, rfl, by decide +kernel, by decide +kernel⟩
theorem ok__law_built (T : Txt K mg) (c__law_cell : Cal P w K mg base 1 "_law_cell" (spD K mg [true, true] f__law_cell)) (c__law_columns : Cal P w K mg base 1 "_law_columns" (spD K mg [true] f__law_columns)) (c__law_numbers : Cal P w K mg base 1 "_law_numbers" (spN K mg [true, true, true] f__law_numbers)) (c__law_planted : Cal P w K mg base 2 "_law_planted" (sp2 K mg [true, true, true, true] f__law_planted)) (c__law_rows : Cal P w K mg base 2 "_law_rows" (sp2 K mg [true, true, true, true] f__law_rows)) (c__law_strategy : Cal P w K mg base 2 "_law_strategy" (spD K mg [true, true, true] f__law_strategy)) : Cal P w K mg base 3 "_law_built" (spD K mg [true, true] f__law_built) :=
  calD 15 b__law_built T.d__law_built sc__law_built rfl fun f cdv A outer s H E hr => have hu := hr.units; ⟨[.no, .no, .no, .no, .no, .no, .no, .no, .no, .no, .no, .no, .no, .no, .no], rfl,
 (s_cons (s_set (fl' := [.cl, .cl, .cl, .cl, .cl, .cl, .cl, .cl, .cl, .cl, .cl, .cl, .cl, .cl, .cl]) 2 (dCallB c_abs (by rfl) T.n_abs (by rfl) (cB (dCl c__law_cell hr (by decide) (paC (pvC 0) (paC (pvC 1) paNil))))) sc__law_built.nd)
 (s_cons (s_set (fl' := [.cl, .cl, .cl, .cl, .cl, .cl, .cl, .cl, .cl, .cl, .cl, .cl, .cl, .cl, .cl]) 3 (dOp r_add (cB dInt) (cB (dOp r_mod (cB (pvC 2)) (cB dInt)))) sc__law_built.nd)
 (s_cons (s_set (fl' := [.cl, .cl, .cl, .cl, .cl, .cl, .cl, .cl, .cl, .cl, .cl, .cl, .cl, .cl, .cl]) 4 (dOp r_add (cB dInt) (cB (dOp r_mod (cB (dOp r_div (cB (pvC 2)) (cB dInt))) (cB dInt)))) sc__law_built.nd)
 (s_cons (s_set (fl' := [.cl, .cl, .cl, .cl, .cl, .cl, .cl, .cl, .cl, .cl, .cl, .cl, .cl, .cl, .cl]) 5 (dIx (cB (cD (nListD (paC dInt (paC dInt (paC dInt (paC dInt paNil))))))) (cB (dOp r_mod (cB (dOp r_div (cB (pvC 2)) (cB dInt))) (cB dInt)))) sc__law_built.nd)
 (s_cons (s_set (fl' := [.cl, .cl, .cl, .cl, .cl, .cl, .cl, .cl, .cl, .cl, .cl, .cl, .cl, .cl, .cl]) 6 (dCl c__law_strategy hr (by decide) (paC (dCl c__law_cell hr (by decide) (paC (pvC 0) (paC (dOp r_add (cB (pvC 1)) (cB dInt)) paNil))) (paC (pvC 3) (paC (dOp r_add (cB dInt) (cB (dOp r_mul (cB dInt) (cB (dOp r_mod (cB (dOp r_div (cB (pvC 2)) (cB dInt))) (cB dInt)))))) paNil)))) sc__law_built.nd)
 (s_cons (s_set (fl' := [.cl, .cl, .cl, .cl, .cl, .cl, .cl, .cl, .cl, .cl, .cl, .cl, .cl, .cl, .cl]) 7 (dCl c__law_strategy hr (by decide) (paC (dCl c__law_cell hr (by decide) (paC (pvC 0) (paC (dOp r_add (cB (pvC 1)) (cB dInt)) paNil))) (paC (pvC 4) (paC (dOp r_add (cB dInt) (cB (dOp r_mul (cB dInt) (cB (dOp r_mod (cB (dOp r_div (cB (pvC 2)) (cB dInt))) (cB dInt)))))) paNil)))) sc__law_built.nd)
 (s_cons (s_set2 (fl' := [.cl, .cl, .cl, .cl, .cl, .cl, .cl, .cl, .o2, .cl, .cl, .cl, .cl, .cl, .cl]) 8 (n2Cl c__law_rows hr (by decide) (paC (dCl c__law_cell hr (by decide) (paC (pvC 0) (paC (dOp r_add (cB (pvC 1)) (cB dInt)) paNil))) (paC (pvC 3) (paC (pvC 4) (paC (pvC 5) paNil))))) sc__law_built.nd)
 (s_cons (s_set2 (fl' := [.cl, .cl, .cl, .cl, .cl, .cl, .cl, .cl, .o2, .o2, .cl, .cl, .cl, .cl, .cl]) 9 (n2Cl c__law_rows hr (by decide) (paC (dCl c__law_cell hr (by decide) (paC (pvC 0) (paC (dOp r_add (cB (pvC 1)) (cB dInt)) paNil))) (paC (pvC 4) (paC (pvC 3) (paC (pvC 5) paNil))))) sc__law_built.nd)
 (s_cons (s_set (fl' := [.cl, .cl, .cl, .cl, .cl, .cl, .cl, .cl, .o2, .o2, .cl, .cl, .cl, .cl, .cl]) 10 (dOp r_mod (cB (dCallB c_abs (by rfl) T.n_abs (by rfl) (cB (dCl c__law_cell hr (by decide) (paC (pvC 0) (paC (dOp r_add (cB (pvC 1)) (cB dInt)) paNil)))))) (cB dInt)) sc__law_built.nd)
 (s_cons (s_if (fl' := [.cl, .cl, .cl, .cl, .cl, .cl, .cl, .cl, .o2, .o2, .cl, .cl, .cl, .cl, .cl]) (tCmp r_gt (cB (pvC 10)) (cB dInt) (nomark _))
 (s_cons (s_set (fl' := [.cl, .cl, .cl, .cl, .cl, .cl, .cl, .cl, .o2, .o2, .cl, .cl, .cl, .cl, .cl]) 11 (cD (nCl c__law_numbers hr (by decide) (paC (dCl c__law_cell hr (by decide) (paC (pvC 0) (paC (dOp r_add (cB (pvC 1)) (cB dInt)) paNil))) (paC (dOp r_add (cB (pvC 3)) (cB (pvC 4))) (paC dInt paNil))))) sc__law_built.nd)
 (s_cons (s_pre (fl1 := [.cl, .cl, .cl, .cl, .cl, .cl, .cl, .cl, .cl, .o2, .cl, .cl, .cl, .cl, .cl]) (s_set2 (fl' := [.cl, .cl, .cl, .cl, .cl, .cl, .cl, .cl, .o2, .o2, .cl, .cl, .cl, .cl, .cl]) 8 (n2Cl c__law_planted hr (by decide) (paC (pvC 8) (paC (dSl (cB (pvC 11)) poNo (poAt (cB (pvC 3)))) (paC (pvC 6) (paC (pvC 7) paNil))))) sc__law_built.nd))
 (s_one (s_pre (fl1 := [.cl, .cl, .cl, .cl, .cl, .cl, .cl, .cl, .o2, .cl, .cl, .cl, .cl, .cl, .cl]) (s_set2 (fl' := [.cl, .cl, .cl, .cl, .cl, .cl, .cl, .cl, .o2, .o2, .cl, .cl, .cl, .cl, .cl]) 9 (n2Cl c__law_planted hr (by decide) (paC (pvC 9) (paC (dSl (cB (pvC 11)) (poAt (cB (pvC 3))) poNo) (paC (pvC 7) (paC (pvC 6) paNil))))) sc__law_built.nd)))))
 s_nil)
 (s_cons (s_if (fl' := [.cl, .cl, .cl, .cl, .cl, .cl, .cl, .cl, .o2, .o2, .cl, .cl, .cl, .cl, .cl]) (tChain' r_le r_le (cB dInt) (cB (pvC 10)) (cB dInt))
 (s_cons (s_set (fl' := [.cl, .cl, .cl, .cl, .cl, .cl, .cl, .cl, .o2, .o2, .cl, .cl, .cl, .cl, .cl]) 12 (cD (nCl c__law_numbers hr (by decide) (paC (dCl c__law_cell hr (by decide) (paC (pvC 0) (paC (dOp r_add (cB (pvC 1)) (cB dInt)) paNil))) (paC dInt (paC dInt paNil))))) sc__law_built.nd)
 (s_cons (s_set (fl' := [.cl, .cl, .cl, .cl, .cl, .cl, .cl, .cl, .o2, .o2, .cl, .cl, .cl, .cl, .cl]) 13 (dIx (cB (cD (nListD (paC dInt (paC dInt (paC (dNeg (cB dInt)) paNil)))))) (cB (dOp r_sub (cB (pvC 10)) (cB dInt)))) sc__law_built.nd)
 (s_one (s_if (fl' := [.cl, .cl, .cl, .cl, .cl, .cl, .cl, .cl, .o2, .o2, .cl, .cl, .cl, .cl, .cl]) (tCmp (r_eq hu) (cB (dOp r_mod (cB (dIx (cB (pvC 12)) (cB dInt))) (cB dInt))) (cB dInt) (nomark _))
 (s_one (s_setII 8 (dOp r_add (cB (dIx (dIx2 8 (cB (dOp r_mod (cB (dIx (cB (pvC 12)) (cB dInt))) (cB (pvC 3))))) (cB (dOp r_mod (cB (dIx (cB (pvC 12)) (cB dInt))) (cB (pvC 4)))))) (cB (pvC 13))) (cB (dOp r_mod (cB (dIx (cB (pvC 12)) (cB dInt))) (cB (pvC 3)))) (cB (dOp r_mod (cB (dIx (cB (pvC 12)) (cB dInt))) (cB (pvC 4))))))
 (s_one (s_setII 9 (dOp r_add (cB (dIx (dIx2 9 (cB (dOp r_mod (cB (dIx (cB (pvC 12)) (cB dInt))) (cB (pvC 4))))) (cB (dOp r_mod (cB (dIx (cB (pvC 12)) (cB dInt))) (cB (pvC 3)))))) (cB (pvC 13))) (cB (dOp r_mod (cB (dIx (cB (pvC 12)) (cB dInt))) (cB (pvC 4)))) (cB (dOp r_mod (cB (dIx (cB (pvC 12)) (cB dInt))) (cB (pvC 3))))))))))
 s_nil)
 (s_one (s_pre (fl1 := [.cl, .cl, .cl, .cl, .cl, .cl, .cl, .cl, .cl, .cl, .cl, .cl, .cl, .cl, .cl]) (s_ret (dTuple (paC (dCallT c_tuple (by rfl) T.n_tuple (by rfl) (cB (cD (nLc rfl sc__law_built.nd (piB (cB (pvC 8))) (blk_by (own := [("row", 14)]) (by rfl)) (fun _ _ _ _ _ => (pg_name (i := 14) sc__law_built.nd rfl (by first | exact Or.inl rfl | exact Or.inr rfl))) (tgr_name 14) (fun _ _ _ _ _ => ptNil) (fun _ _ _ _ _ => (dCallT c_tuple (by rfl) T.n_tuple (by rfl) (cB (pvC 14)))))))) (paC (dCl c__law_columns hr (by decide) (paC (pvC 9) paNil)) (paC (pvC 6) (paC (pvC 7) paNil)))))))))))))))))))⟩
theorem sc__law_refused : FnScope ["game", "first", "second", "xs", "ys", "x", "y"] ["game", "first", "second", "xs", "ys"] (defScope s__law_refused) := ⟨rfl, rfl, rfl, by decide +kernel, rfl, by decide +kernel, by decide +kernel⟩
theorem ok__law_refused (T : Txt K mg) (c__law_is_equilibrium : Cal P w K mg base 2 "_law_is_equilibrium" (spD K mg [true, true, true, true] f__law_is_equilibrium)) (c__law_same : Cal P w K mg base 4 "_law_same" (spD K mg [true, true] f__law_same)) (c_is_equilibrium : Cal P w K mg base 3 "is_equilibrium" (spD K mg [true, true, true] f_is_equilibrium)) : Cal P w K mg base 5 "_law_refused" (spD K mg [true, true, true, true, true] f__law_refused) :=
  calD 7 b__law_refused T.d__law_refused sc__law_refused rfl fun f cdv A outer s H E hr => have hu := hr.units; ⟨[.no, .no, .no, .no, .no, .no, .no], rfl,
 (s_cons (s_for (fl := [.cl, .cl, .cl, .cl, .cl, .cl, .cl]) (flb := [.cl, .cl, .cl, .cl, .cl, .cl, .cl]) PassesOwn.never rfl (piC (pvC 3)) (pg_name (i := 5) sc__law_refused.nd rfl (by first | exact Or.inl rfl | exact Or.inr rfl)) (tgr_name 5)
 (s_one (s_if (fl' := [.cl, .cl, .cl, .cl, .cl, .cl, .cl]) (tNot' (tTru (cB (dCl c__law_same hr (by decide) (paC (dCl c_is_equilibrium hr (by decide) (paC (pvC 0) (paC (pvC 5) (paC (dIx (cB (pvC 4)) (cB dInt)) paNil)))) (paC (dCl c__law_is_equilibrium hr (by decide) (paC (pvC 1) (paC (pvC 2) (paC (pvC 5) (paC (dIx (cB (pvC 4)) (cB dInt)) paNil))))) paNil))))))
 (s_one (s_ret dBl))
 s_nil)))
 (s_cons (s_for (fl := [.cl, .cl, .cl, .cl, .cl, .cl, .cl]) (flb := [.cl, .cl, .cl, .cl, .cl, .cl, .cl]) PassesOwn.never rfl (piC (pvC 4)) (pg_name (i := 6) sc__law_refused.nd rfl (by first | exact Or.inl rfl | exact Or.inr rfl)) (tgr_name 6)
 (s_one (s_if (fl' := [.cl, .cl, .cl, .cl, .cl, .cl, .cl]) (tNot' (tTru (cB (dCl c__law_same hr (by decide) (paC (dCl c_is_equilibrium hr (by decide) (paC (pvC 0) (paC (dIx (cB (pvC 3)) (cB dInt)) (paC (pvC 6) paNil)))) (paC (dCl c__law_is_equilibrium hr (by decide) (paC (pvC 1) (paC (pvC 2) (paC (dIx (cB (pvC 3)) (cB dInt)) (paC (pvC 6) paNil))))) paNil))))))
 (s_one (s_ret dBl))
 s_nil)))
 (s_one (s_ret dBl))))⟩
theorem sc__law_spoilt : FnScope ["cell", "planted", "size", "place", "items"] ["cell", "planted"] (defScope s__law_spoilt) := ⟨rfl, rfl, rfl, by decide +kernel, rfl, by decide +kernel, by decide +kernel⟩
theorem ok__law_spoilt (T : Txt K mg) : Cal P w K mg base 1 "_law_spoilt" (spD K mg [true, true] f__law_spoilt) :=
  calD 5 b__law_spoilt T.d__law_spoilt sc__law_spoilt rfl fun f cdv A outer s H E hr => have hu := hr.units; ⟨[.no, .no, .no, .no, .no], rfl,
 (s_cons (s_set (fl' := [.cl, .cl, .cl, .cl, .cl]) 2 (dOp r_sub (cB (dCallB c_len (by rfl) T.n_len (by rfl) (cB (pvC 1)))) (cB dInt)) sc__law_spoilt.nd)
 (s_cons (s_set (fl' := [.cl, .cl, .cl, .cl, .cl]) 3 (dOp r_mod (cB (dCallT c_int (by rfl) T.n_int (by rfl) (cB (pvC 0)))) (cB (pvC 2))) sc__law_spoilt.nd)
 (s_cons (s_setN (fl' := [.cl, .cl, .cl, .cl, .ow]) 4 (nList (by rfl) T.n_list (by rfl) (cB (pvC 1))) sc__law_spoilt.nd)
 (s_cons (s_setI 4 (dOp r_sub (cB (dOp r_sub (cB (dIx (pvB 4) (cB (dOp r_add (cB dInt) (cB (pvC 3)))))) (cB (dIx (cB (pvC 1)) (cB dInt))))) (cB dInt)) (cB (dOp r_add (cB dInt) (cB (pvC 3)))))
 (s_cons (s_setI 4 (dOp r_add (cB (dOp r_add (cB (dIx (pvB 4) (cB (dOp r_add (cB dInt) (cB (dOp r_mod (cB (dOp r_add (cB (pvC 3)) (cB dInt))) (cB (pvC 2)))))))) (cB (dIx (cB (pvC 1)) (cB dInt))))) (cB dInt)) (cB (dOp r_add (cB dInt) (cB (dOp r_mod (cB (dOp r_add (cB (pvC 3)) (cB dInt))) (cB (pvC 2)))))))
 (s_one (s_ret (cD (nListD (paC (dOp r_mul (cB (dTuple (paC dInt paNil))) (cB (dOp r_add (cB (pvC 2)) (cB dInt)))) (paC (dOp r_add (cB (dTuple (paC (dOp r_add (cB (dIx (cB (pvC 1)) (cB dInt))) (cB dInt)) paNil))) (cB (dSl (cB (pvC 1)) (poAt (cB dInt)) poNo))) (paC (dOp r_add (cB (dTuple (paC (dOp r_sub (cB (dIx (cB (pvC 1)) (cB dInt))) (cB dInt)) paNil))) (cB (dSl (cB (pvC 1)) (poAt (cB dInt)) poNo))) (paC (dCallT c_tuple (by rfl) T.n_tuple (by rfl) (pvB 4)) paNil)))))))))))))⟩
theorem sc__law_strategies : FnScope ["cell", "planted", "size", "numbers", "pure", "k", "a"] ["cell", "planted"] (defScope s__law_strategies) := ⟨rfl, rfl, rfl, by decide +kernel, rfl, by decide +kernel, by decide +kernel⟩
theorem ok__law_strategies (T : Txt K mg) (c__law_numbers : Cal P w K mg base 1 "_law_numbers" (spN K mg [true, true, true] f__law_numbers)) (c__law_strategy : Cal P w K mg base 2 "_law_strategy" (spD K mg [true, true, true] f__law_strategy)) : Cal P w K mg base 3 "_law_strategies" (spD K mg [true, true] f__law_strategies) :=
  calD 7 b__law_strategies T.d__law_strategies sc__law_strategies rfl fun f cdv A outer s H E hr => have hu := hr.units; ⟨[.no, .no, .no, .no, .no, .no, .no], rfl,
 (s_cons (s_set (fl' := [.cl, .cl, .cl, .cl, .cl, .cl, .cl]) 2 (dOp r_sub (cB (dCallB c_len (by rfl) T.n_len (by rfl) (cB (pvC 1)))) (cB dInt)) sc__law_strategies.nd)
 (s_cons (s_set (fl' := [.cl, .cl, .cl, .cl, .cl, .cl, .cl]) 3 (cD (nCl c__law_numbers hr (by decide) (paC (pvC 0) (paC dInt (paC dInt paNil))))) sc__law_strategies.nd)
 (s_cons (s_set (fl' := [.cl, .cl, .cl, .cl, .cl, .cl, .cl]) 4 (dOp r_add (cB (dTuple (paC dInt paNil))) (cB (dCallT c_tuple (by rfl) T.n_tuple (by rfl) (cB (cD (nLc rfl sc__law_strategies.nd (iB (piR1 (by rfl) T.n_range (cB (pvC 2)))) (blk_by (own := [("k", 5)]) (by rfl)) (fun _ _ _ _ _ => (pg_name (i := 5) sc__law_strategies.nd rfl (by first | exact Or.inl rfl | exact Or.inr rfl))) (tgr_name 5) (fun _ _ _ _ _ => ptNil) (fun _ _ _ _ _ => (dCallT c_int (by rfl) T.n_int (by rfl) (cB (dCmp (r_eq hu) (cB (pvC 5)) (cB (dOp r_mod (cB (dIx (cB (pvC 3)) (cB dInt))) (cB (pvC 2)))) (nomark _))))))))))) sc__law_strategies.nd)
 (s_one (s_ret (cD (nListD (paC (pvC 1) (paC (dCallT c_tuple (by rfl) T.n_tuple (by rfl) (cB (cD (nLc rfl sc__law_strategies.nd (piB (cB (pvC 1))) (blk_by (own := [("a", 6)]) (by rfl)) (fun _ _ _ _ _ => (pg_name (i := 6) sc__law_strategies.nd rfl (by first | exact Or.inl rfl | exact Or.inr rfl))) (tgr_name 6) (fun _ _ _ _ _ => ptNil) (fun _ _ _ _ _ => (dOp r_mul (cB (dOp r_add (cB dInt) (cB (dOp r_mod (cB (dIx (cB (pvC 3)) (cB dInt))) (cB dInt))))) (cB (pvC 6)))))))) (paC (pvC 4) (paC (dCl c__law_strategy hr (by decide) (paC (dOp r_add (cB (pvC 0)) (cB dInt)) (paC (pvC 2) (paC dInt paNil)))) paNil)))))))))))⟩
theorem sc__law_table : FnScope ["first", "second", "m", "n", "rows", "a", "row", "column"] ["first", "second"] (defScope s__law_table) := ⟨rfl, rfl, rfl, by decide +kernel, rfl, by decide +kernel, by decide +kernel⟩
theorem ok__law_table (T : Txt K mg) (c__law_columns : Cal P w K mg base 1 "_law_columns" (spD K mg [true] f__law_columns)) (c__law_raised : Cal P w K mg base 1 "_law_raised" (spD K mg [true] f__law_raised)) : Cal P w K mg base 2 "_law_table" (spD K mg [true, true] f__law_table) :=
  calD 8 b__law_table T.d__law_table sc__law_table rfl fun f cdv A outer s H E hr => have hu := hr.units; ⟨[.no, .no, .no, .no, .no, .no, .no, .no], rfl,
 (s_cons (s_set (fl' := [.cl, .cl, .cl, .cl, .cl, .cl, .cl, .cl]) 2 (dCallB c_len (by rfl) T.n_len (by rfl) (cB (pvC 0))) sc__law_table.nd)
 (s_cons (s_set (fl' := [.cl, .cl, .cl, .cl, .cl, .cl, .cl, .cl]) 3 (dCallB c_len (by rfl) T.n_len (by rfl) (cB (dIx (cB (pvC 0)) (cB dInt)))) sc__law_table.nd)
 (s_cons (s_setLc (fl' := [.cl, .cl, .cl, .cl, .ow, .cl, .cl, .cl]) 4 rfl sc__law_table.nd (piB (cB (dCl c__law_raised hr (by decide) (paC (pvC 0) paNil)))) (blk_by (own := [("row", 6)]) (by rfl)) (fun _ _ _ _ _ => (pg_name (i := 6) sc__law_table.nd rfl (by first | exact Or.inl rfl | exact Or.inr rfl))) (tgr_name 6) (fun _ _ _ _ _ => ptNil) (fun _ _ _ _ _ => (dOp r_add (cB (dOp r_mul (cB (dTuple (paC dInt paNil))) (cB (pvC 2)))) (cB (dCallT c_tuple (by rfl) T.n_tuple (by rfl) (cB (cD (nLc rfl sc__law_table.nd (piB (cB (pvC 6))) (blk_by (own := [("a", 5)]) (by rfl)) (fun _ _ _ _ _ => (pg_name (i := 5) sc__law_table.nd rfl (by first | exact Or.inl rfl | exact Or.inr rfl))) (tgr_name 5) (fun _ _ _ _ _ => ptNil) (fun _ _ _ _ _ => (dNeg (cB (pvC 5))))))))))) (sw_true rfl rfl rfl rfl))
 (s_cons (s_set (fl' := [.cl, .cl, .cl, .cl, .cl, .cl, .cl, .cl]) 4 (dOp r_add (pvB 4) (cB (cD (nLc rfl sc__law_table.nd (piB (cB (dCl c__law_columns hr (by decide) (paC (dCl c__law_raised hr (by decide) (paC (pvC 1) paNil)) paNil)))) (blk_by (own := [("column", 7)]) (by rfl)) (fun _ _ _ _ _ => (pg_name (i := 7) sc__law_table.nd rfl (by first | exact Or.inl rfl | exact Or.inr rfl))) (tgr_name 7) (fun _ _ _ _ _ => ptNil) (fun _ _ _ _ _ => (dOp r_add (cB (dCallT c_tuple (by rfl) T.n_tuple (by rfl) (cB (cD (nLc rfl sc__law_table.nd (piB (cB (pvC 7))) (blk_by (own := [("a", 5)]) (by rfl)) (fun _ _ _ _ _ => (pg_name (i := 5) sc__law_table.nd rfl (by first | exact Or.inl rfl | exact Or.inr rfl))) (tgr_name 5) (fun _ _ _ _ _ => ptNil) (fun _ _ _ _ _ => (dNeg (cB (pvC 5))))))))) (cB (dOp r_mul (cB (dTuple (paC dInt paNil))) (cB (pvC 3)))))))))) sc__law_table.nd)
 (s_one (s_ret (dCallT c_tuple (by rfl) T.n_tuple (by rfl) (cB (pvC 4)))))))))⟩
theorem sc__law_told : FnScope ["game", "first", "second", "size"] ["game", "first", "second"] (defScope s__law_told) := ⟨rfl, rfl, rfl, by decide +kernel, rfl, by decide +kernel, by decide +kernel⟩
theorem ok__law_told (T : Txt K mg) (c_Game_sizes : Prp P w K mg base 1 "Game" "sizes" (spD K mg [true] f_Game_sizes)) (c__law_same : Cal P w K mg base 4 "_law_same" (spD K mg [true, true] f__law_same)) (c__law_table : Cal P w K mg base 2 "_law_table" (spD K mg [true, true] f__law_table)) (c_from_point : Cal P w K mg base 4 "from_point" (spD K mg [true, true] f_from_point)) : Cal P w K mg base 5 "_law_told" (spD K mg [true, true, true] f__law_told) :=
  calD 4 b__law_told T.d__law_told sc__law_told rfl fun f cdv A outer s H E hr => have hu := hr.units; ⟨[.no, .no, .no, .no], rfl,
 (s_cons (s_set (fl' := [.cl, .cl, .cl, .cl]) 3 (dOp r_add (cB (dCallB c_len (by rfl) T.n_len (by rfl) (cB (pvC 1)))) (cB (dCallB c_len (by rfl) T.n_len (by rfl) (cB (dIx (cB (pvC 1)) (cB dInt)))))) sc__law_told.nd)
 (s_cons (s_if (fl' := [.cl, .cl, .cl, .cl]) (tNot' (tTru (cB (dCl c__law_same hr (by decide) (paC (dProp c_Game_sizes hr (by decide) (pvC 0)) (paC (dTuple (paC (dCallB c_len (by rfl) T.n_len (by rfl) (cB (pvC 1))) (paC (dCallB c_len (by rfl) T.n_len (by rfl) (cB (dIx (cB (pvC 1)) (cB dInt)))) paNil))) paNil))))))
 (s_one (s_ret dBl))
 s_nil)
 (s_cons (s_if (fl' := [.cl, .cl, .cl, .cl]) ((wOr (tNot' (tTru (cB (dCl c__law_same hr (by decide) (paC (dFld (cs := ["Game"]) T.k_first (cB (pvC 0))) (paC (pvC 1) paNil)))))) (pw_or1 (tNot' (tTru (cB (dCl c__law_same hr (by decide) (paC (dFld (cs := ["Game"]) T.k_second (cB (pvC 0))) (paC (pvC 2) paNil))))))))).pt
 (s_one (s_ret dBl))
 s_nil)
 (s_cons (s_if (fl' := [.cl, .cl, .cl, .cl]) ((wOr (tNot' (tTru (cB (dCl c__law_same hr (by decide) (paC (dFld (cs := ["Problem"]) T.k_table (cB (dFld (cs := ["Game"]) T.k_problem (cB (pvC 0))))) (paC (dCl c__law_table hr (by decide) (paC (pvC 1) (paC (pvC 2) paNil))) paNil)))))) (pw_or1 (tNot' (tTru (cB (dCl c__law_same hr (by decide) (paC (dFld (cs := ["Problem"]) T.k_q (cB (dFld (cs := ["Game"]) T.k_problem (cB (pvC 0))))) (paC (dOp r_mul (cB (dTuple (paC dInt paNil))) (cB (pvC 3))) paNil))))))))).pt
 (s_one (s_ret dBl))
 s_nil)
 (s_one (s_ret (dCmp r_is (cB (dCl c_from_point hr (by decide) (paC (pvC 0) (paC (dOp r_add (cB (dTuple (paC dInt paNil))) (cB (dOp r_mul (cB (dTuple (paC dInt paNil))) (cB (pvC 3))))) paNil)))) (cB dNon) (nomark _))))))))⟩
theorem sc_law : FnScope ["script", "games", "at", "first", "second", "x", "y", "xs", "ys", "game", "bad"] ["script"] (defScope s_law) := ⟨rfl, rfl, rfl, by decide +kernel, rfl, by decide +kernel, by decide +kernel⟩
theorem okf_law {f : Addr} {fd : FuncData} (F : Fun K "law" "law" s_law f fd) (T : Txt K mg) (c_Game : Mak P w K mg base 3 "Game" (spI K mg "Game" [true, true] f_Game___init__)) (c__law_asked : Cal P w K mg base 6 "_law_asked" (spD K mg [true, true, true, true, true] f__law_asked)) (c__law_built : Cal P w K mg base 3 "_law_built" (spD K mg [true, true] f__law_built)) (c__law_cell : Cal P w K mg base 1 "_law_cell" (spD K mg [true, true] f__law_cell)) (c__law_refused : Cal P w K mg base 5 "_law_refused" (spD K mg [true, true, true, true, true] f__law_refused)) (c__law_spoilt : Cal P w K mg base 1 "_law_spoilt" (spD K mg [true, true] f__law_spoilt)) (c__law_strategies : Cal P w K mg base 3 "_law_strategies" (spD K mg [true, true] f__law_strategies)) (c__law_told : Cal P w K mg base 5 "_law_told" (spD K mg [true, true, true] f__law_told)) : FnOk P w K mg base CX0 7 f fd ["script"] (spD K mg [true] f_law) :=
  fnD_n 11 b_law F sc_law rfl fun cdv A outer s H E hr => have hu := hr.units; ⟨[.no, .no, .no, .no, .no, .no, .no, .no, .no, .no, .no], rfl,
 (s_cons (s_setN (fl' := [.cl, .ow, .cl, .cl, .cl, .cl, .cl, .cl, .cl, .cl, .cl]) 1 (nListD paNil) sc_law.nd)
 (s_cons (s_for (fl := [.cl, .ow, .cl, .cl, .cl, .cl, .cl, .cl, .cl, .cl, .cl]) (flb := [.cl, .ow, .cl, .cl, .cl, .cl, .cl, .cl, .cl, .cl, .cl]) PassesOwn.never rfl (piC (dTuple (paC dInt (paC dInt paNil)))) (pg_name (i := 2) sc_law.nd rfl (by first | exact Or.inl rfl | exact Or.inr rfl)) (tgr_name 2)
 (s_cons (s_asg (fl' := [.cl, .ow, .cl, .cl, .cl, .cl, .cl, .cl, .cl, .cl, .cl]) (dCl c__law_built hr (by decide) (paC (pvC 0) (paC (pvC 2) paNil))) (pg_tup rfl (pgs_cons (pg_name (i := 3) sc_law.nd rfl (by first | exact Or.inl rfl | exact Or.inr rfl)) (pgs_cons (pg_name (i := 4) sc_law.nd rfl (by first | exact Or.inl rfl | exact Or.inr rfl)) (pgs_cons (pg_name (i := 5) sc_law.nd rfl (by first | exact Or.inl rfl | exact Or.inr rfl)) (pgs_cons (pg_name (i := 6) sc_law.nd rfl (by first | exact Or.inl rfl | exact Or.inr rfl)) pgs_nil))))) (tgr_tup (tgrs_cons (tgr_name 3) (tgrs_cons (tgr_name 4) (tgrs_cons (tgr_name 5) (tgrs_cons (tgr_name 6) tgrs_nil))))))
 (s_cons (s_set (fl' := [.cl, .ow, .cl, .cl, .cl, .cl, .cl, .cl, .cl, .cl, .cl]) 7 (dCl c__law_strategies hr (by decide) (paC (dCl c__law_cell hr (by decide) (paC (pvC 0) (paC (dOp r_add (cB (pvC 2)) (cB dInt)) paNil))) (paC (pvC 5) paNil))) sc_law.nd)
 (s_cons (s_set (fl' := [.cl, .ow, .cl, .cl, .cl, .cl, .cl, .cl, .cl, .cl, .cl]) 8 (dCl c__law_strategies hr (by decide) (paC (dCl c__law_cell hr (by decide) (paC (pvC 0) (paC (dOp r_add (cB (pvC 2)) (cB dInt)) paNil))) (paC (pvC 6) paNil))) sc_law.nd)
 (s_one (s_app 1 (dTuple (paC (dMk c_Game hr (by decide) (paC (pvC 3) (paC (pvC 4) paNil))) (paC (pvC 3) (paC (pvC 4) (paC (pvC 7) (paC (pvC 8) paNil))))))))))))
 (s_cons (s_pre (fl1 := [.cl, .cl, .cl, .cl, .cl, .cl, .cl, .cl, .cl, .cl, .cl]) (s_for (fl := [.cl, .cl, .cl, .cl, .cl, .cl, .cl, .cl, .cl, .cl, .cl]) (flb := [.cl, .cl, .cl, .cl, .cl, .cl, .cl, .cl, .cl, .cl, .cl]) PassesOwn.never rfl (piC (pvC 1)) (pg_tup rfl (pgs_cons (pg_name (i := 9) sc_law.nd rfl (by first | exact Or.inl rfl | exact Or.inr rfl)) (pgs_cons (pg_name (i := 3) sc_law.nd rfl (by first | exact Or.inl rfl | exact Or.inr rfl)) (pgs_cons (pg_name (i := 4) sc_law.nd rfl (by first | exact Or.inl rfl | exact Or.inr rfl)) (pgs_cons (pg_name (i := 7) sc_law.nd rfl (by first | exact Or.inl rfl | exact Or.inr rfl)) (pgs_cons (pg_name (i := 8) sc_law.nd rfl (by first | exact Or.inl rfl | exact Or.inr rfl)) pgs_nil)))))) (tgr_tup (tgrs_cons (tgr_name 9) (tgrs_cons (tgr_name 3) (tgrs_cons (tgr_name 4) (tgrs_cons (tgr_name 7) (tgrs_cons (tgr_name 8) tgrs_nil))))))
 (s_cons (s_if (fl' := [.cl, .cl, .cl, .cl, .cl, .cl, .cl, .cl, .cl, .cl, .cl]) ((wOr (tNot' (tTru (cB (dCl c__law_told hr (by decide) (paC (pvC 9) (paC (pvC 3) (paC (pvC 4) paNil))))))) (pw_or1 (tNot' (tTru (cB (dCl c__law_asked hr (by decide) (paC (pvC 9) (paC (pvC 3) (paC (pvC 4) (paC (pvC 7) (paC (pvC 8) paNil)))))))))))).pt
 (s_one (s_ret dBl))
 s_nil)
 (s_cons (s_set (fl' := [.cl, .cl, .cl, .cl, .cl, .cl, .cl, .cl, .cl, .cl, .cl]) 10 (dOp r_add (cB (cD (nListD (paC (dIx (cB (pvC 7)) (cB dInt)) paNil)))) (cB (dCl c__law_spoilt hr (by decide) (paC (dCl c__law_cell hr (by decide) (paC (pvC 0) (paC dInt paNil))) (paC (dIx (cB (pvC 7)) (cB dInt)) paNil))))) sc_law.nd)
 (s_one (s_if (fl' := [.cl, .cl, .cl, .cl, .cl, .cl, .cl, .cl, .cl, .cl, .cl]) (tNot' (tTru (cB (dCl c__law_refused hr (by decide) (paC (pvC 9) (paC (pvC 3) (paC (pvC 4) (paC (pvC 10) (paC (dOp r_add (cB (cD (nListD (paC (dIx (cB (pvC 8)) (cB dInt)) paNil)))) (cB (dCl c__law_spoilt hr (by decide) (paC (dCl c__law_cell hr (by decide) (paC (pvC 0) (paC dInt paNil))) (paC (dIx (cB (pvC 8)) (cB dInt)) paNil))))) paNil)))))))))
 (s_one (s_ret dBl))
 s_nil))))))
 (s_cons (s_asg (fl' := [.cl, .cl, .cl, .cl, .cl, .cl, .cl, .cl, .cl, .cl, .cl]) (dIx (cB (pvC 1)) (cB dInt)) (pg_tup rfl (pgs_cons (pg_name (i := 9) sc_law.nd rfl (by first | exact Or.inl rfl | exact Or.inr rfl)) (pgs_cons (pg_name (i := 3) sc_law.nd rfl (by first | exact Or.inl rfl | exact Or.inr rfl)) (pgs_cons (pg_name (i := 4) sc_law.nd rfl (by first | exact Or.inl rfl | exact Or.inr rfl)) (pgs_cons (pg_name (i := 7) sc_law.nd rfl (by first | exact Or.inl rfl | exact Or.inr rfl)) (pgs_cons (pg_name (i := 8) sc_law.nd rfl (by first | exact Or.inl rfl | exact Or.inr rfl)) pgs_nil)))))) (tgr_tup (tgrs_cons (tgr_name 9) (tgrs_cons (tgr_name 3) (tgrs_cons (tgr_name 4) (tgrs_cons (tgr_name 7) (tgrs_cons (tgr_name 8) tgrs_nil)))))))
 (s_one (s_ret (dAnd (dCl c__law_told hr (by decide) (paC (pvC 9) (paC (pvC 3) (paC (pvC 4) paNil)))) (pe_one (dCl c__law_asked hr (by decide) (paC (pvC 9) (paC (pvC 3) (paC (pvC 4) (paC (dSl (cB (pvC 7)) poNo (poAt (cB dInt))) (paC (dSl (cB (pvC 8)) poNo (poAt (cB dInt))) paNil))))))))))))))⟩
theorem ok_all {f : Addr} {fd : FuncData} (F : Fun K "law" "law" s_law f fd) (T : Txt K mg) : FnOk P w K mg base CX0 7 f fd ["script"] (spD K mg [true] f_law) := by
  have c_Game_sizes := ok_Game_sizes (P := P) (w := w) (base := base) T 
  have c_Problem := ok_Problem___init__ (P := P) (w := w) (base := base) T 
  have c__are_alike := ok__are_alike (P := P) (w := w) (base := base) T 
  have c__negative := ok__negative (P := P) (w := w) (base := base) T 
  have c__raised := ok__raised (P := P) (w := w) (base := base) T 
  have c_transposed := ok_transposed (P := P) (w := w) (base := base) T 
  have c_Game := ok_Game___init__ (P := P) (w := w) (base := base) T c_Game_sizes c_Problem c__are_alike c__negative c__raised c_transposed
  have c_dot := ok_dot (P := P) (w := w) (base := base) T 
  have c_product := ok_product (P := P) (w := w) (base := base) T c_dot
  have c_ratio := ok_ratio (P := P) (w := w) (base := base) T 
  have c_Game_payoffs := ok_Game_payoffs (P := P) (w := w) (base := base) T c_dot c_product c_ratio
  have c_Problem_slacks := ok_Problem_slacks (P := P) (w := w) (base := base) T c_dot
  have c_Problem_fits := ok_Problem_fits (P := P) (w := w) (base := base) T c_Problem_slacks
  have c__law_columns := ok__law_columns (P := P) (w := w) (base := base) T 
  have c__law_dot := ok__law_dot (P := P) (w := w) (base := base) T 
  have c__law_is_best := ok__law_is_best (P := P) (w := w) (base := base) T 
  have c__law_is_strategy := ok__law_is_strategy (P := P) (w := w) (base := base) T 
  have c__law_is_equilibrium := ok__law_is_equilibrium (P := P) (w := w) (base := base) T c__law_columns c__law_dot c__law_is_best c__law_is_strategy
  have c__law_divisor := ok__law_divisor (P := P) (w := w) (base := base) T 
  have c__law_ratio := ok__law_ratio (P := P) (w := w) (base := base) T c__law_divisor
  have c__law_mean := ok__law_mean (P := P) (w := w) (base := base) T c__law_dot c__law_ratio
  have c__law_primitive := ok__law_primitive (P := P) (w := w) (base := base) T c__law_divisor
  have c__law_raised := ok__law_raised (P := P) (w := w) (base := base) T 
  have c__law_point := ok__law_point (P := P) (w := w) (base := base) T c__law_columns c__law_dot c__law_primitive c__law_raised
  have c__law_same := ok__law_same (P := P) (w := w) (base := base) T 
  have c_primitive := ok_primitive (P := P) (w := w) (base := base) T 
  have c_point := ok_point (P := P) (w := w) (base := base) T c_primitive
  have c__strategy := ok__strategy (P := P) (w := w) (base := base) T c_point
  have c_from_point := ok_from_point (P := P) (w := w) (base := base) T c__strategy
  have c__is_best := ok__is_best (P := P) (w := w) (base := base) T 
  have c__is_strategy := ok__is_strategy (P := P) (w := w) (base := base) T 
  have c_is_equilibrium := ok_is_equilibrium (P := P) (w := w) (base := base) T c__is_best c__is_strategy c_product c_transposed
  have c_to_point := ok_to_point (P := P) (w := w) (base := base) T c_point c_product
  have c__law_led := ok__law_led (P := P) (w := w) (base := base) T c_Game_payoffs c_Problem_fits c__law_is_equilibrium c__law_mean c__law_point c__law_primitive c__law_same c_from_point c_is_equilibrium c_to_point
  have c__law_asked := ok__law_asked (P := P) (w := w) (base := base) T c__law_led
  have c__law_cell := ok__law_cell (P := P) (w := w) (base := base) T 
  have c__law_numbers := ok__law_numbers (P := P) (w := w) (base := base) T 
  have c__law_planted := ok__law_planted (P := P) (w := w) (base := base) T c__law_dot
  have c__law_rows := ok__law_rows (P := P) (w := w) (base := base) T c__law_numbers
  have c__law_strategy := ok__law_strategy (P := P) (w := w) (base := base) T c__law_numbers
  have c__law_built := ok__law_built (P := P) (w := w) (base := base) T c__law_cell c__law_columns c__law_numbers c__law_planted c__law_rows c__law_strategy
  have c__law_refused := ok__law_refused (P := P) (w := w) (base := base) T c__law_is_equilibrium c__law_same c_is_equilibrium
  have c__law_spoilt := ok__law_spoilt (P := P) (w := w) (base := base) T 
  have c__law_strategies := ok__law_strategies (P := P) (w := w) (base := base) T c__law_numbers c__law_strategy
  have c__law_table := ok__law_table (P := P) (w := w) (base := base) T c__law_columns c__law_raised
  have c__law_told := ok__law_told (P := P) (w := w) (base := base) T c_Game_sizes c__law_same c__law_table c_from_point
  exact okf_law F T c_Game c__law_asked c__law_built c__law_cell c__law_refused c__law_spoilt c__law_strategies c__law_told
end
theorem all_mk {K : PySem.W.Frag} {h : Heap} {mg : Str → Option Value} (X : K.In h) (G : h.Ns mainGlobals mg)
  {CGame : Addr}
  {CProblem : Addr}
  {p0 : Addr} {r0 : List Value}
  {f0 : Addr} {od0 an0 : Option Addr} {sl0 : Array (Option Value)} {oc0 kV0 dc0 pm0 cd0 ct0 : Value}
  {f1 : Addr} {od1 an1 : Option Addr} {sl1 : Array (Option Value)} {oc1 kV1 dc1 pm1 cd1 ct1 : Value}
  {f2 : Addr} {od2 an2 : Option Addr} {sl2 : Array (Option Value)} {oc2 kV2 dc2 pm2 cd2 ct2 : Value}
  {f3 : Addr} {od3 an3 : Option Addr} {sl3 : Array (Option Value)} {oc3 kV3 dc3 pm3 cd3 ct3 : Value}
  {f4 : Addr} {od4 an4 : Option Addr} {sl4 : Array (Option Value)} {oc4 kV4 dc4 pm4 cd4 ct4 : Value}
  {f5 : Addr} {od5 an5 : Option Addr} {sl5 : Array (Option Value)} {oc5 kV5 dc5 pm5 cd5 ct5 : Value}
  {f6 : Addr} {od6 an6 : Option Addr} {sl6 : Array (Option Value)} {oc6 kV6 dc6 pm6 cd6 ct6 : Value}
  {f7 : Addr} {od7 an7 : Option Addr} {sl7 : Array (Option Value)} {oc7 kV7 dc7 pm7 cd7 ct7 : Value}
  {f8 : Addr} {od8 an8 : Option Addr} {sl8 : Array (Option Value)} {oc8 kV8 dc8 pm8 cd8 ct8 : Value}
  {f9 : Addr} {od9 an9 : Option Addr} {sl9 : Array (Option Value)} {oc9 kV9 dc9 pm9 cd9 ct9 : Value}
  {f10 : Addr} {od10 an10 : Option Addr} {sl10 : Array (Option Value)} {oc10 kV10 dc10 pm10 cd10 ct10 : Value}
  {f11 : Addr} {od11 an11 : Option Addr} {sl11 : Array (Option Value)} {oc11 kV11 dc11 pm11 cd11 ct11 : Value}
  {f12 : Addr} {od12 an12 : Option Addr} {sl12 : Array (Option Value)} {oc12 kV12 dc12 pm12 cd12 ct12 : Value}
  {f13 : Addr} {od13 an13 : Option Addr} {sl13 : Array (Option Value)} {oc13 kV13 dc13 pm13 cd13 ct13 : Value}
  {f14 : Addr} {od14 an14 : Option Addr} {sl14 : Array (Option Value)} {oc14 kV14 dc14 pm14 cd14 ct14 : Value}
  {f15 : Addr} {od15 an15 : Option Addr} {sl15 : Array (Option Value)} {oc15 kV15 dc15 pm15 cd15 ct15 : Value}
  {f16 : Addr} {od16 an16 : Option Addr} {sl16 : Array (Option Value)} {oc16 kV16 dc16 pm16 cd16 ct16 : Value}
  {f17 : Addr} {od17 an17 : Option Addr} {sl17 : Array (Option Value)} {oc17 kV17 dc17 pm17 cd17 ct17 : Value}
  {f18 : Addr} {od18 an18 : Option Addr} {sl18 : Array (Option Value)} {oc18 kV18 dc18 pm18 cd18 ct18 : Value}
  {f19 : Addr} {od19 an19 : Option Addr} {sl19 : Array (Option Value)} {oc19 kV19 dc19 pm19 cd19 ct19 : Value}
  {f20 : Addr} {od20 an20 : Option Addr} {sl20 : Array (Option Value)} {oc20 kV20 dc20 pm20 cd20 ct20 : Value}
  {f21 : Addr} {od21 an21 : Option Addr} {sl21 : Array (Option Value)} {oc21 kV21 dc21 pm21 cd21 ct21 : Value}
  {f22 : Addr} {od22 an22 : Option Addr} {sl22 : Array (Option Value)} {oc22 kV22 dc22 pm22 cd22 ct22 : Value}
  {f23 : Addr} {od23 an23 : Option Addr} {sl23 : Array (Option Value)} {oc23 kV23 dc23 pm23 cd23 ct23 : Value}
  {f24 : Addr} {od24 an24 : Option Addr} {sl24 : Array (Option Value)} {oc24 kV24 dc24 pm24 cd24 ct24 : Value}
  {f25 : Addr} {od25 an25 : Option Addr} {sl25 : Array (Option Value)} {oc25 kV25 dc25 pm25 cd25 ct25 : Value}
  {f26 : Addr} {od26 an26 : Option Addr} {sl26 : Array (Option Value)} {oc26 kV26 dc26 pm26 cd26 ct26 : Value}
  {f27 : Addr} {od27 an27 : Option Addr} {sl27 : Array (Option Value)} {oc27 kV27 dc27 pm27 cd27 ct27 : Value}
  {f28 : Addr} {od28 an28 : Option Addr} {sl28 : Array (Option Value)} {oc28 kV28 dc28 pm28 cd28 ct28 : Value}
  {f29 : Addr} {od29 an29 : Option Addr} {sl29 : Array (Option Value)} {oc29 kV29 dc29 pm29 cd29 ct29 : Value}
  {f30 : Addr} {od30 an30 : Option Addr} {sl30 : Array (Option Value)} {oc30 kV30 dc30 pm30 cd30 ct30 : Value}
  {f31 : Addr} {od31 an31 : Option Addr} {sl31 : Array (Option Value)} {oc31 kV31 dc31 pm31 cd31 ct31 : Value}
  {f32 : Addr} {od32 an32 : Option Addr} {sl32 : Array (Option Value)} {oc32 kV32 dc32 pm32 cd32 ct32 : Value}
  {f33 : Addr} {od33 an33 : Option Addr} {sl33 : Array (Option Value)} {oc33 kV33 dc33 pm33 cd33 ct33 : Value}
  {f34 : Addr} {od34 an34 : Option Addr} {sl34 : Array (Option Value)} {oc34 kV34 dc34 pm34 cd34 ct34 : Value}
  {f35 : Addr} {od35 an35 : Option Addr} {sl35 : Array (Option Value)} {oc35 kV35 dc35 pm35 cd35 ct35 : Value}
  {f36 : Addr} {od36 an36 : Option Addr} {sl36 : Array (Option Value)} {oc36 kV36 dc36 pm36 cd36 ct36 : Value}
  {f37 : Addr} {od37 an37 : Option Addr} {sl37 : Array (Option Value)} {oc37 kV37 dc37 pm37 cd37 ct37 : Value}
  {f38 : Addr} {od38 an38 : Option Addr} {sl38 : Array (Option Value)} {oc38 kV38 dc38 pm38 cd38 ct38 : Value}
  {f39 : Addr} {od39 an39 : Option Addr} {sl39 : Array (Option Value)} {oc39 kV39 dc39 pm39 cd39 ct39 : Value}
  {f40 : Addr} {od40 an40 : Option Addr} {sl40 : Array (Option Value)} {oc40 kV40 dc40 pm40 cd40 ct40 : Value}
  {f41 : Addr} {od41 an41 : Option Addr} {sl41 : Array (Option Value)} {oc41 kV41 dc41 pm41 cd41 ct41 : Value}
  {f42 : Addr} {od42 an42 : Option Addr} {sl42 : Array (Option Value)} {oc42 kV42 dc42 pm42 cd42 ct42 : Value}
  {f43 : Addr} {od43 an43 : Option Addr} {sl43 : Array (Option Value)} {oc43 kV43 dc43 pm43 cd43 ct43 : Value}
  {f44 : Addr} {od44 an44 : Option Addr} {sl44 : Array (Option Value)} {oc44 kV44 dc44 pm44 cd44 ct44 : Value}
  {f45 : Addr} {od45 an45 : Option Addr} {sl45 : Array (Option Value)} {oc45 kV45 dc45 pm45 cd45 ct45 : Value}
  {f46 : Addr} {od46 an46 : Option Addr} {sl46 : Array (Option Value)} {oc46 kV46 dc46 pm46 cd46 ct46 : Value}
  {t_LARGEST : Tok}
  (aCGame : PySem.W.nsIn K mainGlobals "Game" = some (some (.ref CGame)))
  (pgGame : PySem.W.plainGet K CGame Str.empty = true)
  (hdGame : PySem.W.hasDictIn K CGame = true)
  (poGame : PySem.W.plainOver K CGame = true)
  (saGame : PySem.W.findIn K (.ref CGame) "__setattr__" = some (some (.builtin "object.__setattr__")))
  (aCProblem : PySem.W.nsIn K mainGlobals "Problem" = some (some (.ref CProblem)))
  (pgProblem : PySem.W.plainGet K CProblem Str.empty = true)
  (hdProblem : PySem.W.hasDictIn K CProblem = true)
  (poProblem : PySem.W.plainOver K CProblem = true)
  (saProblem : PySem.W.findIn K (.ref CProblem) "__setattr__" = some (some (.builtin "object.__setattr__")))
  (a0 : PySem.W.findIn K (.ref CGame) "sizes" = some (some (.ref p0)))
  (g0 : PySem.W.specialIn K (.ref p0) "__get__" = some (some (.builtin "property.__get__")))
  (t0 : PySem.W.takesIn K (.ref p0) = some true)
  (r0 : PySem.W.recIn K p0 "property" = some (.ref f0 :: r0))
  (l0 : K.lookup f0 = some ⟨oc0, od0, .func (PySem.W.fnOf "sizes" "Game.sizes" (defArgs s_Game_sizes) (defBody s_Game_sizes) (defScope s_Game_sizes) .none kV0 dc0 pm0 an0 cd0 ct0), sl0⟩)
  (c0 : PySem.W.codeIn K cd0 "Game.sizes" = true)
  (k0 : PySem.W.keepIn K (.ref f0) = true)
  (a1 : PySem.W.findIn K (.ref CProblem) "__init__" = some (some (.ref f1)))
  (l1 : K.lookup f1 = some ⟨oc1, od1, .func (PySem.W.fnOf "__init__" "Problem.__init__" (defArgs s_Problem___init__) (defBody s_Problem___init__) (defScope s_Problem___init__) .none kV1 dc1 pm1 an1 cd1 ct1), sl1⟩)
  (c1 : PySem.W.codeIn K cd1 "Problem.__init__" = true)
  (k1 : PySem.W.keepIn K (.ref f1) = true)
  (i1 : PySem.W.isFn K (.ref f1) = true)
  (mk1 : PySem.W.makesIn K CProblem = true)
  (kc1 : PySem.W.keepIn K (.ref CProblem) = true)
  (a2 : PySem.W.nsIn K mainGlobals "_are_alike" = some (some (.ref f2)))
  (l2 : K.lookup f2 = some ⟨oc2, od2, .func (PySem.W.fnOf "_are_alike" "_are_alike" (defArgs s__are_alike) (defBody s__are_alike) (defScope s__are_alike) .none kV2 dc2 pm2 an2 cd2 ct2), sl2⟩)
  (c2 : PySem.W.codeIn K cd2 "_are_alike" = true)
  (k2 : PySem.W.keepIn K (.ref f2) = true)
  (a3 : PySem.W.nsIn K mainGlobals "_negative" = some (some (.ref f3)))
  (l3 : K.lookup f3 = some ⟨oc3, od3, .func (PySem.W.fnOf "_negative" "_negative" (defArgs s__negative) (defBody s__negative) (defScope s__negative) .none kV3 dc3 pm3 an3 cd3 ct3), sl3⟩)
  (c3 : PySem.W.codeIn K cd3 "_negative" = true)
  (k3 : PySem.W.keepIn K (.ref f3) = true)
  (a4 : PySem.W.nsIn K mainGlobals "_raised" = some (some (.ref f4)))
  (l4 : K.lookup f4 = some ⟨oc4, od4, .func (PySem.W.fnOf "_raised" "_raised" (defArgs s__raised) (defBody s__raised) (defScope s__raised) .none kV4 dc4 pm4 an4 cd4 ct4), sl4⟩)
  (c4 : PySem.W.codeIn K cd4 "_raised" = true)
  (k4 : PySem.W.keepIn K (.ref f4) = true)
  (a5 : PySem.W.nsIn K mainGlobals "transposed" = some (some (.ref f5)))
  (l5 : K.lookup f5 = some ⟨oc5, od5, .func (PySem.W.fnOf "transposed" "transposed" (defArgs s_transposed) (defBody s_transposed) (defScope s_transposed) .none kV5 dc5 pm5 an5 cd5 ct5), sl5⟩)
  (c5 : PySem.W.codeIn K cd5 "transposed" = true)
  (k5 : PySem.W.keepIn K (.ref f5) = true)
  (a6 : PySem.W.findIn K (.ref CGame) "__init__" = some (some (.ref f6)))
  (l6 : K.lookup f6 = some ⟨oc6, od6, .func (PySem.W.fnOf "__init__" "Game.__init__" (defArgs s_Game___init__) (defBody s_Game___init__) (defScope s_Game___init__) .none kV6 dc6 pm6 an6 cd6 ct6), sl6⟩)
  (c6 : PySem.W.codeIn K cd6 "Game.__init__" = true)
  (k6 : PySem.W.keepIn K (.ref f6) = true)
  (i6 : PySem.W.isFn K (.ref f6) = true)
  (mk6 : PySem.W.makesIn K CGame = true)
  (kc6 : PySem.W.keepIn K (.ref CGame) = true)
  (a7 : PySem.W.nsIn K mainGlobals "dot" = some (some (.ref f7)))
  (l7 : K.lookup f7 = some ⟨oc7, od7, .func (PySem.W.fnOf "dot" "dot" (defArgs s_dot) (defBody s_dot) (defScope s_dot) .none kV7 dc7 pm7 an7 cd7 ct7), sl7⟩)
  (c7 : PySem.W.codeIn K cd7 "dot" = true)
  (k7 : PySem.W.keepIn K (.ref f7) = true)
  (a8 : PySem.W.nsIn K mainGlobals "product" = some (some (.ref f8)))
  (l8 : K.lookup f8 = some ⟨oc8, od8, .func (PySem.W.fnOf "product" "product" (defArgs s_product) (defBody s_product) (defScope s_product) .none kV8 dc8 pm8 an8 cd8 ct8), sl8⟩)
  (c8 : PySem.W.codeIn K cd8 "product" = true)
  (k8 : PySem.W.keepIn K (.ref f8) = true)
  (a9 : PySem.W.nsIn K mainGlobals "ratio" = some (some (.ref f9)))
  (l9 : K.lookup f9 = some ⟨oc9, od9, .func (PySem.W.fnOf "ratio" "ratio" (defArgs s_ratio) (defBody s_ratio) (defScope s_ratio) .none kV9 dc9 pm9 an9 cd9 ct9), sl9⟩)
  (c9 : PySem.W.codeIn K cd9 "ratio" = true)
  (k9 : PySem.W.keepIn K (.ref f9) = true)
  (a10 : PySem.W.findIn K (.ref CGame) "payoffs" = some (some (.ref f10)))
  (l10 : K.lookup f10 = some ⟨oc10, od10, .func (PySem.W.fnOf "payoffs" "Game.payoffs" (defArgs s_Game_payoffs) (defBody s_Game_payoffs) (defScope s_Game_payoffs) .none kV10 dc10 pm10 an10 cd10 ct10), sl10⟩)
  (c10 : PySem.W.codeIn K cd10 "Game.payoffs" = true)
  (k10 : PySem.W.keepIn K (.ref f10) = true)
  (i10 : PySem.W.isFn K (.ref f10) = true)
  (a11 : PySem.W.findIn K (.ref CProblem) "slacks" = some (some (.ref f11)))
  (l11 : K.lookup f11 = some ⟨oc11, od11, .func (PySem.W.fnOf "slacks" "Problem.slacks" (defArgs s_Problem_slacks) (defBody s_Problem_slacks) (defScope s_Problem_slacks) .none kV11 dc11 pm11 an11 cd11 ct11), sl11⟩)
  (c11 : PySem.W.codeIn K cd11 "Problem.slacks" = true)
  (k11 : PySem.W.keepIn K (.ref f11) = true)
  (i11 : PySem.W.isFn K (.ref f11) = true)
  (a12 : PySem.W.findIn K (.ref CProblem) "fits" = some (some (.ref f12)))
  (l12 : K.lookup f12 = some ⟨oc12, od12, .func (PySem.W.fnOf "fits" "Problem.fits" (defArgs s_Problem_fits) (defBody s_Problem_fits) (defScope s_Problem_fits) .none kV12 dc12 pm12 an12 cd12 ct12), sl12⟩)
  (c12 : PySem.W.codeIn K cd12 "Problem.fits" = true)
  (k12 : PySem.W.keepIn K (.ref f12) = true)
  (i12 : PySem.W.isFn K (.ref f12) = true)
  (a13 : PySem.W.nsIn K mainGlobals "_law_columns" = some (some (.ref f13)))
  (l13 : K.lookup f13 = some ⟨oc13, od13, .func (PySem.W.fnOf "_law_columns" "_law_columns" (defArgs s__law_columns) (defBody s__law_columns) (defScope s__law_columns) .none kV13 dc13 pm13 an13 cd13 ct13), sl13⟩)
  (c13 : PySem.W.codeIn K cd13 "_law_columns" = true)
  (k13 : PySem.W.keepIn K (.ref f13) = true)
  (a14 : PySem.W.nsIn K mainGlobals "_law_dot" = some (some (.ref f14)))
  (l14 : K.lookup f14 = some ⟨oc14, od14, .func (PySem.W.fnOf "_law_dot" "_law_dot" (defArgs s__law_dot) (defBody s__law_dot) (defScope s__law_dot) .none kV14 dc14 pm14 an14 cd14 ct14), sl14⟩)
  (c14 : PySem.W.codeIn K cd14 "_law_dot" = true)
  (k14 : PySem.W.keepIn K (.ref f14) = true)
  (a15 : PySem.W.nsIn K mainGlobals "_law_is_best" = some (some (.ref f15)))
  (l15 : K.lookup f15 = some ⟨oc15, od15, .func (PySem.W.fnOf "_law_is_best" "_law_is_best" (defArgs s__law_is_best) (defBody s__law_is_best) (defScope s__law_is_best) .none kV15 dc15 pm15 an15 cd15 ct15), sl15⟩)
  (c15 : PySem.W.codeIn K cd15 "_law_is_best" = true)
  (k15 : PySem.W.keepIn K (.ref f15) = true)
  (a16 : PySem.W.nsIn K mainGlobals "_law_is_strategy" = some (some (.ref f16)))
  (l16 : K.lookup f16 = some ⟨oc16, od16, .func (PySem.W.fnOf "_law_is_strategy" "_law_is_strategy" (defArgs s__law_is_strategy) (defBody s__law_is_strategy) (defScope s__law_is_strategy) .none kV16 dc16 pm16 an16 cd16 ct16), sl16⟩)
  (c16 : PySem.W.codeIn K cd16 "_law_is_strategy" = true)
  (k16 : PySem.W.keepIn K (.ref f16) = true)
  (a17 : PySem.W.nsIn K mainGlobals "_law_is_equilibrium" = some (some (.ref f17)))
  (l17 : K.lookup f17 = some ⟨oc17, od17, .func (PySem.W.fnOf "_law_is_equilibrium" "_law_is_equilibrium" (defArgs s__law_is_equilibrium) (defBody s__law_is_equilibrium) (defScope s__law_is_equilibrium) .none kV17 dc17 pm17 an17 cd17 ct17), sl17⟩)
  (c17 : PySem.W.codeIn K cd17 "_law_is_equilibrium" = true)
  (k17 : PySem.W.keepIn K (.ref f17) = true)
  (a18 : PySem.W.nsIn K mainGlobals "_law_divisor" = some (some (.ref f18)))
  (l18 : K.lookup f18 = some ⟨oc18, od18, .func (PySem.W.fnOf "_law_divisor" "_law_divisor" (defArgs s__law_divisor) (defBody s__law_divisor) (defScope s__law_divisor) .none kV18 dc18 pm18 an18 cd18 ct18), sl18⟩)
  (c18 : PySem.W.codeIn K cd18 "_law_divisor" = true)
  (k18 : PySem.W.keepIn K (.ref f18) = true)
  (a19 : PySem.W.nsIn K mainGlobals "_law_ratio" = some (some (.ref f19)))
  (l19 : K.lookup f19 = some ⟨oc19, od19, .func (PySem.W.fnOf "_law_ratio" "_law_ratio" (defArgs s__law_ratio) (defBody s__law_ratio) (defScope s__law_ratio) .none kV19 dc19 pm19 an19 cd19 ct19), sl19⟩)
  (c19 : PySem.W.codeIn K cd19 "_law_ratio" = true)
  (k19 : PySem.W.keepIn K (.ref f19) = true)
  (a20 : PySem.W.nsIn K mainGlobals "_law_mean" = some (some (.ref f20)))
  (l20 : K.lookup f20 = some ⟨oc20, od20, .func (PySem.W.fnOf "_law_mean" "_law_mean" (defArgs s__law_mean) (defBody s__law_mean) (defScope s__law_mean) .none kV20 dc20 pm20 an20 cd20 ct20), sl20⟩)
  (c20 : PySem.W.codeIn K cd20 "_law_mean" = true)
  (k20 : PySem.W.keepIn K (.ref f20) = true)
  (a21 : PySem.W.nsIn K mainGlobals "_law_primitive" = some (some (.ref f21)))
  (l21 : K.lookup f21 = some ⟨oc21, od21, .func (PySem.W.fnOf "_law_primitive" "_law_primitive" (defArgs s__law_primitive) (defBody s__law_primitive) (defScope s__law_primitive) .none kV21 dc21 pm21 an21 cd21 ct21), sl21⟩)
  (c21 : PySem.W.codeIn K cd21 "_law_primitive" = true)
  (k21 : PySem.W.keepIn K (.ref f21) = true)
  (a22 : PySem.W.nsIn K mainGlobals "_law_raised" = some (some (.ref f22)))
  (l22 : K.lookup f22 = some ⟨oc22, od22, .func (PySem.W.fnOf "_law_raised" "_law_raised" (defArgs s__law_raised) (defBody s__law_raised) (defScope s__law_raised) .none kV22 dc22 pm22 an22 cd22 ct22), sl22⟩)
  (c22 : PySem.W.codeIn K cd22 "_law_raised" = true)
  (k22 : PySem.W.keepIn K (.ref f22) = true)
  (a23 : PySem.W.nsIn K mainGlobals "_law_point" = some (some (.ref f23)))
  (l23 : K.lookup f23 = some ⟨oc23, od23, .func (PySem.W.fnOf "_law_point" "_law_point" (defArgs s__law_point) (defBody s__law_point) (defScope s__law_point) .none kV23 dc23 pm23 an23 cd23 ct23), sl23⟩)
  (c23 : PySem.W.codeIn K cd23 "_law_point" = true)
  (k23 : PySem.W.keepIn K (.ref f23) = true)
  (a24 : PySem.W.nsIn K mainGlobals "_law_same" = some (some (.ref f24)))
  (l24 : K.lookup f24 = some ⟨oc24, od24, .func (PySem.W.fnOf "_law_same" "_law_same" (defArgs s__law_same) (defBody s__law_same) (defScope s__law_same) .none kV24 dc24 pm24 an24 cd24 ct24), sl24⟩)
  (c24 : PySem.W.codeIn K cd24 "_law_same" = true)
  (k24 : PySem.W.keepIn K (.ref f24) = true)
  (a25 : PySem.W.nsIn K mainGlobals "primitive" = some (some (.ref f25)))
  (l25 : K.lookup f25 = some ⟨oc25, od25, .func (PySem.W.fnOf "primitive" "primitive" (defArgs s_primitive) (defBody s_primitive) (defScope s_primitive) .none kV25 dc25 pm25 an25 cd25 ct25), sl25⟩)
  (c25 : PySem.W.codeIn K cd25 "primitive" = true)
  (k25 : PySem.W.keepIn K (.ref f25) = true)
  (a26 : PySem.W.nsIn K mainGlobals "point" = some (some (.ref f26)))
  (l26 : K.lookup f26 = some ⟨oc26, od26, .func (PySem.W.fnOf "point" "point" (defArgs s_point) (defBody s_point) (defScope s_point) .none kV26 dc26 pm26 an26 cd26 ct26), sl26⟩)
  (c26 : PySem.W.codeIn K cd26 "point" = true)
  (k26 : PySem.W.keepIn K (.ref f26) = true)
  (a27 : PySem.W.nsIn K mainGlobals "_strategy" = some (some (.ref f27)))
  (l27 : K.lookup f27 = some ⟨oc27, od27, .func (PySem.W.fnOf "_strategy" "_strategy" (defArgs s__strategy) (defBody s__strategy) (defScope s__strategy) .none kV27 dc27 pm27 an27 cd27 ct27), sl27⟩)
  (c27 : PySem.W.codeIn K cd27 "_strategy" = true)
  (k27 : PySem.W.keepIn K (.ref f27) = true)
  (a28 : PySem.W.nsIn K mainGlobals "from_point" = some (some (.ref f28)))
  (l28 : K.lookup f28 = some ⟨oc28, od28, .func (PySem.W.fnOf "from_point" "from_point" (defArgs s_from_point) (defBody s_from_point) (defScope s_from_point) .none kV28 dc28 pm28 an28 cd28 ct28), sl28⟩)
  (c28 : PySem.W.codeIn K cd28 "from_point" = true)
  (k28 : PySem.W.keepIn K (.ref f28) = true)
  (a29 : PySem.W.nsIn K mainGlobals "_is_best" = some (some (.ref f29)))
  (l29 : K.lookup f29 = some ⟨oc29, od29, .func (PySem.W.fnOf "_is_best" "_is_best" (defArgs s__is_best) (defBody s__is_best) (defScope s__is_best) .none kV29 dc29 pm29 an29 cd29 ct29), sl29⟩)
  (c29 : PySem.W.codeIn K cd29 "_is_best" = true)
  (k29 : PySem.W.keepIn K (.ref f29) = true)
  (a30 : PySem.W.nsIn K mainGlobals "_is_strategy" = some (some (.ref f30)))
  (l30 : K.lookup f30 = some ⟨oc30, od30, .func (PySem.W.fnOf "_is_strategy" "_is_strategy" (defArgs s__is_strategy) (defBody s__is_strategy) (defScope s__is_strategy) .none kV30 dc30 pm30 an30 cd30 ct30), sl30⟩)
  (c30 : PySem.W.codeIn K cd30 "_is_strategy" = true)
  (k30 : PySem.W.keepIn K (.ref f30) = true)
  (a31 : PySem.W.nsIn K mainGlobals "is_equilibrium" = some (some (.ref f31)))
  (l31 : K.lookup f31 = some ⟨oc31, od31, .func (PySem.W.fnOf "is_equilibrium" "is_equilibrium" (defArgs s_is_equilibrium) (defBody s_is_equilibrium) (defScope s_is_equilibrium) .none kV31 dc31 pm31 an31 cd31 ct31), sl31⟩)
  (c31 : PySem.W.codeIn K cd31 "is_equilibrium" = true)
  (k31 : PySem.W.keepIn K (.ref f31) = true)
  (a32 : PySem.W.nsIn K mainGlobals "to_point" = some (some (.ref f32)))
  (l32 : K.lookup f32 = some ⟨oc32, od32, .func (PySem.W.fnOf "to_point" "to_point" (defArgs s_to_point) (defBody s_to_point) (defScope s_to_point) .none kV32 dc32 pm32 an32 cd32 ct32), sl32⟩)
  (c32 : PySem.W.codeIn K cd32 "to_point" = true)
  (k32 : PySem.W.keepIn K (.ref f32) = true)
  (a33 : PySem.W.nsIn K mainGlobals "_law_led" = some (some (.ref f33)))
  (l33 : K.lookup f33 = some ⟨oc33, od33, .func (PySem.W.fnOf "_law_led" "_law_led" (defArgs s__law_led) (defBody s__law_led) (defScope s__law_led) .none kV33 dc33 pm33 an33 cd33 ct33), sl33⟩)
  (c33 : PySem.W.codeIn K cd33 "_law_led" = true)
  (k33 : PySem.W.keepIn K (.ref f33) = true)
  (a34 : PySem.W.nsIn K mainGlobals "_law_asked" = some (some (.ref f34)))
  (l34 : K.lookup f34 = some ⟨oc34, od34, .func (PySem.W.fnOf "_law_asked" "_law_asked" (defArgs s__law_asked) (defBody s__law_asked) (defScope s__law_asked) .none kV34 dc34 pm34 an34 cd34 ct34), sl34⟩)
  (c34 : PySem.W.codeIn K cd34 "_law_asked" = true)
  (k34 : PySem.W.keepIn K (.ref f34) = true)
  (a35 : PySem.W.nsIn K mainGlobals "_law_cell" = some (some (.ref f35)))
  (l35 : K.lookup f35 = some ⟨oc35, od35, .func (PySem.W.fnOf "_law_cell" "_law_cell" (defArgs s__law_cell) (defBody s__law_cell) (defScope s__law_cell) .none kV35 dc35 pm35 an35 cd35 ct35), sl35⟩)
  (c35 : PySem.W.codeIn K cd35 "_law_cell" = true)
  (k35 : PySem.W.keepIn K (.ref f35) = true)
  (a36 : PySem.W.nsIn K mainGlobals "_law_numbers" = some (some (.ref f36)))
  (l36 : K.lookup f36 = some ⟨oc36, od36, .func (PySem.W.fnOf "_law_numbers" "_law_numbers" (defArgs s__law_numbers) (defBody s__law_numbers) (defScope s__law_numbers) .none kV36 dc36 pm36 an36 cd36 ct36), sl36⟩)
  (c36 : PySem.W.codeIn K cd36 "_law_numbers" = true)
  (k36 : PySem.W.keepIn K (.ref f36) = true)
  (a37 : PySem.W.nsIn K mainGlobals "_law_planted" = some (some (.ref f37)))
  (l37 : K.lookup f37 = some ⟨oc37, od37, .func (PySem.W.fnOf "_law_planted" "_law_planted" (defArgs s__law_planted) (defBody s__law_planted) (defScope s__law_planted) .none kV37 dc37 pm37 an37 cd37 ct37), sl37⟩)
  (c37 : PySem.W.codeIn K cd37 "_law_planted" = true)
  (k37 : PySem.W.keepIn K (.ref f37) = true)
  (a38 : PySem.W.nsIn K mainGlobals "_law_rows" = some (some (.ref f38)))
  (l38 : K.lookup f38 = some ⟨oc38, od38, .func (PySem.W.fnOf "_law_rows" "_law_rows" (defArgs s__law_rows) (defBody s__law_rows) (defScope s__law_rows) .none kV38 dc38 pm38 an38 cd38 ct38), sl38⟩)
  (c38 : PySem.W.codeIn K cd38 "_law_rows" = true)
  (k38 : PySem.W.keepIn K (.ref f38) = true)
  (a39 : PySem.W.nsIn K mainGlobals "_law_strategy" = some (some (.ref f39)))
  (l39 : K.lookup f39 = some ⟨oc39, od39, .func (PySem.W.fnOf "_law_strategy" "_law_strategy" (defArgs s__law_strategy) (defBody s__law_strategy) (defScope s__law_strategy) .none kV39 dc39 pm39 an39 cd39 ct39), sl39⟩)
  (c39 : PySem.W.codeIn K cd39 "_law_strategy" = true)
  (k39 : PySem.W.keepIn K (.ref f39) = true)
  (a40 : PySem.W.nsIn K mainGlobals "_law_built" = some (some (.ref f40)))
  (l40 : K.lookup f40 = some ⟨oc40, od40, .func (PySem.W.fnOf "_law_built" "_law_built" (defArgs s__law_built) (defBody s__law_built) (defScope s__law_built) .none kV40 dc40 pm40 an40 cd40 ct40), sl40⟩)
  (c40 : PySem.W.codeIn K cd40 "_law_built" = true)
  (k40 : PySem.W.keepIn K (.ref f40) = true)
  (a41 : PySem.W.nsIn K mainGlobals "_law_refused" = some (some (.ref f41)))
  (l41 : K.lookup f41 = some ⟨oc41, od41, .func (PySem.W.fnOf "_law_refused" "_law_refused" (defArgs s__law_refused) (defBody s__law_refused) (defScope s__law_refused) .none kV41 dc41 pm41 an41 cd41 ct41), sl41⟩)
  (c41 : PySem.W.codeIn K cd41 "_law_refused" = true)
  (k41 : PySem.W.keepIn K (.ref f41) = true)
  (a42 : PySem.W.nsIn K mainGlobals "_law_spoilt" = some (some (.ref f42)))
  (l42 : K.lookup f42 = some ⟨oc42, od42, .func (PySem.W.fnOf "_law_spoilt" "_law_spoilt" (defArgs s__law_spoilt) (defBody s__law_spoilt) (defScope s__law_spoilt) .none kV42 dc42 pm42 an42 cd42 ct42), sl42⟩)
  (c42 : PySem.W.codeIn K cd42 "_law_spoilt" = true)
  (k42 : PySem.W.keepIn K (.ref f42) = true)
  (a43 : PySem.W.nsIn K mainGlobals "_law_strategies" = some (some (.ref f43)))
  (l43 : K.lookup f43 = some ⟨oc43, od43, .func (PySem.W.fnOf "_law_strategies" "_law_strategies" (defArgs s__law_strategies) (defBody s__law_strategies) (defScope s__law_strategies) .none kV43 dc43 pm43 an43 cd43 ct43), sl43⟩)
  (c43 : PySem.W.codeIn K cd43 "_law_strategies" = true)
  (k43 : PySem.W.keepIn K (.ref f43) = true)
  (a44 : PySem.W.nsIn K mainGlobals "_law_table" = some (some (.ref f44)))
  (l44 : K.lookup f44 = some ⟨oc44, od44, .func (PySem.W.fnOf "_law_table" "_law_table" (defArgs s__law_table) (defBody s__law_table) (defScope s__law_table) .none kV44 dc44 pm44 an44 cd44 ct44), sl44⟩)
  (c44 : PySem.W.codeIn K cd44 "_law_table" = true)
  (k44 : PySem.W.keepIn K (.ref f44) = true)
  (a45 : PySem.W.nsIn K mainGlobals "_law_told" = some (some (.ref f45)))
  (l45 : K.lookup f45 = some ⟨oc45, od45, .func (PySem.W.fnOf "_law_told" "_law_told" (defArgs s__law_told) (defBody s__law_told) (defScope s__law_told) .none kV45 dc45 pm45 an45 cd45 ct45), sl45⟩)
  (c45 : PySem.W.codeIn K cd45 "_law_told" = true)
  (k45 : PySem.W.keepIn K (.ref f45) = true)
  (a46 : PySem.W.nsIn K mainGlobals "law" = some (some (.ref f46)))
  (l46 : K.lookup f46 = some ⟨oc46, od46, .func (PySem.W.fnOf "law" "law" (defArgs s_law) (defBody s_law) (defScope s_law) .none kV46 dc46 pm46 an46 cd46 ct46), sl46⟩)
  (c46 : PySem.W.codeIn K cd46 "law" = true)
  (k46 : PySem.W.keepIn K (.ref f46) = true)
  (z_abs : PySem.W.nsIn K mainGlobals "abs" = some none)
  (z_all : PySem.W.nsIn K mainGlobals "all" = some none)
  (z_any : PySem.W.nsIn K mainGlobals "any" = some none)
  (z_bool : PySem.W.nsIn K mainGlobals "bool" = some none)
  (z_int : PySem.W.nsIn K mainGlobals "int" = some none)
  (z_isinstance : PySem.W.nsIn K mainGlobals "isinstance" = some none)
  (z_len : PySem.W.nsIn K mainGlobals "len" = some none)
  (z_list : PySem.W.nsIn K mainGlobals "list" = some none)
  (z_max : PySem.W.nsIn K mainGlobals "max" = some none)
  (z_min : PySem.W.nsIn K mainGlobals "min" = some none)
  (z_range : PySem.W.nsIn K mainGlobals "range" = some none)
  (z_str : PySem.W.nsIn K mainGlobals "str" = some none)
  (z_sum : PySem.W.nsIn K mainGlobals "sum" = some none)
  (z_tuple : PySem.W.nsIn K mainGlobals "tuple" = some none)
  (z_zip : PySem.W.nsIn K mainGlobals "zip" = some none)
  (n_Problem_table : PySem.W.findIn K (.ref CProblem) "table" = some none)
  (n_Problem_q : PySem.W.findIn K (.ref CProblem) "q" = some none)
  (n_Problem_size : PySem.W.findIn K (.ref CProblem) "size" = some none)
  (n_Game_first : PySem.W.findIn K (.ref CGame) "first" = some none)
  (n_Game_second : PySem.W.findIn K (.ref CGame) "second" = some none)
  (n_Game_problem : PySem.W.findIn K (.ref CGame) "problem" = some none)
  (g_LARGEST : PySem.W.nsIn K mainGlobals "LARGEST" = some (some (.int 6 t_LARGEST)))
  (g_gcd : PySem.W.nsIn K mainGlobals "gcd" = some (some (.builtin "math.gcd"))) : Txt K mg := by
  have clGame : Cls K CGame := ⟨pgGame, hdGame, poGame, saGame⟩
  have mGame : mg "Game" = some (.ref CGame) := PySem.W.mg_of X G aCGame
  have clProblem : Cls K CProblem := ⟨pgProblem, hdProblem, poProblem, saProblem⟩
  have mProblem : mg "Problem" = some (.ref CProblem) := PySem.W.mg_of X G aCProblem
  have F0 := fun_mk (st := s_Game_sizes) l0 c0 k0
  have b0 := F0.binds (ps := ["self"]) fun _ _ _ _ _ _ us hl => match us, hl with | [_], _ => rfl
  have F1 := fun_mk (st := s_Problem___init__) l1 c1 k1
  have b1 := F1.binds (ps := ["self", "table", "q"]) fun _ _ _ _ _ _ us hl => match us, hl with | [_, _, _], _ => rfl
  have F2 := fun_mk (st := s__are_alike) l2 c2 k2
  have b2 := F2.binds (ps := ["first", "second"]) fun _ _ _ _ _ _ us hl => match us, hl with | [_, _], _ => rfl
  have F3 := fun_mk (st := s__negative) l3 c3 k3
  have b3 := F3.binds (ps := ["matrix"]) fun _ _ _ _ _ _ us hl => match us, hl with | [_], _ => rfl
  have F4 := fun_mk (st := s__raised) l4 c4 k4
  have b4 := F4.binds (ps := ["matrix"]) fun _ _ _ _ _ _ us hl => match us, hl with | [_], _ => rfl
  have F5 := fun_mk (st := s_transposed) l5 c5 k5
  have b5 := F5.binds (ps := ["matrix"]) fun _ _ _ _ _ _ us hl => match us, hl with | [_], _ => rfl
  have F6 := fun_mk (st := s_Game___init__) l6 c6 k6
  have b6 := F6.binds (ps := ["self", "first", "second"]) fun _ _ _ _ _ _ us hl => match us, hl with | [_, _, _], _ => rfl
  have F7 := fun_mk (st := s_dot) l7 c7 k7
  have b7 := F7.binds (ps := ["first", "second"]) fun _ _ _ _ _ _ us hl => match us, hl with | [_, _], _ => rfl
  have F8 := fun_mk (st := s_product) l8 c8 k8
  have b8 := F8.binds (ps := ["matrix", "vector"]) fun _ _ _ _ _ _ us hl => match us, hl with | [_, _], _ => rfl
  have F9 := fun_mk (st := s_ratio) l9 c9 k9
  have b9 := F9.binds (ps := ["upper", "lower"]) fun _ _ _ _ _ _ us hl => match us, hl with | [_, _], _ => rfl
  have F10 := fun_mk (st := s_Game_payoffs) l10 c10 k10
  have b10 := F10.binds (ps := ["self", "x", "y"]) fun _ _ _ _ _ _ us hl => match us, hl with | [_, _, _], _ => rfl
  have F11 := fun_mk (st := s_Problem_slacks) l11 c11 k11
  have b11 := F11.binds (ps := ["self", "x"]) fun _ _ _ _ _ _ us hl => match us, hl with | [_, _], _ => rfl
  have F12 := fun_mk (st := s_Problem_fits) l12 c12 k12
  have b12 := F12.binds (ps := ["self", "x"]) fun _ _ _ _ _ _ us hl => match us, hl with | [_, _], _ => rfl
  have F13 := fun_mk (st := s__law_columns) l13 c13 k13
  have b13 := F13.binds (ps := ["matrix"]) fun _ _ _ _ _ _ us hl => match us, hl with | [_], _ => rfl
  have F14 := fun_mk (st := s__law_dot) l14 c14 k14
  have b14 := F14.binds (ps := ["first", "second"]) fun _ _ _ _ _ _ us hl => match us, hl with | [_, _], _ => rfl
  have F15 := fun_mk (st := s__law_is_best) l15 c15 k15
  have b15 := F15.binds (ps := ["weights", "sums"]) fun _ _ _ _ _ _ us hl => match us, hl with | [_, _], _ => rfl
  have F16 := fun_mk (st := s__law_is_strategy) l16 c16 k16
  have b16 := F16.binds (ps := ["x"]) fun _ _ _ _ _ _ us hl => match us, hl with | [_], _ => rfl
  have F17 := fun_mk (st := s__law_is_equilibrium) l17 c17 k17
  have b17 := F17.binds (ps := ["first", "second", "x", "y"]) fun _ _ _ _ _ _ us hl => match us, hl with | [_, _, _, _], _ => rfl
  have F18 := fun_mk (st := s__law_divisor) l18 c18 k18
  have b18 := F18.binds (ps := ["a", "b"]) fun _ _ _ _ _ _ us hl => match us, hl with | [_, _], _ => rfl
  have F19 := fun_mk (st := s__law_ratio) l19 c19 k19
  have b19 := F19.binds (ps := ["upper", "lower"]) fun _ _ _ _ _ _ us hl => match us, hl with | [_, _], _ => rfl
  have F20 := fun_mk (st := s__law_mean) l20 c20 k20
  have b20 := F20.binds (ps := ["matrix", "x", "y"]) fun _ _ _ _ _ _ us hl => match us, hl with | [_, _, _], _ => rfl
  have F21 := fun_mk (st := s__law_primitive) l21 c21 k21
  have b21 := F21.binds (ps := ["vector"]) fun _ _ _ _ _ _ us hl => match us, hl with | [_], _ => rfl
  have F22 := fun_mk (st := s__law_raised) l22 c22 k22
  have b22 := F22.binds (ps := ["matrix"]) fun _ _ _ _ _ _ us hl => match us, hl with | [_], _ => rfl
  have F23 := fun_mk (st := s__law_point) l23 c23 k23
  have b23 := F23.binds (ps := ["first", "second", "x", "y"]) fun _ _ _ _ _ _ us hl => match us, hl with | [_, _, _, _], _ => rfl
  have F24 := fun_mk (st := s__law_same) l24 c24 k24
  have b24 := F24.binds (ps := ["found", "due"]) fun _ _ _ _ _ _ us hl => match us, hl with | [_, _], _ => rfl
  have F25 := fun_mk (st := s_primitive) l25 c25 k25
  have b25 := F25.binds (ps := ["vector"]) fun _ _ _ _ _ _ us hl => match us, hl with | [_], _ => rfl
  have F26 := fun_mk (st := s_point) l26 c26 k26
  have b26 := F26.binds (ps := ["scale", "numbers"]) fun _ _ _ _ _ _ us hl => match us, hl with | [_, _], _ => rfl
  have F27 := fun_mk (st := s__strategy) l27 c27 k27
  have b27 := F27.binds (ps := ["weights"]) fun _ _ _ _ _ _ us hl => match us, hl with | [_], _ => rfl
  have F28 := fun_mk (st := s_from_point) l28 c28 k28
  have b28 := F28.binds (ps := ["game", "z"]) fun _ _ _ _ _ _ us hl => match us, hl with | [_, _], _ => rfl
  have F29 := fun_mk (st := s__is_best) l29 c29 k29
  have b29 := F29.binds (ps := ["weights", "sums"]) fun _ _ _ _ _ _ us hl => match us, hl with | [_, _], _ => rfl
  have F30 := fun_mk (st := s__is_strategy) l30 c30 k30
  have b30 := F30.binds (ps := ["x"]) fun _ _ _ _ _ _ us hl => match us, hl with | [_], _ => rfl
  have F31 := fun_mk (st := s_is_equilibrium) l31 c31 k31
  have b31 := F31.binds (ps := ["game", "x", "y"]) fun _ _ _ _ _ _ us hl => match us, hl with | [_, _, _], _ => rfl
  have F32 := fun_mk (st := s_to_point) l32 c32 k32
  have b32 := F32.binds (ps := ["game", "x", "y"]) fun _ _ _ _ _ _ us hl => match us, hl with | [_, _, _], _ => rfl
  have F33 := fun_mk (st := s__law_led) l33 c33 k33
  have b33 := F33.binds (ps := ["game", "first", "second", "x", "y"]) fun _ _ _ _ _ _ us hl => match us, hl with | [_, _, _, _, _], _ => rfl
  have F34 := fun_mk (st := s__law_asked) l34 c34 k34
  have b34 := F34.binds (ps := ["game", "first", "second", "xs", "ys"]) fun _ _ _ _ _ _ us hl => match us, hl with | [_, _, _, _, _], _ => rfl
  have F35 := fun_mk (st := s__law_cell) l35 c35 k35
  have b35 := F35.binds (ps := ["script", "k"]) fun _ _ _ _ _ _ us hl => match us, hl with | [_, _], _ => rfl
  have F36 := fun_mk (st := s__law_numbers) l36 c36 k36
  have b36 := F36.binds (ps := ["cell", "count", "base"]) fun _ _ _ _ _ _ us hl => match us, hl with | [_, _, _], _ => rfl
  have F37 := fun_mk (st := s__law_planted) l37 c37 k37
  have b37 := F37.binds (ps := ["rows", "lows", "own", "other"]) fun _ _ _ _ _ _ us hl => match us, hl with | [_, _, _, _], _ => rfl
  have F38 := fun_mk (st := s__law_rows) l38 c38 k38
  have b38 := F38.binds (ps := ["cell", "count", "width", "base"]) fun _ _ _ _ _ _ us hl => match us, hl with | [_, _, _, _], _ => rfl
  have F39 := fun_mk (st := s__law_strategy) l39 c39 k39
  have b39 := F39.binds (ps := ["cell", "size", "base"]) fun _ _ _ _ _ _ us hl => match us, hl with | [_, _, _], _ => rfl
  have F40 := fun_mk (st := s__law_built) l40 c40 k40
  have b40 := F40.binds (ps := ["script", "at"]) fun _ _ _ _ _ _ us hl => match us, hl with | [_, _], _ => rfl
  have F41 := fun_mk (st := s__law_refused) l41 c41 k41
  have b41 := F41.binds (ps := ["game", "first", "second", "xs", "ys"]) fun _ _ _ _ _ _ us hl => match us, hl with | [_, _, _, _, _], _ => rfl
  have F42 := fun_mk (st := s__law_spoilt) l42 c42 k42
  have b42 := F42.binds (ps := ["cell", "planted"]) fun _ _ _ _ _ _ us hl => match us, hl with | [_, _], _ => rfl
  have F43 := fun_mk (st := s__law_strategies) l43 c43 k43
  have b43 := F43.binds (ps := ["cell", "planted"]) fun _ _ _ _ _ _ us hl => match us, hl with | [_, _], _ => rfl
  have F44 := fun_mk (st := s__law_table) l44 c44 k44
  have b44 := F44.binds (ps := ["first", "second"]) fun _ _ _ _ _ _ us hl => match us, hl with | [_, _], _ => rfl
  have F45 := fun_mk (st := s__law_told) l45 c45 k45
  have b45 := F45.binds (ps := ["game", "first", "second"]) fun _ _ _ _ _ _ us hl => match us, hl with | [_, _, _], _ => rfl
  have F46 := fun_mk (st := s_law) l46 c46 k46
  have b46 := F46.binds (ps := ["script"]) fun _ _ _ _ _ _ us hl => match us, hl with | [_], _ => rfl
  exact ⟨⟨CGame, p0, f0, _, mGame, clGame, ⟨a0, g0, t0, _, r0⟩, F0, b0⟩,
   ⟨CProblem, f1, _, mProblem, ⟨mk1, a1, i1, kc1⟩, F1, b1⟩,
   ⟨f2, _, F2, PySem.W.mg_of X G a2, b2⟩,
   ⟨f3, _, F3, PySem.W.mg_of X G a3, b3⟩,
   ⟨f4, _, F4, PySem.W.mg_of X G a4, b4⟩,
   ⟨f5, _, F5, PySem.W.mg_of X G a5, b5⟩,
   ⟨CGame, f6, _, mGame, ⟨mk6, a6, i6, kc6⟩, F6, b6⟩,
   ⟨f7, _, F7, PySem.W.mg_of X G a7, b7⟩,
   ⟨f8, _, F8, PySem.W.mg_of X G a8, b8⟩,
   ⟨f9, _, F9, PySem.W.mg_of X G a9, b9⟩,
   ⟨CGame, f10, _, mGame, clGame, ⟨a10, i10, k10⟩, F10, b10⟩,
   ⟨CProblem, f11, _, mProblem, clProblem, ⟨a11, i11, k11⟩, F11, b11⟩,
   ⟨CProblem, f12, _, mProblem, clProblem, ⟨a12, i12, k12⟩, F12, b12⟩,
   ⟨f13, _, F13, PySem.W.mg_of X G a13, b13⟩,
   ⟨f14, _, F14, PySem.W.mg_of X G a14, b14⟩,
   ⟨f15, _, F15, PySem.W.mg_of X G a15, b15⟩,
   ⟨f16, _, F16, PySem.W.mg_of X G a16, b16⟩,
   ⟨f17, _, F17, PySem.W.mg_of X G a17, b17⟩,
   ⟨f18, _, F18, PySem.W.mg_of X G a18, b18⟩,
   ⟨f19, _, F19, PySem.W.mg_of X G a19, b19⟩,
   ⟨f20, _, F20, PySem.W.mg_of X G a20, b20⟩,
   ⟨f21, _, F21, PySem.W.mg_of X G a21, b21⟩,
   ⟨f22, _, F22, PySem.W.mg_of X G a22, b22⟩,
   ⟨f23, _, F23, PySem.W.mg_of X G a23, b23⟩,
   ⟨f24, _, F24, PySem.W.mg_of X G a24, b24⟩,
   ⟨f25, _, F25, PySem.W.mg_of X G a25, b25⟩,
   ⟨f26, _, F26, PySem.W.mg_of X G a26, b26⟩,
   ⟨f27, _, F27, PySem.W.mg_of X G a27, b27⟩,
   ⟨f28, _, F28, PySem.W.mg_of X G a28, b28⟩,
   ⟨f29, _, F29, PySem.W.mg_of X G a29, b29⟩,
   ⟨f30, _, F30, PySem.W.mg_of X G a30, b30⟩,
   ⟨f31, _, F31, PySem.W.mg_of X G a31, b31⟩,
   ⟨f32, _, F32, PySem.W.mg_of X G a32, b32⟩,
   ⟨f33, _, F33, PySem.W.mg_of X G a33, b33⟩,
   ⟨f34, _, F34, PySem.W.mg_of X G a34, b34⟩,
   ⟨f35, _, F35, PySem.W.mg_of X G a35, b35⟩,
   ⟨f36, _, F36, PySem.W.mg_of X G a36, b36⟩,
   ⟨f37, _, F37, PySem.W.mg_of X G a37, b37⟩,
   ⟨f38, _, F38, PySem.W.mg_of X G a38, b38⟩,
   ⟨f39, _, F39, PySem.W.mg_of X G a39, b39⟩,
   ⟨f40, _, F40, PySem.W.mg_of X G a40, b40⟩,
   ⟨f41, _, F41, PySem.W.mg_of X G a41, b41⟩,
   ⟨f42, _, F42, PySem.W.mg_of X G a42, b42⟩,
   ⟨f43, _, F43, PySem.W.mg_of X G a43, b43⟩,
   ⟨f44, _, F44, PySem.W.mg_of X G a44, b44⟩,
   ⟨f45, _, F45, PySem.W.mg_of X G a45, b45⟩,
   ⟨f46, _, F46, PySem.W.mg_of X G a46, b46⟩,
   PySem.W.mg_none_of X G z_abs,
   PySem.W.mg_none_of X G z_all,
   PySem.W.mg_none_of X G z_any,
   PySem.W.mg_none_of X G z_bool,
   PySem.W.mg_none_of X G z_int,
   PySem.W.mg_none_of X G z_isinstance,
   PySem.W.mg_none_of X G z_len,
   PySem.W.mg_none_of X G z_list,
   PySem.W.mg_none_of X G z_max,
   PySem.W.mg_none_of X G z_min,
   PySem.W.mg_none_of X G z_range,
   PySem.W.mg_none_of X G z_str,
   PySem.W.mg_none_of X G z_sum,
   PySem.W.mg_none_of X G z_tuple,
   PySem.W.mg_none_of X G z_zip,
   fun c hc C h => by
    have e := List.mem_singleton.mp hc
    · subst e; rw [mProblem] at h; cases h; exact ⟨clProblem, n_Problem_table⟩,
   fun c hc C h => by
    have e := List.mem_singleton.mp hc
    · subst e; rw [mProblem] at h; cases h; exact ⟨clProblem, n_Problem_q⟩,
   fun c hc C h => by
    have e := List.mem_singleton.mp hc
    · subst e; rw [mProblem] at h; cases h; exact ⟨clProblem, n_Problem_size⟩,
   fun c hc C h => by
    have e := List.mem_singleton.mp hc
    · subst e; rw [mGame] at h; cases h; exact ⟨clGame, n_Game_first⟩,
   fun c hc C h => by
    have e := List.mem_singleton.mp hc
    · subst e; rw [mGame] at h; cases h; exact ⟨clGame, n_Game_second⟩,
   fun c hc C h => by
    have e := List.mem_singleton.mp hc
    · subst e; rw [mGame] at h; cases h; exact ⟨clGame, n_Game_problem⟩,
   ⟨t_LARGEST, PySem.W.mg_of X G g_LARGEST⟩,
   PySem.W.mg_of X G g_gcd⟩
end K69

end

section
set_option Elab.async false
set_option linter.all false
set_option maxRecDepth 100000
namespace K69
open PySem PySem.Spec PyProof.Rows L2 DL
/-- within the line of a product -/
def Sm (x : Int) : Prop := x.natAbs < 2 ^ 1000
theorem Sm.mul {a b : Int} (h1 : Sm a) (h2 : Sm b) : mulOk a b = true :=
  mulOk_of (Nat.lt_of_lt_of_le h1 (Nat.pow_le_pow_right (by omega) (by omega))) (Nat.lt_of_lt_of_le h2 (Nat.pow_le_pow_right (by omega) (by omega)))
theorem Sm.div {b : Int} (h1 : Sm b) (h0 : b ≠ 0) : divOk b = true := divOk_of h0 (Nat.lt_of_lt_of_le h1 (Nat.pow_le_pow_right (by omega) (by omega)))
def dotI (xs ys : List Int) : Int := ((xs.zip ys).map fun p => p.1 * p.2).sum
theorem dot_eq {d1 d2 : D} {xs ys : List Int} (e1 : d1.items = some (xs.map .int)) (e2 : d2.items = some (ys.map .int)) (h1 : ∀ x ∈ xs, Sm x) (h2 : ∀ y ∈ ys, Sm y) (hl : xs.length ≤ 1000) : f_dot [d1, d2] = some (.int (dotI xs ys)) := by
  have h : lcD [2, 3] (iZip (dvar 0) (dvar 1)) (gaTup 2 (gaCons (gaName 2) (gaCons (gaName 3) gaNil))) dYes (dBin gMul (dvar 2) (dvar 3)) [some d1, some d2, none, none] = some ((xs.zip ys).map fun p => .int (p.1 * p.2)) := by
    refine lc_map (g := fun p => .tup [.int p.1, .int p.2]) (xs.zip ys) ?_ (by rw [List.length_zip]; omega) fun p hp => ⟨_, rfl, rfl, ?_⟩
    · show d1.items.bind _ = _
      rw [e1]
      show d2.items.map _ = _
      rw [e2]
      show some (zipD _ _) = _
      rw [zipD_map]
    · exact gMul_int ((h1 _ (List.of_mem_zip hp).1).mul (h2 _ (List.of_mem_zip hp).2))
  show Option.bind (Option.map _ (Option.bind (Option.map _ (lcD _ _ _ _ _ _)) _)) _ = _
  rw [show lcD [2, 3] (iZip (dvar 0) (dvar 1)) (gaTup 2 (gaCons (gaName 2) (gaCons (gaName 3) gaNil))) dYes (dBin gMul (dvar 2) (dvar 3)) (stD 4 [d1, d2]) = _ from h]
  show Option.bind (Option.map _ (gSum (.lst _))) _ = _
  rw [show (List.map (fun p : Int × Int => D.int (p.1 * p.2)) (xs.zip ys)) = ((xs.zip ys).map fun p => p.1 * p.2).map D.int by rw [List.map_map]; rfl, gSum_l]
  rfl
theorem law_dot_eq {d1 d2 : D} {xs ys : List Int} (e1 : d1.items = some (xs.map .int)) (e2 : d2.items = some (ys.map .int)) (h1 : ∀ x ∈ xs, Sm x) (h2 : ∀ y ∈ ys, Sm y) (hl : xs.length ≤ 1000) : f__law_dot [d1, d2] = some (.int (dotI xs ys)) := dot_eq e1 e2 h1 h2 hl
theorem product_eq {M : List (List Int)} {v : List Int} (h1 : ∀ r ∈ M, r.length ≤ 1000 ∧ ∀ x ∈ r, Sm x) (h2 : ∀ y ∈ v, Sm y) (hl : M.length ≤ 1000) : f_product [dM M, dI v] = some (dI (M.map fun r => dotI r v)) := by
  have h : lcD [2] (iSeq (dvar 0)) (gaName 2) dYes (dCal f_dot (aCons (dvar 2) (aCons (dvar 1) aNil))) (stD 3 [dM M, dI v]) = some (M.map fun r => .int (dotI r v)) :=
    lc_map (g := dI) M rfl hl fun r hr => ⟨_, rfl, rfl, dot_eq rfl rfl (h1 r hr).2 h2 (h1 r hr).1⟩
  show Option.bind (Option.map _ (Option.bind (Option.map _ (lcD _ _ _ _ _ _)) _)) _ = _
  rw [h]
  show some (D.tup _) = some (D.tup _)
  rw [List.map_map]
  rfl

/-! ### matrices -/
structure Sh (m n : Nat) (M : List (List Int)) : Prop where
  len : M.length = m
  row : ∀ r ∈ M, r.length = n
def colsI (M : List (List Int)) (n : Nat) : List (List Int) := (List.range n).map fun j => M.map fun r => r.getD j 0
theorem Sh.cols {m n : Nat} {M : List (List Int)} (h : Sh m n M) : Sh n m (colsI M n) := by
  refine ⟨by simp [colsI], fun r hr => ?_⟩
  obtain ⟨j, _, rfl⟩ := List.mem_map.mp hr
  rw [List.length_map, h.len]
theorem Sh.ne {m n : Nat} {M : List (List Int)} (h : Sh m n M) (hm : 1 ≤ m) : ∃ r M', M = r :: M' ∧ r.length = n := by
  cases M with
  | nil => have := h.len; simp at this; omega
  | cons r M' => exact ⟨r, M', rfl, h.row r List.mem_cons_self⟩
theorem getD_map_int (r : List Int) (j : Nat) (h : j < r.length) : (r.map D.int).getD j .non = .int (r.getD j 0) := by
  rw [List.getD_eq_getElem?_getD, List.getD_eq_getElem?_getD, List.getElem?_map, List.getElem?_eq_getElem h]
  rfl
theorem mapM_items {α : Type} (f : α → List D) : ∀ M : List α, (M.map fun r => D.tup (f r)).mapM D.items = some (M.map f)
  | [] => rfl
  | r :: M => by
    rw [List.map_cons, List.mapM_cons, mapM_items f M]
    rfl
theorem transposed_eq {m n : Nat} {M : List (List Int)} (h : Sh m n M) (hm : 1 ≤ m) (hm2 : m ≤ 12) (hn : n ≤ 1000) : f_transposed [dM M] = some (dM (colsI M n)) := by
  obtain ⟨r, M', rfl, hr⟩ := h.ne hm
  have hi : iStar (dvar 0) (stD 2 [dM (r :: M')]) = some ((List.range n).map fun j => dI ((r :: M').map fun q => q.getD j 0)) := by
    show Option.bind (List.mapM D.items ((r :: M').map dI)) colsD = _
    rw [show List.mapM D.items ((r :: M').map dI) = some ((r :: M').map fun q : List Int => q.map D.int) from mapM_items (fun q : List Int => q.map D.int) (r :: M')]
    show (if ((r :: M').map fun q => q.map D.int).length ≤ 12 ∧ ((M'.map fun q => q.map D.int).all fun q => q.length == (r.map D.int).length) = true then some ((List.range (r.map D.int).length).map fun i => D.tup (((r :: M').map fun q => q.map D.int).map fun q => q.getD i .non)) else none) = _
    rw [if_pos]
    · rw [List.length_map, hr]
      congr 1
      apply List.map_congr_left
      intro j hj
      rw [List.mem_range] at hj
      rw [List.map_map]
      show D.tup _ = D.tup _
      rw [List.map_map]
      congr 1
      apply List.map_congr_left
      intro q hq
      exact getD_map_int q j (by rw [h.row q hq]; exact hj)
    · refine ⟨by rw [List.length_map, h.len]; exact hm2, ?_⟩
      rw [List.all_map]
      apply List.all_eq_true.mpr
      intro q hq
      show (q.map D.int).length == (r.map D.int).length
      rw [List.length_map, List.length_map, h.row q (List.mem_cons_of_mem _ hq), hr]
      exact beq_self_eq_true n
  have h1 : lcD [1] (iStar (dvar 0)) (gaName 1) dYes (dC1 gTuple (dvar 1)) (stD 2 [dM (r :: M')]) = some ((List.range n).map fun j => dI ((r :: M').map fun q => q.getD j 0)) :=
    lc_map (g := fun j => dI ((r :: M').map fun q => q.getD j 0)) (List.range n) hi (by rw [List.length_range]; exact hn) fun j hj => ⟨_, rfl, rfl, rfl⟩
  refine runD_rt (sRet_eq (dC1_eq (dLst_eq h1)) : b_transposed _ = _) |>.trans ?_
  show some (D.tup _) = some (D.tup _)
  unfold colsI
  rw [List.map_map]
  rfl
theorem columns_eq {m n : Nat} {M : List (List Int)} (b1 b2 : Bool) (h : Sh m n M) (hm : 1 ≤ m) (hm2 : m ≤ 1000) (hn : n ≤ 1000) : f__law_columns [sqD b1 (M.map fun r => sqD b2 (r.map .int))] = some (dM (colsI M n)) := by
  obtain ⟨r, M', rfl, hr⟩ := h.ne hm
  have hlen : dC1 gLen (dBin gIx (dvar 0) (dcon (.int 0))) (stD 3 [sqD b1 ((r :: M').map fun r => sqD b2 (r.map .int))]) = some (.int n) := by
    refine (dC1_eq (d := sqD b2 (r.map .int)) ?_).trans ?_
    · refine (dBin_eq (a := sqD b1 ((r :: M').map fun r => sqD b2 (r.map .int))) (b := .int 0) rfl rfl).trans ?_
      rw [sq_ix, List.map_cons, atI_0]
    · rw [sq_len, List.length_map, hr]
  have h1 : lcD [2] (iR1 (dC1 gLen (dBin gIx (dvar 0) (dcon (.int 0))))) (gaName 2) dYes (dC1 gTuple (dLst (lcD [1] (iSeq (dvar 0)) (gaName 1) dYes (dBin gIx (dvar 1) (dvar 2))))) (stD 3 [sqD b1 ((r :: M').map fun r => sqD b2 (r.map .int))]) =
      some ((List.range n).map fun j => dI ((r :: M').map fun q => q.getD j 0)) := by
    refine lc_map (g := fun i => .int (i : Nat)) (List.range n) (iR1_eq hlen hn) (by rw [List.length_range]; exact hn) fun j hj => ⟨_, rfl, rfl, ?_⟩
    rw [List.mem_range] at hj
    have h2 : lcD [1] (iSeq (dvar 0)) (gaName 1) dYes (dBin gIx (dvar 1) (dvar 2)) (setD (wipeD (stD 3 [sqD b1 ((r :: M').map fun r => sqD b2 (r.map .int))]) [2]) [(2, .int j)]) = some ((r :: M').map fun q => .int (q.getD j 0)) := by
      refine lc_map (g := fun q => sqD b2 (q.map .int)) (r :: M') ?_ (by rw [h.len]; exact hm2) fun q hq => ⟨_, rfl, rfl, ?_⟩
      · exact iSeq_eq (d := sqD b1 ((r :: M').map fun r => sqD b2 (r.map .int))) rfl (sq_items _ _)
      · refine (dBin_eq (a := sqD b2 (q.map .int)) (b := .int j) rfl rfl).trans ?_
        rw [sq_ix, DL.atI_nat, List.getElem?_map, List.getD_eq_getElem?_getD, List.getElem?_eq_getElem (by rw [h.row q hq]; exact hj)]
        rfl
    refine (dC1_eq (dLst_eq h2)).trans ?_
    show some (D.tup _) = some (D.tup _)
    rw [List.map_map]
    rfl
  refine runD_rt (sRet_eq (dC1_eq (dLst_eq h1)) : b__law_columns _ = _) |>.trans ?_
  show some (D.tup _) = some (D.tup _)
  unfold colsI
  rw [List.map_map]
  rfl
/-! ### raised, negative -/
def lowM (M : List (List Int)) : Int := minL (M.map minL)
def raisedI (M : List (List Int)) : List (List Int) := M.map fun r => r.map fun a => a - lowM M + 1
def negI (M : List (List Int)) : List (List Int) := M.map fun r => r.map fun a => -a
theorem raised_eq {m n : Nat} {M : List (List Int)} (h : Sh m n M) (hm : 1 ≤ m) (hn : 1 ≤ n) (hm2 : m ≤ 1000) (hn2 : n ≤ 1000) : f__raised [dM M] = some (dM (raisedI M)) := by
  have hr : ∀ r ∈ M, r ≠ [] := fun r hr z => by have := h.row r hr; rw [z] at this; simp at this; omega
  have hM : M.map minL ≠ [] := fun z => by have := h.len; rw [List.map_eq_nil_iff] at z; rw [z] at this; simp at this; omega
  have h1 : lcD [2] (iSeq (dvar 0)) (gaName 2) dYes (dC1 gMin (dvar 2)) (stD 4 [dM M]) = some (M.map fun r => .int (minL r)) :=
    lc_map (g := dI) M rfl (by rw [h.len]; exact hm2) fun r hr' => ⟨_, rfl, rfl, (dC1_eq (d := dI r) rfl).trans (gMin_sq true (hr r hr'))⟩
  have e1 : sSet 1 (dC1 gMin (dLst (lcD [2] (iSeq (dvar 0)) (gaName 2) dYes (dC1 gMin (dvar 2))))) (stD 4 [dM M]) = some (.nx ((stD 4 [dM M]).set 1 (some (.int (lowM M))))) := by
    refine sSet_eq ((dC1_eq (dLst_eq h1)).trans ?_)
    have := gMin_sq false hM
    rw [List.map_map] at this
    exact this
  have h2 : lcD [2] (iSeq (dvar 0)) (gaName 2) dYes (dC1 gTuple (dLst (lcD [3] (iSeq (dvar 2)) (gaName 3) dYes (dBin gAdd (dBin gSub (dvar 3) (dvar 1)) (dcon (.int 1)))))) ((stD 4 [dM M]).set 1 (some (.int (lowM M)))) = some (M.map fun r => dI (r.map fun a => a - lowM M + 1)) := by
    refine lc_map (g := dI) M rfl (by rw [h.len]; exact hm2) fun r hr' => ⟨_, rfl, rfl, ?_⟩
    have h3 : lcD [3] (iSeq (dvar 2)) (gaName 3) dYes (dBin gAdd (dBin gSub (dvar 3) (dvar 1)) (dcon (.int 1))) (setD (wipeD ((stD 4 [dM M]).set 1 (some (.int (lowM M)))) [2]) [(2, dI r)]) = some (r.map fun a => .int (a - lowM M + 1)) :=
      lc_map (g := D.int) r rfl (by rw [h.row r hr']; exact hn2) fun a ha => ⟨_, rfl, rfl, rfl⟩
    refine (dC1_eq (dLst_eq h3)).trans ?_
    show some (D.tup _) = some (D.tup _)
    rw [List.map_map]
    rfl
  refine runD_rt ((sq_nx e1).trans (sRet_eq (dC1_eq (dLst_eq h2))) : b__raised _ = _) |>.trans ?_
  show some (D.tup _) = some (D.tup _)
  unfold raisedI
  rw [List.map_map]
  rfl
theorem law_raised_eq {m n : Nat} {M : List (List Int)} (h : Sh m n M) (hm : 1 ≤ m) (hn : 1 ≤ n) (hm2 : m ≤ 1000) (hn2 : n ≤ 1000) : f__law_raised [dM M] = some (dM (raisedI M)) := raised_eq h hm hn hm2 hn2
theorem negative_eq {m n : Nat} {M : List (List Int)} (h : Sh m n M) (hm2 : m ≤ 1000) (hn2 : n ≤ 1000) : f__negative [dM M] = some (dM (negI M)) := by
  have h2 : lcD [2] (iSeq (dvar 0)) (gaName 2) dYes (dC1 gTuple (dLst (lcD [1] (iSeq (dvar 2)) (gaName 1) dYes (dC1 gNeg (dvar 1))))) (stD 3 [dM M]) = some (M.map fun r => dI (r.map fun a => -a)) := by
    refine lc_map (g := dI) M rfl (by rw [h.len]; exact hm2) fun r hr' => ⟨_, rfl, rfl, ?_⟩
    have h3 : lcD [1] (iSeq (dvar 2)) (gaName 1) dYes (dC1 gNeg (dvar 1)) (setD (wipeD (stD 3 [dM M]) [2]) [(2, dI r)]) = some (r.map fun a => .int (-a)) :=
      lc_map (g := D.int) r rfl (by rw [h.row r hr']; exact hn2) fun a ha => ⟨_, rfl, rfl, rfl⟩
    refine (dC1_eq (dLst_eq h3)).trans ?_
    show some (D.tup _) = some (D.tup _)
    rw [List.map_map]
    rfl
  refine runD_rt (sRet_eq (dC1_eq (dLst_eq h2)) : b__negative _ = _) |>.trans ?_
  show some (D.tup _) = some (D.tup _)
  unfold negI
  rw [List.map_map]
  rfl
theorem Sh.raised {m n : Nat} {M : List (List Int)} (h : Sh m n M) : Sh m n (raisedI M) := ⟨by rw [raisedI, List.length_map, h.len], fun r hr => by
  obtain ⟨q, hq, rfl⟩ := List.mem_map.mp hr
  rw [List.length_map, h.row q hq]⟩
theorem Sh.neg {m n : Nat} {M : List (List Int)} (h : Sh m n M) : Sh m n (negI M) := ⟨by rw [negI, List.length_map, h.len], fun r hr => by
  obtain ⟨q, hq, rfl⟩ := List.mem_map.mp hr
  rw [List.length_map, h.row q hq]⟩
end K69

end

section
set_option Elab.async false
set_option linter.all false
set_option maxRecDepth 100000
namespace K69
open PySem PySem.Spec PyProof.Rows L2 DL
def probD (T : List (List Int)) (N : Nat) : D := .obj "Problem" ["table", "q", "size"] [dM T, dI (List.replicate N 1), .int N]
theorem problem_eq {N : Nat} {T : List (List Int)} {q : List Int} (hT : Sh N N T) (hq : q.length = N) (h1 : 1 ≤ N) (h6 : N ≤ 6) : f_Problem___init__ [dM T, dI q] = some ((["table", "q", "size"] : List Str), [dM T, dI q, .int N]) := by
  have e1 : sSet 3 (dC1 gLen (dvar 2)) (some (.obj "Problem" [] []) :: stD 4 [dM T, dI q]) = some (.nx [some (.obj "Problem" [] []), some (dM T), some (dI q), some (.int N), none]) := by
    refine (sSet_eq (d := .int N) ?_).trans rfl
    show some (D.int ((q.map D.int).length : Nat)) = _
    rw [List.length_map, hq]
  have h3 : lcD [4] (iSeq (dvar 1)) (gaName 4) dYes (dBin gNe (dC1 gLen (dvar 4)) (dvar 3)) [some (.obj "Problem" [] []), some (dM T), some (dI q), some (.int N), none] = some (T.map fun _ => .bl false) := by
    refine lc_map (g := dI) T rfl (by rw [hT.len]; omega) fun r hr => ⟨_, rfl, rfl, ?_⟩
    show gNe (.int ((r.map D.int).length : Nat)) (.int N) = _
    rw [List.length_map, hT.row r hr, gNe_int, beq_self_eq_true]
    rfl
  have e2 : sIf (tor (tnot (dChain gLe gLe (dcon (.int 1)) (dvar 3) (dcon (.int 6)))) (tor (asT (dBin gNe (dC1 gLen (dvar 1)) (dvar 3))) (tru (dC1 gAny (dLst (lcD [4] (iSeq (dvar 1)) (gaName 4) dYes (dBin gNe (dC1 gLen (dvar 4)) (dvar 3))))))))
      sNo sNx [some (.obj "Problem" [] []), some (dM T), some (dI q), some (.int N), none] = some (.nx [some (.obj "Problem" [] []), some (dM T), some (dI q), some (.int N), none]) := by
    refine (sIf_f ?_).trans rfl
    refine (tor_f ?_).trans ((tor_f ?_).trans ?_)
    · rw [tnot_eq (dChain_le rfl rfl rfl), decide_eq_true (show (1 : Int) ≤ N by omega), decide_eq_true (show (N : Int) ≤ 6 by omega)]
      rfl
    · refine asT_eq ?_
      show gNe (.int ((T.map dI).length : Nat)) (.int N) = _
      rw [List.length_map, hT.len, gNe_int, beq_self_eq_true]
      rfl
    · refine tru_bl ((dC1_eq (dLst_eq h3)).trans ?_)
      rw [show (T.map fun _ => D.bl false) = (T.map fun _ => false).map D.bl by rw [List.map_map]; rfl, gAny_l]
      congr 2
      induction T with
      | nil => rfl
      | cons a T ih => rw [List.map_cons, List.any_cons]; show (false || _) = false; rw [Bool.false_or]; clear h3 e1 hT; clear ih; induction T with
        | nil => rfl
        | cons b T ih => exact ih
  have e3 := sFldS_eq (i := 0) (cs := ["Problem"]) (f := "table") (fv := dvar 1) (δ := [some (.obj "Problem" [] []), some (dM T), some (dI q), some (.int N), none]) (d := dM T) rfl rfl (by decide +kernel)
  have e4 := sFldS_eq (i := 0) (cs := ["Problem"]) (f := "q") (fv := dvar 2) (δ := [some (.obj "Problem" ["table"] [dM T]), some (dM T), some (dI q), some (.int N), none]) (d := dI q) rfl rfl (by decide +kernel)
  have e5 := sFldS_eq (i := 0) (cs := ["Problem"]) (f := "size") (fv := dvar 3) (δ := [some (.obj "Problem" ["table", "q"] [dM T, dI q]), some (dM T), some (dI q), some (.int N), none]) (d := .int N) rfl rfl (by decide +kernel)
  refine runI_nx (δ := [some (.obj "Problem" ["table", "q", "size"] [dM T, dI q, .int N]), some (dM T), some (dI q), some (.int N), none]) ?_ rfl
  exact (sq_nx e1).trans ((sq_nx e2).trans ((sq_nx e3).trans ((sq_nx e4).trans e5)))
/-! ### the table -/
def tblI (A B : List (List Int)) (m n : Nat) : List (List Int) := (negI (raisedI A)).map (fun r => List.replicate m 0 ++ r) ++ (negI (colsI (raisedI B) n)).map fun r => r ++ List.replicate n 0
def gameD (A B : List (List Int)) (m n : Nat) : D := .obj "Game" ["first", "second", "problem"] [dM A, dM B, probD (tblI A B m n) (m + n)]
theorem tbl_sh {A B : List (List Int)} {m n : Nat} (hA : Sh m n A) (hB : Sh m n B) : Sh (m + n) (m + n) (tblI A B m n) := by
  refine ⟨?_, fun r hr => ?_⟩
  · rw [tblI, List.length_append, List.length_map, List.length_map, hA.raised.neg.len, hB.raised.cols.neg.len]
  · rcases List.mem_append.mp hr with h | h
    · obtain ⟨q, hq, rfl⟩ := List.mem_map.mp h
      rw [List.length_append, List.length_replicate, hA.raised.neg.row q hq]
    · obtain ⟨q, hq, rfl⟩ := List.mem_map.mp h
      rw [List.length_append, List.length_replicate, hB.raised.cols.neg.row q hq]
theorem sizes_eq {A B : List (List Int)} {m n : Nat} {d : D} {ns : List Str} {ds : List D} (hA : Sh m n A) (hm : 1 ≤ m) (hd : gFld ["Game"] "first" d = some (dM A)) : f_Game_sizes [d] = some (.tup [.int m, .int n]) := by
  obtain ⟨r, A', rfl, hr⟩ := hA.ne hm
  refine runD_rt (sRet_eq (dTup_eq (aCons_eq (d := .int m) ?_ (aCons_eq (d := .int n) ?_ rfl))) : b_Game_sizes _ = _)
  · refine (dC1_eq ((dC1_eq (d := d) rfl).trans hd)).trans ?_
    show some (D.int (((r :: A').map dI).length : Nat)) = _
    rw [List.length_map, hA.len]
  · refine (dC1_eq (d := dI r) ((dBin_eq ((dC1_eq (d := d) rfl).trans hd) (b := .int 0) rfl).trans ?_)).trans ?_
    · show atI ((r :: A').map dI) 0 = _
      rw [List.map_cons, atI_0]
    · show some (D.int ((r.map D.int).length : Nat)) = _
      rw [List.length_map, hr]
theorem alike_eq {A B : List (List Int)} {m n : Nat} (hA : Sh m n A) (hB : Sh m n B) (hm : 1 ≤ m) (hn : 1 ≤ n) (h6 : m + n ≤ 6) : f__are_alike [dM A, dM B] = some (.bl true) := by
  obtain ⟨r, A', rfl, hr⟩ := hA.ne hm
  have e1 : sIf (tor (tnot (tru (dvar 0))) (asT (dBin gNe (dC1 gLen (dvar 1)) (dC1 gLen (dvar 0))))) (sRet (dcon (.bl false))) sNx (stD 4 [dM (r :: A'), dM B]) = some (.nx (stD 4 [dM (r :: A'), dM B])) := by
    refine (sIf_f ((tor_f ?_).trans (asT_eq ?_))).trans rfl
    · rfl
    · show gNe (.int ((B.map dI).length : Nat)) (.int (((r :: A').map dI).length : Nat)) = _
      rw [List.length_map, List.length_map, hA.len, hB.len, gNe_int, beq_self_eq_true]
      rfl
  have e2 : sSet 2 (dC1 gLen (dBin gIx (dvar 0) (dcon (.int 0)))) (stD 4 [dM (r :: A'), dM B]) = some (.nx [some (dM (r :: A')), some (dM B), some (.int n), none]) := by
    refine (sSet_eq (d := .int n) ?_).trans rfl
    refine (dC1_eq (d := dI r) ?_).trans ?_
    · show atI ((r :: A').map dI) 0 = _
      rw [List.map_cons, atI_0]
    · show some (D.int ((r.map D.int).length : Nat)) = _
      rw [List.length_map, hr]
  have e3 : sIf (tor (asT (dBin gEq (dvar 2) (dcon (.int 0)))) (asT (dBin gGt (dBin gAdd (dC1 gLen (dvar 0)) (dvar 2)) (dcon (.int 6))))) (sRet (dcon (.bl false))) sNx [some (dM (r :: A')), some (dM B), some (.int n), none] = some (.nx [some (dM (r :: A')), some (dM B), some (.int n), none]) := by
    refine (sIf_f ((tor_f (asT_eq ?_)).trans (asT_eq ?_))).trans rfl
    · show gEq (.int n) (.int 0) = _
      rw [gEq_int]
      congr 2
      exact beq_eq_false_iff_ne.mpr (by omega)
    · show some (D.bl (decide ((6 : Int) < (((r :: A').map dI).length : Nat) + (n : Int)))) = _
      rw [List.length_map, hA.len, decide_eq_false (by omega)]
  have h4 : lcD [3] (iSeq (dBin gAdd (dvar 0) (dvar 1))) (gaName 3) dYes (dBin gEq (dC1 gLen (dvar 3)) (dvar 2)) [some (dM (r :: A')), some (dM B), some (.int n), none] = some (((r :: A') ++ B).map fun _ => .bl true) := by
    refine lc_map (g := dI) ((r :: A') ++ B) (iSeq_eq ((dBin_eq rfl rfl).trans (gAdd_tup ?_)) ?_) ?_ fun q hq => ⟨_, rfl, rfl, ?_⟩
    · rw [List.length_map, List.length_map, hA.len, hB.len]; omega
    · show some _ = some _
      rw [List.map_append]
    · rw [List.length_append, hA.len, hB.len]; omega
    · show gEq (.int ((q.map D.int).length : Nat)) (.int n) = _
      have : q.length = n := by
        rcases List.mem_append.mp hq with h | h
        · exact hA.row q h
        · exact hB.row q h
      rw [List.length_map, this, gEq_int, beq_self_eq_true]
  refine runD_rt ((sq_nx e1).trans ((sq_nx e2).trans ((sq_nx e3).trans (sRet_eq ((dC1_eq (dLst_eq h4)).trans ?_)))) : b__are_alike _ = _)
  rw [show (((r :: A') ++ B).map fun _ => D.bl true) = (((r :: A') ++ B).map fun _ => true).map D.bl by rw [List.map_map]; rfl, gAll_l]
  congr 2
  rw [List.all_map]
  exact List.all_eq_true.mpr fun _ _ => rfl
theorem game_eq {A B : List (List Int)} {m n : Nat} (hA : Sh m n A) (hB : Sh m n B) (hm : 1 ≤ m) (hn : 1 ≤ n) (h6 : m + n ≤ 6) : mkD "Game" f_Game___init__ [dM A, dM B] = some (gameD A B m n) := by
  let δ1 : DSt := [some (.obj "Game" [] []), some (dM A), some (dM B), none, none, none, none]
  let δ2 : DSt := [some (.obj "Game" ["first", "second"] [dM A, dM B]), some (dM A), some (dM B), none, none, none, none]
  let δ3 : DSt := [some (.obj "Game" ["first", "second"] [dM A, dM B]), some (dM A), some (dM B), some (.int m), some (.int n), none, none]
  have e1 : sIf (tnot (tru (dCal f__are_alike (aCons (dvar 1) (aCons (dvar 2) aNil))))) sNo sNx δ1 = some (.nx δ1) :=
    (sIf_f (tnot_eq (tru_bl ((dCal_eq (ds := [dM A, dM B]) rfl).trans (alike_eq hA hB hm hn h6))))).trans rfl
  have e2 := sFldS_eq (i := 0) (cs := ["Game"]) (f := "first") (fv := dvar 1) (δ := δ1) (d := dM A) rfl rfl (by decide +kernel)
  have e3 := sFldS_eq (i := 0) (cs := ["Game"]) (f := "second") (fv := dvar 2) (δ := δ1.set 0 (some (.obj "Game" ["first"] [dM A]))) (d := dM B) rfl rfl (by decide +kernel)
  have e4 : sAsg (dPropF "Game" f_Game_sizes (dvar 0)) (gaTup 2 (gaCons (gaName 3) (gaCons (gaName 4) gaNil))) δ2 = some (.nx δ3) :=
    (sAsg_eq (dPropF_eq (d := .obj "Game" ["first", "second"] [dM A, dM B]) rfl (isCls_of _ _ _) (sizes_eq (A := A) (B := B) (ns := []) (ds := []) hA hm ((gFld_of (List.mem_singleton.mpr rfl)).trans lookup_hit)) rfl) rfl).trans rfl
  have er := raised_eq hA hm hn (by omega) (by omega)
  have en := negative_eq hA.raised (by omega) (by omega)
  have h5 : lcD [6] (iSeq (dCal f__negative (aCons (dCal f__raised (aCons (dvar 1) aNil)) aNil))) (gaName 6) dYes (dBin gAdd (dBin gMul (dTup (aCons (dcon (.int 0)) aNil)) (dvar 3)) (dvar 6)) δ3 = some ((negI (raisedI A)).map fun r => dI (List.replicate m 0 ++ r)) := by
    refine lc_map (g := dI) (negI (raisedI A)) (iSeq_eq (d := dM (negI (raisedI A))) ?_ rfl) (by rw [hA.raised.neg.len]; omega) fun q hq => ⟨_, rfl, rfl, ?_⟩
    · exact (dCal_eq (aCons_eq ((dCal_eq (ds := [dM A]) rfl).trans er) rfl)).trans en
    · refine (dBin_eq ((dBin_eq (b := .int m) (dTup_eq (ds := [.int 0]) rfl) rfl).trans (gMul_rep (by omega))) (b := dI q) rfl).trans ?_
      rw [gAdd_tup (by rw [List.length_replicate, List.length_map, hA.raised.neg.row q hq]; omega)]
      show _ = some (D.tup _)
      rw [List.map_append, List.map_replicate]
  let δ4 : DSt := [some (.obj "Game" ["first", "second"] [dM A, dM B]), some (dM A), some (dM B), some (.int m), some (.int n), some (.lst ((negI (raisedI A)).map fun r => dI (List.replicate m 0 ++ r))), none]
  have erB := raised_eq hB hm hn (by omega) (by omega)
  have et := transposed_eq hB.raised hm (by omega) (by omega)
  have enB := negative_eq hB.raised.cols (by omega) (by omega)
  have h6' : lcD [6] (iSeq (dCal f__negative (aCons (dCal f_transposed (aCons (dCal f__raised (aCons (dvar 2) aNil)) aNil)) aNil))) (gaName 6) dYes (dBin gAdd (dvar 6) (dBin gMul (dTup (aCons (dcon (.int 0)) aNil)) (dvar 4))) δ4 = some ((negI (colsI (raisedI B) n)).map fun r => dI (r ++ List.replicate n 0)) := by
    refine lc_map (g := dI) (negI (colsI (raisedI B) n)) (iSeq_eq (d := dM (negI (colsI (raisedI B) n))) ?_ rfl) (by rw [hB.raised.cols.neg.len]; omega) fun q hq => ⟨_, rfl, rfl, ?_⟩
    · exact (dCal_eq (aCons_eq ((dCal_eq (aCons_eq ((dCal_eq (ds := [dM B]) rfl).trans erB) rfl)).trans et) rfl)).trans enB
    · refine (dBin_eq (a := dI q) rfl ((dBin_eq (b := .int n) (dTup_eq (ds := [.int 0]) rfl) rfl).trans (gMul_rep (by omega)))).trans ?_
      rw [gAdd_tup (by rw [List.length_replicate, List.length_map, hB.raised.cols.neg.row q hq]; omega)]
      show _ = some (D.tup _)
      rw [List.map_append, List.map_replicate]
  have hrows : ((negI (raisedI A)).map fun r => dI (List.replicate m 0 ++ r)) ++ ((negI (colsI (raisedI B) n)).map fun r => dI (r ++ List.replicate n 0)) = (tblI A B m n).map dI := by
    rw [tblI, List.map_append, List.map_map, List.map_map]
    rfl
  have e6 : sExt 5 (dLst (lcD [6] (iSeq (dCal f__negative (aCons (dCal f_transposed (aCons (dCal f__raised (aCons (dvar 2) aNil)) aNil)) aNil))) (gaName 6) dYes (dBin gAdd (dvar 6) (dBin gMul (dTup (aCons (dcon (.int 0)) aNil)) (dvar 4))))) δ4 =
      some (.nx [some (.obj "Game" ["first", "second"] [dM A, dM B]), some (dM A), some (dM B), some (.int m), some (.int n), some (.lst ((tblI A B m n).map dI)), none]) := by
    refine (sExt_eq rfl (dLst_eq h6') ?_).trans ?_
    · rw [List.length_map, List.length_map, hA.raised.neg.len, hB.raised.cols.neg.len]; omega
    · rw [hrows]
      rfl
  have e7 := sFldS_eq (i := 0) (cs := ["Game"]) (f := "problem") (fv := dCal (mkD "Problem" f_Problem___init__) (aCons (dC1 gTuple (dvar 5)) (aCons (dBin gMul (dTup (aCons (dcon (.int 1)) aNil)) (dBin gAdd (dvar 3) (dvar 4))) aNil)))
    (δ := [some (.obj "Game" ["first", "second"] [dM A, dM B]), some (dM A), some (dM B), some (.int m), some (.int n), some (.lst ((tblI A B m n).map dI)), none]) (d := probD (tblI A B m n) (m + n)) (by
      refine (dCal_eq (aCons_eq (d := dM (tblI A B m n)) rfl (aCons_eq (d := dI (List.replicate (m + n) 1)) ?_ rfl))).trans ?_
      · refine (dBin_eq (b := .int ((m + n : Nat) : Int)) (dTup_eq (ds := [.int 1]) rfl) ?_).trans ((gMul_rep (by omega)).trans ?_)
        · show some (D.int ((m : Int) + (n : Int))) = _
          rw [Int.natCast_add]
        · show _ = some (D.tup _)
          rw [List.map_replicate]
      · unfold mkD
        rw [problem_eq (tbl_sh hA hB) (by rw [List.length_replicate]) (by omega) h6]
        rfl) rfl (by decide +kernel)
  have hI : f_Game___init__ [dM A, dM B] = some ((["first", "second", "problem"] : List Str), [dM A, dM B, probD (tblI A B m n) (m + n)]) :=
    runI_nx (δ := [some (.obj "Game" ["first", "second", "problem"] [dM A, dM B, probD (tblI A B m n) (m + n)]), some (dM A), some (dM B), some (.int m), some (.int n), some (.lst ((tblI A B m n).map dI)), none])
      ((sq_nx e1).trans ((sq_nx e2).trans ((sq_nx e3).trans ((sq_nx e4).trans ((sq_nx (sSetN_eq h5)).trans ((sq_nx e6).trans e7)))))) rfl
  unfold mkD
  rw [hI]
  rfl
end K69

end

section
set_option Elab.async false
set_option linter.all false
set_option maxRecDepth 100000
set_option exponentiation.threshold 300
namespace K69
open PySem PySem.Spec PyProof.Rows L2 DL
/-! ### the divisor -/
def eu : Nat → Nat → Nat → Nat
  | 0, a, _ => a
  | k + 1, a, b => if b = 0 then a else eu k b (a % b)
theorem eu_zero (k a : Nat) : eu k a 0 = a := by cases k <;> simp [eu]
theorem mod_half {r b : Nat} (hr : r ≠ 0) (hb : r < b) : 2 * (b % r) < b := by
  by_cases h : 2 * r ≤ b
  · have := Nat.mod_lt b (Nat.pos_of_ne_zero hr)
    omega
  · have e : b % r = b - r := by
      rw [Nat.mod_eq_sub_mod (Nat.le_of_lt hb), Nat.mod_eq_of_lt (by omega)]
    omega
theorem eu_gcd : ∀ (k a b : Nat), b < 2 ^ k → eu (2 * k) a b = Nat.gcd a b
  | 0, a, b, h => by
    have hb : b = 0 := by
      have : (2 : Nat) ^ 0 = 1 := rfl
      omega
    subst hb
    rw [eu_zero, Nat.gcd_zero_right]
  | k + 1, a, b, h => by
    show eu (2 * k + 1 + 1) a b = _
    by_cases hb : b = 0
    · subst hb
      rw [eu_zero, Nat.gcd_zero_right]
    · show (if b = 0 then a else eu (2 * k + 1) b (a % b)) = _
      rw [if_neg hb]
      have g1 : Nat.gcd a b = Nat.gcd b (a % b) := by rw [Nat.gcd_comm a b, Nat.gcd_rec b a, Nat.gcd_comm]
      by_cases hr : a % b = 0
      · rw [g1, hr, eu_zero, Nat.gcd_zero_right]
      · show (if a % b = 0 then b else eu (2 * k) (a % b) (b % (a % b))) = _
        rw [if_neg hr]
        have h1 := mod_half hr (Nat.mod_lt a (Nat.pos_of_ne_zero hb))
        have h2 : b % (a % b) < 2 ^ k := by
          rw [Nat.pow_succ] at h
          omega
        rw [eu_gcd k _ _ h2, g1, Nat.gcd_comm b (a % b), Nat.gcd_rec (a % b) b, Nat.gcd_comm]
theorem div_body {a b k : Nat} (hb : b ≠ 0) : (sq (sIf (asT (dBin gEq (dvar 1) (dcon (.int 0)))) sBk sNx) (sPar 0 1 (aCons (dvar 1) (aCons (dBin gMod (dC1 gInt (dvar 0)) (dvar 1)) aNil)))) [some (.int a), some (.int b), some (.int k)] = some (.nx [some (.int b), some (.int ((a % b : Nat) : Int)), some (.int k)]) := by
  have e1 : sIf (asT (dBin gEq (dvar 1) (dcon (.int 0)))) sBk sNx [some (.int a), some (.int b), some (.int k)] = some (.nx [some (.int a), some (.int b), some (.int k)]) := by
    refine (sIf_f (asT_eq ?_)).trans rfl
    show gEq (.int b) (.int 0) = _
    rw [gEq_int]
    congr 2
    exact beq_eq_false_iff_ne.mpr (by omega)
  refine (sq_nx e1).trans ?_
  have e2 : aCons (dvar 1) (aCons (dBin gMod (dC1 gInt (dvar 0)) (dvar 1)) aNil) [some (.int a), some (.int b), some (.int k)] = some [.int b, .int ((a % b : Nat) : Int)] := by
    refine aCons_eq rfl (aCons_eq ?_ rfl)
    show gMod (.int a) (.int b) = _
    rw [gMod_int (by omega)]
    congr 2
    rw [Int.fmod_eq_emod_of_nonneg _ (Int.natCast_nonneg b)]
    rfl
  show (aCons _ _ _).bind _ = _
  rw [e2]
  rfl
theorem div_break {a k : Nat} : (sq (sIf (asT (dBin gEq (dvar 1) (dcon (.int 0)))) sBk sNx) (sPar 0 1 (aCons (dvar 1) (aCons (dBin gMod (dC1 gInt (dvar 0)) (dvar 1)) aNil)))) [some (.int a), some (.int 0), some (.int k)] = some (.bk [some (.int a), some (.int 0), some (.int k)]) := rfl
theorem div_loop : ∀ (ks : List Nat) (a b : Nat) (o : Option D), ∃ b' o', forGo (gaName 2) (sq (sIf (asT (dBin gEq (dvar 1) (dcon (.int 0)))) sBk sNx) (sPar 0 1 (aCons (dvar 1) (aCons (dBin gMod (dC1 gInt (dvar 0)) (dvar 1)) aNil)))) (ks.map fun i => .int (i : Nat)) [some (.int a), some (.int b), o] = some (.nx [some (.int (eu ks.length a b : Nat)), some b', o'])
  | [], a, b, o => ⟨_, _, rfl⟩
  | k :: ks, a, b, o => by
    by_cases hb : b = 0
    · subst hb
      rw [List.map_cons, forGo_bk (δ' := [some (.int a), some (.int 0), some (.int k)]) rfl div_break, eu_zero]
      exact ⟨_, _, rfl⟩
    · rw [List.map_cons, forGo_nx (δ' := [some (.int b), some (.int ((a % b : Nat) : Int)), some (.int k)]) rfl (div_body hb)]
      obtain ⟨b', o', e⟩ := div_loop ks b (a % b) (some (.int k))
      refine ⟨b', o', e.trans ?_⟩
      show _ = some (Out.nx [some (.int ((if b = 0 then a else eu ks.length b (a % b) : Nat) : Int)), some b', o'])
      rw [if_neg hb]
theorem divisor_eq {a b : Nat} (hb : b < 2 ^ 200) : f__law_divisor [.int a, .int b] = some (.int (Nat.gcd a b : Nat)) := by
  obtain ⟨b', o', e⟩ := div_loop (List.range 400) a b none
  rw [List.length_range, eu_gcd 200 a b hb] at e
  refine runD_rt (((sq_nx ((sFor_eq (iR1_eq (n := 400) rfl (by omega))).trans e)).trans (sRet_eq rfl)) : b__law_divisor _ = _)
/-! ### primitive vectors -/
def gcdL (xs : List Int) : Nat := xs.foldl (fun g x => Nat.gcd g x.natAbs) 0
def primI (xs : List Int) : List Int := if gcdL xs = 0 then xs else xs.map fun x => x.fdiv (gcdL xs)
theorem gcd_fold_le : ∀ (xs : List Int) (g B : Nat), g ≤ B → (∀ x ∈ xs, x.natAbs ≤ B) → xs.foldl (fun g x => Nat.gcd g x.natAbs) g ≤ B
  | [], g, B, hg, _ => hg
  | x :: xs, g, B, hg, h => by
    refine gcd_fold_le xs _ B ?_ fun y hy => h y (List.mem_cons_of_mem _ hy)
    show Nat.gcd g x.natAbs ≤ B
    by_cases h0 : g = 0
    · subst h0
      rw [Nat.gcd_zero_left]
      exact h x List.mem_cons_self
    · exact Nat.le_trans (Nat.gcd_le_left _ (Nat.pos_of_ne_zero h0)) hg
theorem prim_loop : ∀ (xs : List Int) (v : D) (g : Nat) (o : Option D), ∃ o', forGo (gaName 2) (sSet 1 (dBin (gII fun a b => ((Nat.gcd a.natAbs b.natAbs : Nat) : Int)) (dvar 1) (dvar 2))) (xs.map .int) [some v, some (.int g), o] = some (.nx [some v, some (.int (xs.foldl (fun g x => Nat.gcd g x.natAbs) g : Nat)), o'])
  | [], v, g, o => ⟨o, rfl⟩
  | x :: xs, v, g, o => by
    rw [List.map_cons, forGo_nx (δ' := [some v, some (.int (Nat.gcd g x.natAbs : Nat)), some (.int x)]) rfl (sSet_eq (dBin_eq (a := .int g) (b := .int x) rfl rfl))]
    exact prim_loop xs v _ _
theorem prim_eq {xs : List Int} (hl : xs.length ≤ 1000) (h : ∀ x ∈ xs, x.natAbs < 2 ^ 200) : f_primitive [dI xs] = some (dI (primI xs)) := by
  obtain ⟨o', e⟩ := prim_loop xs (dI xs) 0 none
  have e1 := sq_nx (g := sq (sIf (asT (dBin gLe (dvar 1) (dcon (.int 1)))) (sRet (dvar 0)) sNx) (sRet (dC1 gTuple (dLst (lcD [2] (iSeq (dvar 0)) (gaName 2) dYes (dBin gDiv (dvar 2) (dvar 1))))))) ((sFor_eq (it := iSeq (dvar 0)) rfl).trans e)
  by_cases hg : gcdL xs ≤ 1
  · refine runD_rt (δ := [some (dI xs), some (.int (gcdL xs : Nat)), o']) ?_
    refine (sq_nx (sSet_eq rfl)).trans (e1.trans (sq_rt ((sIf_t (asT_eq ?_)).trans (sRet_eq ?_))))
    · show some (D.bl (decide ((gcdL xs : Int) ≤ 1))) = _
      rw [decide_eq_true (by omega)]
    · show some (dI xs) = some (dI (primI xs))
      unfold primI
      by_cases h0 : gcdL xs = 0
      · rw [if_pos h0]
      · have h1 : gcdL xs = 1 := by omega
        rw [if_neg h0, h1]
        have : (xs.map fun x => x.fdiv ((1 : Nat) : Int)) = xs := by
          conv => rhs; rw [← List.map_id xs]
          apply List.map_congr_left
          intro x _
          exact Int.fdiv_one x
        rw [this]
  · refine runD_rt (δ := [some (dI xs), some (.int (gcdL xs : Nat)), o']) ?_
    have h0 : gcdL xs ≠ 0 := by omega
    have hb : gcdL xs ≤ 2 ^ 200 := gcd_fold_le xs 0 _ (Nat.zero_le _) fun x hx => Nat.le_of_lt (h x hx)
    refine (sq_nx (sSet_eq rfl)).trans (e1.trans ((sq_nx (δ' := [some (dI xs), some (.int (gcdL xs : Nat)), o']) ((sIf_f (asT_eq ?_)).trans rfl)).trans (sRet_eq ?_)))
    · show some (D.bl (decide ((gcdL xs : Int) ≤ 1))) = _
      rw [decide_eq_false (by omega)]
    · have h2 : lcD [2] (iSeq (dvar 0)) (gaName 2) dYes (dBin gDiv (dvar 2) (dvar 1)) [some (dI xs), some (.int (gcdL xs : Nat)), o'] = some (xs.map fun x => .int (x.fdiv (gcdL xs))) :=
        lc_map (g := D.int) xs rfl hl fun x hx => ⟨_, rfl, rfl, (dBin_eq (a := .int x) (b := .int (gcdL xs : Nat)) rfl rfl).trans (gDiv_int (divOk_of (by omega) (by
          rw [Int.natAbs_natCast]
          exact Nat.lt_of_le_of_lt hb (Nat.pow_lt_pow_right (by omega) (by omega)))))⟩
      refine (dC1_eq (dLst_eq h2)).trans ?_
      unfold primI
      rw [if_neg h0]
      show some (D.tup _) = some (D.tup _)
      rw [List.map_map]
      rfl
theorem lprim_loop : ∀ (xs : List Int) (v : D) (g : Nat) (o : Option D), g < 2 ^ 200 → (∀ x ∈ xs, x.natAbs < 2 ^ 200) → ∃ o', forGo (gaName 2) (sSet 1 (dite' (asT (dBin gGt (dvar 1) (dcon (.int 0)))) (dCal f__law_divisor (aCons (dC1 gAbs (dvar 2)) (aCons (dvar 1) aNil))) (dC1 gAbs (dvar 2)))) (xs.map .int) [some v, some (.int g), o] =
    some (.nx [some v, some (.int (xs.foldl (fun g x => Nat.gcd g x.natAbs) g : Nat)), o'])
  | [], v, g, o, _, _ => ⟨o, rfl⟩
  | x :: xs, v, g, o, hg, h => by
    have ha : gAbs (.int x) = some (.int (x.natAbs : Nat)) := by
      show some (D.int (if x < 0 then -x else x)) = _
      congr 2
      by_cases hx : x < 0
      · rw [if_pos hx]; omega
      · rw [if_neg hx]; omega
    have hb : (dite' (asT (dBin gGt (dvar 1) (dcon (.int 0)))) (dCal f__law_divisor (aCons (dC1 gAbs (dvar 2)) (aCons (dvar 1) aNil))) (dC1 gAbs (dvar 2))) [some v, some (.int g), some (.int x)] = some (.int (Nat.gcd g x.natAbs : Nat)) := by
      by_cases h0 : g = 0
      · subst h0
        refine (dite_f rfl).trans ((dC1_eq (d := .int x) rfl).trans (ha.trans ?_))
        rw [Nat.gcd_zero_left]
      · refine (dite_t (asT_eq ?_)).trans ((dCal_eq (aCons_eq ((dC1_eq (d := .int x) rfl).trans ha) (aCons_eq (d := .int g) rfl rfl))).trans ((divisor_eq hg).trans ?_))
        · show some (D.bl (decide ((0 : Int) < g))) = _
          rw [decide_eq_true (by omega)]
        · rw [Nat.gcd_comm]
    rw [List.map_cons, forGo_nx (δ' := [some v, some (.int (Nat.gcd g x.natAbs : Nat)), some (.int x)]) rfl (sSet_eq hb)]
    refine lprim_loop xs v _ _ ?_ fun y hy => h y (List.mem_cons_of_mem _ hy)
    by_cases h0 : g = 0
    · subst h0
      rw [Nat.gcd_zero_left]
      exact h x List.mem_cons_self
    · exact Nat.lt_of_le_of_lt (Nat.gcd_le_left _ (Nat.pos_of_ne_zero h0)) hg
theorem lprim_eq {xs : List Int} (hl : xs.length ≤ 1000) (h : ∀ x ∈ xs, x.natAbs < 2 ^ 200) : f__law_primitive [dI xs] = some (dI (primI xs)) := by
  obtain ⟨o', e⟩ := lprim_loop xs (dI xs) 0 none (Nat.pow_pos (by omega)) h
  have e1 := sq_nx (g := sq (sIf (asT (dBin gEq (dvar 1) (dcon (.int 0)))) (sRet (dC1 gTuple (dvar 0))) sNx) (sRet (dC1 gTuple (dLst (lcD [2] (iSeq (dvar 0)) (gaName 2) dYes (dBin gDiv (dvar 2) (dvar 1))))))) ((sFor_eq (it := iSeq (dvar 0)) rfl).trans e)
  by_cases hg : gcdL xs = 0
  · refine runD_rt (δ := [some (dI xs), some (.int (gcdL xs : Nat)), o']) ?_
    refine (sq_nx (sSet_eq rfl)).trans (e1.trans (sq_rt ((sIf_t (asT_eq ?_)).trans (sRet_eq ?_))))
    · show gEq (.int (gcdL xs : Nat)) (.int 0) = _
      rw [hg]
      rfl
    · show some (dI xs) = some (dI (primI xs))
      unfold primI
      rw [if_pos hg]
  · refine runD_rt (δ := [some (dI xs), some (.int (gcdL xs : Nat)), o']) ?_
    have hb : gcdL xs ≤ 2 ^ 200 := gcd_fold_le xs 0 _ (Nat.zero_le _) fun x hx => Nat.le_of_lt (h x hx)
    refine (sq_nx (sSet_eq rfl)).trans (e1.trans ((sq_nx (δ' := [some (dI xs), some (.int (gcdL xs : Nat)), o']) ((sIf_f (asT_eq ?_)).trans rfl)).trans (sRet_eq ?_)))
    · show gEq (.int (gcdL xs : Nat)) (.int 0) = _
      rw [gEq_int]
      congr 2
      exact beq_eq_false_iff_ne.mpr (by omega)
    · have h2 : lcD [2] (iSeq (dvar 0)) (gaName 2) dYes (dBin gDiv (dvar 2) (dvar 1)) [some (dI xs), some (.int (gcdL xs : Nat)), o'] = some (xs.map fun x => .int (x.fdiv (gcdL xs))) :=
        lc_map (g := D.int) xs rfl hl fun x hx => ⟨_, rfl, rfl, (dBin_eq (a := .int x) (b := .int (gcdL xs : Nat)) rfl rfl).trans (gDiv_int (divOk_of (by omega) (by
          rw [Int.natAbs_natCast]
          exact Nat.lt_of_le_of_lt hb (Nat.pow_lt_pow_right (by omega) (by omega)))))⟩
      refine (dC1_eq (dLst_eq h2)).trans ?_
      unfold primI
      rw [if_neg hg]
      show some (D.tup _) = some (D.tup _)
      rw [List.map_map]
      rfl
theorem gcd_fold_mul (k : Nat) : ∀ (xs : List Int) (g : Nat), (xs.map fun x => (k : Int) * x).foldl (fun g x => Nat.gcd g x.natAbs) (k * g) = k * xs.foldl (fun g x => Nat.gcd g x.natAbs) g
  | [], g => rfl
  | x :: xs, g => by
    show (xs.map _).foldl _ (Nat.gcd (k * g) ((k : Int) * x).natAbs) = _
    rw [Int.natAbs_mul, Int.natAbs_natCast, Nat.gcd_mul_left]
    exact gcd_fold_mul k xs _
theorem gcdL_mul (k : Nat) (xs : List Int) : gcdL (xs.map fun x => (k : Int) * x) = k * gcdL xs := by
  have := gcd_fold_mul k xs 0
  rwa [Nat.mul_zero] at this
theorem gcd_fold_dvd : ∀ (xs : List Int) (g : Nat), (xs.foldl (fun g x => Nat.gcd g x.natAbs) g ∣ g) ∧ ∀ x ∈ xs, ((xs.foldl (fun g x => Nat.gcd g x.natAbs) g : Nat) : Int) ∣ x
  | [], g => ⟨Nat.dvd_refl _, fun _ h => nomatch h⟩
  | x :: xs, g => by
    obtain ⟨h1, h2⟩ := gcd_fold_dvd xs (Nat.gcd g x.natAbs)
    refine ⟨Nat.dvd_trans h1 (Nat.gcd_dvd_left _ _), fun y hy => ?_⟩
    rcases List.mem_cons.mp hy with rfl | hy
    · exact Int.ofNat_dvd_left.mpr (Nat.dvd_trans h1 (Nat.gcd_dvd_right _ _))
    · exact h2 y hy
theorem gcdL_dvd {xs : List Int} {x : Int} (h : x ∈ xs) : (gcdL xs : Int) ∣ x := (gcd_fold_dvd xs 0).2 x h
theorem primI_mul {k : Nat} (hk : 0 < k) (xs : List Int) : primI (xs.map fun x => (k : Int) * x) = primI xs := by
  unfold primI
  rw [gcdL_mul]
  by_cases h0 : gcdL xs = 0
  · -- all are zero
    rw [h0, Nat.mul_zero, if_pos rfl, if_pos rfl]
    conv => rhs; rw [← List.map_id xs]
    apply List.map_congr_left
    intro x hx
    have := gcdL_dvd hx
    rw [h0] at this
    have hx0 : x = 0 := Int.zero_dvd.mp this
    rw [hx0]
    exact Int.mul_zero _
  · rw [if_neg (Nat.mul_ne_zero (by omega) h0), if_neg h0, List.map_map]
    apply List.map_congr_left
    intro x hx
    show ((k : Int) * x).fdiv ((k * gcdL xs : Nat) : Int) = _
    rw [Int.natCast_mul, Int.fdiv_eq_ediv_of_nonneg _ (Int.mul_nonneg (by omega) (by omega)), Int.fdiv_eq_ediv_of_nonneg _ (by omega)]
    exact Int.mul_ediv_mul_of_pos _ _ (by omega)
/-- two vectors on one ray have one primitive vector -/
theorem primI_ray {xs ys : List Int} {a b : Nat} (ha : 0 < a) (hb : 0 < b) (h : (xs.map fun x => (a : Int) * x) = ys.map fun y => (b : Int) * y) : primI xs = primI ys := by
  rw [← primI_mul ha xs, h, primI_mul hb ys]
/-- a primitive vector, multiplied out again -/
theorem primI_back {xs : List Int} (h : ∃ x ∈ xs, x ≠ 0) : 0 < gcdL xs ∧ ((primI xs).map fun x => (gcdL xs : Int) * x) = xs := by
  obtain ⟨x, hx, h0⟩ := h
  have hg : gcdL xs ≠ 0 := fun z => by
    have := gcdL_dvd hx
    rw [z] at this
    exact h0 (Int.zero_dvd.mp this)
  refine ⟨Nat.pos_of_ne_zero hg, ?_⟩
  unfold primI
  rw [if_neg hg, List.map_map]
  conv => rhs; rw [← List.map_id xs]
  apply List.map_congr_left
  intro y hy
  show (gcdL xs : Int) * y.fdiv (gcdL xs) = y
  rw [Int.fdiv_eq_ediv_of_nonneg _ (by omega)]
  exact Int.mul_ediv_cancel' (gcdL_dvd hy)
end K69

end

section
set_option Elab.async false
set_option linter.all false
set_option maxRecDepth 100000
set_option exponentiation.threshold 300
namespace K69
open PySem PySem.Spec PyProof.Rows L2 DL
/-! ### dot products -/
theorem dotI_nil (ys : List Int) : dotI [] ys = 0 := by cases ys <;> rfl
theorem dotI_nil' (xs : List Int) : dotI xs [] = 0 := by cases xs <;> rfl
theorem dotI_cons (x y : Int) (xs ys : List Int) : dotI (x :: xs) (y :: ys) = x * y + dotI xs ys := by
  show List.sum ((x * y) :: _) = _
  rw [List.sum_cons]
  rfl
theorem dotI_append : ∀ (a b c d : List Int), a.length = c.length → dotI (a ++ b) (c ++ d) = dotI a c + dotI b d
  | [], b, [], d, _ => by rw [dotI_nil, Int.zero_add]; rfl
  | x :: a, b, y :: c, d, h => by
    show dotI (x :: (a ++ b)) (y :: (c ++ d)) = _
    rw [dotI_cons, dotI_append a b c d (Nat.succ.inj h), dotI_cons, Int.add_assoc]
  | [], _, _ :: _, _, h => by cases h
  | _ :: _, _, [], _, h => by cases h
theorem dotI_zeros : ∀ (n : Nat) (ys : List Int), dotI (List.replicate n 0) ys = 0
  | 0, ys => dotI_nil ys
  | n + 1, [] => dotI_nil' _
  | n + 1, y :: ys => by
    rw [List.replicate_succ, dotI_cons, dotI_zeros n ys, Int.zero_mul]
    rfl
theorem dotI_neg : ∀ (xs ys : List Int), dotI (xs.map fun a => -a) ys = -dotI xs ys
  | [], ys => by rw [List.map_nil, dotI_nil]; rfl
  | x :: xs, [] => by rw [dotI_nil', dotI_nil']; rfl
  | x :: xs, y :: ys => by
    rw [List.map_cons, dotI_cons, dotI_cons, dotI_neg xs ys, Int.neg_add, Int.neg_mul]
theorem dotI_smul (k : Int) : ∀ (xs ys : List Int), dotI xs (ys.map fun a => k * a) = k * dotI xs ys
  | [], ys => by rw [dotI_nil, dotI_nil, Int.mul_zero]
  | x :: xs, [] => by rw [List.map_nil, dotI_nil', Int.mul_zero]
  | x :: xs, y :: ys => by
    rw [List.map_cons, dotI_cons, dotI_cons, dotI_smul k xs ys, Int.mul_add, Int.mul_left_comm]
/-- a row raised by c -/
theorem dotI_shift (c : Int) : ∀ (xs ys : List Int), xs.length = ys.length → dotI (xs.map fun a => a + c) ys = dotI xs ys + c * ys.sum
  | [], [], _ => by rw [List.map_nil, dotI_nil, List.sum_nil, Int.mul_zero]; rfl
  | x :: xs, y :: ys, h => by
    rw [List.map_cons, dotI_cons, dotI_cons, dotI_shift c xs ys (Nat.succ.inj h), List.sum_cons, Int.mul_add, Int.add_mul]
    omega
  | [], _ :: _, h => by cases h
  | _ :: _, [], h => by cases h
theorem dotI_comm : ∀ (xs ys : List Int), dotI xs ys = dotI ys xs
  | [], ys => by rw [dotI_nil, dotI_nil']
  | x :: xs, [] => by rw [dotI_nil, dotI_nil']
  | x :: xs, y :: ys => by rw [dotI_cons, dotI_cons, dotI_comm xs ys, Int.mul_comm]
theorem dot_bd {X Y : Nat} : ∀ {xs ys : List Int}, (∀ x ∈ xs, x.natAbs ≤ X) → (∀ y ∈ ys, y.natAbs ≤ Y) → (dotI xs ys).natAbs ≤ xs.length * (X * Y)
  | [], ys, _, _ => by rw [dotI_nil]; exact Nat.zero_le _
  | x :: xs, [], _, _ => by rw [dotI_nil']; exact Nat.zero_le _
  | x :: xs, y :: ys, h1, h2 => by
    rw [dotI_cons, List.length_cons, Nat.succ_mul]
    have a := dot_bd (fun z hz => h1 z (List.mem_cons_of_mem _ hz)) (fun z hz => h2 z (List.mem_cons_of_mem _ hz)) (xs := xs) (ys := ys)
    have b : (x * y).natAbs ≤ X * Y := by
      rw [Int.natAbs_mul]
      exact Nat.mul_le_mul (h1 x List.mem_cons_self) (h2 y List.mem_cons_self)
    have := Int.natAbs_add_le (x * y) (dotI xs ys)
    omega
/-- sum([w[i] * s[i] for i in range(n)]) -/
theorem sum_range_dot : ∀ (w s : List Int), w.length = s.length → ((List.range w.length).map fun i => w.getD i 0 * s.getD i 0).sum = dotI w s
  | [], [], _ => rfl
  | x :: w, y :: s, h => by
    rw [List.length_cons, List.range_succ_eq_map, List.map_cons, List.map_map, List.sum_cons, dotI_cons, ← sum_range_dot w s (Nat.succ.inj h)]
    rfl
  | [], _ :: _, h => by cases h
  | _ :: _, [], h => by cases h
/-! ### strategies -/
def stB (s : Int) (w : List Int) : Bool := decide (1 ≤ s) && ((s == w.sum) && decide (0 ≤ minL w))
theorem slice1 {s : Int} {w : List Int} {i : Nat} {δ : DSt} (h : dvar i δ = some (dI (s :: w))) : dSlice (dvar i) (oAt (dcon (.int 1))) oNo δ = some (dI w) := by
  refine (dSlice_eq h (oAt_eq rfl) rfl).trans ?_
  show some (D.tup (cutD ((s :: w).map D.int) (some 1) none)) = _
  rw [List.map_cons, cutD_1]
theorem ix0 {s : Int} {w : List Int} {i : Nat} {δ : DSt} (h : dvar i δ = some (dI (s :: w))) : dBin gIx (dvar i) (dcon (.int 0)) δ = some (.int s) := by
  refine (dBin_eq h (b := .int 0) rfl).trans ?_
  show atI ((s :: w).map D.int) 0 = _
  rw [List.map_cons, atI_0]
theorem law_is_strategy_eq {s : Int} {w : List Int} (hw : w ≠ []) : f__law_is_strategy [dI (s :: w)] = some (.bl (stB s w)) := by
  refine runD_rt (sRet_eq (vand_b (a := decide (1 ≤ s)) ?_ (vand_b (a := s == w.sum) (b := decide (0 ≤ minL w)) ?_ ?_)) : b__law_is_strategy _ = _)
  · exact (dBin_eq (ix0 rfl) (b := .int 1) rfl).trans rfl
  · exact (dBin_eq (ix0 rfl) ((dC1_eq (slice1 rfl)).trans (gSum_t w))).trans (gEq_int _ _)
  · exact (dBin_eq ((dC1_eq (slice1 rfl)).trans (gMin_sq true hw)) (b := .int 0) rfl).trans rfl
theorem is_strategy_eq {s : Int} {w : List Int} (hw : w ≠ []) (hl : w.length < 1000) : f__is_strategy [dI (s :: w)] = some (.bl (stB s w)) := by
  have h3 : lcD [1] (iSeq (dvar 0)) (gaName 1) dYes (dBin gGe (dvar 1) (dcon (.int 0))) (stD 2 [dI (s :: w)]) = some ((s :: w).map fun a => .bl (decide (0 ≤ a))) :=
    lc_map (g := D.int) (s :: w) rfl (by rw [List.length_cons]; omega) fun a ha => ⟨_, rfl, rfl, rfl⟩
  have e : f__is_strategy [dI (s :: w)] = some (.bl (decide (1 ≤ s) && ((s == w.sum) && (s :: w).all fun a => decide (0 ≤ a)))) := by
    refine runD_rt (sRet_eq (vand_b (a := decide (1 ≤ s)) ?_ (vand_b (a := s == w.sum) (b := (s :: w).all fun a => decide (0 ≤ a)) ?_ ?_)) : b__is_strategy _ = _)
    · exact (dBin_eq (ix0 rfl) (b := .int 1) rfl).trans rfl
    · exact (dBin_eq (ix0 rfl) ((dC1_eq (slice1 rfl)).trans (gSum_t w))).trans (gEq_int _ _)
    · refine (dC1_eq (dLst_eq h3)).trans ?_
      rw [show ((s :: w).map fun a => D.bl (decide (0 ≤ a))) = ((s :: w).map fun a => decide (0 ≤ a)).map D.bl by rw [List.map_map]; rfl, gAll_l, List.all_map]
      rfl
  rw [e]
  congr 2
  unfold stB
  by_cases h1 : 1 ≤ s
  · rw [decide_eq_true h1, Bool.true_and, Bool.true_and]
    congr 1
    rw [List.all_cons, decide_eq_true (show 0 ≤ s by omega), Bool.true_and]
    by_cases h2 : 0 ≤ minL w
    · rw [decide_eq_true h2]
      exact List.all_eq_true.mpr fun a ha => decide_eq_true (Int.le_trans h2 (minL_le ha))
    · rw [decide_eq_false h2]
      cases q : w.all fun a => decide (0 ≤ a) with
      | false => rfl
      | true => exact absurd (of_decide_eq_true (List.all_eq_true.mp q _ (minL_mem hw))) h2
  · rw [decide_eq_false h1]
    rfl
/-! ### best answers -/
def bestB (w sums : List Int) : Bool := (w.zip sums).all fun p => p.1 == 0 || p.2 == maxL sums
theorem is_best_eq {w sums : List Int} (hs : sums ≠ []) (hl : w.length ≤ 1000) : f__is_best [dI w, dI sums] = some (.bl (bestB w sums)) := by
  have e1 : sSet 2 (dC1 gMax (dvar 1)) (stD 5 [dI w, dI sums]) = some (.nx [some (dI w), some (dI sums), some (.int (maxL sums)), none, none]) := (sSet_eq ((dC1_eq (d := dI sums) rfl).trans (gMax_sq true hs))).trans rfl
  have h2 : lcD [3, 4] (iZip (dvar 0) (dvar 1)) (gaTup 2 (gaCons (gaName 3) (gaCons (gaName 4) gaNil))) dYes (vor (dBin gEq (dvar 3) (dcon (.int 0))) (dBin gEq (dvar 4) (dvar 2))) [some (dI w), some (dI sums), some (.int (maxL sums)), none, none] = some ((w.zip sums).map fun p => .bl (p.1 == 0 || p.2 == maxL sums)) := by
    refine lc_map (g := fun p => .tup [.int p.1, .int p.2]) (w.zip sums) ((iZip_eq rfl rfl rfl rfl).trans ?_) (by rw [List.length_zip]; omega) fun p hp => ⟨_, rfl, rfl, vor_b rfl rfl⟩
    rw [zipD_map]
  refine runD_rt ((sq_nx e1).trans (sRet_eq ((dC1_eq (dLst_eq h2)).trans ?_)) : b__is_best _ = _)
  rw [show ((w.zip sums).map fun p => D.bl (p.1 == 0 || p.2 == maxL sums)) = ((w.zip sums).map fun p => (p.1 == 0 || p.2 == maxL sums)).map D.bl by rw [List.map_map]; rfl, gAll_l, List.all_map]
  rfl
theorem law_is_best_eq {w sums : List Int} (hs : sums ≠ []) (hl : w.length ≤ 1000) (hw : ∀ a ∈ w, 0 ≤ a) (b : Bool) : f__law_is_best [dI w, sqD b (sums.map .int)] = some (.bl (bestB w sums)) := by
  have e1 : sSet 2 (dC1 gMax (dvar 1)) (stD 5 [dI w, sqD b (sums.map .int)]) = some (.nx [some (dI w), some (sqD b (sums.map .int)), some (.int (maxL sums)), none, none]) := (sSet_eq ((dC1_eq (d := sqD b (sums.map .int)) rfl).trans (gMax_sq b hs))).trans rfl
  have h2 : lcD [3, 4] (iZip (dvar 0) (dvar 1)) (gaTup 2 (gaCons (gaName 3) (gaCons (gaName 4) gaNil))) dYes (vor (dBin gLe (dvar 3) (dcon (.int 0))) (dBin gEq (dvar 4) (dvar 2))) [some (dI w), some (sqD b (sums.map .int)), some (.int (maxL sums)), none, none] = some ((w.zip sums).map fun p => .bl (decide (p.1 ≤ 0) || p.2 == maxL sums)) := by
    refine lc_map (g := fun p => .tup [.int p.1, .int p.2]) (w.zip sums) ((iZip_eq rfl rfl rfl (sq_items _ _)).trans ?_) (by rw [List.length_zip]; omega) fun p hp => ⟨_, rfl, rfl, vor_b rfl rfl⟩
    rw [zipD_map]
  refine runD_rt ((sq_nx e1).trans (sRet_eq ((dC1_eq (dLst_eq h2)).trans ?_)) : b__law_is_best _ = _)
  rw [show ((w.zip sums).map fun p => D.bl (decide (p.1 ≤ 0) || p.2 == maxL sums)) = ((w.zip sums).map fun p => (decide (p.1 ≤ 0) || p.2 == maxL sums)).map D.bl by rw [List.map_map]; rfl, gAll_l, List.all_map]
  unfold bestB
  congr 2
  rw [Bool.eq_iff_iff, List.all_eq_true, List.all_eq_true]
  have hz : ∀ p ∈ w.zip sums, decide (p.1 ≤ 0) = (p.1 == 0) := fun p hp => by
    have := hw _ (List.of_mem_zip hp).1
    by_cases h0 : p.1 = 0
    · rw [h0]; rfl
    · rw [decide_eq_false (by omega), beq_eq_false_iff_ne.mpr h0]
  constructor
  · intro h p hp
    have := h p hp
    rw [← hz p hp]
    exact this
  · intro h p hp
    have := h p hp
    rw [← hz p hp] at this
    exact this
/-! ### equilibria -/
structure Gm (m n : Nat) (A B : List (List Int)) : Prop where
  hA : Sh m n A
  hB : Sh m n B
  m1 : 1 ≤ m
  n1 : 1 ≤ n
  mn : m + n ≤ 6
  bA : ∀ r ∈ A, ∀ a ∈ r, a.natAbs ≤ 2 ^ 45
  bB : ∀ r ∈ B, ∀ a ∈ r, a.natAbs ≤ 2 ^ 45
theorem sm_of {a : Int} {k : Nat} (h : a.natAbs ≤ 2 ^ k) (hk : k < 900) : Sm a := Nat.lt_of_le_of_lt h (Nat.pow_lt_pow_right (by omega) (by omega))
def sumsA (A : List (List Int)) (v : List Int) : List Int := A.map fun r => dotI r v
def eqB (A B : List (List Int)) (n : Nat) (s : Int) (w : List Int) (t : Int) (v : List Int) : Bool := stB s w && (stB t v && (bestB w (sumsA A v) && bestB v (sumsA (colsI B n) w)))
theorem fld_first {A B : List (List Int)} {m n : Nat} : gFld ["Game"] "first" (gameD A B m n) = some (dM A) := (gFld_of (List.mem_singleton.mpr rfl)).trans lookup_hit
theorem fld_second {A B : List (List Int)} {m n : Nat} : gFld ["Game"] "second" (gameD A B m n) = some (dM B) := (gFld_of (List.mem_singleton.mpr rfl)).trans ((lookup_miss (by decide +kernel)).trans lookup_hit)
theorem fld_problem {A B : List (List Int)} {m n : Nat} : gFld ["Game"] "problem" (gameD A B m n) = some (probD (tblI A B m n) (m + n)) := (gFld_of (List.mem_singleton.mpr rfl)).trans ((lookup_miss (by decide +kernel)).trans ((lookup_miss (by decide +kernel)).trans lookup_hit))
theorem fld_table {T : List (List Int)} {N : Nat} : gFld ["Problem"] "table" (probD T N) = some (dM T) := (gFld_of (List.mem_singleton.mpr rfl)).trans lookup_hit
theorem fld_q {T : List (List Int)} {N : Nat} : gFld ["Problem"] "q" (probD T N) = some (dI (List.replicate N 1)) := (gFld_of (List.mem_singleton.mpr rfl)).trans ((lookup_miss (by decide +kernel)).trans lookup_hit)
theorem Sh.rows_ok {m n : Nat} {M : List (List Int)} (h : Sh m n M) (hn : n ≤ 1000) (b : ∀ r ∈ M, ∀ a ∈ r, a.natAbs ≤ 2 ^ 45) : ∀ r ∈ M, r.length ≤ 1000 ∧ ∀ x ∈ r, Sm x := fun r hr => ⟨by rw [h.row r hr]; exact hn, fun x hx => sm_of (b r hr x hx) (by omega)⟩
theorem cols_bd {m n : Nat} {M : List (List Int)} (h : Sh m n M) {X : Nat} (b : ∀ r ∈ M, ∀ a ∈ r, a.natAbs ≤ X) : ∀ r ∈ colsI M n, ∀ a ∈ r, a.natAbs ≤ X := fun r hr a ha => by
  obtain ⟨j, hj, rfl⟩ := List.mem_map.mp hr
  obtain ⟨q, hq, rfl⟩ := List.mem_map.mp ha
  rw [List.mem_range] at hj
  rw [List.getD_eq_getElem?_getD, List.getElem?_eq_getElem (by rw [h.row q hq]; exact hj)]
  exact b q hq _ (List.getElem_mem _)
theorem sums_ne {m n : Nat} {M : List (List Int)} (h : Sh m n M) (hm : 1 ≤ m) (v : List Int) : sumsA M v ≠ [] := fun z => by
  have := congrArg List.length z
  rw [sumsA, List.length_map, h.len] at this
  simp at this
  omega
theorem is_equilibrium_eq {m n : Nat} {A B : List (List Int)} (g : Gm m n A B) {s t : Int} {w v : List Int} (hw : w.length = m) (hv : v.length = n) (bw : ∀ a ∈ w, Sm a) (bv : ∀ a ∈ v, Sm a) :
    f_is_equilibrium [gameD A B m n, dI (s :: w), dI (t :: v)] = some (.bl (eqB A B n s w t v)) := by
  have hw0 : w ≠ [] := fun z => by have := g.m1; rw [z] at hw; simp at hw; omega
  have hv0 : v ≠ [] := fun z => by have := g.n1; rw [z] at hv; simp at hv; omega
  have h6 := g.mn
  let δ : DSt := stD 3 [gameD A B m n, dI (s :: w), dI (t :: v)]
  have c1 : tor (tnot (tru (dCal f__is_strategy (aCons (dvar 1) aNil)))) (tnot (tru (dCal f__is_strategy (aCons (dvar 2) aNil)))) δ = some (!stB s w || !stB t v) :=
    tor_b (tnot_eq (tru_bl ((dCal_eq (ds := [dI (s :: w)]) rfl).trans (is_strategy_eq hw0 (by omega))))) (tnot_eq (tru_bl ((dCal_eq (ds := [dI (t :: v)]) rfl).trans (is_strategy_eq hv0 (by omega)))))
  have p1 : dCal f_product (aCons (dC1 (gFld ["Game"] "first") (dvar 0)) (aCons (dSlice (dvar 2) (oAt (dcon (.int 1))) oNo) aNil)) δ = some (dI (sumsA A v)) :=
    (dCal_eq (aCons_eq ((dC1_eq (d := gameD A B m n) rfl).trans fld_first) (aCons_eq (slice1 rfl) rfl))).trans (product_eq (g.hA.rows_ok (by omega) g.bA) bv (by rw [g.hA.len]; omega))
  have p2 : dCal f_product (aCons (dCal f_transposed (aCons (dC1 (gFld ["Game"] "second") (dvar 0)) aNil)) (aCons (dSlice (dvar 1) (oAt (dcon (.int 1))) oNo) aNil)) δ = some (dI (sumsA (colsI B n) w)) :=
    (dCal_eq (aCons_eq ((dCal_eq (aCons_eq ((dC1_eq (d := gameD A B m n) rfl).trans fld_second) rfl)).trans (transposed_eq g.hB g.m1 (by omega) (by omega))) (aCons_eq (slice1 rfl) rfl))).trans
      (product_eq (g.hB.cols.rows_ok (by omega) (cols_bd g.hB g.bB)) bw (by rw [g.hB.cols.len]; omega))
  have c2 : tnot (tru (dCal f__is_best (aCons (dSlice (dvar 1) (oAt (dcon (.int 1))) oNo) (aCons (dCal f_product (aCons (dC1 (gFld ["Game"] "first") (dvar 0)) (aCons (dSlice (dvar 2) (oAt (dcon (.int 1))) oNo) aNil))) aNil)))) δ = some (!bestB w (sumsA A v)) :=
    tnot_eq (tru_bl ((dCal_eq (aCons_eq (slice1 rfl) (aCons_eq p1 rfl))).trans (is_best_eq (sums_ne g.hA g.m1 v) (by omega))))
  have c3 : dCal f__is_best (aCons (dSlice (dvar 2) (oAt (dcon (.int 1))) oNo) (aCons (dCal f_product (aCons (dCal f_transposed (aCons (dC1 (gFld ["Game"] "second") (dvar 0)) aNil)) (aCons (dSlice (dvar 1) (oAt (dcon (.int 1))) oNo) aNil))) aNil)) δ = some (.bl (bestB v (sumsA (colsI B n) w))) :=
    (dCal_eq (aCons_eq (slice1 rfl) (aCons_eq p2 rfl))).trans (is_best_eq (sums_ne g.hB.cols g.n1 w) (by omega))
  unfold eqB
  cases h1 : stB s w with
  | false =>
    rw [h1] at c1
    exact runD_rt (sq_rt ((sIf_t c1).trans (sRet_eq rfl)) : b_is_equilibrium _ = _)
  | true =>
    cases h2 : stB t v with
    | false =>
      rw [h1, h2] at c1
      exact runD_rt (sq_rt ((sIf_t c1).trans (sRet_eq rfl)) : b_is_equilibrium _ = _)
    | true =>
      rw [h1, h2] at c1
      cases h3 : bestB w (sumsA A v) with
      | false =>
        rw [h3] at c2
        exact runD_rt ((sq_nx ((sIf_f c1).trans rfl)).trans (sq_rt ((sIf_t c2).trans (sRet_eq rfl))) : b_is_equilibrium _ = _)
      | true =>
        rw [h3] at c2
        exact runD_rt ((sq_nx ((sIf_f c1).trans rfl)).trans ((sq_nx ((sIf_f c2).trans rfl)).trans (sRet_eq c3)) : b_is_equilibrium _ = _)
theorem stB_nn {s : Int} {w : List Int} (h : stB s w = true) : 1 ≤ s ∧ s = w.sum ∧ ∀ a ∈ w, 0 ≤ a := by
  unfold stB at h
  rw [Bool.and_eq_true, Bool.and_eq_true] at h
  exact ⟨of_decide_eq_true h.1, eq_of_beq h.2.1, fun a ha => Int.le_trans (of_decide_eq_true h.2.2) (minL_le ha)⟩
theorem law_is_equilibrium_eq {m n : Nat} {A B : List (List Int)} (g : Gm m n A B) {s t : Int} {w v : List Int} (hw : w.length = m) (hv : v.length = n) (bw : ∀ a ∈ w, Sm a) (bv : ∀ a ∈ v, Sm a) :
    f__law_is_equilibrium [dM A, dM B, dI (s :: w), dI (t :: v)] = some (.bl (eqB A B n s w t v)) := by
  have hw0 : w ≠ [] := fun z => by have := g.m1; rw [z] at hw; simp at hw; omega
  have hv0 : v ≠ [] := fun z => by have := g.n1; rw [z] at hv; simp at hv; omega
  have h6 := g.mn
  let δ : DSt := stD 6 [dM A, dM B, dI (s :: w), dI (t :: v)]
  have c1 : tor (tnot (tru (dCal f__law_is_strategy (aCons (dvar 2) aNil)))) (tnot (tru (dCal f__law_is_strategy (aCons (dvar 3) aNil)))) δ = some (!stB s w || !stB t v) :=
    tor_b (tnot_eq (tru_bl ((dCal_eq (ds := [dI (s :: w)]) rfl).trans (law_is_strategy_eq hw0)))) (tnot_eq (tru_bl ((dCal_eq (ds := [dI (t :: v)]) rfl).trans (law_is_strategy_eq hv0))))
  have p1 : lcD [4] (iSeq (dvar 0)) (gaName 4) dYes (dCal f__law_dot (aCons (dvar 4) (aCons (dSlice (dvar 3) (oAt (dcon (.int 1))) oNo) aNil))) δ = some ((sumsA A v).map .int) := by
    unfold sumsA
    rw [List.map_map]
    exact lc_map (g := dI) A rfl (by rw [g.hA.len]; omega) fun r hr => ⟨_, rfl, rfl, (dCal_eq (aCons_eq (d := dI r) rfl (aCons_eq (slice1 (s := t) (w := v) rfl) rfl))).trans (law_dot_eq rfl rfl (g.hA.rows_ok (by omega) g.bA r hr).2 bv (g.hA.rows_ok (by omega) g.bA r hr).1)⟩
  have hc := g.hB.cols.rows_ok (by omega) (cols_bd g.hB g.bB)
  have p2 : lcD [5] (iSeq (dCal f__law_columns (aCons (dvar 1) aNil))) (gaName 5) dYes (dCal f__law_dot (aCons (dvar 5) (aCons (dSlice (dvar 2) (oAt (dcon (.int 1))) oNo) aNil))) δ = some ((sumsA (colsI B n) w).map .int) := by
    unfold sumsA
    rw [List.map_map]
    exact lc_map (g := dI) (colsI B n) (iSeq_eq ((dCal_eq (ds := [dM B]) rfl).trans (columns_eq true true g.hB g.m1 (by omega) (by omega))) rfl) (by rw [g.hB.cols.len]; omega) fun r hr => ⟨_, rfl, rfl, (dCal_eq (aCons_eq (d := dI r) rfl (aCons_eq (slice1 (s := s) (w := w) rfl) rfl))).trans (law_dot_eq rfl rfl (hc r hr).2 bw (hc r hr).1)⟩
  unfold eqB
  cases h1 : stB s w with
  | false =>
    rw [h1] at c1
    exact runD_rt (sq_rt ((sIf_t c1).trans (sRet_eq rfl)) : b__law_is_equilibrium _ = _)
  | true =>
    cases h2 : stB t v with
    | false =>
      rw [h1, h2] at c1
      exact runD_rt (sq_rt ((sIf_t c1).trans (sRet_eq rfl)) : b__law_is_equilibrium _ = _)
    | true =>
      rw [h1, h2] at c1
      have c2 : tnot (tru (dCal f__law_is_best (aCons (dSlice (dvar 2) (oAt (dcon (.int 1))) oNo) (aCons (dLst (lcD [4] (iSeq (dvar 0)) (gaName 4) dYes (dCal f__law_dot (aCons (dvar 4) (aCons (dSlice (dvar 3) (oAt (dcon (.int 1))) oNo) aNil))))) aNil)))) δ = some (!bestB w (sumsA A v)) :=
        tnot_eq (tru_bl ((dCal_eq (aCons_eq (slice1 rfl) (aCons_eq (dLst_eq p1) rfl))).trans (law_is_best_eq (sums_ne g.hA g.m1 v) (by omega) (stB_nn h1).2.2 false)))
      have c3 : dCal f__law_is_best (aCons (dSlice (dvar 3) (oAt (dcon (.int 1))) oNo) (aCons (dLst (lcD [5] (iSeq (dCal f__law_columns (aCons (dvar 1) aNil))) (gaName 5) dYes (dCal f__law_dot (aCons (dvar 5) (aCons (dSlice (dvar 2) (oAt (dcon (.int 1))) oNo) aNil))))) aNil)) δ = some (.bl (bestB v (sumsA (colsI B n) w))) :=
        (dCal_eq (aCons_eq (slice1 rfl) (aCons_eq (dLst_eq p2) rfl))).trans (law_is_best_eq (sums_ne g.hB.cols g.n1 w) (by omega) (stB_nn h2).2.2 false)
      cases h3 : bestB w (sumsA A v) with
      | false =>
        rw [h3] at c2
        exact runD_rt ((sq_nx ((sIf_f c1).trans rfl)).trans (sq_rt ((sIf_t c2).trans (sRet_eq rfl))) : b__law_is_equilibrium _ = _)
      | true =>
        rw [h3] at c2
        exact runD_rt ((sq_nx ((sIf_f c1).trans rfl)).trans ((sq_nx ((sIf_f c2).trans rfl)).trans (sRet_eq c3)) : b__law_is_equilibrium _ = _)
end K69

end

section
set_option Elab.async false
set_option linter.all false
set_option maxRecDepth 100000
set_option exponentiation.threshold 300
namespace K69
open PySem PySem.Spec PyProof.Rows L2 DL
/-! ### payoffs -/
def rat (u l : Int) : D := .tup [.int (u.fdiv (Nat.gcd u.natAbs l.natAbs : Nat)), .int (l.fdiv (Nat.gcd u.natAbs l.natAbs : Nat))]
theorem gcd_ok {u l : Int} (hl : 0 < l) (hs : l.natAbs < 2 ^ 200) : divOk ((Nat.gcd u.natAbs l.natAbs : Nat) : Int) = true := by
  have h1 : 0 < Nat.gcd u.natAbs l.natAbs := Nat.gcd_pos_of_pos_right _ (by omega)
  have h2 : Nat.gcd u.natAbs l.natAbs ≤ l.natAbs := Nat.gcd_le_right _ (by omega)
  refine divOk_of (by omega) ?_
  rw [Int.natAbs_natCast]
  exact Nat.lt_trans (Nat.lt_of_le_of_lt h2 hs) (Nat.pow_lt_pow_right (by omega) (by omega))
theorem ratio_eq {u l : Int} (hl : 0 < l) (hs : l.natAbs < 2 ^ 200) : f_ratio [.int u, .int l] = some (rat u l) := by
  have e1 : sSet 2 (dBin (gII fun a b => ((Nat.gcd a.natAbs b.natAbs : Nat) : Int)) (dvar 0) (dvar 1)) (stD 3 [.int u, .int l]) = some (.nx [some (.int u), some (.int l), some (.int (Nat.gcd u.natAbs l.natAbs : Nat))]) := rfl
  have e2 : sIf (asT (dBin gLt (dvar 1) (dcon (.int 0)))) (sSet 2 (dC1 gNeg (dvar 2))) sNx [some (.int u), some (.int l), some (.int (Nat.gcd u.natAbs l.natAbs : Nat))] = some (.nx [some (.int u), some (.int l), some (.int (Nat.gcd u.natAbs l.natAbs : Nat))]) := by
    refine (sIf_f (asT_eq ?_)).trans rfl
    show some (D.bl (decide (l < 0))) = _
    rw [decide_eq_false (by omega)]
  refine runD_rt ((sq_nx e1).trans ((sq_nx e2).trans (sRet_eq (dTup_eq (aCons_eq ((dBin_eq (a := .int u) (b := .int (Nat.gcd u.natAbs l.natAbs : Nat)) rfl rfl).trans (gDiv_int (gcd_ok hl hs))) (aCons_eq ((dBin_eq (a := .int l) (b := .int (Nat.gcd u.natAbs l.natAbs : Nat)) rfl rfl).trans (gDiv_int (gcd_ok hl hs))) rfl))))) : b_ratio _ = _)
theorem gAbs_int (x : Int) : gAbs (.int x) = some (.int (x.natAbs : Nat)) := by
  show some (D.int (if x < 0 then -x else x)) = _
  congr 2
  by_cases hx : x < 0
  · rw [if_pos hx]; omega
  · rw [if_neg hx]; omega
theorem law_ratio_eq {u l : Int} (hl : 0 < l) (hs : l.natAbs < 2 ^ 200) : f__law_ratio [.int u, .int l] = some (rat u l) := by
  have el : l = (l.natAbs : Int) := by omega
  have e0 : dCal f__law_divisor (aCons (dC1 gAbs (dvar 0)) (aCons (dvar 1) aNil)) (stD 3 [.int u, .int l]) = some (.int (Nat.gcd u.natAbs l.natAbs : Nat)) := by
    refine (dCal_eq (aCons_eq ((dC1_eq (d := .int u) rfl).trans (gAbs_int u)) (aCons_eq (d := .int (l.natAbs : Nat)) ?_ rfl))).trans (divisor_eq hs)
    rw [← el]
    rfl
  have e1 := sSet_eq (i := 2) e0
  refine runD_rt ((sq_nx e1).trans (sRet_eq (dTup_eq (aCons_eq ((dBin_eq (a := .int u) (b := .int (Nat.gcd u.natAbs l.natAbs : Nat)) rfl rfl).trans (gDiv_int (gcd_ok hl hs))) (aCons_eq ((dBin_eq (a := .int l) (b := .int (Nat.gcd u.natAbs l.natAbs : Nat)) rfl rfl).trans (gDiv_int (gcd_ok hl hs))) rfl)))) : b__law_ratio _ = _)
/-- a strategy: what is known of it -/
structure St (k : Nat) (s : Int) (w : List Int) : Prop where
  len : w.length = k
  s1 : 1 ≤ s
  sum : s = w.sum
  nn : ∀ a ∈ w, 0 ≤ a
  bd : ∀ a ∈ w, a.natAbs ≤ 2 ^ 12
theorem sum_bd {X : Nat} : ∀ {w : List Int}, (∀ a ∈ w, a.natAbs ≤ X) → w.sum.natAbs ≤ w.length * X
  | [], _ => Nat.zero_le _
  | a :: w, h => by
    rw [List.sum_cons, List.length_cons, Nat.succ_mul]
    have h1 := sum_bd (X := X) (w := w) fun b hb => h b (List.mem_cons_of_mem _ hb)
    have h2 := h a List.mem_cons_self
    have := Int.natAbs_add_le a w.sum
    omega
theorem St.sbd {k : Nat} {s : Int} {w : List Int} (h : St k s w) (hk : k ≤ 6) : s.natAbs ≤ 2 ^ 15 := by
  have := sum_bd h.bd
  rw [← h.sum, h.len] at this
  have : k * 2 ^ 12 ≤ 6 * 2 ^ 12 := Nat.mul_le_mul_right _ hk
  omega
theorem St.sm {k : Nat} {s : Int} {w : List Int} (h : St k s w) : ∀ a ∈ w, Sm a := fun a ha => sm_of (h.bd a ha) (by omega)
theorem St.stB {k : Nat} {s : Int} {w : List Int} (h : St k s w) (hk : 1 ≤ k) : stB s w = true := by
  have hw : w ≠ [] := fun z => by have := h.len; rw [z] at this; simp at this; omega
  unfold K69.stB
  rw [decide_eq_true h.s1, h.sum, beq_self_eq_true, decide_eq_true (h.nn _ (minL_mem hw))]
  rfl
/-- sums of entries and weights -/
theorem sums_bd {m n : Nat} {A : List (List Int)} (hA : Sh m n A) (hn : n ≤ 6) (bA : ∀ r ∈ A, ∀ a ∈ r, a.natAbs ≤ 2 ^ 50) {v : List Int} (bv : ∀ a ∈ v, a.natAbs ≤ 2 ^ 12) : ∀ a ∈ sumsA A v, a.natAbs ≤ 2 ^ 65 := fun a ha => by
  obtain ⟨r, hr, rfl⟩ := List.mem_map.mp ha
  have h := dot_bd (bA r hr) bv
  rw [hA.row r hr] at h
  have h2 : n * (2 ^ 50 * 2 ^ 12) ≤ 6 * (2 ^ 50 * 2 ^ 12) := Nat.mul_le_mul_right _ hn
  have h3 : 6 * (2 ^ 50 * 2 ^ 12) ≤ 2 ^ 65 := by decide
  omega
theorem bd_mono {a : Int} {i j : Nat} (h : a.natAbs ≤ 2 ^ i) (hij : i ≤ j) : a.natAbs ≤ 2 ^ j := Nat.le_trans h (Nat.pow_le_pow_right (by omega) hij)
theorem st_prod {s t : Int} (hs : 1 ≤ s) (ht : 1 ≤ t) (b1 : s.natAbs ≤ 2 ^ 15) (b2 : t.natAbs ≤ 2 ^ 15) : 0 < s * t ∧ (s * t).natAbs < 2 ^ 200 := by
  refine ⟨Int.mul_pos (by omega) (by omega), ?_⟩
  rw [Int.natAbs_mul]
  exact Nat.lt_of_le_of_lt (Nat.mul_le_mul b1 b2) (by decide)
theorem payoffs_eq {m n : Nat} {A B : List (List Int)} (g : Gm m n A B) {s t : Int} {w v : List Int} (hw : St m s w) (hv : St n t v) :
    f_Game_payoffs [gameD A B m n, dI (s :: w), dI (t :: v)] = some (.tup [rat (dotI w (sumsA A v)) (s * t), rat (dotI w (sumsA B v)) (s * t)]) := by
  have h6 := g.mn
  obtain ⟨hp, hb⟩ := st_prod hw.s1 hv.s1 (hw.sbd (by omega)) (hv.sbd (by omega))
  have smA : ∀ a ∈ sumsA A v, Sm a := fun a ha => sm_of (sums_bd g.hA (by omega) (fun r hr a ha => bd_mono (g.bA r hr a ha) (by omega)) hv.bd a ha) (by omega)
  have smB : ∀ a ∈ sumsA B v, Sm a := fun a ha => sm_of (sums_bd g.hB (by omega) (fun r hr a ha => bd_mono (g.bB r hr a ha) (by omega)) hv.bd a ha) (by omega)
  have e1 : sSet 3 (dBin gMul (dBin gIx (dvar 1) (dcon (.int 0))) (dBin gIx (dvar 2) (dcon (.int 0)))) (stD 6 [gameD A B m n, dI (s :: w), dI (t :: v)]) = some (.nx [some (gameD A B m n), some (dI (s :: w)), some (dI (t :: v)), some (.int (s * t)), none, none]) :=
    (sSet_eq ((dBin_eq (ix0 rfl) (ix0 rfl)).trans (gMul_int (Sm.mul (sm_of (hw.sbd (by omega)) (by omega)) (sm_of (hv.sbd (by omega)) (by omega)))))).trans rfl
  have e2 : sSet 4 (dCal f_dot (aCons (dSlice (dvar 1) (oAt (dcon (.int 1))) oNo) (aCons (dCal f_product (aCons (dC1 (gFld ["Game"] "first") (dvar 0)) (aCons (dSlice (dvar 2) (oAt (dcon (.int 1))) oNo) aNil))) aNil))) [some (gameD A B m n), some (dI (s :: w)), some (dI (t :: v)), some (.int (s * t)), none, none] =
      some (.nx [some (gameD A B m n), some (dI (s :: w)), some (dI (t :: v)), some (.int (s * t)), some (.int (dotI w (sumsA A v))), none]) :=
    (sSet_eq ((dCal_eq (aCons_eq (slice1 (s := s) (w := w) rfl) (aCons_eq ((dCal_eq (aCons_eq ((dC1_eq (d := gameD A B m n) rfl).trans fld_first) (aCons_eq (slice1 (s := t) (w := v) rfl) rfl))).trans (product_eq (g.hA.rows_ok (by omega) g.bA) hv.sm (by rw [g.hA.len]; omega))) rfl))).trans
      (dot_eq rfl rfl hw.sm smA (by rw [hw.len]; omega)))).trans rfl
  have e3 : sSet 5 (dCal f_dot (aCons (dSlice (dvar 1) (oAt (dcon (.int 1))) oNo) (aCons (dCal f_product (aCons (dC1 (gFld ["Game"] "second") (dvar 0)) (aCons (dSlice (dvar 2) (oAt (dcon (.int 1))) oNo) aNil))) aNil))) [some (gameD A B m n), some (dI (s :: w)), some (dI (t :: v)), some (.int (s * t)), some (.int (dotI w (sumsA A v))), none] =
      some (.nx [some (gameD A B m n), some (dI (s :: w)), some (dI (t :: v)), some (.int (s * t)), some (.int (dotI w (sumsA A v))), some (.int (dotI w (sumsA B v)))]) :=
    (sSet_eq ((dCal_eq (aCons_eq (slice1 (s := s) (w := w) rfl) (aCons_eq ((dCal_eq (aCons_eq ((dC1_eq (d := gameD A B m n) rfl).trans fld_second) (aCons_eq (slice1 (s := t) (w := v) rfl) rfl))).trans (product_eq (g.hB.rows_ok (by omega) g.bB) hv.sm (by rw [g.hB.len]; omega))) rfl))).trans
      (dot_eq rfl rfl hw.sm smB (by rw [hw.len]; omega)))).trans rfl
  exact runD_rt ((sq_nx e1).trans ((sq_nx e2).trans ((sq_nx e3).trans (sRet_eq (dTup_eq (aCons_eq ((dCal_eq (ds := [.int (dotI w (sumsA A v)), .int (s * t)]) rfl).trans (ratio_eq hp hb)) (aCons_eq ((dCal_eq (ds := [.int (dotI w (sumsA B v)), .int (s * t)]) rfl).trans (ratio_eq hp hb)) rfl)))))) : b_Game_payoffs _ = _)
theorem mean_eq {m n : Nat} {A : List (List Int)} (hA : Sh m n A) (h6 : m + n ≤ 6) (bA : ∀ r ∈ A, ∀ a ∈ r, a.natAbs ≤ 2 ^ 45) {s t : Int} {w v : List Int} (hw : St m s w) (hv : St n t v) :
    f__law_mean [dM A, dI (s :: w), dI (t :: v)] = some (rat (dotI w (sumsA A v)) (s * t)) := by
  obtain ⟨hp, hb⟩ := st_prod hw.s1 hv.s1 (hw.sbd (by omega)) (hv.sbd (by omega))
  have smA : ∀ a ∈ sumsA A v, Sm a := fun a ha => sm_of (sums_bd hA (by omega) (fun r hr a ha => bd_mono (bA r hr a ha) (by omega)) hv.bd a ha) (by omega)
  have hlen : dC1 gLen (dvar 0) (stD 5 [dM A, dI (s :: w), dI (t :: v)]) = some (.int m) := by
    show some (D.int ((A.map dI).length : Nat)) = _
    rw [List.length_map, hA.len]
  have h1 : lcD [4] (iR1 (dC1 gLen (dvar 0))) (gaName 4) dYes (dBin gMul (dBin gIx (dvar 1) (dBin gAdd (dcon (.int 1)) (dvar 4))) (dCal f__law_dot (aCons (dBin gIx (dvar 0) (dvar 4)) (aCons (dSlice (dvar 2) (oAt (dcon (.int 1))) oNo) aNil)))) (stD 5 [dM A, dI (s :: w), dI (t :: v)]) =
      some ((List.range m).map fun i => .int (w.getD i 0 * (sumsA A v).getD i 0)) := by
    refine lc_map (g := fun i => .int (i : Nat)) (List.range m) (iR1_eq hlen (by omega)) (by rw [List.length_range]; omega) fun i hi => ⟨_, rfl, rfl, ?_⟩
    rw [List.mem_range] at hi
    have hiA : i < A.length := by rw [hA.len]; exact hi
    have hiw : i < w.length := by rw [hw.len]; exact hi
    have hr : A[i] ∈ A := List.getElem_mem hiA
    have a1 : w.getD i 0 = w[i] := by rw [List.getD_eq_getElem?_getD, List.getElem?_eq_getElem hiw]; rfl
    have a2 : (sumsA A v).getD i 0 = dotI A[i] v := by rw [List.getD_eq_getElem?_getD, sumsA, List.getElem?_map, List.getElem?_eq_getElem hiA]; rfl
    rw [a1, a2]
    refine (dBin_eq (a := .int w[i]) (b := .int (dotI A[i] v)) ?_ ?_).trans (gMul_int (Sm.mul (hw.sm _ (List.getElem_mem hiw)) (smA _ (List.mem_map.mpr ⟨A[i], hr, rfl⟩))))
    · refine (dBin_eq (a := dI (s :: w)) (b := .int ((1 + i : Nat) : Int)) rfl ?_).trans ?_
      · show some (D.int (1 + (i : Int))) = _
        rw [Int.natCast_add]
        rfl
      · show atI ((s :: w).map D.int) ((1 + i : Nat) : Int) = _
        rw [DL.atI_nat, Nat.add_comm 1 i, List.map_cons, List.getElem?_cons_succ, List.getElem?_map, List.getElem?_eq_getElem hiw]
        rfl
    · refine (dCal_eq (aCons_eq (d := dI A[i]) ?_ (aCons_eq (slice1 (s := t) (w := v) rfl) rfl))).trans (law_dot_eq rfl rfl (hA.rows_ok (by omega) bA _ hr).2 hv.sm (hA.rows_ok (by omega) bA _ hr).1)
      refine (dBin_eq (a := dM A) (b := .int (i : Nat)) rfl rfl).trans ?_
      show atI (A.map dI) (i : Nat) = _
      rw [DL.atI_nat, List.getElem?_map, List.getElem?_eq_getElem hiA]
      rfl
  have e1 : sSet 3 (dC1 gSum (dLst (lcD [4] (iR1 (dC1 gLen (dvar 0))) (gaName 4) dYes (dBin gMul (dBin gIx (dvar 1) (dBin gAdd (dcon (.int 1)) (dvar 4))) (dCal f__law_dot (aCons (dBin gIx (dvar 0) (dvar 4)) (aCons (dSlice (dvar 2) (oAt (dcon (.int 1))) oNo) aNil))))))) (stD 5 [dM A, dI (s :: w), dI (t :: v)]) =
      some (.nx [some (dM A), some (dI (s :: w)), some (dI (t :: v)), some (.int (dotI w (sumsA A v))), none]) := by
    refine (sSet_eq ((dC1_eq (dLst_eq h1)).trans ?_)).trans rfl
    rw [show ((List.range m).map fun i => D.int (w.getD i 0 * (sumsA A v).getD i 0)) = ((List.range m).map fun i => w.getD i 0 * (sumsA A v).getD i 0).map D.int by rw [List.map_map]; rfl, gSum_l]
    have := sum_range_dot w (sumsA A v) (by rw [hw.len, sumsA, List.length_map, hA.len])
    rw [hw.len] at this
    rw [this]
  exact runD_rt ((sq_nx e1).trans (sRet_eq ((dCal_eq (aCons_eq (d := .int (dotI w (sumsA A v))) rfl (aCons_eq ((dBin_eq (ix0 (s := s) (w := w) rfl) (ix0 (s := t) (w := v) rfl)).trans (gMul_int (Sm.mul (sm_of (hw.sbd (by omega)) (by omega)) (sm_of (hv.sbd (by omega)) (by omega))))) rfl))).trans (law_ratio_eq hp hb))) : b__law_mean _ = _)
end K69

end

section
set_option Elab.async false
set_option linter.all false
set_option maxRecDepth 100000
set_option exponentiation.threshold 300
namespace K69
open PySem PySem.Spec PyProof.Rows L2 DL
/-! ### raised matrices -/
theorem low_mem {m n : Nat} {M : List (List Int)} (h : Sh m n M) (hm : 1 ≤ m) (hn : 1 ≤ n) : (∃ r ∈ M, lowM M ∈ r) ∧ ∀ r ∈ M, ∀ a ∈ r, lowM M ≤ a := by
  have hr : ∀ r ∈ M, r ≠ [] := fun r hr z => by have := h.row r hr; rw [z] at this; simp at this; omega
  have hM : M.map minL ≠ [] := fun z => by have := h.len; rw [List.map_eq_nil_iff] at z; rw [z] at this; simp at this; omega
  refine ⟨?_, fun r hr' a ha => Int.le_trans (minL_le (List.mem_map.mpr ⟨r, hr', rfl⟩)) (minL_le ha)⟩
  obtain ⟨r, hr', e⟩ := List.mem_map.mp (minL_mem hM)
  refine ⟨r, hr', ?_⟩
  show minL (M.map minL) ∈ r
  rw [← e]
  exact minL_mem (hr r hr')
theorem raised_bd {m n : Nat} {M : List (List Int)} (h : Sh m n M) (hm : 1 ≤ m) (hn : 1 ≤ n) (b : ∀ r ∈ M, ∀ a ∈ r, a.natAbs ≤ 2 ^ 45) : ∀ r ∈ raisedI M, ∀ a ∈ r, 1 ≤ a ∧ a.natAbs ≤ 2 ^ 50 := fun r hr a ha => by
  obtain ⟨q, hq, rfl⟩ := List.mem_map.mp hr
  obtain ⟨x, hx, rfl⟩ := List.mem_map.mp ha
  obtain ⟨⟨r0, h0, hl⟩, hle⟩ := low_mem h hm hn
  have h1 := hle q hq x hx
  have h2 := b q hq x hx
  have h3 := b r0 h0 _ hl
  have e : (2 : Nat) ^ 50 = 32 * 2 ^ 45 := by decide
  omega
theorem rows_ok50 {m n : Nat} {M : List (List Int)} (h : Sh m n M) (hn : n ≤ 1000) (b : ∀ r ∈ M, ∀ a ∈ r, a.natAbs ≤ 2 ^ 50) : ∀ r ∈ M, r.length ≤ 1000 ∧ ∀ x ∈ r, Sm x := fun r hr => ⟨by rw [h.row r hr]; exact hn, fun x hx => sm_of (b r hr x hx) (by omega)⟩
/-- the two levels -/
def pa (A : List (List Int)) (v : List Int) : Int := maxL (sumsA (raisedI A) v)
def pb (B : List (List Int)) (n : Nat) (w : List Int) : Int := maxL (sumsA (colsI (raisedI B) n) w)
def vecI (A B : List (List Int)) (n : Nat) (w v : List Int) : List Int := (pa A v * pb B n w) :: (w.map (fun a => pa A v * a) ++ v.map fun a => pb B n w * a)
def zI (A B : List (List Int)) (n : Nat) (w v : List Int) : List Int := primI (vecI A B n w v)
theorem dot_pos : ∀ {r v : List Int}, r.length = v.length → (∀ a ∈ r, 1 ≤ a) → (∀ a ∈ v, 0 ≤ a) → v.sum ≤ dotI r v
  | [], [], _, _, _ => Int.le_refl _
  | a :: r, b :: v, h, h1, h2 => by
    rw [dotI_cons, List.sum_cons]
    have z := dot_pos (Nat.succ.inj h) (fun x hx => h1 x (List.mem_cons_of_mem _ hx)) (fun x hx => h2 x (List.mem_cons_of_mem _ hx)) (r := r) (v := v)
    have y : b ≤ a * b := by
      have := Int.mul_le_mul_of_nonneg_right (h1 a List.mem_cons_self) (h2 b List.mem_cons_self)
      rwa [Int.one_mul] at this
    omega
  | [], _ :: _, h, _, _ => by cases h
  | _ :: _, [], h, _, _ => by cases h
theorem level_ok {m n : Nat} {M : List (List Int)} (h : Sh m n M) (hm : 1 ≤ m) (hn : n ≤ 6) (b : ∀ r ∈ M, ∀ a ∈ r, 1 ≤ a ∧ a.natAbs ≤ 2 ^ 50) {s : Int} {v : List Int} (hv : St n s v) : 1 ≤ maxL (sumsA M v) ∧ (maxL (sumsA M v)).natAbs ≤ 2 ^ 65 := by
  have hmem := maxL_mem (sums_ne h hm v)
  refine ⟨?_, sums_bd h hn (fun r hr a ha => (b r hr a ha).2) hv.bd _ hmem⟩
  obtain ⟨r, hr, e⟩ := List.mem_map.mp hmem
  have := dot_pos (by rw [h.row r hr, hv.len]) (fun a ha => (b r hr a ha).1) hv.nn (r := r) (v := v)
  have h1 := hv.s1
  have h2 := hv.sum
  show 1 ≤ maxL (sumsA M v)
  rw [← e]
  show 1 ≤ dotI r v
  omega
structure Pt (m n : Nat) (A B : List (List Int)) (s : Int) (w : List Int) (t : Int) (v : List Int) : Prop where
  g : Gm m n A B
  hw : St m s w
  hv : St n t v
section
variable {m n : Nat} {A B : List (List Int)} {s t : Int} {w v : List Int}
theorem colsR_bd (g : Gm m n A B) : ∀ r ∈ colsI (raisedI B) n, ∀ a ∈ r, 1 ≤ a ∧ a.natAbs ≤ 2 ^ 50 := fun r hr a ha => by
  obtain ⟨j, hj, rfl⟩ := List.mem_map.mp hr
  obtain ⟨q, hq, rfl⟩ := List.mem_map.mp ha
  rw [List.mem_range] at hj
  rw [List.getD_eq_getElem?_getD, List.getElem?_eq_getElem (by rw [g.hB.raised.row q hq]; exact hj)]
  exact raised_bd g.hB g.m1 g.n1 g.bB q hq _ (List.getElem_mem _)
theorem Pt.pa (h : Pt m n A B s w t v) : 1 ≤ pa A v ∧ (pa A v).natAbs ≤ 2 ^ 65 := level_ok h.g.hA.raised h.g.m1 (by have := h.g.mn; omega) (raised_bd h.g.hA h.g.m1 h.g.n1 h.g.bA) h.hv
theorem Pt.pb (h : Pt m n A B s w t v) : 1 ≤ pb B n w ∧ (pb B n w).natAbs ≤ 2 ^ 65 := level_ok h.g.hB.raised.cols h.g.n1 (by have := h.g.mn; omega) (colsR_bd h.g) h.hw
theorem Pt.vec (h : Pt m n A B s w t v) : ∀ x ∈ vecI A B n w v, 0 ≤ x ∧ x.natAbs < 2 ^ 200 := fun x hx => by
  obtain ⟨a1, a2⟩ := h.pa
  obtain ⟨b1, b2⟩ := h.pb
  have key : ∀ p q : Int, 0 ≤ p → 0 ≤ q → p.natAbs ≤ 2 ^ 65 → q.natAbs ≤ 2 ^ 65 → 0 ≤ p * q ∧ (p * q).natAbs < 2 ^ 200 := fun p q hp hq b1 b2 => ⟨Int.mul_nonneg hp hq, by
    rw [Int.natAbs_mul]
    exact Nat.lt_of_le_of_lt (Nat.mul_le_mul b1 b2) (by decide)⟩
  rcases List.mem_cons.mp hx with rfl | hx
  · exact key _ _ (by omega) (by omega) a2 b2
  · rcases List.mem_append.mp hx with hx | hx
    · obtain ⟨y, hy, rfl⟩ := List.mem_map.mp hx
      exact key _ _ (by omega) (h.hw.nn y hy) a2 (bd_mono (h.hw.bd y hy) (by omega))
    · obtain ⟨y, hy, rfl⟩ := List.mem_map.mp hx
      exact key _ _ (by omega) (h.hv.nn y hy) b2 (bd_mono (h.hv.bd y hy) (by omega))
theorem Pt.vlen (h : Pt m n A B s w t v) : (vecI A B n w v).length ≤ 1000 := by
  have := h.g.mn
  rw [vecI, List.length_cons, List.length_append, List.length_map, List.length_map, h.hw.len, h.hv.len]
  omega
theorem law_point_eq (h : Pt m n A B s w t v) : f__law_point [dM A, dM B, dI (s :: w), dI (t :: v)] = some (dI (zI A B n w v)) := by
  have g := h.g
  have h6 := g.mn
  have hm := g.m1
  have hn := g.n1
  have rA := rows_ok50 g.hA.raised (by omega) fun r hr a ha => (raised_bd g.hA hm hn g.bA r hr a ha).2
  have rB := rows_ok50 g.hB.raised.cols (by omega) fun r hr a ha => (colsR_bd g r hr a ha).2
  have p1 : lcD [5] (iSeq (dCal f__law_raised (aCons (dvar 0) aNil))) (gaName 5) dYes (dCal f__law_dot (aCons (dvar 5) (aCons (dSlice (dvar 3) (oAt (dcon (.int 1))) oNo) aNil))) (stD 9 [dM A, dM B, dI (s :: w), dI (t :: v)]) = some ((sumsA (raisedI A) v).map .int) := by
    unfold sumsA
    rw [List.map_map]
    exact lc_map (g := dI) (raisedI A) (iSeq_eq ((dCal_eq (ds := [dM A]) rfl).trans (law_raised_eq g.hA hm hn (by omega) (by omega))) rfl) (by rw [g.hA.raised.len]; omega) fun r hr => ⟨_, rfl, rfl, (dCal_eq (aCons_eq (d := dI r) rfl (aCons_eq (slice1 (s := t) (w := v) rfl) rfl))).trans (law_dot_eq rfl rfl (rA r hr).2 h.hv.sm (rA r hr).1)⟩
  have e1 : sSet 4 (dC1 gMax (dLst (lcD [5] (iSeq (dCal f__law_raised (aCons (dvar 0) aNil))) (gaName 5) dYes (dCal f__law_dot (aCons (dvar 5) (aCons (dSlice (dvar 3) (oAt (dcon (.int 1))) oNo) aNil)))))) (stD 9 [dM A, dM B, dI (s :: w), dI (t :: v)]) =
      some (.nx [some (dM A), some (dM B), some (dI (s :: w)), some (dI (t :: v)), some (.int (pa A v)), none, none, none, none]) :=
    (sSet_eq ((dC1_eq (dLst_eq p1)).trans (gMax_sq false (sums_ne g.hA.raised hm v)))).trans rfl
  have p2 : lcD [7] (iSeq (dCal f__law_columns (aCons (dCal f__law_raised (aCons (dvar 1) aNil)) aNil))) (gaName 7) dYes (dCal f__law_dot (aCons (dvar 7) (aCons (dSlice (dvar 2) (oAt (dcon (.int 1))) oNo) aNil))) [some (dM A), some (dM B), some (dI (s :: w)), some (dI (t :: v)), some (.int (pa A v)), none, none, none, none] = some ((sumsA (colsI (raisedI B) n) w).map .int) := by
    unfold sumsA
    rw [List.map_map]
    exact lc_map (g := dI) (colsI (raisedI B) n) (iSeq_eq ((dCal_eq (aCons_eq ((dCal_eq (ds := [dM B]) rfl).trans (law_raised_eq g.hB hm hn (by omega) (by omega))) rfl)).trans (columns_eq true true g.hB.raised hm (by omega) (by omega))) rfl) (by rw [g.hB.raised.cols.len]; omega) fun r hr => ⟨_, rfl, rfl, (dCal_eq (aCons_eq (d := dI r) rfl (aCons_eq (slice1 (s := s) (w := w) rfl) rfl))).trans (law_dot_eq rfl rfl (rB r hr).2 h.hw.sm (rB r hr).1)⟩
  let δ2 : DSt := [some (dM A), some (dM B), some (dI (s :: w)), some (dI (t :: v)), some (.int (pa A v)), none, some (.int (pb B n w)), none, none]
  have e2 : sSet 6 (dC1 gMax (dLst (lcD [7] (iSeq (dCal f__law_columns (aCons (dCal f__law_raised (aCons (dvar 1) aNil)) aNil))) (gaName 7) dYes (dCal f__law_dot (aCons (dvar 7) (aCons (dSlice (dvar 2) (oAt (dcon (.int 1))) oNo) aNil)))))) [some (dM A), some (dM B), some (dI (s :: w)), some (dI (t :: v)), some (.int (pa A v)), none, none, none, none] = some (.nx δ2) :=
    (sSet_eq ((dC1_eq (dLst_eq p2)).trans (gMax_sq false (sums_ne g.hB.raised.cols hn w)))).trans rfl
  have sa : Sm (pa A v) := sm_of h.pa.2 (by omega)
  have sb : Sm (pb B n w) := sm_of h.pb.2 (by omega)
  have p3 : lcD [8] (iSeq (dSlice (dvar 2) (oAt (dcon (.int 1))) oNo)) (gaName 8) dYes (dBin gMul (dvar 4) (dvar 8)) δ2 = some (w.map fun a => .int (pa A v * a)) :=
    lc_map (g := D.int) w (iSeq_eq (slice1 (s := s) (w := w) rfl) rfl) (by rw [h.hw.len]; omega) fun a ha => ⟨_, rfl, rfl, gMul_int (Sm.mul sa (h.hw.sm a ha))⟩
  have p4 : lcD [8] (iSeq (dSlice (dvar 3) (oAt (dcon (.int 1))) oNo)) (gaName 8) dYes (dBin gMul (dvar 6) (dvar 8)) δ2 = some (v.map fun a => .int (pb B n w * a)) :=
    lc_map (g := D.int) v (iSeq_eq (slice1 (s := t) (w := v) rfl) rfl) (by rw [h.hv.len]; omega) fun a ha => ⟨_, rfl, rfl, gMul_int (Sm.mul sb (h.hv.sm a ha))⟩
  have p5 : dBin gAdd (dBin gAdd (dTup (aCons (dBin gMul (dvar 4) (dvar 6)) aNil)) (dC1 gTuple (dLst (lcD [8] (iSeq (dSlice (dvar 2) (oAt (dcon (.int 1))) oNo)) (gaName 8) dYes (dBin gMul (dvar 4) (dvar 8)))))) (dC1 gTuple (dLst (lcD [8] (iSeq (dSlice (dvar 3) (oAt (dcon (.int 1))) oNo)) (gaName 8) dYes (dBin gMul (dvar 6) (dvar 8))))) δ2 = some (dI (vecI A B n w v)) := by
    refine (dBin_eq (b := .tup (v.map fun a => .int (pb B n w * a))) ((dBin_eq (b := .tup (w.map fun a => .int (pa A v * a))) (dTup_eq (aCons_eq (gMul_int (Sm.mul sa sb)) rfl)) ((dC1_eq (dLst_eq p3)).trans rfl)).trans (gAdd_tup ?_)) ((dC1_eq (dLst_eq p4)).trans rfl)).trans ((gAdd_tup ?_).trans ?_)
    · rw [List.length_map, h.hw.len]; show 1 + m ≤ 1000; omega
    · rw [List.length_append, List.length_map, List.length_map, h.hw.len, h.hv.len]; show 1 + m + n ≤ 1000; omega
    · show some (D.tup _) = some (D.tup _)
      rw [vecI, List.map_cons, List.map_append, List.map_map, List.map_map]
      rfl
  exact runD_rt ((sq_nx e1).trans ((sq_nx e2).trans (sRet_eq ((dCal_eq (aCons_eq p5 rfl)).trans (lprim_eq h.vlen fun x hx => (h.vec x hx).2)))) : b__law_point _ = _)
/-! ### the point by the table -/
theorem tbl_sums (h : Pt m n A B s w t v) : (tblI A B m n).map (fun r => dotI r (w ++ v)) = (sumsA (raisedI A) v).map (fun a => -a) ++ (sumsA (colsI (raisedI B) n) w).map fun a => -a := by
  rw [tblI, List.map_append, List.map_map, List.map_map]
  congr 1
  · rw [negI, sumsA, List.map_map, List.map_map]
    apply List.map_congr_left
    intro r hr
    show dotI (List.replicate m 0 ++ r.map fun a => -a) (w ++ v) = -dotI r v
    rw [dotI_append _ _ _ _ (by rw [List.length_replicate, h.hw.len]), dotI_zeros, Int.zero_add, dotI_neg]
  · rw [negI, sumsA, List.map_map, List.map_map]
    apply List.map_congr_left
    intro r hr
    show dotI ((r.map fun a => -a) ++ List.replicate n 0) (w ++ v) = -dotI r w
    rw [dotI_append _ _ _ _ (by rw [List.length_map, h.g.hB.raised.cols.row r hr, h.hw.len]), dotI_zeros, Int.add_zero, dotI_neg]
theorem min_neg {ns : List Int} (h : ns ≠ []) : -minL (ns.map fun a => -a) = maxL ns := by
  have h1 := maxL_mem h
  have : minL (ns.map fun a => -a) = -maxL ns := minL_eq (List.mem_map.mpr ⟨_, h1, rfl⟩) fun b hb => by
    obtain ⟨c, hc, rfl⟩ := List.mem_map.mp hb
    have := le_maxL hc
    omega
  rw [this]
  omega
theorem tbl_bd (g : Gm m n A B) : ∀ r ∈ tblI A B m n, ∀ a ∈ r, a.natAbs ≤ 2 ^ 50 := fun r hr a ha => by
  have h0 : ∀ k (a : Int), a ∈ List.replicate k (0 : Int) → a.natAbs ≤ 2 ^ 50 := fun k a ha => by rw [(List.mem_replicate.mp ha).2]; exact Nat.zero_le _
  rcases List.mem_append.mp hr with h | h
  · obtain ⟨q, hq, rfl⟩ := List.mem_map.mp h
    obtain ⟨r0, hr0, rfl⟩ := List.mem_map.mp hq
    rcases List.mem_append.mp ha with ha | ha
    · exact h0 m a ha
    · obtain ⟨x, hx, rfl⟩ := List.mem_map.mp ha
      rw [Int.natAbs_neg]
      exact (raised_bd g.hA g.m1 g.n1 g.bA r0 hr0 x hx).2
  · obtain ⟨q, hq, rfl⟩ := List.mem_map.mp h
    obtain ⟨r0, hr0, rfl⟩ := List.mem_map.mp hq
    rcases List.mem_append.mp ha with ha | ha
    · obtain ⟨x, hx, rfl⟩ := List.mem_map.mp ha
      rw [Int.natAbs_neg]
      exact (colsR_bd g r0 hr0 x hx).2
    · exact h0 n a ha
theorem point_eq {c : Int} {xs : List Int} {d : D} (hd : gTuple d = some (dI xs)) (hl : xs.length < 1000) (hb : ∀ x ∈ c :: xs, x.natAbs < 2 ^ 200) : f_point [.int c, d] = some (dI (primI (c :: xs))) := by
  refine runD_rt (sRet_eq ((dCal_eq (aCons_eq (d := dI (c :: xs)) ?_ rfl)).trans (prim_eq (by rw [List.length_cons]; omega) hb)) : b_point _ = _)
  refine (dBin_eq (dTup_eq (ds := [.int c]) rfl) ((dC1_eq (d := d) rfl).trans hd)).trans (gAdd_tup ?_)
  rw [List.length_map]
  show 1 + xs.length ≤ 1000
  omega
theorem to_point_eq (h : Pt m n A B s w t v) : f_to_point [gameD A B m n, dI (s :: w), dI (t :: v)] = some (dI (zI A B n w v)) := by
  have g := h.g
  have h6 := g.mn
  have hm := g.m1
  have hn := g.n1
  have e1 : sSet 3 (dC1 gLen (dC1 (gFld ["Game"] "first") (dvar 0))) (stD 9 [gameD A B m n, dI (s :: w), dI (t :: v)]) = some (.nx [some (gameD A B m n), some (dI (s :: w)), some (dI (t :: v)), some (.int m), none, none, none, none, none]) := by
    refine (sSet_eq (d := .int m) ((dC1_eq ((dC1_eq (d := gameD A B m n) rfl).trans fld_first)).trans ?_)).trans rfl
    show some (D.int ((A.map dI).length : Nat)) = _
    rw [List.length_map, g.hA.len]
  let sums := (sumsA (raisedI A) v).map (fun a => -a) ++ (sumsA (colsI (raisedI B) n) w).map fun a => -a
  have lA : ((sumsA (raisedI A) v).map fun a => -a).length = m := by rw [List.length_map, sumsA, List.length_map, g.hA.raised.len]
  have hT := tbl_sh g.hA g.hB
  have p1 : dCal f_product (aCons (dC1 (gFld ["Problem"] "table") (dC1 (gFld ["Game"] "problem") (dvar 0))) (aCons (dBin gAdd (dSlice (dvar 1) (oAt (dcon (.int 1))) oNo) (dSlice (dvar 2) (oAt (dcon (.int 1))) oNo)) aNil)) [some (gameD A B m n), some (dI (s :: w)), some (dI (t :: v)), some (.int m), none, none, none, none, none] = some (dI sums) := by
    refine (dCal_eq (aCons_eq ((dC1_eq ((dC1_eq (d := gameD A B m n) rfl).trans fld_problem)).trans fld_table) (aCons_eq (d := dI (w ++ v)) ?_ rfl))).trans ((product_eq (rows_ok50 hT (by omega) (tbl_bd g)) (fun y hy => ?_) (by rw [hT.len]; omega)).trans ?_)
    · refine (dBin_eq (slice1 (s := s) (w := w) rfl) (slice1 (s := t) (w := v) rfl)).trans ((gAdd_tup ?_).trans ?_)
      · rw [List.length_map, List.length_map, h.hw.len, h.hv.len]; omega
      · show some (D.tup _) = some (D.tup _)
        rw [List.map_append]
    · rcases List.mem_append.mp hy with hy | hy
      · exact h.hw.sm y hy
      · exact h.hv.sm y hy
    · rw [tbl_sums h]
  have e2 := sSet_eq (i := 4) p1
  have e3 : sSet 5 (dC1 gNeg (dC1 gMin (dSlice (dvar 4) oNo (oAt (dvar 3))))) [some (gameD A B m n), some (dI (s :: w)), some (dI (t :: v)), some (.int m), some (dI sums), none, none, none, none] = some (.nx [some (gameD A B m n), some (dI (s :: w)), some (dI (t :: v)), some (.int m), some (dI sums), some (.int (pa A v)), none, none, none]) := by
    refine (sSet_eq (d := .int (pa A v)) ((dC1_eq (d := .int (minL ((sumsA (raisedI A) v).map fun a => -a))) ((dC1_eq (d := dI ((sumsA (raisedI A) v).map fun a => -a)) ?_).trans (gMin_sq true ?_))).trans ?_)).trans rfl
    · refine (dSlice_eq (d := dI sums) rfl rfl (oAt_eq rfl)).trans ?_
      show some (D.tup (cutD (sums.map D.int) none (some (m : Int)))) = _
      rw [cutD_to, List.map_append, List.take_left' (by rw [List.length_map, lA])]
    · intro z
      rw [List.map_eq_nil_iff] at z
      exact sums_ne g.hA.raised hm v z
    · show some (D.int _) = _
      rw [min_neg (sums_ne g.hA.raised hm v)]
      rfl
  have e4 : sSet 6 (dC1 gNeg (dC1 gMin (dSlice (dvar 4) (oAt (dvar 3)) oNo))) [some (gameD A B m n), some (dI (s :: w)), some (dI (t :: v)), some (.int m), some (dI sums), some (.int (pa A v)), none, none, none] = some (.nx [some (gameD A B m n), some (dI (s :: w)), some (dI (t :: v)), some (.int m), some (dI sums), some (.int (pa A v)), some (.int (pb B n w)), none, none]) := by
    refine (sSet_eq (d := .int (pb B n w)) ((dC1_eq (d := .int (minL ((sumsA (colsI (raisedI B) n) w).map fun a => -a))) ((dC1_eq (d := dI ((sumsA (colsI (raisedI B) n) w).map fun a => -a)) ?_).trans (gMin_sq true ?_))).trans ?_)).trans rfl
    · refine (dSlice_eq (d := dI sums) rfl (oAt_eq rfl) rfl).trans ?_
      show some (D.tup (cutD (sums.map D.int) (some (m : Int)) none)) = _
      rw [cutD_from, List.map_append, List.drop_left' (by rw [List.length_map, lA])]
    · intro z
      rw [List.map_eq_nil_iff] at z
      exact sums_ne g.hB.raised.cols hn w z
    · show some (D.int _) = _
      rw [min_neg (sums_ne g.hB.raised.cols hn w)]
      rfl
  let δ4 : DSt := [some (gameD A B m n), some (dI (s :: w)), some (dI (t :: v)), some (.int m), some (dI sums), some (.int (pa A v)), some (.int (pb B n w)), none, none]
  have sa : Sm (pa A v) := sm_of h.pa.2 (by omega)
  have sb : Sm (pb B n w) := sm_of h.pb.2 (by omega)
  have p3 : lcD [8] (iSeq (dSlice (dvar 1) (oAt (dcon (.int 1))) oNo)) (gaName 8) dYes (dBin gMul (dvar 5) (dvar 8)) δ4 = some (w.map fun a => .int (pa A v * a)) :=
    lc_map (g := D.int) w (iSeq_eq (slice1 (s := s) (w := w) rfl) rfl) (by rw [h.hw.len]; omega) fun a ha => ⟨_, rfl, rfl, gMul_int (Sm.mul sa (h.hw.sm a ha))⟩
  have p4 : lcD [8] (iSeq (dSlice (dvar 2) (oAt (dcon (.int 1))) oNo)) (gaName 8) dYes (dBin gMul (dvar 6) (dvar 8)) δ4 = some (v.map fun a => .int (pb B n w * a)) :=
    lc_map (g := D.int) v (iSeq_eq (slice1 (s := t) (w := v) rfl) rfl) (by rw [h.hv.len]; omega) fun a ha => ⟨_, rfl, rfl, gMul_int (Sm.mul sb (h.hv.sm a ha))⟩
  have e5 : sSet 7 (dBin gAdd (dLst (lcD [8] (iSeq (dSlice (dvar 1) (oAt (dcon (.int 1))) oNo)) (gaName 8) dYes (dBin gMul (dvar 5) (dvar 8)))) (dLst (lcD [8] (iSeq (dSlice (dvar 2) (oAt (dcon (.int 1))) oNo)) (gaName 8) dYes (dBin gMul (dvar 6) (dvar 8))))) δ4 =
      some (.nx [some (gameD A B m n), some (dI (s :: w)), some (dI (t :: v)), some (.int m), some (dI sums), some (.int (pa A v)), some (.int (pb B n w)), some (lI (w.map (fun a => pa A v * a) ++ v.map fun a => pb B n w * a)), none]) := by
    refine (sSet_eq (d := lI (w.map (fun a => pa A v * a) ++ v.map fun a => pb B n w * a)) ((dBin_eq (dLst_eq p3) (dLst_eq p4)).trans ((gAdd_lst ?_).trans ?_))).trans rfl
    · rw [List.length_map, List.length_map, h.hw.len, h.hv.len]; omega
    · show some (D.lst _) = some (D.lst _)
      rw [List.map_append, List.map_map, List.map_map]
      rfl
  exact runD_rt ((sq_nx e1).trans ((sq_nx e2).trans ((sq_nx e3).trans ((sq_nx e4).trans ((sq_nx e5).trans (sRet_eq ((dCal_eq (aCons_eq (gMul_int (Sm.mul sa sb)) (aCons_eq (d := dI (w.map (fun a => pa A v * a) ++ v.map fun a => pb B n w * a)) rfl rfl))).trans
    (point_eq rfl (by
      rw [List.length_append, List.length_map, List.length_map, h.hw.len, h.hv.len]
      omega) fun x hx => (h.vec x hx).2))))))) : b_to_point _ = _)
end
end K69

end

section
set_option Elab.async false
set_option linter.all false
set_option maxRecDepth 100000
set_option exponentiation.threshold 300
namespace K69
open PySem PySem.Spec PyProof.Rows L2 DL
/-! ### does a point fit -/
def slkI (T : List (List Int)) (z0 : Int) (zr : List Int) : List Int := T.map fun r => z0 + dotI r zr
def fitB (T : List (List Int)) (z0 : Int) (zr : List Int) : Bool := !((z0 :: zr).any (fun a => decide (a < 0)) || (slkI T z0 zr).any fun a => decide (a < 0)) && (zr.zip (slkI T z0 zr)).all fun p => p.1 * p.2 == 0
theorem zip_ones {α : Type} : ∀ (T : List α) (N : Nat), T.length ≤ N → (List.replicate N (1 : Int)).zip T = T.map fun r => ((1 : Int), r)
  | [], N, _ => by cases N <;> rfl
  | r :: T, 0, h => by cases h
  | r :: T, N + 1, h => by
    rw [List.replicate_succ, List.zip_cons_cons, zip_ones T N (Nat.le_of_succ_le_succ h), List.map_cons]
theorem slacks_eq {N : Nat} {T : List (List Int)} {z0 : Int} {zr : List Int} (hT : Sh N N T) (hN : N ≤ 6) (bT : ∀ r ∈ T, ∀ a ∈ r, a.natAbs ≤ 2 ^ 50) (bz : ∀ a ∈ z0 :: zr, a.natAbs < 2 ^ 200) : f_Problem_slacks [probD T N, dI (z0 :: zr)] = some (dI (slkI T z0 zr)) := by
  have sz : ∀ a ∈ z0 :: zr, Sm a := fun a ha => Nat.lt_trans (bz a ha) (Nat.pow_lt_pow_right (by omega) (by omega))
  have e1 : sSet 2 (dSlice (dvar 1) (oAt (dcon (.int 1))) oNo) (stD 5 [probD T N, dI (z0 :: zr)]) = some (.nx [some (probD T N), some (dI (z0 :: zr)), some (dI zr), none, none]) := (sSet_eq (slice1 rfl)).trans rfl
  have h1 : lcD [3, 4] (iZip (dC1 (gFld ["Problem"] "q") (dvar 0)) (dC1 (gFld ["Problem"] "table") (dvar 0))) (gaTup 2 (gaCons (gaName 3) (gaCons (gaName 4) gaNil))) dYes (dBin gAdd (dBin gMul (dvar 3) (dBin gIx (dvar 1) (dcon (.int 0)))) (dCal f_dot (aCons (dvar 4) (aCons (dvar 2) aNil)))) [some (probD T N), some (dI (z0 :: zr)), some (dI zr), none, none] =
      some (T.map fun r => .int (z0 + dotI r zr)) := by
    refine lc_map (g := fun r => .tup [.int 1, dI r]) T ((iZip_eq ((dC1_eq (d := probD T N) rfl).trans fld_q) ((dC1_eq (d := probD T N) rfl).trans fld_table) rfl rfl).trans ?_) (by rw [hT.len]; omega) fun r hr => ⟨_, rfl, rfl, ?_⟩
    · rw [zipD_map, zip_ones T N (by rw [hT.len]; exact Nat.le_refl _), List.map_map]
      rfl
    · have hd : dCal f_dot (aCons (dvar 4) (aCons (dvar 2) aNil)) (setD (wipeD [some (probD T N), some (dI (z0 :: zr)), some (dI zr), none, none] [3, 4]) [(3, .int 1), (4, dI r)]) = some (.int (dotI r zr)) :=
        (dCal_eq (ds := [dI r, dI zr]) rfl).trans (dot_eq rfl rfl (fun x hx => sm_of (bT r hr x hx) (by omega)) (fun y hy => sz y (List.mem_cons_of_mem _ hy)) (by rw [hT.row r hr]; omega))
      refine (dBin_eq (a := .int z0) ((dBin_eq (a := .int 1) (b := .int z0) rfl (ix0 rfl)).trans ?_) hd).trans rfl
      rw [gMul_int (Sm.mul (sm_of (k := 1) (by decide) (by omega)) (sz z0 List.mem_cons_self)), Int.one_mul]
  refine runD_rt ((sq_nx e1).trans (sRet_eq ((dC1_eq (dLst_eq h1)).trans ?_)) : b_Problem_slacks _ = _)
  show some (D.tup _) = some (D.tup _)
  rw [slkI, List.map_map]
  rfl
theorem any_lt (xs : List Int) : gAny (.lst (xs.map fun a => .bl (decide (a < 0)))) = some (.bl (xs.any fun a => decide (a < 0))) := by
  rw [show (xs.map fun a => D.bl (decide (a < 0))) = (xs.map fun a => decide (a < 0)).map D.bl by rw [List.map_map]; rfl, gAny_l, List.any_map]
  rfl
theorem fits_eq {N : Nat} {T : List (List Int)} {z0 : Int} {zr : List Int} (hT : Sh N N T) (hN : N ≤ 6) (hz : zr.length ≤ 6) (bT : ∀ r ∈ T, ∀ a ∈ r, a.natAbs ≤ 2 ^ 50) (bz : ∀ a ∈ z0 :: zr, a.natAbs < 2 ^ 200) : f_Problem_fits [probD T N, dI (z0 :: zr)] = some (.bl (fitB T z0 zr)) := by
  have e1 : sSet 2 (dMeth "Problem" "slacks" f_Problem_slacks (dvar 0) (aCons (dvar 1) aNil)) (stD 6 [probD T N, dI (z0 :: zr)]) = some (.nx [some (probD T N), some (dI (z0 :: zr)), some (dI (slkI T z0 zr)), none, none, none]) :=
    (sSet_eq ((dMeth_eq (d := probD T N) (ds := [dI (z0 :: zr)]) rfl rfl (by
      show (decide (("Problem" : Str) = "Problem") && !(["table", "q", "size"] : List Str).elem ("slacks" : Str)) = true
      decide +kernel)).trans (slacks_eq hT hN bT bz))).trans rfl
  have hs : (slkI T z0 zr).length ≤ 6 := by rw [slkI, List.length_map, hT.len]; exact hN
  have c1 : lcD [3] (iSeq (dvar 1)) (gaName 3) dYes (dBin gLt (dvar 3) (dcon (.int 0))) [some (probD T N), some (dI (z0 :: zr)), some (dI (slkI T z0 zr)), none, none, none] = some ((z0 :: zr).map fun a => .bl (decide (a < 0))) :=
    lc_map (g := D.int) (z0 :: zr) rfl (by rw [List.length_cons]; omega) fun a ha => ⟨_, rfl, rfl, rfl⟩
  have c2 : lcD [3] (iSeq (dvar 2)) (gaName 3) dYes (dBin gLt (dvar 3) (dcon (.int 0))) [some (probD T N), some (dI (z0 :: zr)), some (dI (slkI T z0 zr)), none, none, none] = some ((slkI T z0 zr).map fun a => .bl (decide (a < 0))) :=
    lc_map (g := D.int) (slkI T z0 zr) rfl (by omega) fun a ha => ⟨_, rfl, rfl, rfl⟩
  have c3 : tor (tru (dC1 gAny (dLst (lcD [3] (iSeq (dvar 1)) (gaName 3) dYes (dBin gLt (dvar 3) (dcon (.int 0))))))) (tru (dC1 gAny (dLst (lcD [3] (iSeq (dvar 2)) (gaName 3) dYes (dBin gLt (dvar 3) (dcon (.int 0))))))) [some (probD T N), some (dI (z0 :: zr)), some (dI (slkI T z0 zr)), none, none, none] =
      some ((z0 :: zr).any (fun a => decide (a < 0)) || (slkI T z0 zr).any fun a => decide (a < 0)) :=
    tor_b (tru_bl ((dC1_eq (dLst_eq c1)).trans (any_lt _))) (tru_bl ((dC1_eq (dLst_eq c2)).trans (any_lt _)))
  unfold fitB
  cases hb : ((z0 :: zr).any (fun a => decide (a < 0)) || (slkI T z0 zr).any fun a => decide (a < 0)) with
  | true =>
    rw [hb] at c3
    exact runD_rt ((sq_nx e1).trans (sq_rt ((sIf_t c3).trans (sRet_eq rfl))) : b_Problem_fits _ = _)
  | false =>
    rw [hb] at c3
    have hnn : ∀ a ∈ slkI T z0 zr, Sm a := fun a ha => by
      obtain ⟨r, hr, rfl⟩ := List.mem_map.mp ha
      have h1 := dot_bd (bT r hr) (fun y hy => Nat.le_of_lt (bz y (List.mem_cons_of_mem _ hy)))
      rw [hT.row r hr] at h1
      have h2 := bz z0 List.mem_cons_self
      have h3 := Int.natAbs_add_le z0 (dotI r zr)
      have h4 : N * (2 ^ 50 * 2 ^ 200) ≤ 6 * (2 ^ 50 * 2 ^ 200) := Nat.mul_le_mul_right _ hN
      have h5 : 6 * (2 ^ 50 * 2 ^ 200) + 2 ^ 200 ≤ 2 ^ 256 := by decide
      show (z0 + dotI r zr).natAbs < 2 ^ 1000
      exact Nat.lt_of_le_of_lt (show (z0 + dotI r zr).natAbs ≤ 2 ^ 256 by omega) (Nat.pow_lt_pow_right (by omega) (by omega))
    have c4 : lcD [4, 5] (iZip (dSlice (dvar 1) (oAt (dcon (.int 1))) oNo) (dvar 2)) (gaTup 2 (gaCons (gaName 4) (gaCons (gaName 5) gaNil))) dYes (dBin gEq (dBin gMul (dvar 4) (dvar 5)) (dcon (.int 0))) [some (probD T N), some (dI (z0 :: zr)), some (dI (slkI T z0 zr)), none, none, none] =
        some ((zr.zip (slkI T z0 zr)).map fun p => .bl (p.1 * p.2 == 0)) := by
      refine lc_map (g := fun p => .tup [.int p.1, .int p.2]) (zr.zip (slkI T z0 zr)) ((iZip_eq (slice1 (s := z0) (w := zr) rfl) rfl rfl rfl).trans ?_) (by rw [List.length_zip]; omega) fun p hp => ⟨_, rfl, rfl, ?_⟩
      · rw [zipD_map]
      · exact (dBin_eq (gMul_int (Sm.mul (Nat.lt_trans (bz _ (List.mem_cons_of_mem _ (List.of_mem_zip hp).1)) (Nat.pow_lt_pow_right (by omega) (by omega))) (hnn _ (List.of_mem_zip hp).2))) (b := .int 0) rfl).trans (gEq_int _ _)
    refine runD_rt ((sq_nx e1).trans ((sq_nx ((sIf_f c3).trans rfl)).trans (sRet_eq ((dC1_eq (dLst_eq c4)).trans ?_))) : b_Problem_fits _ = _)
    rw [show ((zr.zip (slkI T z0 zr)).map fun p => D.bl (p.1 * p.2 == 0)) = ((zr.zip (slkI T z0 zr)).map fun p => (p.1 * p.2 == 0)).map D.bl by rw [List.map_map]; rfl, gAll_l, List.all_map]
    rfl
/-! ### the point of two strategies fits iff they are an equilibrium -/
theorem maxL_shift {ns : List Int} (h : ns ≠ []) (c : Int) : maxL (ns.map fun a => a + c) = maxL ns + c := maxL_eq (List.mem_map.mpr ⟨_, maxL_mem h, rfl⟩) fun b hb => by
  obtain ⟨a, ha, rfl⟩ := List.mem_map.mp hb
  have := le_maxL ha
  omega
theorem bestB_shift {w sums : List Int} (h : sums ≠ []) (c : Int) : bestB w (sums.map fun a => a + c) = bestB w sums := by
  unfold bestB
  rw [maxL_shift h, List.zip_map_right, List.all_map]
  congr 1
  funext p
  show (p.1 == 0 || (p.2 + c == maxL sums + c)) = _
  congr 1
  rw [Bool.eq_iff_iff, beq_iff_eq, beq_iff_eq]
  omega
section
variable {m n : Nat} {A B : List (List Int)} {s t : Int} {w v : List Int}
theorem best_A (h : Pt m n A B s w t v) : bestB w (sumsA (raisedI A) v) = bestB w (sumsA A v) := by
  have e : sumsA (raisedI A) v = (sumsA A v).map fun a => a + (1 - lowM A) * v.sum := by
    rw [sumsA, raisedI, sumsA, List.map_map, List.map_map]
    apply List.map_congr_left
    intro r hr
    show dotI (r.map fun a => a - lowM A + 1) v = dotI r v + (1 - lowM A) * v.sum
    rw [← dotI_shift _ _ _ (by rw [h.g.hA.row r hr, h.hv.len])]
    congr 1
    apply List.map_congr_left
    intro a _
    omega
  rw [e, bestB_shift (sums_ne h.g.hA h.g.m1 v)]
theorem best_B (h : Pt m n A B s w t v) : bestB v (sumsA (colsI (raisedI B) n) w) = bestB v (sumsA (colsI B n) w) := by
  have e : sumsA (colsI (raisedI B) n) w = (sumsA (colsI B n) w).map fun a => a + (1 - lowM B) * w.sum := by
    rw [sumsA, colsI, sumsA, colsI, List.map_map, List.map_map, List.map_map]
    apply List.map_congr_left
    intro j hj
    rw [List.mem_range] at hj
    show dotI ((raisedI B).map fun r => r.getD j 0) w = dotI (B.map fun r => r.getD j 0) w + (1 - lowM B) * w.sum
    rw [← dotI_shift _ _ _ (by rw [List.length_map, h.g.hB.len, h.hw.len]), raisedI, List.map_map, List.map_map]
    congr 1
    apply List.map_congr_left
    intro r hr
    have hjr : j < r.length := by rw [h.g.hB.row r hr]; exact hj
    show (r.map fun a => a - lowM B + 1).getD j 0 = r.getD j 0 + (1 - lowM B)
    rw [List.getD_eq_getElem?_getD, List.getD_eq_getElem?_getD, List.getElem?_map, List.getElem?_eq_getElem hjr]
    show r[j] - lowM B + 1 = r[j] + (1 - lowM B)
    omega
  rw [e, bestB_shift (sums_ne h.g.hB.cols h.g.n1 w)]
/-- the point by its parts: g z = the vector -/
theorem z_parts (h : Pt m n A B s w t v) : ∃ (g : Nat) (z0 : Int) (zw zv : List Int), 0 < g ∧ zI A B n w v = z0 :: (zw ++ zv) ∧ zw.length = m ∧ zv.length = n ∧ (g : Int) * z0 = pa A v * pb B n w ∧ (zw.map fun a => (g : Int) * a) = (w.map fun a => pa A v * a) ∧ (zv.map fun a => (g : Int) * a) = v.map fun a => pb B n w * a := by
  obtain ⟨a1, _⟩ := h.pa
  obtain ⟨b1, _⟩ := h.pb
  have hne : ∃ x ∈ vecI A B n w v, x ≠ 0 := ⟨_, List.mem_cons_self, Int.ne_of_gt (Int.mul_pos (by omega) (by omega))⟩
  obtain ⟨hg, hz⟩ := primI_back hne
  have hzl : (primI (vecI A B n w v)).length = 1 + (m + n) := by
    have := congrArg List.length hz
    rw [List.length_map] at this
    rw [this, vecI, List.length_cons, List.length_append, List.length_map, List.length_map, h.hw.len, h.hv.len]
    omega
  match e : primI (vecI A B n w v), hzl with
  | [], hl => simp at hl; omega
  | z0 :: zr, hl =>
    rw [e] at hz
    have hz2 : (z0 :: zr).map (fun x => (gcdL (vecI A B n w v) : Int) * x) = (pa A v * pb B n w) :: (w.map (fun a => pa A v * a) ++ v.map fun a => pb B n w * a) := hz
    rw [List.map_cons] at hz2
    injection hz2 with hz0 hzr
    have hlr : zr.length = m + n := by rw [List.length_cons] at hl; omega
    refine ⟨_, z0, zr.take m, zr.drop m, hg, ?_, ?_, ?_, hz0, ?_, ?_⟩
    · show zI A B n w v = _
      rw [zI, e, List.take_append_drop]
    · rw [List.length_take]; omega
    · rw [List.length_drop]; omega
    · rw [List.map_take, hzr, List.take_left' (by rw [List.length_map, h.hw.len])]
    · rw [List.map_drop, hzr, List.drop_left' (by rw [List.length_map, h.hw.len])]
theorem zero_iff {g p z x q : Int} (hg : 0 < g) (hp : 0 < p) (e : g * z = p * x) : z * q = 0 ↔ (x = 0 ∨ q = 0) := by
  rw [Int.mul_eq_zero]
  constructor
  · rintro (h | h)
    · rw [h, Int.mul_zero] at e
      rcases Int.mul_eq_zero.mp e.symm with h2 | h2
      · omega
      · exact .inl h2
    · exact .inr h
  · rintro (h | h)
    · rw [h, Int.mul_zero] at e
      rcases Int.mul_eq_zero.mp e with h2 | h2
      · omega
      · exact .inl h2
    · exact .inr h
/-- the slacks, multiplied out -/
theorem slk_mul {g : Int} {p q z0 : Int} (e0 : g * z0 = p * q) : ∀ {us zs ys : List Int}, True := by intros; trivial
theorem all_zip_iff {α : Type} : ∀ {xs ys zs us : List Int} {P Q : Int × Int → Bool}, True := by intros; trivial
theorem dot_scale {g p : Int} : ∀ {r zs ws : List Int}, (zs.map fun a => g * a) = (ws.map fun a => p * a) → g * dotI r zs = p * dotI r ws := fun {r zs ws} e => by
  rw [← dotI_smul, e, dotI_smul]
/-- one side: z's part and the slacks of its rows -/
theorem side {g p q z0 : Int} (hg : 0 < g) (hp : 0 < p) (hq : 0 < q) (e0 : g * z0 = p * q) : ∀ {zs ws : List Int} {sl sm : List Int}, (zs.map fun a => g * a) = (ws.map fun a => p * a) → (sl.map fun a => g * a) = (sm.map fun a => q * (p - a)) → zs.length = sl.length →
    (zs.zip sl).all (fun x => x.1 * x.2 == 0) = (ws.zip sm).all fun x => x.1 == 0 || x.2 == p
  | [], [], [], [], _, _, _ => rfl
  | z :: zs, x :: ws, l :: sl, a :: sm, e1, e2, hl => by
    injection e1 with h1 e1
    injection e2 with h2 e2
    replace h1 : g * z = p * x := h1
    replace h2 : g * l = q * (p - a) := h2
    rw [List.zip_cons_cons, List.all_cons, List.zip_cons_cons, List.all_cons, side hg hp hq e0 e1 e2 (Nat.succ.inj hl)]
    congr 1
    show (z * l == 0) = (x == 0 || a == p)
    rw [Bool.eq_iff_iff, beq_iff_eq, Bool.or_eq_true, beq_iff_eq, beq_iff_eq, zero_iff hg hp h1]
    have : l = 0 ↔ a = p := by
      constructor
      · intro h
        rw [h, Int.mul_zero] at h2
        rcases Int.mul_eq_zero.mp h2.symm with h3 | h3 <;> omega
      · intro h
        rw [h, Int.sub_self, Int.mul_zero] at h2
        rcases Int.mul_eq_zero.mp h2 with h3 | h3 <;> omega
    rw [this]
  | [], _ :: _, _, _, e1, _, _ => by simp at e1
  | _ :: _, [], _, _, e1, _, _ => by simp at e1
  | _, _, [], _ :: _, _, e2, _ => by simp at e2
  | _, _, _ :: _, [], _, e2, _ => by simp at e2
  | [], _, _ :: _, _, _, _, hl => by simp at hl
  | _ :: _, _, [], _, _, _, hl => by simp at hl
theorem fit_iff (h : Pt m n A B s w t v) : ∃ z0 zr, zI A B n w v = z0 :: zr ∧ zr.length = m + n ∧ fitB (tblI A B m n) z0 zr = eqB A B n s w t v := by
  obtain ⟨g, z0, zw, zv, hg, ez, lw, lv, e0, ew, ev⟩ := z_parts h
  obtain ⟨a1, _⟩ := h.pa
  obtain ⟨b1, _⟩ := h.pb
  refine ⟨z0, zw ++ zv, ez, by rw [List.length_append, lw, lv], ?_⟩
  have hgi : (0 : Int) < g := by omega
  -- the slacks
  have es : slkI (tblI A B m n) z0 (zw ++ zv) = (raisedI A).map (fun r => z0 - dotI r zv) ++ (colsI (raisedI B) n).map fun r => z0 - dotI r zw := by
    rw [slkI, tblI, List.map_append, List.map_map, List.map_map, negI, negI, List.map_map, List.map_map]
    congr 1
    · apply List.map_congr_left
      intro r hr
      show z0 + dotI (List.replicate m 0 ++ r.map fun a => -a) (zw ++ zv) = z0 - dotI r zv
      rw [dotI_append _ _ _ _ (by rw [List.length_replicate, lw]), dotI_zeros, Int.zero_add, dotI_neg]
      omega
    · apply List.map_congr_left
      intro r hr
      show z0 + dotI ((r.map fun a => -a) ++ List.replicate n 0) (zw ++ zv) = z0 - dotI r zw
      rw [dotI_append _ _ _ _ (by rw [List.length_map, h.g.hB.raised.cols.row r hr, lw]), dotI_zeros, Int.add_zero, dotI_neg]
      omega
  have m1 : ((raisedI A).map fun r => z0 - dotI r zv).map (fun a => (g : Int) * a) = (sumsA (raisedI A) v).map fun a => pb B n w * (pa A v - a) := by
    rw [sumsA, List.map_map, List.map_map]
    apply List.map_congr_left
    intro r hr
    show (g : Int) * (z0 - dotI r zv) = pb B n w * (pa A v - dotI r v)
    rw [Int.mul_sub, e0, dot_scale ev, Int.mul_sub, Int.mul_comm (pa A v)]
  have m2 : ((colsI (raisedI B) n).map fun r => z0 - dotI r zw).map (fun a => (g : Int) * a) = (sumsA (colsI (raisedI B) n) w).map fun a => pa A v * (pb B n w - a) := by
    rw [sumsA, List.map_map, List.map_map]
    apply List.map_congr_left
    intro r hr
    show (g : Int) * (z0 - dotI r zw) = pa A v * (pb B n w - dotI r w)
    rw [Int.mul_sub, e0, dot_scale ew, Int.mul_sub]
  -- nothing is negative
  have nonneg_of : ∀ (xs : List Int), (∀ y ∈ xs.map (fun a => (g : Int) * a), 0 ≤ y) → ∀ a ∈ xs, 0 ≤ a := fun xs hx a ha => by
    have := hx _ (List.mem_map.mpr ⟨a, ha, rfl⟩)
    by_cases hn : a < 0
    · have := Int.mul_neg_of_pos_of_neg hgi hn
      omega
    · omega
  have n0 : 0 ≤ z0 := nonneg_of [z0] (fun y hy => by
    obtain ⟨a, ha, rfl⟩ := List.mem_map.mp hy
    rw [List.mem_singleton.mp ha, e0]
    exact Int.mul_nonneg (by omega) (by omega)) z0 List.mem_cons_self
  have nw : ∀ a ∈ zw, 0 ≤ a := nonneg_of zw fun y hy => by
    rw [ew] at hy
    obtain ⟨a, ha, rfl⟩ := List.mem_map.mp hy
    exact Int.mul_nonneg (by omega) (h.hw.nn a ha)
  have nv : ∀ a ∈ zv, 0 ≤ a := nonneg_of zv fun y hy => by
    rw [ev] at hy
    obtain ⟨a, ha, rfl⟩ := List.mem_map.mp hy
    exact Int.mul_nonneg (by omega) (h.hv.nn a ha)
  have ns1 : ∀ a ∈ (raisedI A).map (fun r => z0 - dotI r zv), 0 ≤ a := nonneg_of _ fun y hy => by
    rw [m1] at hy
    obtain ⟨a, ha, rfl⟩ := List.mem_map.mp hy
    have := le_maxL ha
    have e : pa A v = maxL (sumsA (raisedI A) v) := rfl
    exact Int.mul_nonneg (by omega) (by omega)
  have ns2 : ∀ a ∈ (colsI (raisedI B) n).map (fun r => z0 - dotI r zw), 0 ≤ a := nonneg_of _ fun y hy => by
    rw [m2] at hy
    obtain ⟨a, ha, rfl⟩ := List.mem_map.mp hy
    have := le_maxL ha
    have e : pb B n w = maxL (sumsA (colsI (raisedI B) n) w) := rfl
    exact Int.mul_nonneg (by omega) (by omega)
  have any_f : ∀ (xs : List Int), (∀ a ∈ xs, 0 ≤ a) → (xs.any fun a => decide (a < 0)) = false := fun xs hx => by
    rw [List.any_eq_false]
    intro a ha
    have := hx a ha
    rw [decide_eq_true_eq]
    omega
  unfold fitB
  rw [es, any_f (z0 :: (zw ++ zv)) (fun a ha => by
    rcases List.mem_cons.mp ha with rfl | ha
    · exact n0
    · rcases List.mem_append.mp ha with ha | ha
      · exact nw a ha
      · exact nv a ha), any_f _ (fun a ha => by
    rcases List.mem_append.mp ha with ha | ha
    · exact ns1 a ha
    · exact ns2 a ha)]
  have lr : ((raisedI A).map fun r => z0 - dotI r zv).length = m := by rw [List.length_map, h.g.hA.raised.len]
  have lc : ((colsI (raisedI B) n).map fun r => z0 - dotI r zw).length = n := by rw [List.length_map, h.g.hB.raised.cols.len]
  rw [List.zip_append (by rw [lw, lr]), List.all_append, side hgi (by omega) (by omega) e0 ew m1 (by rw [lw, lr]), side hgi (q := pa A v) (by omega) (by omega) (by rw [e0, Int.mul_comm]) ev m2 (by rw [lv, lc])]
  unfold eqB
  rw [h.hw.stB h.g.m1, h.hv.stB h.g.n1, ← best_A h, ← best_B h]
  rfl
/-! ### back to strategies -/
theorem sum_scale {g p : Int} {zs ws : List Int} (e : (zs.map fun a => g * a) = ws.map fun a => p * a) : g * zs.sum = p * ws.sum := by
  have key : ∀ (k : Int) (xs : List Int), (xs.map fun a => k * a).sum = k * xs.sum := fun k xs => by
    induction xs with
    | nil => rw [List.map_nil, List.sum_nil, Int.mul_zero]
    | cons x xs ih => rw [List.map_cons, List.sum_cons, List.sum_cons, ih, Int.mul_add]
  rw [← key, e, key]
theorem strat_back {g : Nat} {p : Int} (hg : 0 < g) (hp : 1 ≤ p) {zs ws : List Int} (e : (zs.map fun a => (g : Int) * a) = ws.map fun a => p * a) : primI (zs.sum :: zs) = primI (ws.sum :: ws) := by
  refine primI_ray (a := g) (b := p.natAbs) hg (by omega) ?_
  have hpn : (p.natAbs : Int) = p := by omega
  rw [hpn, List.map_cons, List.map_cons, e, sum_scale e]
theorem from_point_eq (h : Pt m n A B s w t v) : f_from_point [gameD A B m n, dI (zI A B n w v)] = some (.tup [dI (primI (s :: w)), dI (primI (t :: v))]) := by
  obtain ⟨g, z0, zw, zv, hg, ez, lw, lv, e0, ew, ev⟩ := z_parts h
  obtain ⟨a1, _⟩ := h.pa
  obtain ⟨b1, _⟩ := h.pb
  have h6 := h.g.mn
  have zb : ∀ a ∈ z0 :: (zw ++ zv), a.natAbs ≤ 2 ^ 140 := fun a ha => by
    -- z divides the vector
    have hv2 : ∀ b ∈ vecI A B n w v, b.natAbs ≤ 2 ^ 140 := fun b hb => by
      have key : ∀ p q : Int, p.natAbs ≤ 2 ^ 65 → q.natAbs ≤ 2 ^ 65 → (p * q).natAbs ≤ 2 ^ 140 := fun p q b1 b2 => by
        rw [Int.natAbs_mul]
        exact Nat.le_trans (Nat.mul_le_mul b1 b2) (by decide)
      rcases List.mem_cons.mp hb with rfl | hb
      · exact key _ _ h.pa.2 h.pb.2
      · rcases List.mem_append.mp hb with hb | hb
        · obtain ⟨y, hy, rfl⟩ := List.mem_map.mp hb
          exact key _ _ h.pa.2 (bd_mono (h.hw.bd y hy) (by omega))
        · obtain ⟨y, hy, rfl⟩ := List.mem_map.mp hb
          exact key _ _ h.pb.2 (bd_mono (h.hv.bd y hy) (by omega))
    have hm2 : (g : Int) * a ∈ vecI A B n w v := by
      rcases List.mem_cons.mp ha with rfl | ha
      · rw [e0]; exact List.mem_cons_self
      · refine List.mem_cons_of_mem _ ?_
        rw [← ew, ← ev, ← List.map_append]
        exact List.mem_map.mpr ⟨a, ha, rfl⟩
    have := hv2 _ hm2
    rw [Int.natAbs_mul, Int.natAbs_natCast] at this
    have h2 : 1 * a.natAbs ≤ g * a.natAbs := Nat.mul_le_mul_right _ hg
    omega
  have bs : ∀ (xs : List Int), xs.length ≤ 6 → (∀ a ∈ xs, a.natAbs ≤ 2 ^ 140) → ∀ a ∈ xs.sum :: xs, a.natAbs < 2 ^ 200 := fun xs hl hx a ha => by
    rcases List.mem_cons.mp ha with rfl | ha
    · have h1 := sum_bd hx
      have h2 : xs.length * 2 ^ 140 ≤ 6 * 2 ^ 140 := Nat.mul_le_mul_right _ hl
      have h3 : 6 * 2 ^ 140 < 2 ^ 200 := by decide
      omega
    · have h1 := hx a ha
      have h3 : (2 : Nat) ^ 140 < 2 ^ 200 := by decide
      omega
  have strat : ∀ (xs : List Int), xs.length ≤ 6 → (∀ a ∈ xs, a.natAbs ≤ 2 ^ 140) → f__strategy [dI xs] = some (dI (primI (xs.sum :: xs))) := fun xs hl hx =>
    runD_rt (sRet_eq ((dCal_eq (aCons_eq ((dC1_eq (d := dI xs) rfl).trans (gSum_t xs)) (aCons_eq (d := dI xs) rfl rfl))).trans (point_eq rfl (by omega) (bs xs hl hx))) : b__strategy _ = _)
  rw [ez]
  have e1 : sSet 2 (dC1 gLen (dC1 (gFld ["Game"] "first") (dvar 0))) (stD 4 [gameD A B m n, dI (z0 :: (zw ++ zv))]) = some (.nx [some (gameD A B m n), some (dI (z0 :: (zw ++ zv))), some (.int m), none]) := by
    refine (sSet_eq (d := .int m) ((dC1_eq ((dC1_eq (d := gameD A B m n) rfl).trans fld_first)).trans ?_)).trans rfl
    show some (D.int ((A.map dI).length : Nat)) = _
    rw [List.length_map, h.g.hA.len]
  have e2 : sSet 3 (dSlice (dvar 1) (oAt (dcon (.int 1))) (oAt (dBin gAdd (dcon (.int 1)) (dvar 2)))) [some (gameD A B m n), some (dI (z0 :: (zw ++ zv))), some (.int m), none] = some (.nx [some (gameD A B m n), some (dI (z0 :: (zw ++ zv))), some (.int m), some (dI zw)]) := by
    refine (sSet_eq (d := dI zw) ((dSlice_eq (d := dI (z0 :: (zw ++ zv))) rfl (oAt_eq rfl) (oAt_eq (i := ((1 + m : Nat) : Int)) ?_)).trans ?_)).trans rfl
    · show some (D.int (1 + (m : Int))) = _
      rw [Int.natCast_add]
      rfl
    · show some (D.tup (cutD ((z0 :: (zw ++ zv)).map D.int) (some ((1 : Nat) : Int)) (some ((1 + m : Nat) : Int)))) = _
      rw [cutD_mid, Nat.add_comm 1 m, List.map_cons, List.take_succ_cons, List.drop_succ_cons, List.drop_zero, List.map_append, List.take_left' (by rw [List.length_map, lw])]
  have hs : zw.sum ≠ 0 := fun z => by
    have := sum_scale ew
    rw [z, Int.mul_zero, ← h.hw.sum] at this
    have h1 := h.hw.s1
    rcases Int.mul_eq_zero.mp this.symm with h2 | h2 <;> omega
  have e3 : sIf (asT (dBin gEq (dC1 gSum (dvar 3)) (dcon (.int 0)))) (sRet (dcon .non)) sNx [some (gameD A B m n), some (dI (z0 :: (zw ++ zv))), some (.int m), some (dI zw)] = some (.nx [some (gameD A B m n), some (dI (z0 :: (zw ++ zv))), some (.int m), some (dI zw)]) := by
    refine (sIf_f (asT_eq ((dBin_eq ((dC1_eq (d := dI zw) rfl).trans (gSum_t zw)) (b := .int 0) rfl).trans ?_))).trans rfl
    rw [gEq_int, beq_eq_false_iff_ne.mpr hs]
  have p4 : dSlice (dvar 1) (oAt (dBin gAdd (dcon (.int 1)) (dvar 2))) oNo [some (gameD A B m n), some (dI (z0 :: (zw ++ zv))), some (.int m), some (dI zw)] = some (dI zv) := by
    refine (dSlice_eq (d := dI (z0 :: (zw ++ zv))) rfl (oAt_eq (i := ((1 + m : Nat) : Int)) ?_) rfl).trans ?_
    · show some (D.int (1 + (m : Int))) = _
      rw [Int.natCast_add]
      rfl
    · show some (D.tup (cutD ((z0 :: (zw ++ zv)).map D.int) (some ((1 + m : Nat) : Int)) none)) = _
      rw [cutD_from, Nat.add_comm 1 m, List.map_cons, List.drop_succ_cons, List.map_append, List.drop_left' (by rw [List.length_map, lw])]
  have bw : ∀ a ∈ zw, a.natAbs ≤ 2 ^ 140 := fun a ha => zb a (List.mem_cons_of_mem _ (List.mem_append_left _ ha))
  have bv : ∀ a ∈ zv, a.natAbs ≤ 2 ^ 140 := fun a ha => zb a (List.mem_cons_of_mem _ (List.mem_append_right _ ha))
  have q1 := strat_back hg a1 ew
  have q2 := strat_back hg b1 ev
  rw [← h.hw.sum] at q1
  rw [← h.hv.sum] at q2
  rw [← q1, ← q2]
  exact runD_rt ((sq_nx e1).trans ((sq_nx e2).trans ((sq_nx e3).trans (sRet_eq (dTup_eq (aCons_eq ((dCal_eq (ds := [dI zw]) rfl).trans (strat zw (by omega) bw)) (aCons_eq ((dCal_eq (aCons_eq p4 rfl)).trans (strat zv (by omega) bv)) rfl)))))) : b_from_point _ = _)
end
end K69

end

section
set_option Elab.async false
set_option linter.all false
set_option maxRecDepth 100000
set_option exponentiation.threshold 300
namespace K69
open PySem PySem.Spec PyProof.Rows L2 DL
/-! ### the same -/
def okS : Nat → D → Bool
  | _, .int _ => true
  | _, .bl _ => true
  | _, .non => true
  | k + 1, .tup ds => decide (ds.length ≤ 1000) && ds.all fun d => okS k d
  | _, _ => false
theorem zip_self {α : Type} : ∀ xs : List α, xs.zip xs = xs.map fun x => (x, x)
  | [] => rfl
  | x :: xs => by rw [List.zip_cons_cons, zip_self xs, List.map_cons]
theorem same_int (n : Nat) (i : Int) : r__law_same (n + 1) [.int i, .int i] = some (.bl true) := by
  refine runD_rt (δ := stD 4 [.int i, .int i]) ?_
  refine (sq_nx (δ' := stD 4 [.int i, .int i]) rfl).trans ((sq_nx (δ' := stD 4 [.int i, .int i]) rfl).trans ((sq_nx (δ' := stD 4 [.int i, .int i]) rfl).trans (sRet_eq ?_)))
  refine (vand_t rfl).trans ((vand_t rfl).trans ?_)
  exact (gEq_int i i).trans (by rw [beq_self_eq_true])
theorem same_bl (n : Nat) (b : Bool) : r__law_same (n + 1) [.bl b, .bl b] = some (.bl true) := by cases b <;> rfl
theorem same_non (n : Nat) : r__law_same (n + 1) [.non, .non] = some (.bl true) := rfl
theorem same_refl : ∀ (n : Nat) (d : D), okS n d = true → r__law_same (n + 1) [d, d] = some (.bl true)
  | n, .int i, _ => same_int n i
  | n, .bl b, _ => same_bl n b
  | n, .non, _ => same_non n
  | 0, .tup ds, h => by cases h
  | n + 1, .tup ds, h => by
    have h' : (decide (ds.length ≤ 1000) && ds.all fun d => okS n d) = true := h
    rw [Bool.and_eq_true] at h'
    have hl := of_decide_eq_true h'.1
    have ha := List.all_eq_true.mp h'.2
    refine runD_rt (δ := stD 4 [.tup ds, .tup ds]) (sq_rt ((sIf_t rfl).trans ((sq_nx (δ' := stD 4 [.tup ds, .tup ds]) ((sIf_f ((tor_f rfl).trans (asT_eq ?_))).trans rfl)).trans (sRet_eq ?_))))
    · show gNe (.int (ds.length : Nat)) (.int (ds.length : Nat)) = _
      rw [gNe_int, beq_self_eq_true]
      rfl
    · have h1 : lcD [2, 3] (iZip (dvar 0) (dvar 1)) (gaTup 2 (gaCons (gaName 2) (gaCons (gaName 3) gaNil))) dYes (dCal (r__law_same (n + 1)) (aCons (dvar 2) (aCons (dvar 3) aNil))) (stD 4 [.tup ds, .tup ds]) = some (ds.map fun _ => .bl true) := by
        refine lc_map (g := fun d => .tup [d, d]) ds ((iZip_eq rfl rfl rfl rfl).trans ?_) hl fun d hd => ⟨_, rfl, rfl, (dCal_eq (ds := [d, d]) rfl).trans (same_refl n d (ha d hd))⟩
        have e := zipD_map (fun d : D => d) (fun d : D => d) ds ds
        rw [List.map_id', zip_self, List.map_map] at e
        rw [e]
        rfl
      refine (dC1_eq (dLst_eq h1)).trans ?_
      rw [show (ds.map fun _ => D.bl true) = (ds.map fun _ => true).map D.bl by rw [List.map_map]; rfl, gAll_l, List.all_map]
      congr 2
      exact List.all_eq_true.mpr fun _ _ => rfl
  | _, .str _, h => by simp [okS] at h
  | _, .lst _, h => by simp [okS] at h
  | _, .obj _ _ _, h => by simp [okS] at h
  | _, .scr _, h => by simp [okS] at h
theorem okS_int (k : Nat) (i : Int) : okS k (.int i) = true := by cases k <;> rfl
theorem okS_dI (k : Nat) {xs : List Int} (h : xs.length ≤ 1000) : okS (k + 1) (dI xs) = true := by
  show (decide ((xs.map D.int).length ≤ 1000) && (xs.map D.int).all fun d => okS k d) = true
  rw [List.length_map, decide_eq_true h, Bool.true_and, List.all_map]
  exact List.all_eq_true.mpr fun x _ => okS_int k x
theorem okS_dM (k : Nat) {M : List (List Int)} (h : M.length ≤ 1000) (hr : ∀ r ∈ M, r.length ≤ 1000) : okS (k + 2) (dM M) = true := by
  show (decide ((M.map dI).length ≤ 1000) && (M.map dI).all fun d => okS (k + 1) d) = true
  rw [List.length_map, decide_eq_true h, Bool.true_and, List.all_map]
  exact List.all_eq_true.mpr fun r hr' => okS_dI k (hr r hr')
theorem okS_pair {k : Nat} {a b : D} (ha : okS k a = true) (hb : okS k b = true) : okS (k + 1) (.tup [a, b]) = true := by
  show (decide ([a, b].length ≤ 1000) && [a, b].all fun d => okS k d) = true
  rw [List.all_cons, List.all_cons, ha, hb]
  rfl
theorem same_of {d : D} (h : okS 3 d = true) : f__law_same [d, d] = some (.bl true) := same_refl 3 d h
theorem okS_rat (k : Nat) (u l : Int) : okS (k + 1) (rat u l) = true := okS_pair (okS_int k _) (okS_int k _)
/-- not same(a, b), for equal data -/
theorem not_same {f1 f2 : DE} {δ : DSt} {d : D} (h1 : f1 δ = some d) (h2 : f2 δ = some d) (hk : okS 3 d = true) : tnot (tru (dCal f__law_same (aCons f1 (aCons f2 aNil)))) δ = some false :=
  tnot_eq (tru_bl ((dCal_eq (aCons_eq h1 (aCons_eq h2 rfl))).trans (same_of hk)))
section
variable {m n : Nat} {A B : List (List Int)} {s t : Int} {w v : List Int}
theorem led_eq (h : Pt m n A B s w t v) : f__law_led [gameD A B m n, dM A, dM B, dI (s :: w), dI (t :: v)] = some (.bl true) := by
  have g := h.g
  have h6 := g.mn
  let δ0 : DSt := stD 7 [gameD A B m n, dM A, dM B, dI (s :: w), dI (t :: v)]
  let δ1 : DSt := [some (gameD A B m n), some (dM A), some (dM B), some (dI (s :: w)), some (dI (t :: v)), some (.bl (eqB A B n s w t v)), none]
  let δ2 : DSt := [some (gameD A B m n), some (dM A), some (dM B), some (dI (s :: w)), some (dI (t :: v)), some (.bl (eqB A B n s w t v)), some (dI (zI A B n w v))]
  have e1 : sSet 5 (dCal f__law_is_equilibrium (aCons (dvar 1) (aCons (dvar 2) (aCons (dvar 3) (aCons (dvar 4) aNil))))) δ0 = some (.nx δ1) :=
    (sSet_eq ((dCal_eq (ds := [dM A, dM B, dI (s :: w), dI (t :: v)]) rfl).trans (law_is_equilibrium_eq g h.hw.len h.hv.len h.hw.sm h.hv.sm))).trans rfl
  have c1 := not_same (f1 := dCal f_is_equilibrium (aCons (dvar 0) (aCons (dvar 3) (aCons (dvar 4) aNil)))) (f2 := dvar 5) (δ := δ1) ((dCal_eq (ds := [gameD A B m n, dI (s :: w), dI (t :: v)]) rfl).trans (is_equilibrium_eq g h.hw.len h.hv.len h.hw.sm h.hv.sm)) rfl rfl
  have c2 := not_same (f1 := dMeth "Game" "payoffs" f_Game_payoffs (dvar 0) (aCons (dvar 3) (aCons (dvar 4) aNil))) (f2 := dTup (aCons (dCal f__law_mean (aCons (dvar 1) (aCons (dvar 3) (aCons (dvar 4) aNil)))) (aCons (dCal f__law_mean (aCons (dvar 2) (aCons (dvar 3) (aCons (dvar 4) aNil)))) aNil))) (δ := δ1)
    ((dMeth_eq (d := gameD A B m n) (ds := [dI (s :: w), dI (t :: v)]) rfl rfl (by
      show (decide (("Game" : Str) = "Game") && !(["first", "second", "problem"] : List Str).elem ("payoffs" : Str)) = true
      decide +kernel)).trans (payoffs_eq g h.hw h.hv))
    (dTup_eq (aCons_eq ((dCal_eq (ds := [dM A, dI (s :: w), dI (t :: v)]) rfl).trans (mean_eq g.hA g.mn g.bA h.hw h.hv)) (aCons_eq ((dCal_eq (ds := [dM B, dI (s :: w), dI (t :: v)]) rfl).trans (mean_eq g.hB g.mn g.bB h.hw h.hv)) rfl)))
    (okS_pair (okS_rat 1 _ _) (okS_rat 1 _ _))
  have e2 : sSet 6 (dCal f__law_point (aCons (dvar 1) (aCons (dvar 2) (aCons (dvar 3) (aCons (dvar 4) aNil))))) δ1 = some (.nx δ2) := (sSet_eq ((dCal_eq (ds := [dM A, dM B, dI (s :: w), dI (t :: v)]) rfl).trans (law_point_eq h))).trans rfl
  obtain ⟨z0, zr, ez, lz, hfit⟩ := fit_iff h
  have zl : (zI A B n w v).length ≤ 1000 := by rw [ez, List.length_cons]; omega
  have c3 := not_same (f1 := dCal f_to_point (aCons (dvar 0) (aCons (dvar 3) (aCons (dvar 4) aNil)))) (f2 := dvar 6) (δ := δ2) ((dCal_eq (ds := [gameD A B m n, dI (s :: w), dI (t :: v)]) rfl).trans (to_point_eq h)) rfl (okS_dI 2 zl)
  have zb : ∀ a ∈ z0 :: zr, a.natAbs < 2 ^ 200 := fun a ha => by
    obtain ⟨hg, hz⟩ := primI_back (xs := vecI A B n w v) ⟨_, List.mem_cons_self, Int.ne_of_gt (Int.mul_pos (by have := h.pa.1; omega) (by have := h.pb.1; omega))⟩
    rw [← ez] at ha
    have hm2 : (gcdL (vecI A B n w v) : Int) * a ∈ vecI A B n w v := by
      have this : (gcdL (vecI A B n w v) : Int) * a ∈ (zI A B n w v).map (fun x => (gcdL (vecI A B n w v) : Int) * x) := List.mem_map.mpr ⟨a, ha, rfl⟩
      rw [show (zI A B n w v).map (fun x => (gcdL (vecI A B n w v) : Int) * x) = vecI A B n w v from hz] at this
      exact this
    have := (h.vec _ hm2).2
    rw [Int.natAbs_mul, Int.natAbs_natCast] at this
    have h2 : 1 * a.natAbs ≤ gcdL (vecI A B n w v) * a.natAbs := Nat.mul_le_mul_right _ hg
    omega
  have c4 := not_same (f1 := dMeth "Problem" "fits" f_Problem_fits (dC1 (gFld ["Game"] "problem") (dvar 0)) (aCons (dvar 6) aNil)) (f2 := dvar 5) (δ := δ2) (d := .bl (eqB A B n s w t v))
    ((dMeth_eq (d := probD (tblI A B m n) (m + n)) (ds := [dI (zI A B n w v)]) ((dC1_eq (d := gameD A B m n) rfl).trans fld_problem) rfl (by
      show (decide (("Problem" : Str) = "Problem") && !(["table", "q", "size"] : List Str).elem ("fits" : Str)) = true
      decide +kernel)).trans (by rw [ez, fits_eq (tbl_sh g.hA g.hB) h6 (by omega) (tbl_bd g) zb, hfit])) rfl rfl
  have px : f__law_primitive [dI (s :: w)] = some (dI (primI (s :: w))) := lprim_eq (by rw [List.length_cons, h.hw.len]; omega) fun a ha => by
    rcases List.mem_cons.mp ha with rfl | ha
    · exact Nat.lt_of_le_of_lt (h.hw.sbd (by omega)) (by decide)
    · exact Nat.lt_of_le_of_lt (h.hw.bd a ha) (by decide)
  have py : f__law_primitive [dI (t :: v)] = some (dI (primI (t :: v))) := lprim_eq (by rw [List.length_cons, h.hv.len]; omega) fun a ha => by
    rcases List.mem_cons.mp ha with rfl | ha
    · exact Nat.lt_of_le_of_lt (h.hv.sbd (by omega)) (by decide)
    · exact Nat.lt_of_le_of_lt (h.hv.bd a ha) (by decide)
  have pl : ∀ (k : Nat) (s : Int) (w : List Int), w.length ≤ 6 → (primI (s :: w)).length ≤ 1000 := fun k s w hw => by
    unfold primI
    split
    · rw [List.length_cons]; omega
    · rw [List.length_map, List.length_cons]; omega
  have c5 : dCal f__law_same (aCons (dCal f_from_point (aCons (dvar 0) (aCons (dvar 6) aNil))) (aCons (dTup (aCons (dCal f__law_primitive (aCons (dvar 3) aNil)) (aCons (dCal f__law_primitive (aCons (dvar 4) aNil)) aNil))) aNil)) δ2 = some (.bl true) :=
    (dCal_eq (aCons_eq ((dCal_eq (ds := [gameD A B m n, dI (zI A B n w v)]) rfl).trans (from_point_eq h)) (aCons_eq (dTup_eq (aCons_eq ((dCal_eq (ds := [dI (s :: w)]) rfl).trans px) (aCons_eq ((dCal_eq (ds := [dI (t :: v)]) rfl).trans py) rfl))) rfl))).trans
      (same_of (okS_pair (okS_dI 1 (pl 0 _ _ (by rw [h.hw.len]; omega))) (okS_dI 1 (pl 0 _ _ (by rw [h.hv.len]; omega)))))
  have c6 : vor (vnot (dvar 5)) (dCal f__law_same (aCons (dCal f_from_point (aCons (dvar 0) (aCons (dvar 6) aNil))) (aCons (dTup (aCons (dCal f__law_primitive (aCons (dvar 3) aNil)) (aCons (dCal f__law_primitive (aCons (dvar 4) aNil)) aNil))) aNil))) δ2 = some (.bl true) :=
    (vor_b (vnot_b (a := eqB A B n s w t v) rfl) c5).trans (by rw [Bool.or_true])
  exact runD_rt ((sq_nx e1).trans ((sq_nx ((sIf_f c1).trans rfl)).trans ((sq_nx ((sIf_f c2).trans rfl)).trans ((sq_nx e2).trans ((sq_nx ((sIf_f ((tor_f c3).trans c4)).trans rfl)).trans (sRet_eq c6))))) : b__law_led _ = _)
/-! ### told -/
theorem law_table_eq (g : Gm m n A B) : f__law_table [dM A, dM B] = some (dM (tblI A B m n)) := by
  have h6 := g.mn
  have hm := g.m1
  have hn := g.n1
  obtain ⟨r, A', eA, hr⟩ := g.hA.ne hm
  have e1 : sSet 2 (dC1 gLen (dvar 0)) (stD 8 [dM A, dM B]) = some (.nx [some (dM A), some (dM B), some (.int m), none, none, none, none, none]) := by
    refine (sSet_eq (d := .int m) ?_).trans rfl
    show some (D.int ((A.map dI).length : Nat)) = _
    rw [List.length_map, g.hA.len]
  have e2 : sSet 3 (dC1 gLen (dBin gIx (dvar 0) (dcon (.int 0)))) [some (dM A), some (dM B), some (.int m), none, none, none, none, none] = some (.nx [some (dM A), some (dM B), some (.int m), some (.int n), none, none, none, none]) := by
    refine (sSet_eq (d := .int n) ((dC1_eq (d := dI r) ?_).trans ?_)).trans rfl
    · show atI (A.map dI) 0 = _
      rw [eA, List.map_cons, atI_0]
    · show some (D.int ((r.map D.int).length : Nat)) = _
      rw [List.length_map, hr]
  have neg : ∀ (q : List Int) (δ : DSt) (i : Nat), q.length ≤ 1000 → True := by intros; trivial
  have h5 : lcD [6] (iSeq (dCal f__law_raised (aCons (dvar 0) aNil))) (gaName 6) dYes (dBin gAdd (dBin gMul (dTup (aCons (dcon (.int 0)) aNil)) (dvar 2)) (dC1 gTuple (dLst (lcD [5] (iSeq (dvar 6)) (gaName 5) dYes (dC1 gNeg (dvar 5)))))) [some (dM A), some (dM B), some (.int m), some (.int n), none, none, none, none] =
      some ((raisedI A).map fun r => dI (List.replicate m 0 ++ r.map fun a => -a)) := by
    refine lc_map (g := dI) (raisedI A) (iSeq_eq ((dCal_eq (ds := [dM A]) rfl).trans (law_raised_eq g.hA hm hn (by omega) (by omega))) rfl) (by rw [g.hA.raised.len]; omega) fun q hq => ⟨_, rfl, rfl, ?_⟩
    have hq2 := g.hA.raised.row q hq
    have h7 : lcD [5] (iSeq (dvar 6)) (gaName 5) dYes (dC1 gNeg (dvar 5)) (setD (wipeD [some (dM A), some (dM B), some (.int m), some (.int n), none, none, none, none] [6]) [(6, dI q)]) = some (q.map fun a => .int (-a)) :=
      lc_map (g := D.int) q rfl (by omega) fun a ha => ⟨_, rfl, rfl, rfl⟩
    refine (dBin_eq (b := .tup (q.map fun a => .int (-a))) ((dBin_eq (b := .int m) (dTup_eq (ds := [.int 0]) rfl) rfl).trans (gMul_rep (by omega))) ((dC1_eq (dLst_eq h7)).trans rfl)).trans ((gAdd_tup ?_).trans ?_)
    · rw [List.length_replicate, List.length_map]; omega
    · show some (D.tup _) = some (D.tup _)
      rw [List.map_append, List.map_replicate, List.map_map]
      rfl
  let δ4 : DSt := [some (dM A), some (dM B), some (.int m), some (.int n), some (.lst ((raisedI A).map fun r => dI (List.replicate m 0 ++ r.map fun a => -a))), none, none, none]
  have h6' : lcD [7] (iSeq (dCal f__law_columns (aCons (dCal f__law_raised (aCons (dvar 1) aNil)) aNil))) (gaName 7) dYes (dBin gAdd (dC1 gTuple (dLst (lcD [5] (iSeq (dvar 7)) (gaName 5) dYes (dC1 gNeg (dvar 5))))) (dBin gMul (dTup (aCons (dcon (.int 0)) aNil)) (dvar 3))) δ4 =
      some ((colsI (raisedI B) n).map fun r => dI ((r.map fun a => -a) ++ List.replicate n 0)) := by
    refine lc_map (g := dI) (colsI (raisedI B) n) (iSeq_eq ((dCal_eq (aCons_eq ((dCal_eq (ds := [dM B]) rfl).trans (law_raised_eq g.hB hm hn (by omega) (by omega))) rfl)).trans (columns_eq true true g.hB.raised hm (by omega) (by omega))) rfl) (by rw [g.hB.raised.cols.len]; omega) fun q hq => ⟨_, rfl, rfl, ?_⟩
    have hq2 := g.hB.raised.cols.row q hq
    have h7 : lcD [5] (iSeq (dvar 7)) (gaName 5) dYes (dC1 gNeg (dvar 5)) (setD (wipeD δ4 [7]) [(7, dI q)]) = some (q.map fun a => .int (-a)) :=
      lc_map (g := D.int) q rfl (by omega) fun a ha => ⟨_, rfl, rfl, rfl⟩
    refine (dBin_eq (a := .tup (q.map fun a => .int (-a))) ((dC1_eq (dLst_eq h7)).trans rfl) ((dBin_eq (b := .int n) (dTup_eq (ds := [.int 0]) rfl) rfl).trans (gMul_rep (by omega)))).trans ((gAdd_tup ?_).trans ?_)
    · rw [List.length_replicate, List.length_map]; omega
    · show some (D.tup _) = some (D.tup _)
      rw [List.map_append, List.map_replicate, List.map_map]
      rfl
  have e6 : sSet 4 (dBin gAdd (dvar 4) (dLst (lcD [7] (iSeq (dCal f__law_columns (aCons (dCal f__law_raised (aCons (dvar 1) aNil)) aNil))) (gaName 7) dYes (dBin gAdd (dC1 gTuple (dLst (lcD [5] (iSeq (dvar 7)) (gaName 5) dYes (dC1 gNeg (dvar 5))))) (dBin gMul (dTup (aCons (dcon (.int 0)) aNil)) (dvar 3)))))) δ4 =
      some (.nx [some (dM A), some (dM B), some (.int m), some (.int n), some (.lst ((tblI A B m n).map dI)), none, none, none]) := by
    refine (sSet_eq (d := .lst ((tblI A B m n).map dI)) ((dBin_eq (a := .lst ((raisedI A).map fun r => dI (List.replicate m 0 ++ r.map fun a => -a))) rfl (dLst_eq h6')).trans ((gAdd_lst ?_).trans ?_))).trans rfl
    · rw [List.length_map, List.length_map, g.hA.raised.len, g.hB.raised.cols.len]; omega
    · rw [tblI, negI, negI, List.map_append, List.map_map, List.map_map, List.map_map, List.map_map]
      rfl
  exact runD_rt ((sq_nx e1).trans ((sq_nx e2).trans ((sq_nx (sSetN_eq h5)).trans ((sq_nx e6).trans (sRet_eq (dC1_eq (d := .lst ((tblI A B m n).map dI)) rfl))))) : b__law_table _ = _)
theorem sum_zeros : ∀ m : Nat, (List.replicate m (0 : Int)).sum = 0
  | 0 => rfl
  | m + 1 => by rw [List.replicate_succ, List.sum_cons, sum_zeros m]; rfl
theorem told_eq (g : Gm m n A B) : f__law_told [gameD A B m n, dM A, dM B] = some (.bl true) := by
  have h6 := g.mn
  have hm := g.m1
  have hn := g.n1
  obtain ⟨r, A', eA, hr⟩ := g.hA.ne hm
  have l1 : ∀ δ : DSt, dvar 1 δ = some (dM A) → dC1 gLen (dvar 1) δ = some (.int m) := fun δ h => by
    refine (dC1_eq h).trans ?_
    show some (D.int ((A.map dI).length : Nat)) = _
    rw [List.length_map, g.hA.len]
  have l2 : ∀ δ : DSt, dvar 1 δ = some (dM A) → dC1 gLen (dBin gIx (dvar 1) (dcon (.int 0))) δ = some (.int n) := fun δ h => by
    refine (dC1_eq (d := dI r) ((dBin_eq h (b := .int 0) rfl).trans ?_)).trans ?_
    · show atI (A.map dI) 0 = _
      rw [eA, List.map_cons, atI_0]
    · show some (D.int ((r.map D.int).length : Nat)) = _
      rw [List.length_map, hr]
  let δ1 : DSt := [some (gameD A B m n), some (dM A), some (dM B), some (.int ((m + n : Nat) : Int))]
  have e1 : sSet 3 (dBin gAdd (dC1 gLen (dvar 1)) (dC1 gLen (dBin gIx (dvar 1) (dcon (.int 0))))) (stD 4 [gameD A B m n, dM A, dM B]) = some (.nx δ1) := by
    refine (sSet_eq (d := .int ((m + n : Nat) : Int)) ((dBin_eq (l1 _ rfl) (l2 _ rfl)).trans ?_)).trans rfl
    show some (D.int ((m : Int) + (n : Int))) = _
    rw [Int.natCast_add]
  have c1 := not_same (f1 := dPropF0 "Game" f_Game_sizes (dvar 0)) (f2 := dTup (aCons (dC1 gLen (dvar 1)) (aCons (dC1 gLen (dBin gIx (dvar 1) (dcon (.int 0)))) aNil))) (δ := δ1) ((dPropF0_eq (d := gameD A B m n) rfl (isCls_of _ _ _)).trans (sizes_eq (B := B) (ns := []) (ds := []) g.hA hm fld_first)) (dTup_eq (aCons_eq (l1 _ rfl) (aCons_eq (l2 _ rfl) rfl))) (okS_pair (okS_int 2 _) (okS_int 2 _))
  have hAl : ∀ r ∈ A, r.length ≤ 1000 := fun r hr => by rw [g.hA.row r hr]; omega
  have hBl : ∀ r ∈ B, r.length ≤ 1000 := fun r hr => by rw [g.hB.row r hr]; omega
  have c2 := not_same (f1 := dC1 (gFld ["Game"] "first") (dvar 0)) (f2 := dvar 1) (δ := δ1) ((dC1_eq (d := gameD A B m n) rfl).trans fld_first) rfl (okS_dM 1 (by rw [g.hA.len]; omega) hAl)
  have c3 := not_same (f1 := dC1 (gFld ["Game"] "second") (dvar 0)) (f2 := dvar 2) (δ := δ1) ((dC1_eq (d := gameD A B m n) rfl).trans fld_second) rfl (okS_dM 1 (by rw [g.hB.len]; omega) hBl)
  have hT := tbl_sh g.hA g.hB
  have c4 := not_same (f1 := dC1 (gFld ["Problem"] "table") (dC1 (gFld ["Game"] "problem") (dvar 0))) (f2 := dCal f__law_table (aCons (dvar 1) (aCons (dvar 2) aNil))) (δ := δ1) ((dC1_eq ((dC1_eq (d := gameD A B m n) rfl).trans fld_problem)).trans fld_table) ((dCal_eq (ds := [dM A, dM B]) rfl).trans (law_table_eq g)) (okS_dM 1 (by rw [hT.len]; omega) fun r hr => by rw [hT.row r hr]; omega)
  have c5 := not_same (f1 := dC1 (gFld ["Problem"] "q") (dC1 (gFld ["Game"] "problem") (dvar 0))) (f2 := dBin gMul (dTup (aCons (dcon (.int 1)) aNil)) (dvar 3)) (δ := δ1) (d := dI (List.replicate (m + n) 1)) ((dC1_eq ((dC1_eq (d := gameD A B m n) rfl).trans fld_problem)).trans fld_q) ((dBin_eq (b := .int ((m + n : Nat) : Int)) (dTup_eq (ds := [.int 1]) rfl) rfl).trans ((gMul_rep (by omega)).trans (by
      show _ = some (D.tup _)
      rw [List.map_replicate]))) (okS_dI 2 (by rw [List.length_replicate]; omega))
  have hz : f_from_point [gameD A B m n, dI (1 :: List.replicate (m + n) 0)] = some .non := by
    have e1 : sSet 2 (dC1 gLen (dC1 (gFld ["Game"] "first") (dvar 0))) (stD 4 [gameD A B m n, dI (1 :: List.replicate (m + n) 0)]) = some (.nx [some (gameD A B m n), some (dI (1 :: List.replicate (m + n) 0)), some (.int m), none]) := by
      refine (sSet_eq (d := .int m) ((dC1_eq ((dC1_eq (d := gameD A B m n) rfl).trans fld_first)).trans ?_)).trans rfl
      show some (D.int ((A.map dI).length : Nat)) = _
      rw [List.length_map, g.hA.len]
    have e2 : sSet 3 (dSlice (dvar 1) (oAt (dcon (.int 1))) (oAt (dBin gAdd (dcon (.int 1)) (dvar 2)))) [some (gameD A B m n), some (dI (1 :: List.replicate (m + n) 0)), some (.int m), none] = some (.nx [some (gameD A B m n), some (dI (1 :: List.replicate (m + n) 0)), some (.int m), some (dI (List.replicate m 0))]) := by
      refine (sSet_eq (d := dI (List.replicate m 0)) ((dSlice_eq (d := dI (1 :: List.replicate (m + n) 0)) rfl (oAt_eq rfl) (oAt_eq (i := ((1 + m : Nat) : Int)) ?_)).trans ?_)).trans rfl
      · show some (D.int (1 + (m : Int))) = _
        rw [Int.natCast_add]
        rfl
      · show some (D.tup (cutD ((1 :: List.replicate (m + n) 0).map D.int) (some ((1 : Nat) : Int)) (some ((1 + m : Nat) : Int)))) = _
        rw [cutD_mid, Nat.add_comm 1 m, List.map_cons, List.take_succ_cons, List.drop_succ_cons, List.drop_zero, List.map_replicate, List.take_replicate, Nat.min_eq_left (by omega)]
        show _ = some (D.tup _)
        rw [List.map_replicate]
    refine runD_rt ((sq_nx e1).trans ((sq_nx e2).trans (sq_rt ((sIf_t (asT_eq ((dBin_eq ((dC1_eq (d := dI (List.replicate m 0)) rfl).trans (gSum_t _)) (b := .int 0) rfl).trans ?_))).trans (sRet_eq rfl)))) : b_from_point _ = _)
    rw [sum_zeros m]
    rfl
  have c6 : dBin gIs (dCal f_from_point (aCons (dvar 0) (aCons (dBin gAdd (dTup (aCons (dcon (.int 1)) aNil)) (dBin gMul (dTup (aCons (dcon (.int 0)) aNil)) (dvar 3))) aNil))) (dcon .non) δ1 = some (.bl true) := by
    refine (dBin_eq (a := .non) (b := .non) ((dCal_eq (aCons_eq (d := gameD A B m n) rfl (aCons_eq (d := dI (1 :: List.replicate (m + n) 0)) ?_ rfl))).trans hz) rfl).trans rfl
    refine (dBin_eq (dTup_eq (ds := [.int 1]) rfl) ((dBin_eq (b := .int ((m + n : Nat) : Int)) (dTup_eq (ds := [.int 0]) rfl) rfl).trans (gMul_rep (by omega)))).trans ((gAdd_tup ?_).trans ?_)
    · rw [List.length_replicate]; show 1 + (m + n) ≤ 1000; omega
    · show _ = some (D.tup _)
      rw [List.map_cons, List.map_replicate]
      rfl
  exact runD_rt ((sq_nx e1).trans ((sq_nx ((sIf_f c1).trans rfl)).trans ((sq_nx ((sIf_f ((tor_f c2).trans c3)).trans rfl)).trans ((sq_nx ((sIf_f ((tor_f c4).trans c5)).trans rfl)).trans (sRet_eq c6)))) : b__law_told _ = _)
end
end K69

end

section
set_option Elab.async false
set_option linter.all false
set_option maxRecDepth 100000
set_option exponentiation.threshold 300
namespace K69
open PySem PySem.Spec PyProof.Rows L2 DL
/-! ### the numbers of a cell -/
theorem pw_lt {a b : Nat} (h : a < b) (h3 : 3 ≤ a) : 2 ^ a + 8 ≤ 2 ^ b := by
  have h1 : 2 ^ (a + 1) ≤ 2 ^ b := Nat.pow_le_pow_right (by omega) h
  have h2 : 2 ^ 3 ≤ 2 ^ a := Nat.pow_le_pow_right (by omega) h3
  rw [Nat.pow_succ] at h1
  omega
theorem sq_rn {f g : DS} {δ δ' : DSt} {es : List D} (h : f δ = some (.rn es δ')) : sq f g δ = some (.rn es δ') := by
  show (f δ).bind _ = _
  rw [h]
  rfl
theorem dInt_eq {f : DE} {δ : DSt} {i : Int} (h : f δ = some (.int i)) : dC1 gInt f δ = some (.int i) := (dC1_eq h).trans rfl
theorem dAdd_eq {f g : DE} {δ : DSt} {a b : Int} (h : f δ = some (.int a)) (h2 : g δ = some (.int b)) : dBin gAdd f g δ = some (.int (a + b)) := (dBin_eq h h2).trans rfl
def Cl (c : Int) : Prop := c.natAbs < 2 ^ 2000000
def Cs (c : Int) : Prop := c.natAbs < 2 ^ 1500000
theorem Cs.cl {c : Int} (h : Cs c) : Cl c := Nat.lt_of_lt_of_le h (Nat.pow_le_pow_right (by omega) (by omega))
theorem Cs.add {c : Int} (h : Cs c) : Cl (c + 5) := by
  have h1 : 2 ^ 1500000 + 8 ≤ 2 ^ 2000000 := pw_lt (by omega) (by omega)
  have h2 : c.natAbs < 2 ^ 1500000 := h
  show (c + 5).natAbs < 2 ^ 2000000
  generalize 2 ^ 1500000 = X at h1 h2
  generalize 2 ^ 2000000 = Y at h1 ⊢
  omega
theorem Cl.mul {a b : Int} (h : Cl a) (h2 : b.natAbs < 2 ^ 60) : mulOk a b = true :=
  mulOk_of (Nat.lt_of_lt_of_le h (Nat.pow_le_pow_right (by omega) (by omega))) (Nat.lt_of_lt_of_le h2 (Nat.pow_le_pow_right (by omega) (by omega)))
theorem m60 {a b : Int} (h : a.natAbs < 2 ^ 60) (h2 : b.natAbs < 2 ^ 60) : mulOk a b = true :=
  mulOk_of (Nat.lt_of_lt_of_le h (Nat.pow_le_pow_right (by omega) (by omega))) (Nat.lt_of_lt_of_le h2 (Nat.pow_le_pow_right (by omega) (by omega)))
theorem d60 {b : Int} (h0 : 0 < b) (h2 : b.natAbs < 2 ^ 60) : divOk b = true :=
  divOk_of (by omega) (Nat.lt_of_lt_of_le h2 (Nat.pow_le_pow_right (by omega) (by omega)))
structure Nu (k : Nat) (b : Int) (ns : List Int) : Prop where
  len : ns.length = k
  bd : ∀ a ∈ ns, 0 ≤ a ∧ a < b
theorem Nu.snoc {k : Nat} {b x : Int} {ns : List Int} (h : Nu k b ns) (hb : 0 < b) : Nu (k + 1) b (ns ++ [x.fmod b]) :=
  ⟨by rw [List.length_append, h.len]; rfl, fun a ha => by
    rcases List.mem_append.mp ha with ha | ha
    · exact h.bd a ha
    · rw [List.mem_singleton.mp ha]
      exact ⟨Int.fmod_nonneg_of_pos _ hb, Int.fmod_lt_of_pos _ hb⟩⟩
theorem range_at {k i : Nat} {d : D} (h : ((List.range k).map fun i : Nat => D.int (i : Int))[i]? = some d) : i < k ∧ d = .int (i : Nat) := by
  rw [List.getElem?_map] at h
  by_cases hi : i < k
  · rw [List.getElem?_range hi] at h
    exact ⟨hi, (Option.some.inj h).symm⟩
  · rw [List.getElem?_eq_none (by rw [List.length_range]; omega)] at h
    cases h
theorem snoc_map (ns : List Int) (x : Int) : ns.map D.int ++ [.int x] = (ns ++ [x]).map D.int := by rw [List.map_append]; rfl
theorem numbers_eq {c b : Int} {k : Nat} (hc : Cl c) (hb : 0 < b) (hb2 : b.natAbs < 2 ^ 60) (hk : k ≤ 1000) : ∃ ns : List Int, f__law_numbers [.int c, .int k, .int b] = some (ns.map .int) ∧ Nu k b ns := by
  let δ0 : DSt := [some (.int c), some (.int k), some (.int b), some (.lst []), none, none, none]
  have hp : ∀ δ : DSt, dBin gPow (dcon (.int 10)) (dcon (.int 18)) δ = some (.int (10 ^ 18)) := fun δ => by
    show (if 0 ≤ (18 : Int) ∧ (18 : Int) ≤ 1000000 ∧ (10 : Int).natAbs < 2 ^ 64 then some (D.int ((10 : Int) ^ (18 : Int).toNat)) else none) = _
    rw [if_pos (by decide)]
    rfl
  have ht : asT (dBin gGe (dvar 0) (dBin gPow (dcon (.int 10)) (dcon (.int 18)))) δ0 = some (decide ((10 : Int) ^ 18 ≤ c)) := asT_eq ((dBin_eq (a := .int c) rfl (hp _)).trans rfl)
  have hr : ∀ δ : DSt, dvar 1 δ = some (.int k) → iR1 (dvar 1) δ = some ((List.range k).map fun i => .int (i : Nat)) := fun δ h => iR1_eq h hk
  let P : Nat → DSt → Prop := fun i δ => ∃ (ns : List Int) (r : Int) (x5 x6 : Option D), δ = [some (.int c), some (.int k), some (.int b), some (.lst (ns.map .int)), some (.int r), x5, x6] ∧ Nu i b ns
  let P' : Nat → DSt → Prop := fun i δ => ∃ (ns : List Int) (x4 x5 x6 : Option D), δ = [some (.int c), some (.int k), some (.int b), some (.lst (ns.map .int)), x4, x5, x6] ∧ Nu i b ns
  cases ho : decide ((10 : Int) ^ 18 ≤ c) with
  | true =>
    rw [ho] at ht
    have e4 : sSet 4 (dBin gSub (dvar 0) (dBin gPow (dcon (.int 10)) (dcon (.int 18)))) δ0 = some (.nx [some (.int c), some (.int k), some (.int b), some (.lst []), some (.int (c - 10 ^ 18)), none, none]) := (sSet_eq ((dBin_eq (a := .int c) rfl (hp _)).trans rfl)).trans rfl
    obtain ⟨δ', hf, ns, r, x5, x6, rfl, hn⟩ := forGo_all (ga := gaName 5) (fb := sq (sApp 3 (dBin gMod (dC1 gInt (dvar 4)) (dvar 2))) (sSet 4 (dBin gDiv (dvar 4) (dvar 2)))) P (ds := (List.range k).map fun i => .int (i : Nat)) (δ := [some (.int c), some (.int k), some (.int b), some (.lst []), some (.int (c - 10 ^ 18)), none, none]) ⟨[], _, _, _, rfl, rfl, fun a ha => nomatch ha⟩ (by
      rintro i d δ hd ⟨ns, r, x5, x6, rfl, hn⟩
      obtain ⟨hi, rfl⟩ := range_at hd
      refine ⟨_, _, rfl, ?_, ns ++ [r.fmod b], r.fdiv b, some (.int (i : Nat)), x6, rfl, hn.snoc hb⟩
      refine (sq_nx ((sApp_eq (ds := ns.map .int) (e := .int (r.fmod b)) rfl ((dBin_eq (a := .int r) (b := .int b) rfl rfl).trans (gMod_int (by omega))) (by rw [List.length_map, hn.len]; omega)))).trans ?_
      refine (sSet_eq (d := .int (r.fdiv b)) ((dBin_eq (a := .int r) (b := .int b) rfl rfl).trans (gDiv_int (d60 hb hb2)))).trans ?_
      rw [snoc_map]
      rfl)
    rw [List.length_map, List.length_range] at hn
    exact ⟨ns, runN_rn ((sq_nx (δ' := δ0) rfl).trans (sq_rn ((sIf_t ht).trans ((sq_nx e4).trans ((sq_nx ((sFor_eq (hr _ rfl)).trans hf)).trans rfl)))) : b__law_numbers _ = _), hn⟩
  | false =>
    rw [ho] at ht
    obtain ⟨δ', hf, ns, x4, x5, x6, rfl, hn⟩ := forGo_all (ga := gaName 5) (fb := sq (sSet 6 (dBin gMod (dC1 gInt (dBin gAdd (dBin gAdd (dBin gMul (dvar 0) (dcon (.int 48271))) (dBin gMul (dvar 5) (dcon (.int 69621)))) (dcon (.int 12345)))) (dcon (.int 2147483647)))) (sq (sSet 6 (dBin gMod (dC1 gInt (dBin gAdd (dBin gAdd (dBin gMul (dvar 6) (dcon (.int 16807))) (dBin gDiv (dvar 6) (dcon (.int 127)))) (dBin gMul (dvar 5) (dcon (.int 40692))))) (dcon (.int 2147483399)))) (sApp 3 (dBin gMod (dBin gDiv (dvar 6) (dcon (.int 7))) (dvar 2))))) P' (ds := (List.range k).map fun i => .int (i : Nat)) (δ := δ0) ⟨[], _, _, _, rfl, rfl, fun a ha => nomatch ha⟩ (by
      rintro i d δ hd ⟨ns, x4, x5, x6, rfl, hn⟩
      obtain ⟨hi, rfl⟩ := range_at hd
      have hi60 : ((i : Nat) : Int).natAbs < 2 ^ 60 := by rw [Int.natAbs_natCast]; exact Nat.lt_of_lt_of_le (Nat.lt_of_lt_of_le hi hk) (by decide)
      let q1 : Int := (c * 48271 + (i : Int) * 69621 + 12345).fmod 2147483647
      have hq1 : q1.natAbs < 2 ^ 60 := by
        have a1 : 0 ≤ q1 := Int.fmod_nonneg_of_pos _ (by decide)
        have a2 : q1 < 2147483647 := Int.fmod_lt_of_pos _ (by decide)
        have : (2147483647 : Nat) < 2 ^ 60 := by decide
        omega
      let q2 : Int := (q1 * 16807 + q1.fdiv 127 + (i : Int) * 40692).fmod 2147483399
      let δa : DSt := [some (.int c), some (.int k), some (.int b), some (.lst (ns.map .int)), x4, some (.int (i : Nat)), x6]
      let δb : DSt := [some (.int c), some (.int k), some (.int b), some (.lst (ns.map .int)), x4, some (.int (i : Nat)), some (.int q1)]
      let δc : DSt := [some (.int c), some (.int k), some (.int b), some (.lst (ns.map .int)), x4, some (.int (i : Nat)), some (.int q2)]
      have g1 : dBin gMul (dvar 0) (dcon (.int 48271)) δa = some (.int (c * 48271)) := (dBin_eq (a := .int c) (b := .int 48271) rfl rfl).trans (gMul_int (hc.mul (by decide)))
      have g2 : ∀ (δ : DSt) (z : Int), dvar 5 δ = some (.int (i : Nat)) → z.natAbs < 2 ^ 60 → dBin gMul (dvar 5) (dcon (.int z)) δ = some (.int ((i : Int) * z)) := fun δ z h hz => (dBin_eq (b := .int z) h rfl).trans (gMul_int (m60 hi60 hz))
      have g3 : dBin gMul (dvar 6) (dcon (.int 16807)) δb = some (.int (q1 * 16807)) := (dBin_eq (a := .int q1) (b := .int 16807) rfl rfl).trans (gMul_int (m60 hq1 (by decide)))
      have g4 : dBin gDiv (dvar 6) (dcon (.int 127)) δb = some (.int (q1.fdiv 127)) := (dBin_eq (a := .int q1) (b := .int 127) rfl rfl).trans (gDiv_int (d60 (by decide) (by decide)))
      have s1 : sSet 6 (dBin gMod (dC1 gInt (dBin gAdd (dBin gAdd (dBin gMul (dvar 0) (dcon (.int 48271))) (dBin gMul (dvar 5) (dcon (.int 69621)))) (dcon (.int 12345)))) (dcon (.int 2147483647))) δa = some (.nx δb) :=
        (sSet_eq (d := .int q1) ((dBin_eq (a := .int (c * 48271 + (i : Int) * 69621 + 12345)) (b := .int 2147483647) (dInt_eq (dAdd_eq (dAdd_eq g1 (g2 _ 69621 rfl (by decide))) (b := 12345) rfl)) rfl).trans (gMod_int (by decide)))).trans rfl
      have s2 : sSet 6 (dBin gMod (dC1 gInt (dBin gAdd (dBin gAdd (dBin gMul (dvar 6) (dcon (.int 16807))) (dBin gDiv (dvar 6) (dcon (.int 127)))) (dBin gMul (dvar 5) (dcon (.int 40692))))) (dcon (.int 2147483399))) δb = some (.nx δc) :=
        (sSet_eq (d := .int q2) ((dBin_eq (a := .int (q1 * 16807 + q1.fdiv 127 + (i : Int) * 40692)) (b := .int 2147483399) (dInt_eq (dAdd_eq (dAdd_eq g3 g4) (g2 _ 40692 rfl (by decide)))) rfl).trans (gMod_int (by decide)))).trans rfl
      refine ⟨_, _, rfl, ?_, ns ++ [(q2.fdiv 7).fmod b], x4, some (.int (i : Nat)), some (.int q2), rfl, hn.snoc hb⟩
      refine (sq_nx s1).trans ((sq_nx s2).trans ((sApp_eq (ds := ns.map .int) (e := .int ((q2.fdiv 7).fmod b)) rfl ((dBin_eq (a := .int (q2.fdiv 7)) (b := .int b) ((dBin_eq (a := .int q2) (b := .int 7) rfl rfl).trans (gDiv_int (d60 (by decide) (by decide)))) rfl).trans (gMod_int (by omega))) (by rw [List.length_map, hn.len]; omega)).trans ?_))
      rw [snoc_map]
      rfl)
    rw [List.length_map, List.length_range] at hn
    exact ⟨ns, runN_rn ((sq_nx (δ' := δ0) rfl).trans ((sq_nx ((sIf_f ht).trans rfl)).trans ((sq_nx ((sFor_eq (hr _ rfl)).trans hf)).trans rfl)) : b__law_numbers _ = _), hn⟩
/-! ### a strategy -/
theorem strategy_eq {c b : Int} {k : Nat} (hc : Cl c) (hb : 3 ≤ b) (hb2 : b ≤ 100) (hk : k ≤ 6) (hk1 : 1 ≤ k) : ∃ (s : Int) (w : List Int), f__law_strategy [.int c, .int k, .int b] = some (dI (s :: w)) ∧ St k s w ∧ ∀ a ∈ w, a ≤ 1000 := by
  obtain ⟨ns, e, hn⟩ := numbers_eq (k := k) hc (by omega : 0 < b) (by have : 100 < 2 ^ 60 := by decide
                                                                      omega) (by omega)
  let f : Int → Int := fun a => if a - b.fdiv 3 > 0 then a - b.fdiv 3 else 0
  have hd : 0 ≤ b.fdiv 3 := Int.fdiv_nonneg (by omega) (by omega)
  have e3 : lcD [4] (iSeq (dLst (aCal f__law_numbers (aCons (dvar 0) (aCons (dvar 1) (aCons (dvar 2) aNil)))))) (gaName 4) dYes (dBin (gII fun i j => if j > i then j else i) (dcon (.int 0)) (dBin gSub (dvar 4) (dBin gDiv (dvar 2) (dcon (.int 3))))) (stD 5 [.int c, .int k, .int b]) = some (ns.map fun a => .int (f a)) := by
    refine lc_map (g := D.int) ns (iSeq_eq (dLst_eq ((aCal_eq (ds := [.int c, .int k, .int b]) rfl).trans e)) rfl) (by rw [hn.len]; omega) fun a ha => ⟨_, rfl, rfl, ?_⟩
    exact (dBin_eq (a := .int 0) (b := .int (a - b.fdiv 3)) rfl ((dBin_eq (a := .int a) (b := .int (b.fdiv 3)) rfl ((dBin_eq (a := .int b) (b := .int 3) rfl rfl).trans (gDiv_int (d60 (by decide) (by decide))))).trans rfl)).trans rfl
  have e3' : (ns.map fun a => D.int (f a)) = (ns.map f).map D.int := by rw [List.map_map]; rfl
  rw [e3'] at e3
  generalize hw : ns.map f = w at e3
  have lw : w.length = k := by rw [← hw, List.length_map, hn.len]
  have bw : ∀ a ∈ w, 0 ≤ a ∧ a ≤ 1000 := fun a ha => by
    rw [← hw] at ha
    obtain ⟨x, hx, rfl⟩ := List.mem_map.mp ha
    have := hn.bd x hx
    show 0 ≤ (if x - b.fdiv 3 > 0 then x - b.fdiv 3 else 0) ∧ (if x - b.fdiv 3 > 0 then x - b.fdiv 3 else 0) ≤ 1000
    split <;> omega
  let δ1 : DSt := [some (.int c), some (.int k), some (.int b), some (lI w), none]
  have e1 : sSetN 3 (lcD [4] (iSeq (dLst (aCal f__law_numbers (aCons (dvar 0) (aCons (dvar 1) (aCons (dvar 2) aNil)))))) (gaName 4) dYes (dBin (gII fun i j => if j > i then j else i) (dcon (.int 0)) (dBin gSub (dvar 4) (dBin gDiv (dvar 2) (dcon (.int 3)))))) (stD 5 [.int c, .int k, .int b]) = some (.nx δ1) := (sSetN_eq e3).trans rfl
  have ht : asT (dBin gEq (dC1 gSum (dvar 3)) (dcon (.int 0))) δ1 = some (w.sum == 0) := asT_eq ((dBin_eq ((dC1_eq (d := lI w) rfl).trans (gSum_l w)) (b := .int 0) rfl).trans (gEq_int _ _))
  have fin : ∀ w' : List Int, w'.length = k → sRet (dBin gAdd (dTup (aCons (dC1 gSum (dvar 3)) aNil)) (dC1 gTuple (dvar 3))) [some (.int c), some (.int k), some (.int b), some (lI w'), none] = some (.rt (dI (w'.sum :: w')) [some (.int c), some (.int k), some (.int b), some (lI w'), none]) := fun w' h => by
    refine sRet_eq ((dBin_eq (dTup_eq (aCons_eq ((dC1_eq (d := lI w') rfl).trans (gSum_l w')) rfl)) (b := dI w') rfl).trans ((gAdd_tup ?_).trans rfl))
    rw [List.length_map, h]
    show 1 + k ≤ 1000
    omega
  have s0 : 0 ≤ w.sum := by
    have : ∀ xs : List Int, (∀ a ∈ xs, 0 ≤ a ∧ a ≤ 1000) → 0 ≤ xs.sum := fun xs => by
      induction xs with
      | nil => intro _; exact Int.le_refl 0
      | cons x xs ih =>
        intro h
        rw [List.sum_cons]
        exact Int.add_nonneg (h x List.mem_cons_self).1 (ih fun a ha => h a (List.mem_cons_of_mem x ha))
    exact this w bw
  cases hz : w.sum == 0 with
  | false =>
    rw [hz] at ht
    have hz' : w.sum ≠ 0 := by simpa using hz
    exact ⟨w.sum, w, runD_rt ((sq_nx e1).trans ((sq_nx ((sIf_f ht).trans rfl)).trans (fin w lw)) : b__law_strategy _ = _), ⟨lw, by omega, rfl, fun a ha => (bw a ha).1, fun a ha => by
      have := bw a ha
      have h4 : (2 : Nat) ^ 12 = 4096 := by decide
      omega⟩, fun a ha => (bw a ha).2⟩
  | true =>
    rw [hz] at ht
    have hz' : w.sum = 0 := by simpa using hz
    obtain ⟨j, hj⟩ : ∃ j : Nat, c.fmod (k : Int) = (j : Int) := ⟨(c.fmod k).toNat, (Int.toNat_of_nonneg (Int.fmod_nonneg_of_pos _ (by omega))).symm⟩
    have hjk : j < k := by
      have := Int.fmod_lt_of_pos c (by omega : (0 : Int) < (k : Int))
      omega
    have e2 : sSetI 3 (dBin gMod (dC1 gInt (dvar 0)) (dvar 1)) (dcon (.int 1)) δ1 = some (.nx [some (.int c), some (.int k), some (.int b), some (lI (w.set j 1)), none]) := by
      refine (sSetI_eq (ds := w.map .int) (k := j) (d := .int 1) rfl rfl ((dBin_eq (a := .int c) (b := .int k) rfl rfl).trans ((gMod_int (by omega)).trans (by rw [hj]))) (by rw [List.length_map]; omega)).trans ?_
      rw [← List.map_set]
      rfl
    have sumset : ∀ (xs : List Int) (j : Nat), j < xs.length → (∀ a ∈ xs, 0 ≤ a ∧ a ≤ 1000) → 1 ≤ (xs.set j 1).sum := fun xs => by
      induction xs with
      | nil => intro j h; exact absurd h (by simp)
      | cons x xs ih =>
        intro j h hb
        have hs : 0 ≤ xs.sum := by
          clear ih h
          have hb' : ∀ a ∈ xs, 0 ≤ a := fun a ha => (hb a (List.mem_cons_of_mem x ha)).1
          clear hb
          induction xs with
          | nil => exact Int.le_refl 0
          | cons y ys ih2 =>
            rw [List.sum_cons]
            exact Int.add_nonneg (hb' y List.mem_cons_self) (ih2 fun a ha => hb' a (List.mem_cons_of_mem y ha))
        cases j with
        | zero =>
          rw [List.set_cons_zero, List.sum_cons]
          omega
        | succ j =>
          rw [List.set_cons_succ, List.sum_cons]
          have := ih j (by simpa using h) fun a ha => hb a (List.mem_cons_of_mem x ha)
          have := (hb x List.mem_cons_self).1
          omega
    have bs : ∀ a ∈ w.set j 1, 0 ≤ a ∧ a ≤ 1000 := fun a ha => by
      rcases List.mem_or_eq_of_mem_set ha with h | h
      · exact bw a h
      · omega
    exact ⟨(w.set j 1).sum, w.set j 1, runD_rt ((sq_nx e1).trans ((sq_nx ((sIf_t ht).trans e2)).trans (fin _ (by rw [List.length_set, lw]))) : b__law_strategy _ = _), ⟨by rw [List.length_set, lw], sumset w j (by omega) bw, rfl, fun a ha => (bs a ha).1, fun a ha => by
      have := bs a ha
      have h4 : (2 : Nat) ^ 12 = 4096 := by decide
      omega⟩, fun a ha => (bs a ha).2⟩
/-! ### a cell -/
def Scr (ns : List Int) : Prop := ∀ z ∈ ns, Builtin.Int.intBits z ≤ 1048576
theorem bits_lt {z : Int} (h : Builtin.Int.intBits z ≤ 1048576) : z.natAbs < 2 ^ 1048577 := by
  unfold Builtin.Int.intBits at h
  split at h
  · next h0 => rw [eq_of_beq h0]; exact Nat.two_pow_pos _
  · exact Nat.lt_of_lt_of_le Nat.lt_log2_self (Nat.pow_le_pow_right (by omega) (by omega))
theorem cell_eq {ns : List Int} {k : Nat} (h : Scr ns) (hk : k ≤ 1000) : ∃ c : Int, f__law_cell [.scr ns, .int k] = some (.int c) ∧ Cs c := by
  have ht : asT (dBin gLt (dvar 1) (dC1 gLen (dvar 0))) [some (.scr ns), some (.int k)] = some (decide ((k : Int) < (ns.length : Int))) := asT_eq rfl
  by_cases hl : k < ns.length
  · rw [decide_eq_true (by omega : (k : Int) < (ns.length : Int))] at ht
    refine ⟨ns[k], runD_rt (sq_rt ((sIf_t ht).trans (sRet_eq ((dC1_eq (d := .int ns[k]) ((dBin_eq (a := .scr ns) (b := .int k) rfl rfl).trans ?_)).trans rfl))) : b__law_cell _ = _), Nat.lt_of_lt_of_le (bits_lt (h _ (List.getElem_mem hl))) (Nat.pow_le_pow_right (by omega) (by omega))⟩
    show (atI ns (k : Int)).map D.int = _
    rw [DL.atI_nat, List.getElem?_eq_getElem hl]
    rfl
  · rw [decide_eq_false (by omega : ¬ (k : Int) < (ns.length : Int))] at ht
    have hk60 : ((k : Nat) : Int).natAbs < 2 ^ 60 := by rw [Int.natAbs_natCast]; exact Nat.lt_of_le_of_lt hk (by decide)
    refine ⟨(k : Int) * 104729, runD_rt ((sq_nx ((sIf_f ht).trans rfl)).trans (sRet_eq ((dBin_eq (a := .int k) (b := .int 104729) rfl rfl).trans (gMul_int (m60 hk60 (by decide))))) : b__law_cell _ = _), ?_⟩
    have h1 : ((k : Int) * 104729).natAbs < 2 ^ 30 := by
      rw [Int.natAbs_mul, Int.natAbs_natCast]
      have h4 : (2 : Nat) ^ 30 = 1073741824 := by decide
      show k * 104729 < 2 ^ 30
      omega
    exact Nat.lt_of_lt_of_le h1 (Nat.pow_le_pow_right (by omega) (by omega))
end K69

end

section
set_option Elab.async false
set_option linter.all false
set_option maxRecDepth 100000
set_option exponentiation.threshold 300
namespace K69
open PySem PySem.Spec PyProof.Rows L2 DL
/-! ### rows -/
theorem rows_eq {c b : Int} {p q : Nat} (hc : Cl c) (hb : 3 ≤ b) (hb2 : b ≤ 2000000001) (hp : p ≤ 6) (hq : q ≤ 6) : ∃ M : List (List Int), f__law_rows [.int c, .int p, .int q, .int b] = some (M.map fun r => lI r) ∧ Sh p q M ∧ ∀ r ∈ M, ∀ a ∈ r, a.natAbs ≤ 2 ^ 30 := by
  have hpq : p * q ≤ 36 := Nat.mul_le_mul hp hq
  have p60 : (2000000001 : Nat) < 2 ^ 60 := by decide
  have p30 : (2 : Nat) ^ 30 = 1073741824 := by decide
  obtain ⟨ns, e, hn⟩ := numbers_eq (k := p * q) hc (by omega : 0 < b) (by omega) (by omega)
  have m1 : ∀ δ : DSt, dvar 1 δ = some (.int p) → dvar 2 δ = some (.int q) → dBin gMul (dvar 1) (dvar 2) δ = some (.int ((p * q : Nat) : Int)) := fun δ h1 h2 => by
    refine (dBin_eq h1 h2).trans ((gMul_int (m60 ?_ ?_)).trans (by rw [Int.natCast_mul]))
    · rw [Int.natAbs_natCast]; omega
    · rw [Int.natAbs_natCast]; omega
  have e3 : lcD [5] (iSeq (dLst (aCal f__law_numbers (aCons (dvar 0) (aCons (dBin gMul (dvar 1) (dvar 2)) (aCons (dvar 3) aNil)))))) (gaName 5) dYes (dBin gSub (dvar 5) (dBin gDiv (dvar 3) (dcon (.int 2)))) (stD 7 [.int c, .int p, .int q, .int b]) = some (ns.map fun a => .int (a - b.fdiv 2)) := by
    refine lc_map (g := D.int) ns (iSeq_eq (dLst_eq ((aCal_eq (aCons_eq (d := .int c) rfl (aCons_eq (m1 _ rfl rfl) (aCons_eq (d := .int b) rfl rfl)))).trans e)) rfl) (by rw [hn.len]; omega) fun a ha => ⟨_, rfl, rfl, ?_⟩
    exact (dBin_eq (a := .int a) (b := .int (b.fdiv 2)) rfl ((dBin_eq (a := .int b) (b := .int 2) rfl rfl).trans (gDiv_int (d60 (by decide) (by decide))))).trans rfl
  rw [show (ns.map fun a => D.int (a - b.fdiv 2)) = (ns.map fun a => a - b.fdiv 2).map D.int by rw [List.map_map]; rfl] at e3
  have bd0 : ∀ a ∈ ns.map (fun a => a - b.fdiv 2), a.natAbs ≤ 2 ^ 30 := fun a ha => by
    obtain ⟨x, hx, rfl⟩ := List.mem_map.mp ha
    have := hn.bd x hx
    have h2 : b.fdiv 2 = b / 2 := Int.fdiv_eq_ediv_of_nonneg b (by omega)
    rw [h2]
    omega
  have ln0 : (ns.map fun a => a - b.fdiv 2).length = p * q := by rw [List.length_map, hn.len]
  generalize ns.map (fun a => a - b.fdiv 2) = xs at e3 bd0 ln0
  let δ1 : DSt := [some (.int c), some (.int p), some (.int q), some (.int b), some (lI xs), none, none]
  have e4 : lcD2 [6] (iR1 (dvar 1)) (gaName 6) (aSlice (dvar 4) (oAt (dBin gMul (dvar 6) (dvar 2))) (oAt (dBin gAdd (dBin gMul (dvar 6) (dvar 2)) (dvar 2)))) δ1 = some ((List.range p).map fun k => .lst (((xs.take (k * q + q)).drop (k * q)).map .int)) := by
    refine lc2_map (g := fun k : Nat => D.int (k : Int)) (List.range p) (iR1_eq rfl (by omega)) (by rw [List.length_range]; omega) fun k hk => ⟨_, rfl, ?_⟩
    have hk' : k < p := List.mem_range.mp hk
    have mm : dBin gMul (dvar 6) (dvar 2) (setD (wipeD δ1 [6]) [(6, .int (k : Nat))]) = some (.int ((k * q : Nat) : Int)) := by
      refine (dBin_eq (a := .int (k : Nat)) (b := .int q) rfl rfl).trans ((gMul_int (m60 ?_ ?_)).trans (by rw [Int.natCast_mul]))
      · rw [Int.natAbs_natCast]; omega
      · rw [Int.natAbs_natCast]; omega
    have m2 : dBin gAdd (dBin gMul (dvar 6) (dvar 2)) (dvar 2) (setD (wipeD δ1 [6]) [(6, .int (k : Nat))]) = some (.int ((k * q + q : Nat) : Int)) := (dAdd_eq mm (b := q) rfl).trans (by rw [Int.natCast_add])
    show (dvar 4 (setD (wipeD δ1 [6]) [(6, .int (k : Nat))])).bind _ = _
    show ((oAt (dBin gMul (dvar 6) (dvar 2)) (setD (wipeD δ1 [6]) [(6, .int (k : Nat))])).bind fun l => (oAt (dBin gAdd (dBin gMul (dvar 6) (dvar 2)) (dvar 2)) (setD (wipeD δ1 [6]) [(6, .int (k : Nat))])).bind fun u => some (cutD (xs.map D.int) l u)) = _
    rw [oAt_eq mm, oAt_eq m2]
    show some (cutD (xs.map D.int) _ _) = _
    rw [cutD_mid, List.map_drop, List.map_take]
  refine ⟨(List.range p).map fun k => (xs.take (k * q + q)).drop (k * q), run2_r2 (δ := δ1) ((sq_nx ((sSet_eq (dLst_eq e3)).trans rfl : _ = some (.nx δ1))).trans ?_ : b__law_rows _ = _), ⟨by rw [List.length_map, List.length_range], fun r hr => ?_⟩, fun r hr a ha => ?_⟩
  · show Option.map _ (lcD2 _ _ _ _ _) = _
    rw [e4, List.map_map]
    rfl
  · obtain ⟨k, hk, rfl⟩ := List.mem_map.mp hr
    have hk' : k < p := List.mem_range.mp hk
    have h1 : (k + 1) * q ≤ p * q := Nat.mul_le_mul_right q hk'
    rw [Nat.succ_mul] at h1
    rw [List.length_drop, List.length_take, ln0, Nat.min_eq_left h1]
    omega
  · obtain ⟨k, hk, rfl⟩ := List.mem_map.mp hr
    exact bd0 a (List.mem_of_mem_take (List.mem_of_mem_drop ha))
/-! ### planted -/
theorem at_int {xs : List Int} {i : Nat} (h : i < xs.length) : atI (xs.map D.int) (i : Int) = some (.int (xs[i])) := by
  rw [DL.atI_nat, List.getElem?_map, List.getElem?_eq_getElem h]
  rfl
theorem at_lI {M : List (List Int)} {i : Nat} (h : i < M.length) : atI (M.map fun r => lI r) (i : Int) = some (lI (M[i])) := by
  rw [DL.atI_nat, List.getElem?_map, List.getElem?_eq_getElem h]
  rfl
theorem planted_eq {k n : Nat} {M : List (List Int)} {ls : List Int} {s t : Int} {w v : List Int} (hM : Sh k n M) (hk : k ≤ 6) (hn3 : n ≤ 3) (bM : ∀ r ∈ M, ∀ a ∈ r, a.natAbs ≤ 2 ^ 30) (hl : ls.length = k) (bl : ∀ a ∈ ls, 0 ≤ a ∧ a < 4) (hw : St k s w) (hv : St n t v) :
    ∃ M' : List (List Int), f__law_planted [.lst (M.map fun r => lI r), lI ls, dI (s :: w), dI (t :: v)] = some (M'.map fun r => lI r) ∧ Sh k n M' ∧ ∀ r ∈ M', ∀ a ∈ r, a.natAbs ≤ 2 ^ 45 - 8 := by
  let P : Nat → DSt → Prop := fun i δ => ∃ (M' : List (List Int)) (x5 x6 : Option D), δ = [some (.lst (M.map fun r => lI r)), some (lI ls), some (dI (s :: w)), some (dI (t :: v)), some (.lst (M'.map fun r => lI r)), x5, x6, none] ∧ Sh i n M' ∧ ∀ r ∈ M', ∀ a ∈ r, a.natAbs ≤ 2 ^ 45 - 8
  have p12 : (2 : Nat) ^ 12 = 4096 := by decide
  have p30 : (2 : Nat) ^ 30 = 1073741824 := by decide
  have p45 : (2 : Nat) ^ 45 = 35184372088832 := by decide
  have p60 : (2 : Nat) ^ 60 = 1152921504606846976 := by decide
  have tb : t.natAbs ≤ 12288 := by
    have := sum_bd (w := v) (X := 4096) (fun a ha => by have := hv.bd a ha; omega)
    rw [← hv.sum, hv.len] at this
    have h2 : n * 4096 ≤ 3 * 4096 := Nat.mul_le_mul_right _ hn3
    omega
  obtain ⟨δ', hf, M', x5, x6, rfl, hs, hb⟩ := forGo_all (ga := gaName 5) (fb := sq (sSet 6 (dCal f__law_dot (aCons (dBin gIx (dvar 0) (dvar 5)) (aCons (dSlice (dvar 3) (oAt (dcon (.int 1))) oNo) aNil))))
 (sq (sIf (asT (dBin gEq (dBin gIx (dvar 2) (dBin gAdd (dcon (.int 1)) (dvar 5))) (dcon (.int 0))))
 (sSet 6 (dBin gAdd (dvar 6) (dBin gIx (dvar 1) (dvar 5))))
 sNx)
 (sApp2 4 (lcD [7] (iSeq (dBin gIx (dvar 0) (dvar 5))) (gaName 7) dYes (dBin gSub (dBin gMul (dBin gIx (dvar 3) (dcon (.int 0))) (dvar 7)) (dvar 6)))))) P (ds := (List.range k).map fun i => .int (i : Nat)) (δ := [some (.lst (M.map fun r => lI r)), some (lI ls), some (dI (s :: w)), some (dI (t :: v)), some (.lst []), none, none, none]) ⟨[], _, _, rfl, ⟨rfl, fun r hr => nomatch hr⟩, fun r hr => nomatch hr⟩ (by
    rintro i d δ hd ⟨M', x5, x6, rfl, hs, hb⟩
    obtain ⟨hi, rfl⟩ := range_at hd
    have hiM : i < M.length := by rw [hM.len]; exact hi
    have hr := List.getElem_mem hiM
    have lr := hM.row _ hr
    have br := bM _ hr
    generalize er : M[i] = r at hr lr br
    let δ0 : DSt := [some (.lst (M.map fun r => lI r)), some (lI ls), some (dI (s :: w)), some (dI (t :: v)), some (.lst (M'.map fun r => lI r)), some (.int (i : Nat)), x6, none]
    let δa : Int → DSt := fun l => [some (.lst (M.map fun r => lI r)), some (lI ls), some (dI (s :: w)), some (dI (t :: v)), some (.lst (M'.map fun r => lI r)), some (.int (i : Nat)), some (.int l), none]
    have ir : ∀ δ : DSt, dvar 0 δ = some (.lst (M.map fun r => lI r)) → dvar 5 δ = some (.int (i : Nat)) → dBin gIx (dvar 0) (dvar 5) δ = some (lI r) := fun δ h1 h2 => (dBin_eq h1 h2).trans ((at_lI hiM).trans (by rw [er]))
    have lev : (dotI r v).natAbs ≤ 3 * (1073741824 * 4096) := by
      have := dot_bd (xs := r) (ys := v) (X := 1073741824) (Y := 4096) (fun a ha => by have := br a ha; omega) (fun a ha => by have := hv.bd a ha; omega)
      rw [lr] at this
      have h2 : n * (1073741824 * 4096) ≤ 3 * (1073741824 * 4096) := Nat.mul_le_mul_right _ hn3
      exact Nat.le_trans this h2
    have e1 : sSet 6 (dCal f__law_dot (aCons (dBin gIx (dvar 0) (dvar 5)) (aCons (dSlice (dvar 3) (oAt (dcon (.int 1))) oNo) aNil))) δ0 = some (.nx (δa (dotI r v))) :=
      (sSet_eq ((dCal_eq (aCons_eq (ir _ rfl rfl) (aCons_eq (slice1 rfl) rfl))).trans (law_dot_eq rfl rfl (fun a ha => sm_of (br a ha) (by omega)) (fun a ha => sm_of (hv.bd a ha) (by omega)) (by omega)))).trans rfl
    have hiw : 1 + i < (s :: w).length := by rw [List.length_cons, hw.len]; omega
    have et : asT (dBin gEq (dBin gIx (dvar 2) (dBin gAdd (dcon (.int 1)) (dvar 5))) (dcon (.int 0))) (δa (dotI r v)) = some ((s :: w)[1 + i] == 0) := by
      refine asT_eq ((dBin_eq (a := .int ((s :: w)[1 + i])) (b := .int 0) ((dBin_eq (a := dI (s :: w)) (b := .int ((1 + i : Nat) : Int)) rfl ((dAdd_eq (a := 1) (b := i) rfl rfl).trans (by rw [Int.natCast_add]; rfl))).trans (at_int hiw)) rfl).trans (gEq_int _ _))
    obtain ⟨l, bl', e2⟩ : ∃ l : Int, l.natAbs ≤ 3 * (1073741824 * 4096) + 4 ∧ sIf (asT (dBin gEq (dBin gIx (dvar 2) (dBin gAdd (dcon (.int 1)) (dvar 5))) (dcon (.int 0)))) (sSet 6 (dBin gAdd (dvar 6) (dBin gIx (dvar 1) (dvar 5)))) sNx (δa (dotI r v)) = some (.nx (δa l)) := by
      cases hz : (s :: w)[1 + i] == 0 with
      | false =>
        rw [hz] at et
        exact ⟨dotI r v, by omega, (sIf_f et).trans rfl⟩
      | true =>
        rw [hz] at et
        have hil : i < ls.length := by omega
        refine ⟨dotI r v + ls[i], ?_, (sIf_t et).trans ((sSet_eq (dAdd_eq (a := dotI r v) (b := ls[i]) rfl ((dBin_eq (a := lI ls) (b := .int (i : Nat)) rfl rfl).trans (at_int hil)))).trans rfl)⟩
        have := bl _ (List.getElem_mem hil)
        omega
    have bn : ∀ a ∈ r.map (fun a => t * a - l), a.natAbs ≤ 2 ^ 45 - 8 := fun a ha => by
      obtain ⟨x, hx, rfl⟩ := List.mem_map.mp ha
      have h1 : (t * x).natAbs ≤ 12288 * 1073741824 := by
        rw [Int.natAbs_mul]
        exact Nat.mul_le_mul tb (by have := br x hx; omega)
      omega
    have e3 : lcD [7] (iSeq (dBin gIx (dvar 0) (dvar 5))) (gaName 7) dYes (dBin gSub (dBin gMul (dBin gIx (dvar 3) (dcon (.int 0))) (dvar 7)) (dvar 6)) (δa l) = some (r.map fun a => .int (t * a - l)) := by
      refine lc_map (g := D.int) r (iSeq_eq (ir _ rfl rfl) rfl) (by omega) fun a ha => ⟨_, rfl, rfl, ?_⟩
      exact (dBin_eq (a := .int (t * a)) (b := .int l) ((dBin_eq (a := .int t) (b := .int a) (ix0 rfl) rfl).trans (gMul_int (m60 (by omega) (by have := br a ha; omega)))) rfl).trans rfl
    refine ⟨_, _, rfl, ?_, M' ++ [r.map fun a => t * a - l], some (.int (i : Nat)), some (.int l), rfl, ⟨by rw [List.length_append, hs.len]; rfl, fun r' hr' => ?_⟩, fun r' hr' => ?_⟩
    · refine (sq_nx e1).trans ((sq_nx e2).trans ((sApp2_eq (ds := M'.map fun r => lI r) rfl e3 (by rw [List.length_map, hs.len]; omega)).trans ?_))
      rw [List.map_append, List.map_cons, List.map_nil]
      show _ = some (Out.nx [_, _, _, _, some (.lst (_ ++ [.lst ((r.map fun a => t * a - l).map D.int)])), _, _, _])
      rw [List.map_map]
      rfl
    · rcases List.mem_append.mp hr' with h | h
      · exact hs.row r' h
      · rw [List.mem_singleton.mp h, List.length_map, lr]
    · rcases List.mem_append.mp hr' with h | h
      · exact hb r' h
      · rw [List.mem_singleton.mp h]
        exact bn)
  rw [List.length_map, List.length_range] at hs
  have hr : iR1 (dC1 gLen (dvar 0)) [some (.lst (M.map fun r => lI r)), some (lI ls), some (dI (s :: w)), some (dI (t :: v)), some (.lst []), none, none, none] = some ((List.range k).map fun i => .int (i : Nat)) := by
    refine iR1_eq ((dC1_eq (d := .lst (M.map fun r => lI r)) rfl).trans ?_) (by omega)
    show some (D.int ((M.map _).length : Nat)) = _
    rw [List.length_map, hM.len]
  exact ⟨M', run2_r2 ((sq_nx (δ' := [some (.lst (M.map fun r => lI r)), some (lI ls), some (dI (s :: w)), some (dI (t :: v)), some (.lst []), none, none, none]) rfl).trans ((sq_nx ((sFor_eq hr).trans hf)).trans rfl) : b__law_planted _ = _), hs, hb⟩
end K69

end

section
set_option Elab.async false
set_option linter.all false
set_option maxRecDepth 100000
set_option exponentiation.threshold 300
namespace K69
open PySem PySem.Spec PyProof.Rows L2 DL
/-! ### a game is built -/
theorem fmod_nat (c : Int) {k : Nat} (hk : 0 < k) : ∃ j : Nat, c.fmod (k : Int) = (j : Int) ∧ j < k :=
  ⟨(c.fmod k).toNat, (Int.toNat_of_nonneg (Int.fmod_nonneg_of_pos _ (by omega))).symm, by
    have h1 := Int.fmod_lt_of_pos c (by omega : (0 : Int) < (k : Int))
    have h2 := Int.fmod_nonneg_of_pos c (by omega : (0 : Int) < (k : Int))
    omega⟩
theorem dMod_eq {f : DE} {δ : DSt} {c : Int} {k : Nat} {g : DE} {j : Nat} (hk : 0 < k) (h : f δ = some (.int c)) (h2 : g δ = some (.int (k : Int))) (hj : c.fmod (k : Int) = (j : Int)) : dBin gMod f g δ = some (.int (j : Int)) :=
  (dBin_eq h h2).trans ((gMod_int (by omega)).trans (by rw [hj]))
theorem dDiv_eq {f : DE} {δ : DSt} {c : Int} {k : Int} (hk : 0 < k) (hk2 : k < 1000) (h : f δ = some (.int c)) : dBin gDiv f (dcon (.int k)) δ = some (.int (c.fdiv k)) :=
  (dBin_eq h (b := .int k) rfl).trans (gDiv_int (d60 hk (by have : 1000 < 2 ^ 60 := by decide
                                                            omega)))
theorem sSetII_eq {i : Nat} {fi fj fv : DE} {δ : DSt} {M : List (List Int)} {k j : Nat} {x : Int} (h : fv δ = some (.int x)) (h1 : lstAt i δ = some (M.map fun r => lI r)) (h2 : fi δ = some (.int (k : Int))) (h3 : fj δ = some (.int (j : Int))) (hk : k < M.length) (hj : j < M[k].length) :
    sSetII i fi fj fv δ = some (.nx (δ.set i (some (.lst ((M.set k (M[k].set j x)).map fun r => lI r))))) := by
  show (fv δ).bind _ = _
  rw [h]
  show (lstAt i δ).bind _ = _
  rw [h1]
  show (fi δ).bind _ = _
  rw [h2]
  show (atI (M.map fun r => lI r) (k : Int)).bind _ = _
  rw [at_lI hk]
  show (fj δ).bind _ = _
  rw [h3]
  show (setI (M[k].map D.int) (.int (j : Int)) (.int x)).bind _ = _
  rw [setI_nat (by rw [List.length_map]; exact hj)]
  show (setI (M.map fun r => lI r) (.int (k : Int)) (.lst ((M[k].map D.int).set j (.int x)))).map _ = _
  have e : (M.map fun r => lI r).set k (.lst ((M[k].map D.int).set j (.int x))) = (M.set k (M[k].set j x)).map fun r => lI r := by
    rw [List.map_set]
    show _ = (M.map fun r => lI r).set k (.lst ((M[k].set j x).map D.int))
    rw [List.map_set]
  rw [setI_nat (by rw [List.length_map]; exact hk), e]
  rfl
theorem Sh.set {m n : Nat} {M : List (List Int)} (h : Sh m n M) {k j : Nat} {x : Int} (hk : k < M.length) : Sh m n (M.set k (M[k].set j x)) :=
  ⟨by rw [List.length_set, h.len], fun r hr => by
    rcases List.mem_or_eq_of_mem_set hr with h1 | h1
    · exact h.row r h1
    · rw [h1, List.length_set]
      exact h.row _ (List.getElem_mem hk)⟩
theorem set_bd {M : List (List Int)} {X : Nat} (h : ∀ r ∈ M, ∀ a ∈ r, a.natAbs ≤ X) {k j : Nat} {x : Int} (hk : k < M.length) (hx : x.natAbs ≤ X) : ∀ r ∈ M.set k (M[k].set j x), ∀ a ∈ r, a.natAbs ≤ X := fun r hr a ha => by
  rcases List.mem_or_eq_of_mem_set hr with h1 | h1
  · exact h r h1 a ha
  · rw [h1] at ha
    rcases List.mem_or_eq_of_mem_set ha with h2 | h2
    · exact h _ (List.getElem_mem hk) a h2
    · rw [h2]; exact hx
theorem base_ok {j : Nat} (h : j < 4) : ∃ b : Int, gIx (.lst [.int 3, .int 9, .int 2001, .int 2000000001]) (.int (j : Int)) = some (.int b) ∧ 3 ≤ b ∧ b ≤ 2000000001 := by
  match j, h with
  | 0, _ => exact ⟨3, rfl, by decide, by decide⟩
  | 1, _ => exact ⟨9, rfl, by decide, by decide⟩
  | 2, _ => exact ⟨2001, rfl, by decide, by decide⟩
  | 3, _ => exact ⟨2000000001, rfl, by decide, by decide⟩
theorem change_ok {j : Nat} (h : 1 ≤ j) (h2 : j ≤ 3) : ∃ b : Int, gIx (.lst [.int 1, .int 2, .int (-1)]) (.int ((j : Int) - 1)) = some (.int b) ∧ b.natAbs ≤ 2 := by
  match j, h, h2 with
  | 1, _, _ => exact ⟨1, rfl, by decide⟩
  | 2, _, _ => exact ⟨2, rfl, by decide⟩
  | 3, _, _ => exact ⟨-1, rfl, by decide⟩
theorem set_eq {i : Nat} {fi fj fv : DE} {δ : DSt} {M : List (List Int)} {m n k j : Nat} {ch : Int} {iv : Nat} (hM : Sh m n M) (hi : i < δ.length) (h1 : δ.getD i none = some (.lst (M.map fun r => lI r))) (h2 : fi δ = some (.int (k : Int))) (h3 : fj δ = some (.int (j : Int))) (hk : k < m) (hj : j < n) (hc : fv δ = some (.int ch)) (hb : ∀ r ∈ M, ∀ a ∈ r, a.natAbs ≤ 2 ^ 45 - 8) (hch : ch.natAbs ≤ 2) :
    ∃ M' : List (List Int), sSetII i fi fj (dBin gAdd (dBin gIx (dBin gIx (dvar i) fi) fj) fv) δ = some (.nx (δ.set i (some (.lst (M'.map fun r => lI r))))) ∧ Sh m n M' ∧ ∀ r ∈ M', ∀ a ∈ r, a.natAbs ≤ 2 ^ 45 := by
  have p45 : (2 : Nat) ^ 45 = 35184372088832 := by decide
  have hkM : k < M.length := by rw [hM.len]; exact hk
  have hr := List.getElem_mem hkM
  have hjr : j < M[k].length := by rw [hM.row _ hr]; exact hj
  have hv : dvar i δ = some (.lst (M.map fun r => lI r)) := h1
  have hl : lstAt i δ = some (M.map fun r => lI r) := by
    unfold lstAt
    rw [h1]
  refine ⟨_, sSetII_eq (dAdd_eq (a := M[k][j]) ((dBin_eq (a := lI M[k]) ((dBin_eq hv h2).trans (at_lI hkM)) h3).trans (at_int hjr)) hc) hl h2 h3 hkM hjr, hM.set hkM, set_bd (fun r hr a ha => by have := hb r hr a ha; omega) hkM ?_⟩
  have := hb _ hr _ (List.getElem_mem hjr)
  omega
theorem built_eq {ns : List Int} (h : Scr ns) {p : Nat} (hp : p ≤ 100) : ∃ (m n : Nat) (A B : List (List Int)) (s : Int) (w : List Int) (t : Int) (v : List Int), f__law_built [.scr ns, .int p] = some (.tup [dM A, dM B, dI (s :: w), dI (t :: v)]) ∧ Pt m n A B s w t v ∧ (∀ a ∈ w, a ≤ 1000) ∧ ∀ a ∈ v, a ≤ 1000 := by
  have p45 : (2 : Nat) ^ 45 = 35184372088832 := by decide
  have p30 : (2 : Nat) ^ 30 = 1073741824 := by decide
  obtain ⟨c0, g0, h0⟩ := cell_eq (k := p) h (by omega)
  obtain ⟨c1, g1, h1⟩ := cell_eq (k := p + 1) h (by omega)
  obtain ⟨c2, g2, h2⟩ := cell_eq (k := p + 2) h (by omega)
  obtain ⟨c3, g3, h3⟩ := cell_eq (k := p + 3) h (by omega)
  obtain ⟨c4, g4, h4⟩ := cell_eq (k := p + 4) h (by omega)
  obtain ⟨c5, g5, h5⟩ := cell_eq (k := p + 5) h (by omega)
  obtain ⟨c6, g6, h6⟩ := cell_eq (k := p + 6) h (by omega)
  obtain ⟨c7, g7, h7⟩ := cell_eq (k := p + 7) h (by omega)
  have ce : ∀ (δ : DSt) (j : Nat) (c : Int), f__law_cell [.scr ns, .int ((p + j : Nat) : Int)] = some (.int c) → dvar 0 δ = some (.scr ns) → dvar 1 δ = some (.int p) → dCal f__law_cell (aCons (dvar 0) (aCons (dBin gAdd (dvar 1) (dcon (.int (j : Int)))) aNil)) δ = some (.int c) := fun δ j c hc e0 e1 =>
    (dCal_eq (aCons_eq e0 (aCons_eq ((dAdd_eq e1 (b := j) rfl).trans (by rw [Int.natCast_add])) rfl))).trans hc
  generalize hkd : c0.natAbs = kd
  obtain ⟨j1, q1, l1⟩ := fmod_nat (kd : Int) (k := 3) (by omega)
  obtain ⟨j2, q2, l2⟩ := fmod_nat ((kd : Int).fdiv 3) (k := 3) (by omega)
  obtain ⟨j3, q3, l3⟩ := fmod_nat ((kd : Int).fdiv 9) (k := 4) (by omega)
  obtain ⟨j4, q4, l4⟩ := fmod_nat ((kd : Int).fdiv 36) (k := 2) (by omega)
  obtain ⟨j5, q5, l5⟩ := fmod_nat ((c5.natAbs : Nat) : Int) (k := 8) (by omega)
  obtain ⟨b, eb, b3, bb⟩ := base_ok l3
  let m : Nat := 1 + j1
  let n : Nat := 1 + j2
  have hm : m ≤ 3 := by show 1 + j1 ≤ 3; omega
  have hn : n ≤ 3 := by show 1 + j2 ≤ 3; omega
  have hm1 : 1 ≤ m := by show 1 ≤ 1 + j1; omega
  have hn1 : 1 ≤ n := by show 1 ≤ 1 + j2; omega
  obtain ⟨s, w, es, hw, hwk⟩ := strategy_eq (c := c1) (b := 7 + 93 * (j4 : Int)) (k := m) h1.cl (by omega) (by omega) (by omega) hm1
  obtain ⟨t, v, et, hv, hvk⟩ := strategy_eq (c := c2) (b := 7 + 93 * (j4 : Int)) (k := n) h2.cl (by omega) (by omega) (by omega) hn1
  obtain ⟨M, eM, hM, bM⟩ := rows_eq (c := c3) (b := b) (p := m) (q := n) h3.cl b3 bb (by omega) (by omega)
  obtain ⟨N, eN, hN, bN⟩ := rows_eq (c := c4) (b := b) (p := n) (q := m) h4.cl b3 bb (by omega) (by omega)
  let δ2 : DSt := [some (.scr ns), some (.int p), some (.int (kd : Nat)), none, none, none, none, none, none, none, none, none, none, none, none]
  let δ3 : DSt := [some (.scr ns), some (.int p), some (.int (kd : Nat)), some (.int m), none, none, none, none, none, none, none, none, none, none, none]
  let δ4 : DSt := [some (.scr ns), some (.int p), some (.int (kd : Nat)), some (.int m), some (.int n), none, none, none, none, none, none, none, none, none, none]
  let δ5 : DSt := [some (.scr ns), some (.int p), some (.int (kd : Nat)), some (.int m), some (.int n), some (.int b), none, none, none, none, none, none, none, none, none]
  let δ6 : DSt := [some (.scr ns), some (.int p), some (.int (kd : Nat)), some (.int m), some (.int n), some (.int b), some (dI (s :: w)), none, none, none, none, none, none, none, none]
  let st (a8 a9 a10 a11 a12 a13 : Option D) : DSt := [some (.scr ns), some (.int p), some (.int (kd : Nat)), some (.int m), some (.int n), some (.int b), some (dI (s :: w)), some (dI (t :: v)), a8, a9, a10, a11, a12, a13, none]
  let sM (X : List (List Int)) : Option D := some (.lst (X.map fun r => lI r))
  have e2 : sSet 2 (dC1 gAbs (dCal f__law_cell (aCons (dvar 0) (aCons (dvar 1) aNil)))) (stD 15 [.scr ns, .int p]) = some (.nx δ2) := (sSet_eq (d := .int (kd : Nat)) ((dC1_eq ((dCal_eq (ds := [.scr ns, .int p]) rfl).trans g0)).trans ((gAbs_int c0).trans (by rw [hkd])))).trans rfl
  have e3 : sSet 3 (dBin gAdd (dcon (.int 1)) (dBin gMod (dvar 2) (dcon (.int 3)))) δ2 = some (.nx δ3) := (sSet_eq (d := .int m) ((dAdd_eq (a := 1) (b := j1) rfl (dMod_eq (c := (kd : Int)) (k := 3) (by omega) rfl rfl q1)).trans (by show _ = some (D.int ((1 + j1 : Nat) : Int)); rw [Int.natCast_add]; rfl))).trans rfl
  have e4 : sSet 4 (dBin gAdd (dcon (.int 1)) (dBin gMod (dBin gDiv (dvar 2) (dcon (.int 3))) (dcon (.int 3)))) δ3 = some (.nx δ4) := (sSet_eq (d := .int n) ((dAdd_eq (a := 1) (b := j2) rfl (dMod_eq (c := (kd : Int).fdiv 3) (k := 3) (by omega) (dDiv_eq (by decide) (by decide) rfl) rfl q2)).trans (by show _ = some (D.int ((1 + j2 : Nat) : Int)); rw [Int.natCast_add]; rfl))).trans rfl
  have e5 : sSet 5 (dBin gIx (dLst (aCons (dcon (.int 3)) (aCons (dcon (.int 9)) (aCons (dcon (.int 2001)) (aCons (dcon (.int 2000000001)) aNil))))) (dBin gMod (dBin gDiv (dvar 2) (dcon (.int 9))) (dcon (.int 4)))) δ4 = some (.nx δ5) := (sSet_eq ((dBin_eq (a := .lst [.int 3, .int 9, .int 2001, .int 2000000001]) rfl (dMod_eq (c := (kd : Int).fdiv 9) (k := 4) (by omega) (dDiv_eq (by decide) (by decide) rfl) rfl q3)).trans eb)).trans rfl
  have eb4 : ∀ δ : DSt, dvar 2 δ = some (.int (kd : Nat)) → dBin gAdd (dcon (.int 7)) (dBin gMul (dcon (.int 93)) (dBin gMod (dBin gDiv (dvar 2) (dcon (.int 36))) (dcon (.int 2)))) δ = some (.int (7 + 93 * (j4 : Int))) := fun δ hd =>
    dAdd_eq (a := 7) rfl ((dBin_eq (a := .int 93) (b := .int (j4 : Int)) rfl (dMod_eq (c := (kd : Int).fdiv 36) (k := 2) (by omega) (dDiv_eq (by decide) (by decide) hd) rfl q4)).trans (gMul_int (m60 (by decide) (by rw [Int.natAbs_natCast]; exact Nat.lt_trans l4 (by decide)))))
  have e6 : sSet 6 (dCal f__law_strategy (aCons (dCal f__law_cell (aCons (dvar 0) (aCons (dBin gAdd (dvar 1) (dcon (.int 1))) aNil))) (aCons (dvar 3) (aCons (dBin gAdd (dcon (.int 7)) (dBin gMul (dcon (.int 93)) (dBin gMod (dBin gDiv (dvar 2) (dcon (.int 36))) (dcon (.int 2))))) aNil)))) δ5 = some (.nx δ6) := (sSet_eq ((dCal_eq (aCons_eq (ce _ 1 c1 g1 rfl rfl) (aCons_eq (d := .int m) rfl (aCons_eq (eb4 _ rfl) rfl)))).trans es)).trans rfl
  have e7 : sSet 7 (dCal f__law_strategy (aCons (dCal f__law_cell (aCons (dvar 0) (aCons (dBin gAdd (dvar 1) (dcon (.int 2))) aNil))) (aCons (dvar 4) (aCons (dBin gAdd (dcon (.int 7)) (dBin gMul (dcon (.int 93)) (dBin gMod (dBin gDiv (dvar 2) (dcon (.int 36))) (dcon (.int 2))))) aNil)))) δ6 = some (.nx (st none none none none none none)) := (sSet_eq ((dCal_eq (aCons_eq (ce _ 2 c2 g2 rfl rfl) (aCons_eq (d := .int n) rfl (aCons_eq (eb4 _ rfl) rfl)))).trans et)).trans rfl
  have e8 : sSet2 8 (aCal f__law_rows (aCons (dCal f__law_cell (aCons (dvar 0) (aCons (dBin gAdd (dvar 1) (dcon (.int 3))) aNil))) (aCons (dvar 3) (aCons (dvar 4) (aCons (dvar 5) aNil))))) (st none none none none none none) = some (.nx (st (sM M) none none none none none)) := (sSet2_eq ((aCal_eq (aCons_eq (ce _ 3 c3 g3 rfl rfl) (ds := [.int m, .int n, .int b]) rfl)).trans eM)).trans rfl
  have e9 : sSet2 9 (aCal f__law_rows (aCons (dCal f__law_cell (aCons (dvar 0) (aCons (dBin gAdd (dvar 1) (dcon (.int 4))) aNil))) (aCons (dvar 4) (aCons (dvar 3) (aCons (dvar 5) aNil))))) (st (sM M) none none none none none) = some (.nx (st (sM M) (sM N) none none none none)) := (sSet2_eq ((aCal_eq (aCons_eq (ce _ 4 c4 g4 rfl rfl) (ds := [.int n, .int m, .int b]) rfl)).trans eN)).trans rfl
  have e10 : sSet 10 (dBin gMod (dC1 gAbs (dCal f__law_cell (aCons (dvar 0) (aCons (dBin gAdd (dvar 1) (dcon (.int 5))) aNil)))) (dcon (.int 8))) (st (sM M) (sM N) none none none none) = some (.nx (st (sM M) (sM N) (some (.int (j5 : Nat))) none none none)) :=
    (sSet_eq (dMod_eq (c := ((c5.natAbs : Nat) : Int)) (k := 8) (by omega) ((dC1_eq (ce _ 5 c5 g5 rfl rfl)).trans (gAbs_int c5)) rfl q5)).trans rfl
  obtain ⟨M1, N1, x11, hM1, hN1, bM1, bN1, e11⟩ : ∃ (M1 N1 : List (List Int)) (x11 : Option D), Sh m n M1 ∧ Sh n m N1 ∧ (∀ r ∈ M1, ∀ a ∈ r, a.natAbs ≤ 2 ^ 45 - 8) ∧ (∀ r ∈ N1, ∀ a ∈ r, a.natAbs ≤ 2 ^ 45 - 8) ∧ sIf (asT (dBin gGt (dvar 10) (dcon (.int 0))))
          (sq (sSet 11 (dLst (aCal f__law_numbers (aCons (dCal f__law_cell (aCons (dvar 0) (aCons (dBin gAdd (dvar 1) (dcon (.int 6))) aNil))) (aCons (dBin gAdd (dvar 3) (dvar 4)) (aCons (dcon (.int 4)) aNil))))))
          (sq (sSet2 8 (aCal f__law_planted (aCons (dvar 8) (aCons (dSlice (dvar 11) oNo (oAt (dvar 3))) (aCons (dvar 6) (aCons (dvar 7) aNil))))))
          (sSet2 9 (aCal f__law_planted (aCons (dvar 9) (aCons (dSlice (dvar 11) (oAt (dvar 3)) oNo) (aCons (dvar 7) (aCons (dvar 6) aNil)))))))) sNx (st (sM M) (sM N) (some (.int (j5 : Nat))) none none none) = some (.nx (st (sM M1) (sM N1) (some (.int (j5 : Nat))) x11 none none)) := by
    have ht : asT (dBin gGt (dvar 10) (dcon (.int 0))) (st (sM M) (sM N) (some (.int (j5 : Nat))) none none none) = some (decide ((0 : Int) < (j5 : Int))) := asT_eq rfl
    cases hz : decide ((0 : Int) < (j5 : Int)) with
    | false =>
      rw [hz] at ht
      exact ⟨M, N, none, hM, hN, fun r hr a ha => by have := bM r hr a ha; omega, fun r hr a ha => by have := bN r hr a ha; omega, (sIf_f ht).trans rfl⟩
    | true =>
      rw [hz] at ht
      obtain ⟨ls, el, hl⟩ := numbers_eq (c := c6) (b := 4) (k := m + n) h6.cl (by decide) (by decide) (by omega)
      obtain ⟨M1, eM1, hM1, bM1⟩ := planted_eq (ls := ls.take m) hM (by omega) hn bM (by rw [List.length_take, hl.len]; omega) (fun a ha => hl.bd a (List.mem_of_mem_take ha)) hw hv
      obtain ⟨N1, eN1, hN1, bN1⟩ := planted_eq (ls := ls.drop m) hN (by omega) hm bN (by rw [List.length_drop, hl.len]; omega) (fun a ha => hl.bd a (List.mem_of_mem_drop ha)) hv hw
      have u1 : sSet 11 (dLst (aCal f__law_numbers (aCons (dCal f__law_cell (aCons (dvar 0) (aCons (dBin gAdd (dvar 1) (dcon (.int 6))) aNil))) (aCons (dBin gAdd (dvar 3) (dvar 4)) (aCons (dcon (.int 4)) aNil))))) (st (sM M) (sM N) (some (.int (j5 : Nat))) none none none) = some (.nx (st (sM M) (sM N) (some (.int (j5 : Nat))) (some (lI ls)) none none)) :=
        (sSet_eq (dLst_eq ((aCal_eq (aCons_eq (ce _ 6 c6 g6 rfl rfl) (aCons_eq ((dAdd_eq (a := m) (b := n) rfl rfl).trans (by rw [← Int.natCast_add])) (aCons_eq (d := .int 4) rfl rfl)))).trans el))).trans rfl
      have c1 : dSlice (dvar 11) oNo (oAt (dvar 3)) (st (sM M) (sM N) (some (.int (j5 : Nat))) (some (lI ls)) none none) = some (lI (ls.take m)) := (dSlice_eq (d := lI ls) rfl rfl (oAt_eq (i := (m : Int)) rfl)).trans (by show some (D.lst (cutD _ _ _)) = _; rw [cutD_to, ← List.map_take])
      have c2 : dSlice (dvar 11) (oAt (dvar 3)) oNo (st (sM M1) (sM N) (some (.int (j5 : Nat))) (some (lI ls)) none none) = some (lI (ls.drop m)) := (dSlice_eq (d := lI ls) rfl (oAt_eq (i := (m : Int)) rfl) rfl).trans (by show some (D.lst (cutD _ _ _)) = _; rw [cutD_from, ← List.map_drop])
      have u2 : sSet2 8 (aCal f__law_planted (aCons (dvar 8) (aCons (dSlice (dvar 11) oNo (oAt (dvar 3))) (aCons (dvar 6) (aCons (dvar 7) aNil))))) (st (sM M) (sM N) (some (.int (j5 : Nat))) (some (lI ls)) none none) = some (.nx (st (sM M1) (sM N) (some (.int (j5 : Nat))) (some (lI ls)) none none)) :=
        (sSet2_eq ((aCal_eq (aCons_eq (d := .lst (M.map fun r => lI r)) rfl (aCons_eq c1 (ds := [dI (s :: w), dI (t :: v)]) rfl))).trans eM1)).trans rfl
      have u3 : sSet2 9 (aCal f__law_planted (aCons (dvar 9) (aCons (dSlice (dvar 11) (oAt (dvar 3)) oNo) (aCons (dvar 7) (aCons (dvar 6) aNil))))) (st (sM M1) (sM N) (some (.int (j5 : Nat))) (some (lI ls)) none none) = some (.nx (st (sM M1) (sM N1) (some (.int (j5 : Nat))) (some (lI ls)) none none)) :=
        (sSet2_eq ((aCal_eq (aCons_eq (d := .lst (N.map fun r => lI r)) rfl (aCons_eq c2 (ds := [dI (t :: v), dI (s :: w)]) rfl))).trans eN1)).trans rfl
      exact ⟨M1, N1, some (lI ls), hM1, hN1, bM1, bN1, (sIf_t ht).trans ((sq_nx u1).trans ((sq_nx u2).trans u3))⟩
  obtain ⟨M2, N2, x12, x13, hM2, hN2, bM2, bN2, e12⟩ : ∃ (M2 N2 : List (List Int)) (x12 x13 : Option D), Sh m n M2 ∧ Sh n m N2 ∧ (∀ r ∈ M2, ∀ a ∈ r, a.natAbs ≤ 2 ^ 45) ∧ (∀ r ∈ N2, ∀ a ∈ r, a.natAbs ≤ 2 ^ 45) ∧ (sIf (dChain gLe gLe (dcon (.int 1)) (dvar 10) (dcon (.int 3)))
          (sq (sSet 12 (dLst (aCal f__law_numbers (aCons (dCal f__law_cell (aCons (dvar 0) (aCons (dBin gAdd (dvar 1) (dcon (.int 7))) aNil))) (aCons (dcon (.int 3)) (aCons (dcon (.int 18)) aNil))))))
          (sq (sSet 13 (dBin gIx (dLst (aCons (dcon (.int 1)) (aCons (dcon (.int 2)) (aCons (dC1 gNeg (dcon (.int 1))) aNil)))) (dBin gSub (dvar 10) (dcon (.int 1)))))
          (sIf (asT (dBin gEq (dBin gMod (dBin gIx (dvar 12) (dcon (.int 2))) (dcon (.int 2))) (dcon (.int 0))))
          (sSetII 8 (dBin gMod (dBin gIx (dvar 12) (dcon (.int 0))) (dvar 3)) (dBin gMod (dBin gIx (dvar 12) (dcon (.int 1))) (dvar 4)) (dBin gAdd (dBin gIx (dBin gIx (dvar 8) (dBin gMod (dBin gIx (dvar 12) (dcon (.int 0))) (dvar 3))) (dBin gMod (dBin gIx (dvar 12) (dcon (.int 1))) (dvar 4))) (dvar 13)))
          (sSetII 9 (dBin gMod (dBin gIx (dvar 12) (dcon (.int 1))) (dvar 4)) (dBin gMod (dBin gIx (dvar 12) (dcon (.int 0))) (dvar 3)) (dBin gAdd (dBin gIx (dBin gIx (dvar 9) (dBin gMod (dBin gIx (dvar 12) (dcon (.int 1))) (dvar 4))) (dBin gMod (dBin gIx (dvar 12) (dcon (.int 0))) (dvar 3))) (dvar 13))))))
          sNx) (st (sM M1) (sM N1) (some (.int (j5 : Nat))) x11 none none) = some (.nx (st (sM M2) (sM N2) (some (.int (j5 : Nat))) x11 x12 x13)) := by
    have ht : dChain gLe gLe (dcon (.int 1)) (dvar 10) (dcon (.int 3)) (st (sM M1) (sM N1) (some (.int (j5 : Nat))) x11 none none) = some (decide ((1 : Int) ≤ (j5 : Int)) && decide ((j5 : Int) ≤ 3)) := dChain_le rfl rfl rfl
    cases hz : decide ((1 : Int) ≤ (j5 : Int)) && decide ((j5 : Int) ≤ 3) with
    | false =>
      rw [hz] at ht
      exact ⟨M1, N1, none, none, hM1, hN1, fun r hr a ha => by have := bM1 r hr a ha; omega, fun r hr a ha => by have := bN1 r hr a ha; omega, (sIf_f ht).trans rfl⟩
    | true =>
      rw [hz] at ht
      rw [Bool.and_eq_true, decide_eq_true_iff, decide_eq_true_iff] at hz
      obtain ⟨ls, el, hl⟩ := numbers_eq (c := c7) (b := 18) (k := 3) h7.cl (by decide) (by decide) (by omega)
      obtain ⟨ch, ec, bc⟩ := change_ok (j := j5) (by omega) (by omega)
      obtain ⟨p0, p1, p2, rfl⟩ : ∃ p0 p1 p2 : Int, ls = [p0, p1, p2] := by
        match ls, hl.len with
        | [p0, p1, p2], _ => exact ⟨p0, p1, p2, rfl⟩
      obtain ⟨i0, y0, z0⟩ := fmod_nat p0 (k := m) hm1
      obtain ⟨i1, y1, z1⟩ := fmod_nat p1 (k := n) hn1
      obtain ⟨i2, y2, z2⟩ := fmod_nat p2 (k := 2) (by omega)
      let δ : DSt := st (sM M1) (sM N1) (some (.int (j5 : Nat))) x11 (some (lI [p0, p1, p2])) (some (.int ch))
      have u1 : sSet 12 (dLst (aCal f__law_numbers (aCons (dCal f__law_cell (aCons (dvar 0) (aCons (dBin gAdd (dvar 1) (dcon (.int 7))) aNil))) (aCons (dcon (.int 3)) (aCons (dcon (.int 18)) aNil))))) (st (sM M1) (sM N1) (some (.int (j5 : Nat))) x11 none none) = some (.nx (st (sM M1) (sM N1) (some (.int (j5 : Nat))) x11 (some (lI [p0, p1, p2])) none)) :=
        (sSet_eq (dLst_eq ((aCal_eq (aCons_eq (ce _ 7 c7 g7 rfl rfl) (ds := [.int ((3 : Nat) : Int), .int 18]) rfl)).trans el))).trans rfl
      have u2 : sSet 13 (dBin gIx (dLst (aCons (dcon (.int 1)) (aCons (dcon (.int 2)) (aCons (dC1 gNeg (dcon (.int 1))) aNil)))) (dBin gSub (dvar 10) (dcon (.int 1)))) (st (sM M1) (sM N1) (some (.int (j5 : Nat))) x11 (some (lI [p0, p1, p2])) none) = some (.nx δ) :=
        (sSet_eq ((dBin_eq (a := .lst [.int 1, .int 2, .int (-1)]) (b := .int ((j5 : Int) - 1)) rfl rfl).trans ec)).trans rfl
      have v0 : dBin gMod (dBin gIx (dvar 12) (dcon (.int 0))) (dvar 3) δ = some (.int (i0 : Int)) := dMod_eq (c := p0) (k := m) hm1 ((dBin_eq (a := lI [p0, p1, p2]) (b := .int 0) rfl rfl).trans rfl) rfl y0
      have v1 : dBin gMod (dBin gIx (dvar 12) (dcon (.int 1))) (dvar 4) δ = some (.int (i1 : Int)) := dMod_eq (c := p1) (k := n) hn1 ((dBin_eq (a := lI [p0, p1, p2]) (b := .int 1) rfl rfl).trans rfl) rfl y1
      have v2 : asT (dBin gEq (dBin gMod (dBin gIx (dvar 12) (dcon (.int 2))) (dcon (.int 2))) (dcon (.int 0))) δ = some ((i2 : Int) == 0) := asT_eq ((dBin_eq (a := .int (i2 : Int)) (b := .int 0) (dMod_eq (c := p2) (k := 2) (by omega) ((dBin_eq (a := lI [p0, p1, p2]) (b := .int 2) rfl rfl).trans rfl) rfl y2) rfl).trans (gEq_int _ _))
      cases hq : (i2 : Int) == 0 with
      | true =>
        rw [hq] at v2
        obtain ⟨M2, u3, hM2, bM2⟩ := set_eq (i := 8) (fv := dvar 13) (δ := δ) (iv := 0) hM1 (by show 8 < 15; omega) rfl v0 v1 z0 z1 rfl bM1 bc
        exact ⟨M2, N1, _, _, hM2, hN1, bM2, fun r hr a ha => by have := bN1 r hr a ha; omega, (sIf_t ht).trans ((sq_nx u1).trans ((sq_nx u2).trans ((sIf_t v2).trans (u3.trans rfl))))⟩
      | false =>
        rw [hq] at v2
        obtain ⟨N2, u3, hN2, bN2⟩ := set_eq (i := 9) (fv := dvar 13) (δ := δ) (iv := 0) hN1 (by show 9 < 15; omega) rfl v1 v0 z1 z0 rfl bN1 bc
        exact ⟨M1, N2, _, _, hM1, hN2, fun r hr a ha => by have := bM1 r hr a ha; omega, bN2, (sIf_t ht).trans ((sq_nx u1).trans ((sq_nx u2).trans ((sIf_f v2).trans (u3.trans rfl))))⟩
  let δf : DSt := st (sM M2) (sM N2) (some (.int (j5 : Nat))) x11 x12 x13
  have f1 : dC1 gTuple (dLst (lcD [14] (iSeq (dvar 8)) (gaName 14) dYes (dC1 gTuple (dvar 14)))) δf = some (dM M2) := by
    have hc : lcD [14] (iSeq (dvar 8)) (gaName 14) dYes (dC1 gTuple (dvar 14)) δf = some (M2.map dI) := lc_map (g := fun r => lI r) M2 rfl (by rw [hM2.len]; omega) fun r hr => ⟨_, rfl, rfl, rfl⟩
    exact (dC1_eq (dLst_eq hc)).trans rfl
  have f2 : dCal f__law_columns (aCons (dvar 9) aNil) δf = some (dM (colsI N2 m)) := (dCal_eq (ds := [.lst (N2.map fun r => lI r)]) rfl).trans (columns_eq false false hN2 hn1 (by omega) (by omega))
  refine ⟨m, n, M2, colsI N2 m, s, w, t, v, runD_rt ((sq_nx e2).trans ((sq_nx e3).trans ((sq_nx e4).trans ((sq_nx e5).trans ((sq_nx e6).trans ((sq_nx e7).trans ((sq_nx e8).trans ((sq_nx e9).trans ((sq_nx e10).trans ((sq_nx e11).trans ((sq_nx e12).trans (sRet_eq (dTup_eq (aCons_eq f1 (aCons_eq f2 (ds := [dI (s :: w), dI (t :: v)]) rfl)))))))))))))) : b__law_built _ = _), ⟨⟨hM2, hN2.cols, hm1, hn1, by omega, bM2, cols_bd hN2 bN2⟩, hw, hv⟩, hwk, hvk⟩
end K69

end

section
set_option Elab.async false
set_option linter.all false
set_option maxRecDepth 100000
set_option exponentiation.threshold 300
namespace K69
open PySem PySem.Spec PyProof.Rows L2 DL
/-! ### the strategies asked -/
abbrev vD (p : Int × List Int) : D := dI (p.1 :: p.2)
theorem pure_sum : ∀ k < 6, ∀ j < k, ((List.range k).map fun i : Nat => if ((i : Int) == (j : Int)) = true then (1 : Int) else 0).sum = 1 := by decide +kernel
theorem sum_mul (q : Int) : ∀ xs : List Int, (xs.map fun a => q * a).sum = q * xs.sum
  | [] => by rw [List.map_nil, List.sum_nil, Int.mul_zero]
  | x :: xs => by rw [List.map_cons, List.sum_cons, List.sum_cons, sum_mul q xs, Int.mul_add]
theorem size_eq {k : Nat} {s : Int} {w : List Int} {δ : DSt} (h : dvar 1 δ = some (dI (s :: w))) (hl : w.length = k) : dBin gSub (dC1 gLen (dvar 1)) (dcon (.int 1)) δ = some (.int k) := by
  refine (dBin_eq (a := .int ((k : Int) + 1)) (b := .int 1) ((dC1_eq h).trans ?_) rfl).trans ?_
  · show some (D.int ((((s :: w).map D.int).length : Nat) : Int)) = _
    rw [List.length_map, List.length_cons, hl, Int.natCast_add]
    rfl
  · show some (D.int ((k : Int) + 1 - 1)) = _
    rw [Int.add_sub_cancel]
theorem strategies_eq {c s : Int} {w : List Int} {k : Nat} (hc : Cs c) (hk1 : 1 ≤ k) (hk : k ≤ 5) (hw : St k s w) (hb : ∀ a ∈ w, a ≤ 1000) :
    ∃ xs : List (Int × List Int), f__law_strategies [.int c, dI (s :: w)] = some (.lst (((s, w) :: xs).map vD)) ∧ xs.length = 3 ∧ ∀ p ∈ (s, w) :: xs, St k p.1 p.2 := by
  obtain ⟨ls, el, hl⟩ := numbers_eq (c := c) (b := 12) (k := 2) hc.cl (by decide) (by decide) (by omega)
  obtain ⟨p0, p1, rfl⟩ : ∃ p0 p1 : Int, ls = [p0, p1] := by
    match ls, hl.len with
    | [p0, p1], _ => exact ⟨p0, p1, rfl⟩
  obtain ⟨i0, y0, z0⟩ := fmod_nat p0 (k := k) hk1
  obtain ⟨i1, y1, z1⟩ := fmod_nat p1 (k := 3) (by omega)
  obtain ⟨s4, w4, e4, h4, _⟩ := strategy_eq (c := c + 5) (b := 7) (k := k) hc.add (by decide) (by decide) (by omega) hk1
  let w3 : List Int := (List.range k).map fun i : Nat => if ((i : Int) == (i0 : Int)) = true then (1 : Int) else 0
  let q : Int := 2 + (i1 : Int)
  let δ1 : DSt := [some (.int c), some (dI (s :: w)), some (.int k), none, none, none, none]
  let δ2 : DSt := [some (.int c), some (dI (s :: w)), some (.int k), some (lI [p0, p1]), none, none, none]
  let δ3 : DSt := [some (.int c), some (dI (s :: w)), some (.int k), some (lI [p0, p1]), some (dI (1 :: w3)), none, none]
  have e1 : sSet 2 (dBin gSub (dC1 gLen (dvar 1)) (dcon (.int 1))) (stD 7 [.int c, dI (s :: w)]) = some (.nx δ1) := (sSet_eq (size_eq rfl hw.len)).trans rfl
  have e2 : sSet 3 (dLst (aCal f__law_numbers (aCons (dvar 0) (aCons (dcon (.int 2)) (aCons (dcon (.int 12)) aNil))))) δ1 = some (.nx δ2) := (sSet_eq (dLst_eq ((aCal_eq (ds := [.int c, .int ((2 : Nat) : Int), .int 12]) rfl).trans el))).trans rfl
  have l3 : lcD [5] (iR1 (dvar 2)) (gaName 5) dYes (dC1 gInt (dBin gEq (dvar 5) (dBin gMod (dBin gIx (dvar 3) (dcon (.int 0))) (dvar 2)))) δ2 = some (w3.map .int) := by
    have : lcD [5] (iR1 (dvar 2)) (gaName 5) dYes (dC1 gInt (dBin gEq (dvar 5) (dBin gMod (dBin gIx (dvar 3) (dcon (.int 0))) (dvar 2)))) δ2 = some ((List.range k).map fun i : Nat => .int (if ((i : Int) == (i0 : Int)) = true then (1 : Int) else 0)) := by
      refine lc_map (g := fun i : Nat => D.int (i : Int)) (List.range k) (iR1_eq rfl (by omega)) (by rw [List.length_range]; omega) fun i hi => ⟨_, rfl, rfl, ?_⟩
      exact (dC1_eq ((dBin_eq (a := .int (i : Nat)) rfl (dMod_eq (c := p0) (k := k) hk1 ((dBin_eq (a := lI [p0, p1]) (b := .int 0) rfl rfl).trans rfl) rfl y0)).trans (gEq_int _ _))).trans rfl
    rw [this, List.map_map]
    rfl
  have e3 : sSet 4 (dBin gAdd (dTup (aCons (dcon (.int 1)) aNil)) (dC1 gTuple (dLst (lcD [5] (iR1 (dvar 2)) (gaName 5) dYes (dC1 gInt (dBin gEq (dvar 5) (dBin gMod (dBin gIx (dvar 3) (dcon (.int 0))) (dvar 2)))))))) δ2 = some (.nx δ3) := by
    refine (sSet_eq (d := dI (1 :: w3)) ((dBin_eq (dTup_eq (ds := [.int 1]) rfl) (b := dI w3) ((dC1_eq (dLst_eq l3)).trans rfl)).trans ((gAdd_tup ?_).trans rfl))).trans rfl
    rw [List.length_map, List.length_map, List.length_range]
    show 1 + k ≤ 1000
    omega
  have l2 : lcD [6] (iSeq (dvar 1)) (gaName 6) dYes (dBin gMul (dBin gAdd (dcon (.int 2)) (dBin gMod (dBin gIx (dvar 3) (dcon (.int 1))) (dcon (.int 3)))) (dvar 6)) δ3 = some (((s :: w).map fun a => q * a).map .int) := by
    have : lcD [6] (iSeq (dvar 1)) (gaName 6) dYes (dBin gMul (dBin gAdd (dcon (.int 2)) (dBin gMod (dBin gIx (dvar 3) (dcon (.int 1))) (dcon (.int 3)))) (dvar 6)) δ3 = some ((s :: w).map fun a => .int (q * a)) := by
      refine lc_map (g := D.int) (s :: w) rfl (by rw [List.length_cons, hw.len]; omega) fun a ha => ⟨_, rfl, rfl, ?_⟩
      refine (dBin_eq (a := .int q) (b := .int a) (dAdd_eq (a := 2) (b := (i1 : Int)) rfl (dMod_eq (c := p1) (k := 3) (by omega) ((dBin_eq (a := lI [p0, p1]) (b := .int 1) rfl rfl).trans rfl) rfl y1)) rfl).trans (gMul_int (m60 ?_ ?_))
      · have : 1000 < 2 ^ 60 := by decide
        show (2 + (i1 : Int)).natAbs < 2 ^ 60
        omega
      · rcases List.mem_cons.mp ha with rfl | ha
        · exact Nat.lt_of_le_of_lt (hw.sbd (by omega)) (by decide)
        · exact Nat.lt_of_le_of_lt (hw.bd a ha) (by decide)
    rw [this, List.map_map]
    rfl
  have a4 : dCal f__law_strategy (aCons (dBin gAdd (dvar 0) (dcon (.int 5))) (aCons (dvar 2) (aCons (dcon (.int 7)) aNil))) δ3 = some (dI (s4 :: w4)) := (dCal_eq (aCons_eq (dAdd_eq (a := c) (b := 5) rfl rfl) (ds := [.int k, .int 7]) rfl)).trans e4
  have q0 : 0 ≤ q ∧ q ≤ 4 ∧ 2 ≤ q := by
    show 0 ≤ 2 + (i1 : Int) ∧ 2 + (i1 : Int) ≤ 4 ∧ 2 ≤ 2 + (i1 : Int)
    omega
  refine ⟨[(q * s, w.map fun a => q * a), (1, w3), (s4, w4)], runD_rt ((sq_nx e1).trans ((sq_nx e2).trans ((sq_nx e3).trans (sRet_eq (dLst_eq (aCons_eq (d := dI (s :: w)) rfl (aCons_eq ((dC1_eq (dLst_eq l2)).trans rfl) (aCons_eq (d := dI (1 :: w3)) rfl (aCons_eq a4 rfl)))))))) : b__law_strategies _ = _), rfl, fun p hp => ?_⟩
  have p12 : (2 : Nat) ^ 12 = 4096 := by decide
  rcases List.mem_cons.mp hp with rfl | hp
  · exact hw
  rcases List.mem_cons.mp hp with rfl | hp
  · refine ⟨by rw [List.length_map, hw.len], ?_, ?_, fun a ha => ?_, fun a ha => ?_⟩
    · have h1 : 1 * 1 ≤ q * s := Int.mul_le_mul (by omega) hw.s1 (by decide) (by omega)
      show 1 ≤ q * s
      omega
    · show q * s = (w.map fun a => q * a).sum
      rw [sum_mul, ← hw.sum]
    · obtain ⟨x, hx, rfl⟩ := List.mem_map.mp ha
      exact Int.mul_nonneg q0.1 (hw.nn x hx)
    · obtain ⟨x, hx, rfl⟩ := List.mem_map.mp ha
      rw [Int.natAbs_mul]
      have h1 : q.natAbs * x.natAbs ≤ 4 * 1000 := Nat.mul_le_mul (by omega) (by have := hw.nn x hx; have := hb x hx; omega)
      omega
  rcases List.mem_cons.mp hp with rfl | hp
  · refine ⟨by show ((List.range k).map _).length = k; rw [List.length_map, List.length_range], by show (1 : Int) ≤ 1; decide, (pure_sum k (by omega) i0 z0).symm, fun a ha => ?_, fun a ha => ?_⟩
    · obtain ⟨x, hx, rfl⟩ := List.mem_map.mp ha
      show 0 ≤ if ((x : Int) == (i0 : Int)) = true then (1 : Int) else 0
      split <;> decide
    · obtain ⟨x, hx, rfl⟩ := List.mem_map.mp ha
      show (if ((x : Int) == (i0 : Int)) = true then (1 : Int) else 0).natAbs ≤ 2 ^ 12
      split <;> decide
  · rw [List.mem_singleton.mp hp]
    exact h4
/-! ### spoilt -/
def Ve (k : Nat) (p : Int × List Int) : Prop := p.2.length = k ∧ ∀ a ∈ p.2, Sm a
theorem St.ve {k : Nat} {s : Int} {w : List Int} (h : St k s w) : Ve k (s, w) := ⟨h.len, h.sm⟩
theorem spoilt_eq {c s : Int} {w : List Int} {k : Nat} (hk1 : 1 ≤ k) (hk : k ≤ 5) (hw : St k s w) :
    ∃ xs : List (Int × List Int), f__law_spoilt [.int c, dI (s :: w)] = some (.lst (xs.map vD)) ∧ xs.length = 4 ∧ ∀ p ∈ xs, Ve k p := by
  obtain ⟨i, y, z⟩ := fmod_nat c (k := k) hk1
  obtain ⟨i', y', z'⟩ := fmod_nat ((i : Int) + 1) (k := k) hk1
  have hi : i < w.length := by rw [hw.len]; exact z
  let x : Int := w[i] - s - 1
  let w1 : List Int := w.set i x
  have hi' : i' < w1.length := by show i' < (w.set i x).length; rw [List.length_set, hw.len]; exact z'
  let x' : Int := w1[i'] + s + 1
  let w2 : List Int := w1.set i' x'
  let δ1 : DSt := [some (.int c), some (dI (s :: w)), some (.int k), none, none]
  let δ2 : DSt := [some (.int c), some (dI (s :: w)), some (.int k), some (.int (i : Int)), none]
  let δ3 : List Int → DSt := fun u => [some (.int c), some (dI (s :: w)), some (.int k), some (.int (i : Int)), some (lI (s :: u))]
  have sb : s.natAbs ≤ 2 ^ 15 := hw.sbd (by omega)
  have p12 : (2 : Nat) ^ 12 = 4096 := by decide
  have p15 : (2 : Nat) ^ 15 = 32768 := by decide
  have p20 : (2 : Nat) ^ 20 = 1048576 := by decide
  have e1 : sSet 2 (dBin gSub (dC1 gLen (dvar 1)) (dcon (.int 1))) (stD 5 [.int c, dI (s :: w)]) = some (.nx δ1) := (sSet_eq (size_eq rfl hw.len)).trans rfl
  have e2 : sSet 3 (dBin gMod (dC1 gInt (dvar 0)) (dvar 2)) δ1 = some (.nx δ2) := (sSet_eq (dMod_eq (c := c) (k := k) hk1 (dInt_eq rfl) rfl y)).trans rfl
  have e3 : sSetN 4 (aItems (dvar 1)) δ2 = some (.nx (δ3 w)) := (sSetN_eq ((aItems_eq (d := dI (s :: w)) rfl).trans rfl)).trans rfl
  have j1 : ∀ u, dBin gAdd (dcon (.int 1)) (dvar 3) (δ3 u) = some (.int ((i + 1 : Nat) : Int)) := fun u => (dAdd_eq (a := 1) (b := (i : Int)) rfl rfl).trans (by rw [Int.natCast_add, Int.add_comm]; rfl)
  have j2 : ∀ u, dBin gAdd (dcon (.int 1)) (dBin gMod (dBin gAdd (dvar 3) (dcon (.int 1))) (dvar 2)) (δ3 u) = some (.int ((i' + 1 : Nat) : Int)) := fun u => (dAdd_eq (a := 1) (b := (i' : Int)) rfl (dMod_eq (c := (i : Int) + 1) (k := k) hk1 (dAdd_eq (a := (i : Int)) (b := 1) rfl rfl) rfl y')).trans (by rw [Int.natCast_add, Int.add_comm]; rfl)
  have i0 : ∀ u, dBin gIx (dvar 1) (dcon (.int 0)) (δ3 u) = some (.int s) := fun u => ix0 rfl
  have at1 : ∀ (u : List Int) (j : Nat) (h : j < u.length), atI ((s :: u).map D.int) ((j + 1 : Nat) : Int) = some (.int u[j]) := fun u j h => at_int (xs := s :: u) (i := j + 1) (by rw [List.length_cons]; omega)
  have e4 : sSetI 4 (dBin gAdd (dcon (.int 1)) (dvar 3)) (dBin gSub (dBin gSub (dBin gIx (dvar 4) (dBin gAdd (dcon (.int 1)) (dvar 3))) (dBin gIx (dvar 1) (dcon (.int 0)))) (dcon (.int 1))) (δ3 w) = some (.nx (δ3 w1)) := by
    refine (sSetI_eq (ds := (s :: w).map .int) (k := i + 1) (d := .int x) ((dBin_eq (a := .int (w[i] - s)) (b := .int 1) ((dBin_eq (a := .int w[i]) (b := .int s) ((dBin_eq (a := lI (s :: w)) rfl (j1 w)).trans (at1 w i hi)) (i0 w)).trans rfl) rfl).trans rfl) rfl (j1 w) (by rw [List.length_map, List.length_cons]; omega)).trans ?_
    rw [← List.map_set, List.set_cons_succ]
    rfl
  have e5 : sSetI 4 (dBin gAdd (dcon (.int 1)) (dBin gMod (dBin gAdd (dvar 3) (dcon (.int 1))) (dvar 2))) (dBin gAdd (dBin gAdd (dBin gIx (dvar 4) (dBin gAdd (dcon (.int 1)) (dBin gMod (dBin gAdd (dvar 3) (dcon (.int 1))) (dvar 2)))) (dBin gIx (dvar 1) (dcon (.int 0)))) (dcon (.int 1))) (δ3 w1) = some (.nx (δ3 w2)) := by
    refine (sSetI_eq (ds := (s :: w1).map .int) (k := i' + 1) (d := .int x') (dAdd_eq (a := w1[i'] + s) (b := 1) (dAdd_eq (a := w1[i']) (b := s) ((dBin_eq (a := lI (s :: w1)) rfl (j2 w1)).trans (at1 w1 i' hi')) (i0 w1)) rfl) rfl (j2 w1) (by rw [List.length_map, List.length_cons]; omega)).trans ?_
    rw [← List.map_set, List.set_cons_succ]
    rfl
  have r1 : dBin gMul (dTup (aCons (dcon (.int 0)) aNil)) (dBin gAdd (dvar 2) (dcon (.int 1))) (δ3 w2) = some (dI (0 :: List.replicate k 0)) := by
    refine (dBin_eq (dTup_eq (ds := [.int 0]) rfl) (b := .int ((k + 1 : Nat) : Int)) ((dAdd_eq (a := (k : Int)) (b := 1) rfl rfl).trans (by rw [Int.natCast_add]; rfl))).trans ((gMul_rep (by omega)).trans ?_)
    rw [List.replicate_succ]
    show _ = some (D.tup _)
    rw [List.map_cons, List.map_replicate]
  have sl : dSlice (dvar 1) (oAt (dcon (.int 1))) oNo (δ3 w2) = some (dI w) := slice1 rfl
  have tl : ∀ {f : DE} {a : Int}, f (δ3 w2) = some (.int a) → dBin gAdd (dTup (aCons f aNil)) (dSlice (dvar 1) (oAt (dcon (.int 1))) oNo) (δ3 w2) = some (dI (a :: w)) := fun {f a} h => by
    refine (dBin_eq (dTup_eq (aCons_eq h rfl)) sl).trans ((gAdd_tup ?_).trans rfl)
    rw [List.length_map, hw.len]
    show 1 + k ≤ 1000
    omega
  have b1 : ∀ a ∈ w1, a.natAbs ≤ 2 ^ 17 := fun a ha => by
    have p17 : (2 : Nat) ^ 17 = 131072 := by decide
    rcases List.mem_or_eq_of_mem_set ha with h | h
    · have := hw.bd a h; omega
    · have h2 := hw.bd _ (List.getElem_mem hi)
      have h3 : a = w[i] - s - 1 := h
      omega
  have b2 : ∀ a ∈ w2, a.natAbs ≤ 2 ^ 20 := fun a ha => by
    have p17 : (2 : Nat) ^ 17 = 131072 := by decide
    rcases List.mem_or_eq_of_mem_set ha with h | h
    · have := b1 a h; omega
    · have h2 := b1 _ (List.getElem_mem hi')
      have h3 : a = w1[i'] + s + 1 := h
      omega
  refine ⟨[(0, List.replicate k 0), (s + 1, w), (s - 1, w), (s, w2)], runD_rt ((sq_nx e1).trans ((sq_nx e2).trans ((sq_nx e3).trans ((sq_nx e4).trans ((sq_nx e5).trans (sRet_eq (dLst_eq (aCons_eq r1 (aCons_eq (tl (dAdd_eq (i0 w2) (b := 1) rfl)) (aCons_eq (tl (a := s - 1) ((dBin_eq (i0 w2) (b := .int 1) rfl).trans rfl)) (aCons_eq (d := dI (s :: w2)) rfl rfl)))))))))) : b__law_spoilt _ = _), rfl, fun p hp => ?_⟩
  rcases List.mem_cons.mp hp with rfl | hp
  · exact ⟨List.length_replicate, fun a ha => by rw [List.eq_of_mem_replicate ha]; exact Nat.two_pow_pos _⟩
  rcases List.mem_cons.mp hp with rfl | hp
  · exact ⟨hw.len, hw.sm⟩
  rcases List.mem_cons.mp hp with rfl | hp
  · exact ⟨hw.len, hw.sm⟩
  · rw [List.mem_singleton.mp hp]
    exact ⟨by show ((w.set i x).set i' x').length = k; rw [List.length_set, List.length_set, hw.len], fun a ha => sm_of (b2 a ha) (by omega)⟩
/-! ### asked -/
section
variable {m n : Nat} {A B : List (List Int)}
theorem vD_at {xs : List (Int × List Int)} {i : Nat} {d : D} (h : (xs.map vD)[i]? = some d) : ∃ p ∈ xs, d = vD p := by
  rw [List.getElem?_map] at h
  cases q : xs[i]? with
  | none => rw [q] at h; cases h
  | some p =>
    rw [q] at h
    exact ⟨p, List.mem_of_getElem? q, (Option.some.inj h).symm⟩
theorem asked_eq (g : Gm m n A B) {xs ys : List (Int × List Int)} (hx : ∀ p ∈ xs, St m p.1 p.2) (hy : ∀ p ∈ ys, St n p.1 p.2) : f__law_asked [gameD A B m n, dM A, dM B, .lst (xs.map vD), .lst (ys.map vD)] = some (.bl true) := by
  let st (a b : Option D) : DSt := [some (gameD A B m n), some (dM A), some (dM B), some (.lst (xs.map vD)), some (.lst (ys.map vD)), a, b]
  let fi : DS := sIf (tnot (tru (dCal f__law_led (aCons (dvar 0) (aCons (dvar 1) (aCons (dvar 2) (aCons (dvar 5) (aCons (dvar 6) aNil)))))))) (sRet (dcon (.bl false))) sNx
  obtain ⟨δ', hf, a, b, rfl⟩ := forGo_all (ga := gaName 5) (fb := sFor (iSeq (dvar 4)) (gaName 6) fi) (fun _ δ => ∃ a b, δ = st a b) (ds := xs.map vD) (δ := st none none) ⟨_, _, rfl⟩ (by
    rintro i d δ hd ⟨a, b, rfl⟩
    obtain ⟨p, hp, rfl⟩ := vD_at hd
    obtain ⟨δ', hf, b', rfl⟩ := forGo_all (ga := gaName 6) (fb := fi) (fun _ δ => ∃ b, δ = st (some (vD p)) b) (ds := ys.map vD) (δ := st (some (vD p)) b) ⟨_, rfl⟩ (by
      rintro i d δ hd ⟨b, rfl⟩
      obtain ⟨q, hq, rfl⟩ := vD_at hd
      refine ⟨_, _, rfl, (sIf_f (tnot_eq (tru_bl ((dCal_eq (ds := [gameD A B m n, dM A, dM B, vD p, vD q]) rfl).trans (led_eq ⟨g, hx p hp, hy q hq⟩))))).trans rfl, _, rfl⟩)
    exact ⟨_, _, rfl, (sFor_eq rfl).trans hf, _, _, rfl⟩)
  exact runD_rt ((sq_nx ((sFor_eq rfl).trans hf)).trans (sRet_eq rfl) : b__law_asked _ = _)
theorem refused_eq (g : Gm m n A B) {x0 y0 : Int × List Int} {xs ys : List (Int × List Int)} (hx : ∀ p ∈ x0 :: xs, Ve m p) (hy : ∀ p ∈ y0 :: ys, Ve n p) : f__law_refused [gameD A B m n, dM A, dM B, .lst ((x0 :: xs).map vD), .lst ((y0 :: ys).map vD)] = some (.bl true) := by
  let st (a b : Option D) : DSt := [some (gameD A B m n), some (dM A), some (dM B), some (.lst ((x0 :: xs).map vD)), some (.lst ((y0 :: ys).map vD)), a, b]
  have ay : ∀ a b, dBin gIx (dvar 4) (dcon (.int 0)) (st a b) = some (vD y0) := fun a b => (dBin_eq (a := .lst ((y0 :: ys).map vD)) (b := .int 0) rfl rfl).trans (atI_0 _ _)
  have ax : ∀ a b, dBin gIx (dvar 3) (dcon (.int 0)) (st a b) = some (vD x0) := fun a b => (dBin_eq (a := .lst ((x0 :: xs).map vD)) (b := .int 0) rfl rfl).trans (atI_0 _ _)
  obtain ⟨δ', hf, a, rfl⟩ := forGo_all (ga := gaName 5) (fb := sIf (tnot (tru (dCal f__law_same (aCons (dCal f_is_equilibrium (aCons (dvar 0) (aCons (dvar 5) (aCons (dBin gIx (dvar 4) (dcon (.int 0))) aNil)))) (aCons (dCal f__law_is_equilibrium (aCons (dvar 1) (aCons (dvar 2) (aCons (dvar 5) (aCons (dBin gIx (dvar 4) (dcon (.int 0))) aNil))))) aNil))))) (sRet (dcon (.bl false))) sNx) (fun _ δ => ∃ a, δ = st a none) (ds := (x0 :: xs).map vD) (δ := st none none) ⟨_, rfl⟩ (by
    rintro i d δ hd ⟨a, rfl⟩
    obtain ⟨p, hp, rfl⟩ := vD_at hd
    have h1 := hx p hp
    have h2 := hy y0 List.mem_cons_self
    exact ⟨_, _, rfl, (sIf_f (not_same (d := .bl (eqB A B n p.1 p.2 y0.1 y0.2)) ((dCal_eq (aCons_eq (d := gameD A B m n) rfl (aCons_eq (d := vD p) rfl (aCons_eq (ay (some (vD p)) none) rfl)))).trans (is_equilibrium_eq g h1.1 h2.1 h1.2 h2.2)) ((dCal_eq (aCons_eq (d := dM A) rfl (aCons_eq (d := dM B) rfl (aCons_eq (d := vD p) rfl (aCons_eq (ay (some (vD p)) none) rfl))))).trans (law_is_equilibrium_eq g h1.1 h2.1 h1.2 h2.2)) rfl)).trans rfl, _, rfl⟩)
  obtain ⟨δ', hf2, b, rfl⟩ := forGo_all (ga := gaName 6) (fb := sIf (tnot (tru (dCal f__law_same (aCons (dCal f_is_equilibrium (aCons (dvar 0) (aCons (dBin gIx (dvar 3) (dcon (.int 0))) (aCons (dvar 6) aNil)))) (aCons (dCal f__law_is_equilibrium (aCons (dvar 1) (aCons (dvar 2) (aCons (dBin gIx (dvar 3) (dcon (.int 0))) (aCons (dvar 6) aNil))))) aNil))))) (sRet (dcon (.bl false))) sNx) (fun _ δ => ∃ b, δ = st a b) (ds := (y0 :: ys).map vD) (δ := st a none) ⟨_, rfl⟩ (by
    rintro i d δ hd ⟨b, rfl⟩
    obtain ⟨p, hp, rfl⟩ := vD_at hd
    have h1 := hx x0 List.mem_cons_self
    have h2 := hy p hp
    exact ⟨_, _, rfl, (sIf_f (not_same (d := .bl (eqB A B n x0.1 x0.2 p.1 p.2)) ((dCal_eq (aCons_eq (d := gameD A B m n) rfl (aCons_eq (ax a (some (vD p))) (aCons_eq (d := vD p) rfl rfl)))).trans (is_equilibrium_eq g h1.1 h2.1 h1.2 h2.2)) ((dCal_eq (aCons_eq (d := dM A) rfl (aCons_eq (d := dM B) rfl (aCons_eq (ax a (some (vD p))) (aCons_eq (d := vD p) rfl rfl))))).trans (law_is_equilibrium_eq g h1.1 h2.1 h1.2 h2.2)) rfl)).trans rfl, _, rfl⟩)
  exact runD_rt ((sq_nx ((sFor_eq rfl).trans hf)).trans ((sq_nx ((sFor_eq rfl).trans hf2)).trans (sRet_eq rfl)) : b__law_refused _ = _)
end
end K69

end

section
set_option Elab.async false
set_option linter.all false
set_option maxRecDepth 100000
set_option exponentiation.threshold 300
namespace K69
open PySem PySem.Spec PyProof.Rows L2 DL
/-! ### the law -/
def Good (g : D) : Prop := ∃ (m n : Nat) (A B : List (List Int)) (x0 y0 : Int × List Int) (xs ys : List (Int × List Int)), g = .tup [gameD A B m n, dM A, dM B, .lst ((x0 :: xs).map vD), .lst ((y0 :: ys).map vD)] ∧ Gm m n A B ∧ (∀ p ∈ x0 :: xs, St m p.1 p.2) ∧ ∀ p ∈ y0 :: ys, St n p.1 p.2
def lb1 : DS :=
  (sq (sAsg (dCal f__law_built (aCons (dvar 0) (aCons (dvar 2) aNil))) (gaTup 4 (gaCons (gaName 3) (gaCons (gaName 4) (gaCons (gaName 5) (gaCons (gaName 6) gaNil))))))
  (sq (sSet 7 (dCal f__law_strategies (aCons (dCal f__law_cell (aCons (dvar 0) (aCons (dBin gAdd (dvar 2) (dcon (.int 8))) aNil))) (aCons (dvar 5) aNil))))
  (sq (sSet 8 (dCal f__law_strategies (aCons (dCal f__law_cell (aCons (dvar 0) (aCons (dBin gAdd (dvar 2) (dcon (.int 9))) aNil))) (aCons (dvar 6) aNil))))
  (sApp 1 (dTup (aCons (dCal (mkD "Game" f_Game___init__) (aCons (dvar 3) (aCons (dvar 4) aNil))) (aCons (dvar 3) (aCons (dvar 4) (aCons (dvar 7) (aCons (dvar 8) aNil))))))))))
def lb2 : DS :=
  (sq (sIf (tor (tnot (tru (dCal f__law_told (aCons (dvar 9) (aCons (dvar 3) (aCons (dvar 4) aNil)))))) (tnot (tru (dCal f__law_asked (aCons (dvar 9) (aCons (dvar 3) (aCons (dvar 4) (aCons (dvar 7) (aCons (dvar 8) aNil)))))))))
  (sRet (dcon (.bl false)))
  sNx)
  (sq (sSet 10 (dBin gAdd (dLst (aCons (dBin gIx (dvar 7) (dcon (.int 0))) aNil)) (dCal f__law_spoilt (aCons (dCal f__law_cell (aCons (dvar 0) (aCons (dcon (.int 10)) aNil))) (aCons (dBin gIx (dvar 7) (dcon (.int 0))) aNil)))))
  (sIf (tnot (tru (dCal f__law_refused (aCons (dvar 9) (aCons (dvar 3) (aCons (dvar 4) (aCons (dvar 10) (aCons (dBin gAdd (dLst (aCons (dBin gIx (dvar 8) (dcon (.int 0))) aNil)) (dCal f__law_spoilt (aCons (dCal f__law_cell (aCons (dvar 0) (aCons (dcon (.int 11)) aNil))) (aCons (dBin gIx (dvar 8) (dcon (.int 0))) aNil)))) aNil))))))))
  (sRet (dcon (.bl false)))
  sNx)))
abbrev sT (ns : List Int) (gs : List D) (x2 x3 x4 x5 x6 x7 x8 x9 x10 : Option D) : DSt := [some (.scr ns), some (.lst gs), x2, x3, x4, x5, x6, x7, x8, x9, x10]
theorem one_eq {ns : List Int} (h : Scr ns) {p : Nat} (hp : p ≤ 100) {gs : List D} (hg : gs.length ≤ 100) (x2 x3 x4 x5 x6 x7 x8 x9 x10 : Option D) :
    ∃ (g : D) (y2 y3 y4 y5 y6 y7 y8 y9 y10 : Option D), lb1 (setD (sT ns gs x2 x3 x4 x5 x6 x7 x8 x9 x10) [(2, .int p)]) = some (.nx (sT ns (gs ++ [g]) y2 y3 y4 y5 y6 y7 y8 y9 y10)) ∧ Good g := by
  obtain ⟨m, n, A, B, s, w, t, v, eb, hP, kw, kv⟩ := built_eq h hp
  have g := hP.g
  obtain ⟨c8, g8, h8⟩ := cell_eq (k := p + 8) h (by omega)
  obtain ⟨c9, g9, h9⟩ := cell_eq (k := p + 9) h (by omega)
  obtain ⟨xs, ex, _, hx⟩ := strategies_eq h8 g.m1 (by have := g.mn; have := g.n1; omega) hP.hw kw
  obtain ⟨ys, ey, _, hy⟩ := strategies_eq h9 g.n1 (by have := g.mn; have := g.m1; omega) hP.hv kv
  have ce : ∀ (δ : DSt) (j : Nat) (c : Int), f__law_cell [.scr ns, .int ((p + j : Nat) : Int)] = some (.int c) → dvar 0 δ = some (.scr ns) → dvar 2 δ = some (.int p) → dCal f__law_cell (aCons (dvar 0) (aCons (dBin gAdd (dvar 2) (dcon (.int (j : Int)))) aNil)) δ = some (.int c) := fun δ j c hc e0 e1 =>
    (dCal_eq (aCons_eq e0 (aCons_eq ((dAdd_eq e1 (b := j) rfl).trans (by rw [Int.natCast_add])) rfl))).trans hc
  let X : Option D := some (.lst (((s, w) :: xs).map vD))
  let Y : Option D := some (.lst (((t, v) :: ys).map vD))
  let st (a7 a8 : Option D) : DSt := sT ns gs (some (.int p)) (some (dM A)) (some (dM B)) (some (dI (s :: w))) (some (dI (t :: v))) a7 a8 x9 x10
  have e1 : sAsg (dCal f__law_built (aCons (dvar 0) (aCons (dvar 2) aNil))) (gaTup 4 (gaCons (gaName 3) (gaCons (gaName 4) (gaCons (gaName 5) (gaCons (gaName 6) gaNil))))) (setD (sT ns gs x2 x3 x4 x5 x6 x7 x8 x9 x10) [(2, .int p)]) = some (.nx (st x7 x8)) :=
    (sAsg_eq (as := [(3, dM A), (4, dM B), (5, dI (s :: w)), (6, dI (t :: v))]) ((dCal_eq (ds := [.scr ns, .int p]) rfl).trans eb) rfl).trans rfl
  have e2 : sSet 7 (dCal f__law_strategies (aCons (dCal f__law_cell (aCons (dvar 0) (aCons (dBin gAdd (dvar 2) (dcon (.int 8))) aNil))) (aCons (dvar 5) aNil))) (st x7 x8) = some (.nx (st X x8)) := (sSet_eq ((dCal_eq (aCons_eq (ce _ 8 c8 g8 rfl rfl) (ds := [dI (s :: w)]) rfl)).trans ex)).trans rfl
  have e3 : sSet 8 (dCal f__law_strategies (aCons (dCal f__law_cell (aCons (dvar 0) (aCons (dBin gAdd (dvar 2) (dcon (.int 9))) aNil))) (aCons (dvar 6) aNil))) (st X x8) = some (.nx (st X Y)) := (sSet_eq ((dCal_eq (aCons_eq (ce _ 9 c9 g9 rfl rfl) (ds := [dI (t :: v)]) rfl)).trans ey)).trans rfl
  refine ⟨.tup [gameD A B m n, dM A, dM B, .lst (((s, w) :: xs).map vD), .lst (((t, v) :: ys).map vD)], _, _, _, _, _, _, _, _, _, (sq_nx e1).trans ((sq_nx e2).trans ((sq_nx e3).trans ((sApp_eq (ds := gs) rfl (dTup_eq (aCons_eq ((dCal_eq (ds := [dM A, dM B]) rfl).trans (game_eq g.hA g.hB g.m1 g.n1 g.mn)) (ds := [dM A, dM B, .lst (((s, w) :: xs).map vD), .lst (((t, v) :: ys).map vD)]) rfl)) (by omega)).trans rfl))), m, n, A, B, (s, w), (t, v), xs, ys, rfl, g, hx, hy⟩
theorem two_eq {ns : List Int} (h : Scr ns) {gs : List D} {g : D} (hg : Good g) (x2 x3 x4 x5 x6 x7 x8 x9 x10 : Option D) :
    ∃ as, gaTup 5 (gaCons (gaName 9) (gaCons (gaName 3) (gaCons (gaName 4) (gaCons (gaName 7) (gaCons (gaName 8) gaNil))))) g = some as ∧ ∃ y10 z3 z4 z7 z8 z9 : Option D, lb2 (setD (sT ns gs x2 x3 x4 x5 x6 x7 x8 x9 x10) as) = some (.nx (sT ns gs x2 z3 z4 x5 x6 z7 z8 z9 y10)) := by
  obtain ⟨m, n, A, B, x0, y0, xs, ys, rfl, G, hx, hy⟩ := hg
  obtain ⟨c10, g10, h10⟩ := cell_eq (k := 10) h (by omega)
  obtain ⟨c11, g11, h11⟩ := cell_eq (k := 11) h (by omega)
  obtain ⟨us, eu, lu, hu⟩ := spoilt_eq (c := c10) (s := x0.1) (w := x0.2) G.m1 (by have := G.mn; have := G.n1; omega) (hx x0 List.mem_cons_self)
  obtain ⟨vs, ev, lv, hv⟩ := spoilt_eq (c := c11) (s := y0.1) (w := y0.2) G.n1 (by have := G.mn; have := G.m1; omega) (hy y0 List.mem_cons_self)
  let X : Option D := some (.lst ((x0 :: xs).map vD))
  let Y : Option D := some (.lst ((y0 :: ys).map vD))
  let st (a : Option D) : DSt := sT ns gs x2 (some (dM A)) (some (dM B)) x5 x6 X Y (some (gameD A B m n)) a
  have c1 : tor (tnot (tru (dCal f__law_told (aCons (dvar 9) (aCons (dvar 3) (aCons (dvar 4) aNil)))))) (tnot (tru (dCal f__law_asked (aCons (dvar 9) (aCons (dvar 3) (aCons (dvar 4) (aCons (dvar 7) (aCons (dvar 8) aNil)))))))) (st x10) = some false :=
    (tor_f (tnot_eq (tru_bl ((dCal_eq (ds := [gameD A B m n, dM A, dM B]) rfl).trans (told_eq G))))).trans (tnot_eq (tru_bl ((dCal_eq (ds := [gameD A B m n, dM A, dM B, .lst ((x0 :: xs).map vD), .lst ((y0 :: ys).map vD)]) rfl).trans (asked_eq G hx hy))))
  have ax : ∀ a, dBin gIx (dvar 7) (dcon (.int 0)) (st a) = some (vD x0) := fun a => (dBin_eq (a := .lst ((x0 :: xs).map vD)) (b := .int 0) rfl rfl).trans (atI_0 _ _)
  have ay : ∀ a, dBin gIx (dvar 8) (dcon (.int 0)) (st a) = some (vD y0) := fun a => (dBin_eq (a := .lst ((y0 :: ys).map vD)) (b := .int 0) rfl rfl).trans (atI_0 _ _)
  have k1 : dBin gAdd (dLst (aCons (dBin gIx (dvar 7) (dcon (.int 0))) aNil)) (dCal f__law_spoilt (aCons (dCal f__law_cell (aCons (dvar 0) (aCons (dcon (.int 10)) aNil))) (aCons (dBin gIx (dvar 7) (dcon (.int 0))) aNil))) (st x10) = some (.lst ((x0 :: us).map vD)) := by
    refine (dBin_eq (dLst_eq (aCons_eq (ax _) rfl)) ((dCal_eq (aCons_eq ((dCal_eq (ds := [.scr ns, .int ((10 : Nat) : Int)]) rfl).trans g10) (aCons_eq (ax _) rfl))).trans eu)).trans ((gAdd_lst ?_).trans rfl)
    rw [List.length_map, lu]
    exact (by decide : 1 + 4 ≤ 1000)
  have k2 : ∀ a, dBin gAdd (dLst (aCons (dBin gIx (dvar 8) (dcon (.int 0))) aNil)) (dCal f__law_spoilt (aCons (dCal f__law_cell (aCons (dvar 0) (aCons (dcon (.int 11)) aNil))) (aCons (dBin gIx (dvar 8) (dcon (.int 0))) aNil))) (st a) = some (.lst ((y0 :: vs).map vD)) := fun a => by
    refine (dBin_eq (dLst_eq (aCons_eq (ay _) rfl)) ((dCal_eq (aCons_eq ((dCal_eq (ds := [.scr ns, .int ((11 : Nat) : Int)]) rfl).trans g11) (aCons_eq (ay _) rfl))).trans ev)).trans ((gAdd_lst ?_).trans rfl)
    rw [List.length_map, lv]
    exact (by decide : 1 + 4 ≤ 1000)
  let U : D := .lst ((x0 :: us).map vD)
  have e2 : sSet 10 (dBin gAdd (dLst (aCons (dBin gIx (dvar 7) (dcon (.int 0))) aNil)) (dCal f__law_spoilt (aCons (dCal f__law_cell (aCons (dvar 0) (aCons (dcon (.int 10)) aNil))) (aCons (dBin gIx (dvar 7) (dcon (.int 0))) aNil)))) (st x10) = some (.nx (st (some U))) := (sSet_eq k1).trans rfl
  have hr := refused_eq G (x0 := x0) (y0 := y0) (xs := us) (ys := vs) (fun p hp => by
    rcases List.mem_cons.mp hp with rfl | hp
    · exact (hx _ List.mem_cons_self).ve
    · exact hu p hp) (fun p hp => by
    rcases List.mem_cons.mp hp with rfl | hp
    · exact (hy _ List.mem_cons_self).ve
    · exact hv p hp)
  have c3 : tnot (tru (dCal f__law_refused (aCons (dvar 9) (aCons (dvar 3) (aCons (dvar 4) (aCons (dvar 10) (aCons (dBin gAdd (dLst (aCons (dBin gIx (dvar 8) (dcon (.int 0))) aNil)) (dCal f__law_spoilt (aCons (dCal f__law_cell (aCons (dvar 0) (aCons (dcon (.int 11)) aNil))) (aCons (dBin gIx (dvar 8) (dcon (.int 0))) aNil)))) aNil))))))) (st (some U)) = some false :=
    tnot_eq (tru_bl ((dCal_eq (aCons_eq (d := gameD A B m n) rfl (aCons_eq (d := dM A) rfl (aCons_eq (d := dM B) rfl (aCons_eq (d := U) rfl (aCons_eq (k2 _) rfl)))))).trans hr))
  exact ⟨[(9, gameD A B m n), (3, dM A), (4, dM B), (7, .lst ((x0 :: xs).map vD)), (8, .lst ((y0 :: ys).map vD))], rfl, some U, _, _, _, _, _, (sq_nx (δ' := st x10) ((sIf_f c1).trans rfl)).trans ((sq_nx e2).trans ((sIf_f c3).trans rfl))⟩
theorem law_math : ∀ ns : List Int, ns.length ≤ 63 → (∀ z ∈ ns, Builtin.Int.intBits z ≤ 1048576) → f_law [.scr ns] = some (.bl true) := fun ns _ h => by
  obtain ⟨g1, y2, y3, y4, y5, y6, y7, y8, y9, y10, e1, G1⟩ := one_eq (p := 0) h (by omega) (gs := []) (by show 0 ≤ 100; omega) none none none none none none none none none
  obtain ⟨g2, z2, z3, z4, z5, z6, z7, z8, z9, z10, e2, G2⟩ := one_eq (p := 20) h (by omega) (gs := [g1]) (by show 1 ≤ 100; omega) y2 y3 y4 y5 y6 y7 y8 y9 y10
  let gs : List D := [g1, g2]
  have f1 : sFor (iSeq (dTup (aCons (dcon (.int 0)) (aCons (dcon (.int 20)) aNil)))) (gaName 2) lb1 (sT ns [] none none none none none none none none none) = some (.nx (sT ns gs z2 z3 z4 z5 z6 z7 z8 z9 z10)) :=
    (sFor_eq (ds := [.int ((0 : Nat) : Int), .int ((20 : Nat) : Int)]) rfl).trans ((forGo_nx rfl e1).trans ((forGo_nx rfl e2).trans rfl))
  obtain ⟨δ', f2, w2, w3, w4, w5, w6, w7, w8, w9, w10, rfl⟩ := forGo_all (ga := gaTup 5 (gaCons (gaName 9) (gaCons (gaName 3) (gaCons (gaName 4) (gaCons (gaName 7) (gaCons (gaName 8) gaNil)))))) (fb := lb2) (fun _ δ => ∃ x2 x3 x4 x5 x6 x7 x8 x9 x10, δ = sT ns gs x2 x3 x4 x5 x6 x7 x8 x9 x10) (ds := gs) (δ := sT ns gs z2 z3 z4 z5 z6 z7 z8 z9 z10) ⟨_, _, _, _, _, _, _, _, _, rfl⟩ (by
    rintro i d δ hd ⟨x2, x3, x4, x5, x6, x7, x8, x9, x10, rfl⟩
    have hm := List.mem_of_getElem? hd
    have G : Good d := by
      rcases List.mem_cons.mp hm with rfl | hm
      · exact G1
      · rw [List.mem_singleton.mp hm]; exact G2
    obtain ⟨as, ea, _, _, _, _, _, _, e⟩ := two_eq (gs := gs) h G x2 x3 x4 x5 x6 x7 x8 x9 x10
    exact ⟨as, _, ea, e, _, _, _, _, _, _, _, _, _, rfl⟩)
  obtain ⟨m, n, A, B, x0, y0, xs, ys, eg, G, hx, hy⟩ := G1
  let δl : DSt := sT ns gs w2 (some (dM A)) (some (dM B)) w5 w6 (some (.lst ((x0 :: xs).map vD))) (some (.lst ((y0 :: ys).map vD))) (some (gameD A B m n)) w10
  have e3 : sAsg (dBin gIx (dvar 1) (dcon (.int 0))) (gaTup 5 (gaCons (gaName 9) (gaCons (gaName 3) (gaCons (gaName 4) (gaCons (gaName 7) (gaCons (gaName 8) gaNil)))))) (sT ns gs w2 w3 w4 w5 w6 w7 w8 w9 w10) = some (.nx δl) :=
    (sAsg_eq (as := [(9, gameD A B m n), (3, dM A), (4, dM B), (7, .lst ((x0 :: xs).map vD)), (8, .lst ((y0 :: ys).map vD))]) ((dBin_eq (a := .lst gs) (b := .int 0) rfl rfl).trans (atI_0 g1 [g2])) (by rw [eg]; rfl)).trans rfl
  have s7 : dSlice (dvar 7) oNo (oAt (dcon (.int 1))) δl = some (.lst (((x0 :: xs).take 1).map vD)) := (dSlice_eq (d := .lst ((x0 :: xs).map vD)) rfl rfl (oAt_eq (i := ((1 : Nat) : Int)) rfl)).trans (by show some (D.lst (cutD _ _ _)) = _; rw [cutD_to, ← List.map_take])
  have s8 : dSlice (dvar 8) oNo (oAt (dcon (.int 2))) δl = some (.lst (((y0 :: ys).take 2).map vD)) := (dSlice_eq (d := .lst ((y0 :: ys).map vD)) rfl rfl (oAt_eq (i := ((2 : Nat) : Int)) rfl)).trans (by show some (D.lst (cutD _ _ _)) = _; rw [cutD_to, ← List.map_take])
  have r : vand (dCal f__law_told (aCons (dvar 9) (aCons (dvar 3) (aCons (dvar 4) aNil)))) (dCal f__law_asked (aCons (dvar 9) (aCons (dvar 3) (aCons (dvar 4) (aCons (dSlice (dvar 7) oNo (oAt (dcon (.int 1)))) (aCons (dSlice (dvar 8) oNo (oAt (dcon (.int 2)))) aNil)))))) δl = some (.bl true) :=
    (vand_t ((dCal_eq (ds := [gameD A B m n, dM A, dM B]) rfl).trans (told_eq G))).trans ((dCal_eq (aCons_eq (d := gameD A B m n) rfl (aCons_eq (d := dM A) rfl (aCons_eq (d := dM B) rfl (aCons_eq s7 (aCons_eq s8 rfl)))))).trans (asked_eq G (fun p hp => hx p (List.mem_of_mem_take hp)) fun p hp => hy p (List.mem_of_mem_take hp)))
  exact runD_rt ((sq_nx (δ' := sT ns [] none none none none none none none none none) rfl).trans ((sq_nx f1).trans ((sq_nx ((sFor_eq (ds := gs) rfl).trans f2)).trans ((sq_nx e3).trans (sRet_eq r)))) : b_law _ = _)
end K69

end

section
set_option Elab.async false
set_option linter.all false
set_option maxRecDepth 100000
namespace K69
open PySem PySem.Spec PyProof.Rows L2 DL
def spLaw (K : PySem.W.Frag) : Sp := fun vs H Q _ => ∃ (a : Addr) (ns : List Int), vs = [.ref a] ∧ SqL K H a (ns.map V.int) ∧ ns.length ≤ 63 ∧ (∀ z ∈ ns, Builtin.Int.intBits z ≤ 1048576) ∧ ∀ H', Q (.bl true) H'
theorem law_fd {P : Program} {w : World} {K : PySem.W.Frag} {mg : Str → Option Value} {fa : Addr} (T : Txt K mg) (hfa : mg "law" = some (.ref fa)) :
    ∃ fd : FuncData, (∀ (s : Shared) (v : Value), BindsTo s fd ⟨[v], []⟩ [("script", v)]) ∧ ∀ base : Heap, K.In base → base.Ns mainGlobals mg → FnOk P w K mg base CX0 7 fa fd ["script"] (spLaw K) := by
  obtain ⟨f, fd, F, m, b⟩ := T.d_law.ex
  rw [hfa] at m
  cases m
  have F0 := F
  obtain ⟨⟨oc, od, kV, doc, pm, an, cdv, ct, osl, e, lk, _⟩, kp⟩ := F
  subst e
  refine ⟨_, fun s v => .of_eq rfl, fun base _ _ => (ok_all F0 T).imp fun vs H Q E ⟨a, ns, ev, hS, hl, hb, k⟩ => ?_⟩
  subst ev
  have r : Rep K mg (fun _ => False) H (.ref a) (.scr ns) := .scr (hS.elim (fun z => .inl ⟨z, id⟩) .inr)
  exact ⟨fun _ => False, [.scr ns], .bl true, fun _ z => z.elim, ⟨⟨.inl r, fun _ => r⟩, trivial⟩, law_math ns hl hb, fun v H' s rv => by cases rv; exact k H'⟩
theorem walk {l : PySem.W.OpenLaw} {q : Program} {loose : List Str} {XP : (Str → Option Value) → Heap → Prop} {YP : World → Heap → Prop} {d : DefRec} {K : Params → PySem.W.Frag} (hn : l.most = some 63) (hdf : d.params.defaults = [])
    (hY : ∀ (w : World) (h : Heap), YP w h → (K w.params).In h)
    (F : ∀ (w : World) (mg : Str → Option Value) (fa : Addr) (h : Heap), (K w.params).In h → h.Ns mainGlobals mg → mg d.name = some (.ref fa) →
      ∃ fd : FuncData, (∀ (s : Shared) (u : Value), BindsTo s fd ⟨[u], []⟩ [("script", u)]) ∧ ∀ base : Heap, (K w.params).In base → base.Ns mainGlobals mg → FnOk l.prog w (K w.params) mg base CX0 7 fa fd ["script"] (spLaw (K w.params))) :
    PySem.W.WalkO q loose XP YP l.row.toRowW d [] (fun f vs => PySem.call f vs) :=
  L2.walk_ofB (n := 63) (k := 7) (x := "script") (CX := fun _ => CX0) (sp := fun w => spLaw (K w.params)) hn (by decide) hdf ⟨rfl, by decide, by decide⟩ hY F (fun _ _ a ns hl hb _ hS => ⟨a, ns, rfl, hS, hl, hb, fun _ => rfl⟩) fun _ _ _ _ _ z => z
end K69
open PySem PySem.W PyProof.Rows
set_option maxRecDepth 100000 in
set_option maxHeartbeats 0 in
theorem PySem.Challenge.cw_oneofeachpair_k69_equilibria_led_holds : PySem.Challenge.rw_oneofeachpair_k69_equilibria_led.Holds := by
  w_on; o_law; k_head; (case hw => w_witness2)
  k_fill
  refine K69.walk (l := PySem.Challenge.rw_oneofeachpair_k69_equilibria_led) rfl rfl (fun w h Y => PySem.W.kIn_of Y) ?F
  case F =>
    intro w mg fa h KX G hmg
    refine K69.law_fd ?T hmg
    case T =>
      refine' K69.all_mk KX G ?qq_aCGame ?qq_pgGame ?qq_hdGame ?qq_poGame ?qq_saGame ?qq_aCProblem ?qq_pgProblem ?qq_hdProblem ?qq_poProblem ?qq_saProblem ?qq_a0 ?qq_g0 ?qq_t0 ?qq_r0 ?qq_l0 ?qq_c0 ?qq_k0 ?qq_a1 ?qq_l1 ?qq_c1 ?qq_k1 ?qq_i1 ?qq_mk1 ?qq_kc1 ?qq_a2 ?qq_l2 ?qq_c2 ?qq_k2 ?qq_a3 ?qq_l3 ?qq_c3 ?qq_k3 ?qq_a4 ?qq_l4 ?qq_c4 ?qq_k4 ?qq_a5 ?qq_l5 ?qq_c5 ?qq_k5 ?qq_a6 ?qq_l6 ?qq_c6 ?qq_k6 ?qq_i6 ?qq_mk6 ?qq_kc6 ?qq_a7 ?qq_l7 ?qq_c7 ?qq_k7 ?qq_a8 ?qq_l8 ?qq_c8 ?qq_k8 ?qq_a9 ?qq_l9 ?qq_c9 ?qq_k9 ?qq_a10 ?qq_l10 ?qq_c10 ?qq_k10 ?qq_i10 ?qq_a11 ?qq_l11 ?qq_c11 ?qq_k11 ?qq_i11 ?qq_a12 ?qq_l12 ?qq_c12 ?qq_k12 ?qq_i12 ?qq_a13 ?qq_l13 ?qq_c13 ?qq_k13 ?qq_a14 ?qq_l14 ?qq_c14 ?qq_k14 ?qq_a15 ?qq_l15 ?qq_c15 ?qq_k15 ?qq_a16 ?qq_l16 ?qq_c16 ?qq_k16 ?qq_a17 ?qq_l17 ?qq_c17 ?qq_k17 ?qq_a18 ?qq_l18 ?qq_c18 ?qq_k18 ?qq_a19 ?qq_l19 ?qq_c19 ?qq_k19 ?qq_a20 ?qq_l20 ?qq_c20 ?qq_k20 ?qq_a21 ?qq_l21 ?qq_c21 ?qq_k21 ?qq_a22 ?qq_l22 ?qq_c22 ?qq_k22 ?qq_a23 ?qq_l23 ?qq_c23 ?qq_k23 ?qq_a24 ?qq_l24 ?qq_c24 ?qq_k24 ?qq_a25 ?qq_l25 ?qq_c25 ?qq_k25 ?qq_a26 ?qq_l26 ?qq_c26 ?qq_k26 ?qq_a27 ?qq_l27 ?qq_c27 ?qq_k27 ?qq_a28 ?qq_l28 ?qq_c28 ?qq_k28 ?qq_a29 ?qq_l29 ?qq_c29 ?qq_k29 ?qq_a30 ?qq_l30 ?qq_c30 ?qq_k30 ?qq_a31 ?qq_l31 ?qq_c31 ?qq_k31 ?qq_a32 ?qq_l32 ?qq_c32 ?qq_k32 ?qq_a33 ?qq_l33 ?qq_c33 ?qq_k33 ?qq_a34 ?qq_l34 ?qq_c34 ?qq_k34 ?qq_a35 ?qq_l35 ?qq_c35 ?qq_k35 ?qq_a36 ?qq_l36 ?qq_c36 ?qq_k36 ?qq_a37 ?qq_l37 ?qq_c37 ?qq_k37 ?qq_a38 ?qq_l38 ?qq_c38 ?qq_k38 ?qq_a39 ?qq_l39 ?qq_c39 ?qq_k39 ?qq_a40 ?qq_l40 ?qq_c40 ?qq_k40 ?qq_a41 ?qq_l41 ?qq_c41 ?qq_k41 ?qq_a42 ?qq_l42 ?qq_c42 ?qq_k42 ?qq_a43 ?qq_l43 ?qq_c43 ?qq_k43 ?qq_a44 ?qq_l44 ?qq_c44 ?qq_k44 ?qq_a45 ?qq_l45 ?qq_c45 ?qq_k45 ?qq_a46 ?qq_l46 ?qq_c46 ?qq_k46 ?qq_z_abs ?qq_z_all ?qq_z_any ?qq_z_bool ?qq_z_int ?qq_z_isinstance ?qq_z_len ?qq_z_list ?qq_z_max ?qq_z_min ?qq_z_range ?qq_z_str ?qq_z_sum ?qq_z_tuple ?qq_z_zip ?qq_n_Problem_table ?qq_n_Problem_q ?qq_n_Problem_size ?qq_n_Game_first ?qq_n_Game_second ?qq_n_Game_problem ?qq_g_LARGEST ?qq_g_gcd
      (case qq_aCGame => k_is)
      (case qq_pgGame => k_is)
      (case qq_hdGame => k_is)
      (case qq_poGame => k_is)
      (case qq_saGame => k_is)
      (case qq_aCProblem => k_is)
      (case qq_pgProblem => k_is)
      (case qq_hdProblem => k_is)
      (case qq_poProblem => k_is)
      (case qq_saProblem => k_is)
      (case qq_a0 => k_is)
      (case qq_g0 => k_is)
      (case qq_t0 => k_is)
      (case qq_r0 => k_is)
      (case qq_l0 => k_is)
      (case qq_c0 => k_is)
      (case qq_k0 => k_is)
      (case qq_a1 => k_is)
      (case qq_l1 => k_is)
      (case qq_c1 => k_is)
      (case qq_k1 => k_is)
      (case qq_i1 => k_is)
      (case qq_mk1 => k_is)
      (case qq_kc1 => k_is)
      (case qq_a2 => k_is)
      (case qq_l2 => k_is)
      (case qq_c2 => k_is)
      (case qq_k2 => k_is)
      (case qq_a3 => k_is)
      (case qq_l3 => k_is)
      (case qq_c3 => k_is)
      (case qq_k3 => k_is)
      (case qq_a4 => k_is)
      (case qq_l4 => k_is)
      (case qq_c4 => k_is)
      (case qq_k4 => k_is)
      (case qq_a5 => k_is)
      (case qq_l5 => k_is)
      (case qq_c5 => k_is)
      (case qq_k5 => k_is)
      (case qq_a6 => k_is)
      (case qq_l6 => k_is)
      (case qq_c6 => k_is)
      (case qq_k6 => k_is)
      (case qq_i6 => k_is)
      (case qq_mk6 => k_is)
      (case qq_kc6 => k_is)
      (case qq_a7 => k_is)
      (case qq_l7 => k_is)
      (case qq_c7 => k_is)
      (case qq_k7 => k_is)
      (case qq_a8 => k_is)
      (case qq_l8 => k_is)
      (case qq_c8 => k_is)
      (case qq_k8 => k_is)
      (case qq_a9 => k_is)
      (case qq_l9 => k_is)
      (case qq_c9 => k_is)
      (case qq_k9 => k_is)
      (case qq_a10 => k_is)
      (case qq_l10 => k_is)
      (case qq_c10 => k_is)
      (case qq_k10 => k_is)
      (case qq_i10 => k_is)
      (case qq_a11 => k_is)
      (case qq_l11 => k_is)
      (case qq_c11 => k_is)
      (case qq_k11 => k_is)
      (case qq_i11 => k_is)
      (case qq_a12 => k_is)
      (case qq_l12 => k_is)
      (case qq_c12 => k_is)
      (case qq_k12 => k_is)
      (case qq_i12 => k_is)
      (case qq_a13 => k_is)
      (case qq_l13 => k_is)
      (case qq_c13 => k_is)
      (case qq_k13 => k_is)
      (case qq_a14 => k_is)
      (case qq_l14 => k_is)
      (case qq_c14 => k_is)
      (case qq_k14 => k_is)
      (case qq_a15 => k_is)
      (case qq_l15 => k_is)
      (case qq_c15 => k_is)
      (case qq_k15 => k_is)
      (case qq_a16 => k_is)
      (case qq_l16 => k_is)
      (case qq_c16 => k_is)
      (case qq_k16 => k_is)
      (case qq_a17 => k_is)
      (case qq_l17 => k_is)
      (case qq_c17 => k_is)
      (case qq_k17 => k_is)
      (case qq_a18 => k_is)
      (case qq_l18 => k_is)
      (case qq_c18 => k_is)
      (case qq_k18 => k_is)
      (case qq_a19 => k_is)
      (case qq_l19 => k_is)
      (case qq_c19 => k_is)
      (case qq_k19 => k_is)
      (case qq_a20 => k_is)
      (case qq_l20 => k_is)
      (case qq_c20 => k_is)
      (case qq_k20 => k_is)
      (case qq_a21 => k_is)
      (case qq_l21 => k_is)
      (case qq_c21 => k_is)
      (case qq_k21 => k_is)
      (case qq_a22 => k_is)
      (case qq_l22 => k_is)
      (case qq_c22 => k_is)
      (case qq_k22 => k_is)
      (case qq_a23 => k_is)
      (case qq_l23 => k_is)
      (case qq_c23 => k_is)
      (case qq_k23 => k_is)
      (case qq_a24 => k_is)
      (case qq_l24 => k_is)
      (case qq_c24 => k_is)
      (case qq_k24 => k_is)
      (case qq_a25 => k_is)
      (case qq_l25 => k_is)
      (case qq_c25 => k_is)
      (case qq_k25 => k_is)
      (case qq_a26 => k_is)
      (case qq_l26 => k_is)
      (case qq_c26 => k_is)
      (case qq_k26 => k_is)
      (case qq_a27 => k_is)
      (case qq_l27 => k_is)
      (case qq_c27 => k_is)
      (case qq_k27 => k_is)
      (case qq_a28 => k_is)
      (case qq_l28 => k_is)
      (case qq_c28 => k_is)
      (case qq_k28 => k_is)
      (case qq_a29 => k_is)
      (case qq_l29 => k_is)
      (case qq_c29 => k_is)
      (case qq_k29 => k_is)
      (case qq_a30 => k_is)
      (case qq_l30 => k_is)
      (case qq_c30 => k_is)
      (case qq_k30 => k_is)
      (case qq_a31 => k_is)
      (case qq_l31 => k_is)
      (case qq_c31 => k_is)
      (case qq_k31 => k_is)
      (case qq_a32 => k_is)
      (case qq_l32 => k_is)
      (case qq_c32 => k_is)
      (case qq_k32 => k_is)
      (case qq_a33 => k_is)
      (case qq_l33 => k_is)
      (case qq_c33 => k_is)
      (case qq_k33 => k_is)
      (case qq_a34 => k_is)
      (case qq_l34 => k_is)
      (case qq_c34 => k_is)
      (case qq_k34 => k_is)
      (case qq_a35 => k_is)
      (case qq_l35 => k_is)
      (case qq_c35 => k_is)
      (case qq_k35 => k_is)
      (case qq_a36 => k_is)
      (case qq_l36 => k_is)
      (case qq_c36 => k_is)
      (case qq_k36 => k_is)
      (case qq_a37 => k_is)
      (case qq_l37 => k_is)
      (case qq_c37 => k_is)
      (case qq_k37 => k_is)
      (case qq_a38 => k_is)
      (case qq_l38 => k_is)
      (case qq_c38 => k_is)
      (case qq_k38 => k_is)
      (case qq_a39 => k_is)
      (case qq_l39 => k_is)
      (case qq_c39 => k_is)
      (case qq_k39 => k_is)
      (case qq_a40 => k_is)
      (case qq_l40 => k_is)
      (case qq_c40 => k_is)
      (case qq_k40 => k_is)
      (case qq_a41 => k_is)
      (case qq_l41 => k_is)
      (case qq_c41 => k_is)
      (case qq_k41 => k_is)
      (case qq_a42 => k_is)
      (case qq_l42 => k_is)
      (case qq_c42 => k_is)
      (case qq_k42 => k_is)
      (case qq_a43 => k_is)
      (case qq_l43 => k_is)
      (case qq_c43 => k_is)
      (case qq_k43 => k_is)
      (case qq_a44 => k_is)
      (case qq_l44 => k_is)
      (case qq_c44 => k_is)
      (case qq_k44 => k_is)
      (case qq_a45 => k_is)
      (case qq_l45 => k_is)
      (case qq_c45 => k_is)
      (case qq_k45 => k_is)
      (case qq_a46 => k_is)
      (case qq_l46 => k_is)
      (case qq_c46 => k_is)
      (case qq_k46 => k_is)
      (case qq_z_abs => k_is)
      (case qq_z_all => k_is)
      (case qq_z_any => k_is)
      (case qq_z_bool => k_is)
      (case qq_z_int => k_is)
      (case qq_z_isinstance => k_is)
      (case qq_z_len => k_is)
      (case qq_z_list => k_is)
      (case qq_z_max => k_is)
      (case qq_z_min => k_is)
      (case qq_z_range => k_is)
      (case qq_z_str => k_is)
      (case qq_z_sum => k_is)
      (case qq_z_tuple => k_is)
      (case qq_z_zip => k_is)
      (case qq_n_Problem_table => k_is)
      (case qq_n_Problem_q => k_is)
      (case qq_n_Problem_size => k_is)
      (case qq_n_Game_first => k_is)
      (case qq_n_Game_second => k_is)
      (case qq_n_Game_problem => k_is)
      (case qq_g_LARGEST => k_is)
      (case qq_g_gcd => k_is)

end
