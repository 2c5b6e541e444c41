import PyProof.Rows.All
import Wide.All
import OpenK.AllK
import Wide.FinOn
import HandS.ForMost
import HandS.ForExc
import HandS.IsInst
import HandS.Wide
import HandS.TupAny
import HandS.TupMul
import HandS.Deep
import HandS.Style
import HandS.Dict
import PyProof.ReprRoads
import HandS.Text
import HandS.Iter
import HandS.Comp
import HandS.Zip
import HandS.Ends
import HandS.Exc
import HandS.WordsExc
import HandS.Codes
import PySem.Challenge.RW_everyway_k01_names_of_anything
set_option Elab.async false
set_option linter.all false
set_option maxRecDepth 100000
namespace DN
open PySem L2

/-! ### data: what a value is, seen without addresses -/
inductive D where
  | non | bl (b : Bool) | int (i : Int) | str (s : Str)
  | tup (l : List D) | lst (l : List D) | kst (l : List D) | dct (l : List (Key × D))
  | ref (n : Nat) | st (v : V)

inductive LO where
  | lst (l : List D) | dct (l : List (Key × D))
abbrev LH := List LO
structure EX where
  cls : Value
  fs : Option (List (Str × D))
inductive R (α : Type) where
  | ok (a : α) (h : LH) | ex (x : EX) (h : LH) | no

abbrev Sg := List (Option D)
abbrev EM := Sg → LH → R D
abbrev BM := Sg → LH → R Bool
abbrev AM := Sg → LH → R (List D)

/-- what is known of addresses: what is frozen for ever; where the changing objects stand -/
structure Wd where
  fz : Addr → HO → Prop
  at_ : List Addr
  rs : Addr → HO → Prop
def Wd.le (w w' : Wd) : Prop := (∀ a o, w.fz a o → w'.fz a o) ∧ w.at_ <+: w'.at_ ∧ ∀ a o, w.rs a o → w'.rs a o
theorem Wd.le.refl (w : Wd) : w.le w := ⟨fun _ _ h => h, List.prefix_refl _, fun _ _ h => h⟩
theorem Wd.le.trans {a b c : Wd} (h : a.le b) (k : b.le c) : a.le c := ⟨fun x o z => k.1 x o (h.1 x o z), h.2.1.trans k.2.1, fun x o z => k.2.2 x o (h.2.2 x o z)⟩

section
variable (K : PySem.W.Frag)
def StL (a : Addr) (xs : List V) : Prop := ∃ (o : Obj) (its : Array Value) (n : Nat), K.lookup a = some o ∧ o.cls = .type "list" ∧ o.dict = none ∧ o.data = .seq its n ∧ its.size ≤ sizeLine ∧ Vals xs its.toList
def StT (a : Addr) (xs : List V) : Prop := ∃ (o : Obj) (its : Array Value) (n : Nat), K.lookup a = some o ∧ o.cls = .type "tuple" ∧ o.data = .seq its n ∧ its.size ≤ sizeLine ∧ Vals xs its.toList

mutual
inductive RV (w : Wd) : V → D → Prop where
  | non : RV w .non .non
  | bl (b : Bool) : RV w (.bl b) (.bl b)
  | int (i : Int) : RV w (.int i) (.int i)
  | str (s : Str) : RV w (.str s) (.str s)
  | tup {a : Addr} {vs : List V} {ds : List D} (h : w.fz a (.tup vs) ∨ StT K a vs) (r : RVs w vs ds) : RV w (.ref a) (.tup ds)
  | lst {a : Addr} {vs : List V} {ds : List D} (h : w.fz a (.lst vs)) (r : RVs w vs ds) : RV w (.ref a) (.lst ds)
  | kst {a : Addr} {vs : List V} {ds : List D} (h : (∃ o, w.fz a (.frz o (.lst vs))) ∨ StL K a vs) (r : RVs w vs ds) : RV w (.ref a) (.kst ds)
  | dct {a : Addr} {vs : List (Key × V)} {ds : List (Key × D)} (h : w.fz a (.dK vs)) (r : RKs w vs ds) : RV w (.ref a) (.dct ds)
  | ref {a : Addr} {n : Nat} (h : w.at_[n]? = some a) : RV w (.ref a) (.ref n)
  | st (v : V) : RV w v (.st v)
inductive RVs (w : Wd) : List V → List D → Prop where
  | nil : RVs w [] []
  | cons {v : V} {vs : List V} {d : D} {ds : List D} (h : RV w v d) (r : RVs w vs ds) : RVs w (v :: vs) (d :: ds)
inductive RKs (w : Wd) : List (Key × V) → List (Key × D) → Prop where
  | nil : RKs w [] []
  | cons {k : Key} {v : V} {vs : List (Key × V)} {d : D} {ds : List (Key × D)} (h : RV w v d) (r : RKs w vs ds) : RKs w ((k, v) :: vs) ((k, d) :: ds)
end
variable {K} {w w' : Wd}
mutual
theorem RV.mono (l : w.le w') : ∀ {v : V} {d : D}, RV K w v d → RV K w' v d
  | _, _, .non => .non
  | _, _, .bl b => .bl b
  | _, _, .int b => .int b
  | _, _, .str b => .str b
  | _, _, .tup h r => .tup (h.imp (l.1 _ _) id) (RVs.mono l r)
  | _, _, .lst h r => .lst (l.1 _ _ h) (RVs.mono l r)
  | _, _, .kst h r => .kst (h.imp (fun ⟨o, z⟩ => ⟨o, l.1 _ _ z⟩) id) (RVs.mono l r)
  | _, _, .dct h r => .dct (l.1 _ _ h) (RKs.mono l r)
  | _, _, .ref h => .ref (by
      obtain ⟨t, e⟩ := l.2.1
      rw [← e, List.getElem?_append_left (List.getElem?_eq_some_iff.mp h).1]; exact h)
  | _, _, .st v => .st v
theorem RVs.mono (l : w.le w') : ∀ {v : List V} {d : List D}, RVs K w v d → RVs K w' v d
  | _, _, .nil => .nil
  | _, _, .cons h r => .cons (RV.mono l h) (RVs.mono l r)
theorem RKs.mono (l : w.le w') : ∀ {v : List (Key × V)} {d : List (Key × D)}, RKs K w v d → RKs K w' v d
  | _, _, .nil => .nil
  | _, _, .cons h r => .cons (RV.mono l h) (RKs.mono l r)
end
theorem RVs.length : ∀ {v : List V} {d : List D}, RVs K w v d → v.length = d.length
  | _, _, .nil => rfl
  | _, _, .cons h r => by simp [RVs.length r]
theorem RVs.append : ∀ {v v' : List V} {d d' : List D}, RVs K w v d → RVs K w v' d' → RVs K w (v ++ v') (d ++ d')
  | _, _, _, _, .nil, s => s
  | _, _, _, _, .cons h r, s => .cons h (RVs.append r s)
theorem RVs.get : ∀ {v : List V} {d : List D} {i : Nat} {x : D}, RVs K w v d → d[i]? = some x → ∃ y, v[i]? = some y ∧ RV K w y x
  | _, _, _, _, .nil, e => by simp at e
  | _, _, 0, _, .cons h r, e => by simp at e; subst e; exact ⟨_, rfl, h⟩
  | _, _, i + 1, _, .cons h r, e => by
    obtain ⟨y, a, b⟩ := RVs.get (i := i) r (by simpa using e)
    exact ⟨y, by simpa using a, b⟩
theorem RVs.get' : ∀ {v : List V} {d : List D} {i : Nat} {y : V}, RVs K w v d → v[i]? = some y → ∃ x, d[i]? = some x ∧ RV K w y x
  | _, _, _, _, .nil, e => by simp at e
  | _, _, 0, _, .cons h r, e => by simp at e; subst e; exact ⟨_, rfl, h⟩
  | _, _, i + 1, _, .cons h r, e => by
    obtain ⟨y, a, b⟩ := RVs.get' (i := i) r (by simpa using e)
    exact ⟨y, by simpa using a, b⟩
theorem RVs.take : ∀ {v : List V} {d : List D} (n : Nat), RVs K w v d → RVs K w (v.take n) (d.take n)
  | _, _, 0, _ => .nil
  | _, _, _ + 1, .nil => .nil
  | _, _, n + 1, .cons r t => .cons r (RVs.take n t)
theorem RVs.drop : ∀ {v : List V} {d : List D} (n : Nat), RVs K w v d → RVs K w (v.drop n) (d.drop n)
  | _, _, 0, r => r
  | _, _, _ + 1, .nil => .nil
  | _, _, n + 1, .cons _ t => RVs.drop n t
theorem RVs.set {y : V} {x : D} (r : RV K w y x) : ∀ {v : List V} {d : List D} (i : Nat), RVs K w v d → RVs K w (v.set i y) (d.set i x)
  | _, _, _, .nil => .nil
  | _, _, 0, .cons _ t => .cons r t
  | _, _, i + 1, .cons q t => .cons q (RVs.set r i t)
theorem RVs.reverse : ∀ {v : List V} {d : List D}, RVs K w v d → RVs K w v.reverse d.reverse
  | _, _, .nil => .nil
  | _, _, .cons h r => by
    rw [List.reverse_cons, List.reverse_cons]
    exact (RVs.reverse r).append (.cons h .nil)
/-! ### the state -/
inductive RO (w : Wd) : HO → LO → Prop where
  | lst {vs : List V} {ds : List D} (r : RVs K w vs ds) : RO w (.lst vs) (.lst ds)
  | dct {vs : List (Key × V)} {ds : List (Key × D)} (r : RKs K w vs ds) : RO w (.dK vs) (.dct ds)
theorem RO.mono (l : w.le w') {o : HO} {p : LO} (r : RO (K := K) w o p) : RO (K := K) w' o p := by
  cases r with
  | lst r => exact .lst (r.mono l)
  | dct r => exact .dct (r.mono l)
variable (K)
structure HW (w : Wd) (H : Hp) (h : LH) : Prop where
  fz : ∀ a o, w.fz a o → H a = some o
  len : w.at_.length = h.length
  ats : ∀ (n : Nat) (a : Addr) (p : LO), w.at_[n]? = some a → h[n]? = some p → ∃ o, H a = some o ∧ RO (K := K) w o p
  nd : w.at_.Nodup
  sep : ∀ a o, a ∈ w.at_ → ¬ w.fz a o
  rs : ∀ a o, w.rs a o → H a = some o ∧ a ∉ w.at_ ∧ ∀ u, ¬ w.fz a u
def RS (w : Wd) (σ : St) (s : Sg) : Prop := σ.length = s.length ∧ ∀ (i : Nat) (d : D), s[i]? = some (some d) → ∃ v, σ[i]? = some (some v) ∧ RV K w v d
variable {K}
theorem RS.mono (l : w.le w') {σ : St} {s : Sg} (r : RS K w σ s) : RS K w' σ s := ⟨r.1, fun i d e =>
  let ⟨v, h1, h2⟩ := r.2 i d e
  ⟨v, h1, h2.mono l⟩⟩
theorem RS.set {σ : St} {s : Sg} (r : RS K w σ s) {i : Nat} {v : V} {d : D} (q : RV K w v d) : RS K w (σ.set i (some v)) (s.set i (some d)) := ⟨by simp [r.1], fun j x e => by
  by_cases hj : i = j
  · subst hj
    have hl : i < s.length := by
      have := (List.getElem?_eq_some_iff.mp e).1
      simpa using this
    rw [List.getElem?_set_self hl] at e
    cases e
    exact ⟨v, by rw [List.getElem?_set_self (by rw [r.1]; exact hl)], q⟩
  · rw [List.getElem?_set_ne hj] at e
    rw [List.getElem?_set_ne hj]
    exact r.2 j x e⟩
end

/-! ### what a piece of syntax means: readings out of results -/
section
variable (K : PySem.W.Frag)
/-- an exception at hand -/
inductive RX (w : Wd) (H : Hp) : Value → Option Addr → EX → Prop where
  | bare (c : Value) : RX w H c none ⟨c, none⟩
  | own (c : Value) {a : Addr} {vs : List (Str × V)} {ds : List (Str × D)} (h : H a = some (.xd vs)) (hf : ∀ f d, ds.lookup f = some d → ∃ v, vs.lookup f = some v ∧ RV K w v d) : RX w H c (some a) ⟨c, some ds⟩
def Pv (w : Wd) (Q : VK) (d : D) (h : LH) : Prop := ∀ w' v H', w.le w' → RV K w' v d → HW K w' H' h → Q v H'
def Px (w : Wd) (W : XK) (x : EX) (h : LH) : Prop := ∀ w' c dd H', w.le w' → RX K w' H' c dd x → HW K w' H' h → W c dd H'
def WpE (w : Wd) (Q : VK) (W : XK) : R D → Prop
  | .ok d h => Pv K w Q d h
  | .ex x h => Px K w W x h
  | .no => False
def WpB (w : Wd) (Q : Bool → Hp → Prop) (W : XK) : R Bool → Prop
  | .ok d h => ∀ w' H', w.le w' → HW K w' H' h → Q d H'
  | .ex x h => Px K w W x h
  | .no => False
def WpA (w : Wd) (Q : List V → Hp → Prop) (W : XK) : R (List D) → Prop
  | .ok d h => ∀ w' v H', w.le w' → RVs K w' v d → HW K w' H' h → Q v H'
  | .ex x h => Px K w W x h
  | .no => False
def TE_ (W : WX) (m : EM) : TE := fun σ H Q => ∃ w s h, RS K w σ s ∧ HW K w H h ∧ WpE K w Q (fun c d H => W c d σ H) (m s h)
def TB_ (W : WX) (m : BM) : TT := fun σ H Q => ∃ w s h, RS K w σ s ∧ HW K w H h ∧ WpB K w Q (fun c d H => W c d σ H) (m s h)
def TA_ (W : WX) (m : AM) : TA := fun σ H Q => ∃ w s h, RS K w σ s ∧ HW K w H h ∧ WpA K w Q (fun c d H => W c d σ H) (m s h)
end

/-- an expression means m -/
def DE (X : Cx) (W : WX) (e : Expr) (m : EM) : Prop := PE X e (TE_ X.K W m)
def DT (X : Cx) (W : WX) (e : Expr) (m : BM) : Prop := PT X e (TB_ X.K W m)
def DW (X : Cx) (W : WX) (e : Expr) (m : BM) : Prop := PW X e (TB_ X.K W m)
def DA (X : Cx) (W : WX) (es : List Expr) (m : AM) : Prop := PA X es (TA_ X.K W m)

theorem PE.imp {X : Cx} {e : Expr} {t t' : TE} (h : PE X e t) (k : ∀ σ H Q, t' σ H Q → t σ H Q) : PE X e t' := ⟨fun pins s σ H Q I q => h.run pins s σ H Q I (k σ H Q q)⟩
theorem PT.imp {X : Cx} {e : Expr} {t t' : TT} (h : PT X e t) (k : ∀ σ H Q, t' σ H Q → t σ H Q) : PT X e t' := ⟨fun pins s σ H Q I q => h.run pins s σ H Q I (k σ H Q q)⟩
theorem PW.imp {X : Cx} {e : Expr} {t t' : TT} (h : PW X e t) (k : ∀ σ H Q, t' σ H Q → t σ H Q) : PW X e t' := ⟨fun wh pins s σ H Q I q => h.run wh pins s σ H Q I (k σ H Q q)⟩
theorem PA.imp {X : Cx} {e : List Expr} {t t' : TA} (h : PA X e t) (k : ∀ σ H Q, t' σ H Q → t σ H Q) : PA X e t' := ⟨fun pos pins s σ H Q I q => h.run pos pins s σ H Q I (k σ H Q q)⟩

/-! ### results in a row -/
@[inline] def R.bind {α β : Type} (r : R α) (f : α → LH → R β) : R β := match r with
  | .ok a h => f a h
  | .ex x h => .ex x h
  | .no => .no
@[simp] theorem R.bind_ok {α β : Type} (a : α) (h : LH) (f : α → LH → R β) : (R.ok a h).bind f = f a h := rfl
@[simp] theorem R.bind_ex {α β : Type} (x : EX) (h : LH) (f : α → LH → R β) : (R.ex x h).bind f = .ex x h := rfl
@[simp] theorem R.bind_no {α β : Type} (f : α → LH → R β) : (R.no : R α).bind f = .no := rfl

section
variable {K : PySem.W.Frag} {w w' : Wd}
theorem Px.mono {W : XK} {x : EX} {h : LH}  (l : w.le w') (p : Px K w W x h) : Px K w' W x h := fun v c d H k r q => p v c d H (l.trans k) r q
theorem WpE.mono {Q : VK} {W : XK} {r : R D} (l : w.le w') (p : WpE K w Q W r) : WpE K w' Q W r := by
  cases r with
  | ok d h => exact fun v c H k r q => p v c H (l.trans k) r q
  | ex x h => exact Px.mono l p
  | no => exact p
theorem WpB.mono {Q : Bool → Hp → Prop} {W : XK} {r : R Bool} (l : w.le w') (p : WpB K w Q W r) : WpB K w' Q W r := by
  cases r with
  | ok d h => exact fun v H k q => p v H (l.trans k) q
  | ex x h => exact Px.mono l p
  | no => exact p
theorem WpA.mono {Q : List V → Hp → Prop} {W : XK} {r : R (List D)} (l : w.le w') (p : WpA K w Q W r) : WpA K w' Q W r := by
  cases r with
  | ok d h => exact fun v c H k r q => p v c H (l.trans k) r q
  | ex x h => exact Px.mono l p
  | no => exact p
/-- first one, then the other -/
theorem WpE.bind {α : Type} {Q : VK} {W : XK} {r : R D} {f : D → LH → R α} {G : R α → Prop}
    (h : G (r.bind f)) (hx : ∀ x h, G (.ex x h) → Px K w W x h) (hn : ¬ G .no)
    (k : ∀ d h1 w1 v H1, w.le w1 → RV K w1 v d → HW K w1 H1 h1 → G (f d h1) → Q v H1) : WpE K w Q W r := by
  cases r with
  | ok d h1 => exact fun w1 v H1 l rv hw => k d h1 w1 v H1 l rv hw h
  | ex x h1 => exact hx x h1 h
  | no => exact (hn h).elim
theorem WpB.bind {α : Type} {Q : Bool → Hp → Prop} {W : XK} {r : R Bool} {f : Bool → LH → R α} {G : R α → Prop}
    (h : G (r.bind f)) (hx : ∀ x h, G (.ex x h) → Px K w W x h) (hn : ¬ G .no)
    (k : ∀ d h1 w1 H1, w.le w1 → HW K w1 H1 h1 → G (f d h1) → Q d H1) : WpB K w Q W r := by
  cases r with
  | ok d h1 => exact fun w1 H1 l hw => k d h1 w1 H1 l hw h
  | ex x h1 => exact hx x h1 h
  | no => exact (hn h).elim
theorem WpA.bind {α : Type} {Q : List V → Hp → Prop} {W : XK} {r : R (List D)} {f : List D → LH → R α} {G : R α → Prop}
    (h : G (r.bind f)) (hx : ∀ x h, G (.ex x h) → Px K w W x h) (hn : ¬ G .no)
    (k : ∀ d h1 w1 v H1, w.le w1 → RVs K w1 v d → HW K w1 H1 h1 → G (f d h1) → Q v H1) : WpA K w Q W r := by
  cases r with
  | ok d h1 => exact fun w1 v H1 l rv hw => k d h1 w1 v H1 l rv hw h
  | ex x h1 => exact hx x h1 h
  | no => exact (hn h).elim
end

/-! ### names, constants -/
section
variable {X : Cx} {W : WX}
def mVar (i : Nat) : EM := fun s h => match s[i]? with
  | some (some d) => .ok d h
  | _ => .no
def mC (d : D) : EM := fun _ h => .ok d h
theorem d_var {i : Nat} {e : Expr} (h : PE X e (tVar i)) : DE X W e (mVar i) := PE.imp h fun σ H Q ⟨w, s, h, rs, hw, q⟩ => by
  unfold mVar at q
  split at q
  · rename_i d e
    obtain ⟨v, h1, h2⟩ := rs.2 i d e
    exact ⟨v, h1, q w v H (.refl w) h2 hw⟩
  · exact q.elim
theorem d_c {d : D} {v : V} {e : Expr} (h : PE X e (tC v)) (r : ∀ K w, RV K w v d) : DE X W e (mC d) := PE.imp h fun σ H Q ⟨w, s, h, rs, hw, q⟩ => q w v H (.refl w) (r _ _) hw
theorem d_int {i j pos} : DE X W (.Constant (.int i) j pos) (mC (.int i)) := d_c pe_int fun _ _ => .int i
theorem d_bl {b j pos} : DE X W (.Constant (.bool b) j pos) (mC (.bl b)) := d_c pe_bl fun _ _ => .bl b
theorem d_non {j pos} : DE X W (.Constant .none j pos) (mC .non) := d_c pe_non fun _ _ => .non
theorem d_str {x j pos} : DE X W (.Constant (.str x) j pos) (mC (.str x)) := d_c pe_str fun _ _ => .str x
end
end DN
namespace DN
open PySem L2

/-! ### sequences seen -/
def seqL (h : LH) : D → Option (List D)
  | .lst l => some l
  | .kst l => some l
  | .ref n => match h[n]? with
    | some (.lst l) => some l
    | _ => none
  | _ => none
/-- .. that may be joined -/
def catL (h : LH) : D → Option (List D)
  | .lst l => some l
  | .ref n => match h[n]? with
    | some (.lst l) => some l
    | _ => none
  | _ => none
def seqT : D → Option (List D)
  | .tup l => some l
  | _ => none

section
variable {K : PySem.W.Frag} {w : Wd} {H : Hp} {h : LH}
theorem HW.get (hw : HW K w H h) {n : Nat} {p : LO} (e : h[n]? = some p) : ∃ a o, w.at_[n]? = some a ∧ H a = some o ∧ RO (K := K) w o p := by
  have hl : n < w.at_.length := by rw [hw.len]; exact (List.getElem?_eq_some_iff.mp e).1
  obtain ⟨o, h1, h2⟩ := hw.ats n w.at_[n] p (List.getElem?_eq_getElem hl) e
  exact ⟨_, o, List.getElem?_eq_getElem hl, h1, h2⟩
theorem seqL_ok (hw : HW K w H h) {v : V} {d : D} {l : List D} (r : RV K w v d) (e : seqL h d = some l) : ∃ a vs, v = .ref a ∧ SqL K H a vs ∧ RVs K w vs l := by
  cases r with
  | lst q r => cases e; exact ⟨_, _, rfl, .inl (.inl (hw.fz _ _ q)), r⟩
  | kst q r =>
    cases e
    rcases q with ⟨o, q⟩ | q
    · exact ⟨_, _, rfl, .inl (.inr ⟨o, hw.fz _ _ q⟩), r⟩
    · exact ⟨_, _, rfl, .inr q, r⟩
  | @ref a n q =>
    unfold seqL at e
    simp only at e
    split at e
    · rename_i l' e'
      cases e
      obtain ⟨a', o, h1, h2, h3⟩ := hw.get e'
      rw [q] at h1
      cases h1
      cases h3 with
      | lst r => exact ⟨_, _, rfl, .inl (.inl h2), r⟩
    · cases e
  | _ => cases e
theorem catL_ok (hw : HW K w H h) {v : V} {d : D} {l : List D} (r : RV K w v d) (e : catL h d = some l) : ∃ a vs, v = .ref a ∧ H a = some (.lst vs) ∧ RVs K w vs l := by
  cases r with
  | lst q r => cases e; exact ⟨_, _, rfl, hw.fz _ _ q, r⟩
  | @ref a n q =>
    unfold catL at e
    simp only at e
    split at e
    · rename_i l' e'
      cases e
      obtain ⟨a', o, h1, h2, h3⟩ := hw.get e'
      rw [q] at h1
      cases h1
      cases h3 with
      | lst r => exact ⟨_, _, rfl, h2, r⟩
    · cases e
  | _ => cases e
theorem seqT_ok (hw : HW K w H h) {v : V} {d : D} {l : List D} (r : RV K w v d) (e : seqT d = some l) : ∃ a vs, v = .ref a ∧ SqT K H a vs ∧ RVs K w vs l := by
  cases r with
  | tup q r =>
    cases e
    rcases q with q | q
    · exact ⟨_, _, rfl, .inl (.inl (hw.fz _ _ q)), r⟩
    · exact ⟨_, _, rfl, .inr q, r⟩
  | _ => cases e

/-! ### the state grows -/
def Wd.add (w : Wd) (p : Addr) (o : HO) : Wd := ⟨fun a u => w.fz a u ∨ (a = p ∧ u = o), w.at_, w.rs⟩
def Wd.push (w : Wd) (p : Addr) : Wd := ⟨w.fz, w.at_ ++ [p], w.rs⟩
theorem Wd.le_add {p : Addr} {o : HO} : w.le (w.add p o) := ⟨fun _ _ h => .inl h, List.prefix_refl _, fun _ _ h => h⟩
theorem Wd.le_push {p : Addr} : w.le (w.push p) := ⟨fun _ _ h => h, ⟨[p], rfl⟩, fun _ _ h => h⟩
theorem HW.there (hw : HW K w H h) {p : Addr} (hp : p ∈ w.at_) : ∃ o, H p = some o := by
  obtain ⟨n, hn, e⟩ := List.getElem_of_mem hp
  have hh : n < h.length := by rw [← hw.len]; exact hn
  obtain ⟨o, h1, _⟩ := hw.ats n p h[n] (by rw [List.getElem?_eq_getElem hn, e]) (List.getElem?_eq_getElem hh)
  exact ⟨o, h1⟩
theorem HW.free (hw : HW K w H h) {p : Addr} (hp : H p = none) : p ∉ w.at_ ∧ (∀ o, ¬ w.fz p o) ∧ ∀ o, ¬ w.rs p o := by
  refine ⟨fun hm => ?_, fun o q => ?_, fun o q => ?_⟩
  · obtain ⟨o, h1⟩ := hw.there hm
    rw [hp] at h1; cases h1
  · have := hw.fz p o q
    rw [hp] at this; cases this
  · have := (hw.rs p o q).1
    rw [hp] at this; cases this
theorem HW.add (hw : HW K w H h) {p : Addr} {o : HO} (hp : H p = none) : HW K (w.add p o) (upd H p o) h := by
  obtain ⟨f1, f2, f3⟩ := hw.free hp
  refine ⟨fun a u q => ?_, hw.len, fun n a x e1 e2 => ?_, hw.nd, fun a u hm q => ?_, fun a u q => ?_⟩
  · rcases q with q | ⟨rfl, rfl⟩
    · have hq := hw.fz a u q
      rw [upd_ne (ne_of_none hq hp)]; exact hq
    · exact upd_same
  · obtain ⟨u, h1, h2⟩ := hw.ats n a x e1 e2
    exact ⟨u, by rw [upd_ne (ne_of_none h1 hp)]; exact h1, h2.mono Wd.le_add⟩
  · rcases q with q | ⟨rfl, rfl⟩
    · exact hw.sep a u hm q
    · exact f1 hm
  · obtain ⟨q1, q2, q3⟩ := hw.rs a u q
    refine ⟨by rw [upd_ne (ne_of_none q1 hp)]; exact q1, q2, fun x z => ?_⟩
    rcases z with z | ⟨rfl, rfl⟩
    · exact q3 x z
    · exact f3 u q
theorem HW.push (hw : HW K w H h) {p : Addr} {o : HO} {x : LO} (hp : H p = none) (r : RO (K := K) w o x) : HW K (w.push p) (upd H p o) (h ++ [x]) := by
  obtain ⟨f1, f2, f3⟩ := hw.free hp
  refine ⟨fun a u q => ?_, by simp [Wd.push, hw.len], fun n a y e1 e2 => ?_, ?_, fun a u hm q => ?_, fun a u q => ?_⟩
  · have hq := hw.fz a u q
    rw [upd_ne (ne_of_none hq hp)]; exact hq
  · by_cases hn : n < h.length
    · have e1' : w.at_[n]? = some a := by
        have : (w.at_ ++ [p])[n]? = some a := e1
        rwa [List.getElem?_append_left (by rw [hw.len]; exact hn)] at this
      rw [List.getElem?_append_left hn] at e2
      obtain ⟨u, h1, h2⟩ := hw.ats n a y e1' e2
      exact ⟨u, by rw [upd_ne (ne_of_none h1 hp)]; exact h1, h2.mono Wd.le_push⟩
    · have hn2 : n = h.length := by
        have := (List.getElem?_eq_some_iff.mp e2).1
        simp at this
        omega
      have e1' : (w.at_ ++ [p])[n]? = some a := e1
      rw [hn2, ← hw.len, List.getElem?_append_right (Nat.le_refl _)] at e1'
      simp at e1'
      rw [hn2, List.getElem?_append_right (Nat.le_refl _)] at e2
      simp at e2
      subst e1' e2
      exact ⟨o, upd_same, r.mono Wd.le_push⟩
  · show (w.at_ ++ [p]).Nodup
    rw [List.nodup_append]
    refine ⟨hw.nd, by simp, fun a ha b hb => ?_⟩
    simp at hb
    subst hb
    exact fun e => f1 (e ▸ ha)
  · have hm' : a ∈ w.at_ ++ [p] := hm
    rcases List.mem_append.mp hm' with hm | hm
    · exact hw.sep a u hm q
    · simp at hm
      subst hm
      exact f2 u q
  · obtain ⟨q1, q2, q3⟩ := hw.rs a u q
    refine ⟨by rw [upd_ne (ne_of_none q1 hp)]; exact q1, fun hm => ?_, q3⟩
    have hm' : a ∈ w.at_ ++ [p] := hm
    rcases List.mem_append.mp hm' with hm | hm
    · exact q2 hm
    · simp at hm
      subst hm
      exact f3 u q
theorem HW.set (hw : HW K w H h) {n : Nat} {a : Addr} {o : HO} {x : LO} (e : w.at_[n]? = some a) (hn : n < h.length) (r : RO (K := K) w o x) : HW K w (upd H a o) (h.set n x) := by
  have hma := List.mem_of_getElem? e
  refine ⟨fun b u q => ?_, by simp [hw.len], fun m b y e1 e2 => ?_, hw.nd, hw.sep, fun b u q => ?_⟩
  · have ne : b ≠ a := by
      rintro rfl
      exact hw.sep b u hma q
    rw [upd_ne ne]
    exact hw.fz b u q
  · by_cases hm : n = m
    · subst hm
      rw [List.getElem?_set_self hn] at e2
      cases e2
      rw [e] at e1
      cases e1
      exact ⟨o, upd_same, r⟩
    · rw [List.getElem?_set_ne hm] at e2
      obtain ⟨u, h1, h2⟩ := hw.ats m b y e1 e2
      have ne : b ≠ a := by
        rintro rfl
        exact hm (nd_ix hw.nd e e1)
      exact ⟨u, by rw [upd_ne ne]; exact h1, h2⟩
  · obtain ⟨q1, q2, q3⟩ := hw.rs b u q
    have ne : b ≠ a := by
      rintro rfl
      exact q2 hma
    exact ⟨by rw [upd_ne ne]; exact q1, q2, q3⟩
/-- an object reserved, and let go -/
def Wd.res (w : Wd) (p : Addr) (o : HO) : Wd := ⟨w.fz, w.at_, fun a u => w.rs a u ∨ (a = p ∧ u = o)⟩
def Wd.unres (w : Wd) (p : Addr) : Wd := ⟨w.fz, w.at_, fun a u => w.rs a u ∧ a ≠ p⟩
theorem Wd.le_res {p : Addr} {o : HO} : w.le (w.res p o) := ⟨fun _ _ h => h, List.prefix_refl _, fun _ _ h => .inl h⟩
theorem Wd.le_unres {w' : Wd} {p : Addr} (l : w.le w') (hp : ∀ o, ¬ w.rs p o) : w.le (w'.unres p) := ⟨l.1, l.2.1, fun a o h => ⟨l.2.2 a o h, fun e => hp o (e ▸ h)⟩⟩
mutual
theorem RV.eqv {w' : Wd} (e1 : w.fz = w'.fz) (e2 : w.at_ = w'.at_) : ∀ {v : V} {d : D}, RV K w v d → RV K w' v d
  | _, _, .non => .non
  | _, _, .bl b => .bl b
  | _, _, .int b => .int b
  | _, _, .str b => .str b
  | _, _, .tup h r => .tup (e1 ▸ h) (RVs.eqv e1 e2 r)
  | _, _, .lst h r => .lst (e1 ▸ h) (RVs.eqv e1 e2 r)
  | _, _, .kst h r => .kst (e1 ▸ h) (RVs.eqv e1 e2 r)
  | _, _, .dct h r => .dct (e1 ▸ h) (RKs.eqv e1 e2 r)
  | _, _, .ref h => .ref (e2 ▸ h)
  | _, _, .st v => .st v
theorem RVs.eqv {w' : Wd} (e1 : w.fz = w'.fz) (e2 : w.at_ = w'.at_) : ∀ {v : List V} {d : List D}, RVs K w v d → RVs K w' v d
  | _, _, .nil => .nil
  | _, _, .cons h r => .cons (RV.eqv e1 e2 h) (RVs.eqv e1 e2 r)
theorem RKs.eqv {w' : Wd} (e1 : w.fz = w'.fz) (e2 : w.at_ = w'.at_) : ∀ {v : List (Key × V)} {d : List (Key × D)}, RKs K w v d → RKs K w' v d
  | _, _, .nil => .nil
  | _, _, .cons h r => .cons (RV.eqv e1 e2 h) (RKs.eqv e1 e2 r)
end
theorem RO.eqv {w' : Wd} (e1 : w.fz = w'.fz) (e2 : w.at_ = w'.at_) {o : HO} {x : LO} (r : RO (K := K) w o x) : RO (K := K) w' o x := by
  cases r with
  | lst r => exact .lst (r.eqv e1 e2)
  | dct r => exact .dct (r.eqv e1 e2)
theorem HW.res (hw : HW K w H h) {p : Addr} {o : HO} (hp : H p = none) : HW K (w.res p o) (upd H p o) h := by
  obtain ⟨f1, f2, f3⟩ := hw.free hp
  refine ⟨fun a u q => ?_, hw.len, fun n a x e1 e2 => ?_, hw.nd, hw.sep, fun a u q => ?_⟩
  · have hq := hw.fz a u q
    rw [upd_ne (ne_of_none hq hp)]; exact hq
  · obtain ⟨u, h1, h2⟩ := hw.ats n a x e1 e2
    exact ⟨u, by rw [upd_ne (ne_of_none h1 hp)]; exact h1, h2.eqv (w := w) (w' := w.res p o) rfl rfl⟩
  · rcases q with q | ⟨rfl, rfl⟩
    · obtain ⟨q1, q2, q3⟩ := hw.rs a u q
      exact ⟨by rw [upd_ne (ne_of_none q1 hp)]; exact q1, q2, q3⟩
    · exact ⟨upd_same, f1, f2⟩
/-- what is reserved changes -/
theorem HW.reset (hw : HW K w H h) {p : Addr} {o : HO} (hp : ∃ u, w.rs p u) : HW K ((w.unres p).res p o) (upd H p o) h := by
  obtain ⟨u0, hp⟩ := hp
  obtain ⟨p1, p2, p3⟩ := hw.rs p u0 hp
  refine ⟨fun a u q => ?_, hw.len, fun n a x e1 e2 => ?_, hw.nd, hw.sep, fun a u q => ?_⟩
  · have ne : a ≠ p := fun e => p3 u (e ▸ q)
    rw [upd_ne ne]; exact hw.fz a u q
  · obtain ⟨u, h1, h2⟩ := hw.ats n a x e1 e2
    have ne : a ≠ p := fun e => p2 (e ▸ List.mem_of_getElem? e1)
    exact ⟨u, by rw [upd_ne ne]; exact h1, h2.eqv (w := w) (w' := (w.unres p).res p o) rfl rfl⟩
  · rcases q with ⟨q, ne⟩ | ⟨rfl, rfl⟩
    · obtain ⟨q1, q2, q3⟩ := hw.rs a u q
      exact ⟨by rw [upd_ne ne]; exact q1, q2, q3⟩
    · exact ⟨upd_same, p2, p3⟩
/-- what was reserved is frozen; or it is one of those that change -/
theorem HW.frz (hw : HW K w H h) {p : Addr} {o : HO} (hp : w.rs p o) : HW K ((w.unres p).add p o) H h := by
  obtain ⟨p1, p2, p3⟩ := hw.rs p o hp
  refine ⟨fun a u q => ?_, hw.len, fun n a x e1 e2 => ?_, hw.nd, fun a u hm q => ?_, fun a u q => ?_⟩
  · rcases q with q | ⟨rfl, rfl⟩
    · exact hw.fz a u q
    · exact p1
  · obtain ⟨u, h1, h2⟩ := hw.ats n a x e1 e2
    exact ⟨u, h1, (h2.eqv (w := w) (w' := w.unres p) rfl rfl).mono Wd.le_add⟩
  · rcases q with q | ⟨rfl, rfl⟩
    · exact hw.sep a u hm q
    · exact p2 hm
  · obtain ⟨q, ne⟩ := q
    obtain ⟨q1, q2, q3⟩ := hw.rs a u q
    refine ⟨q1, q2, fun x z => ?_⟩
    rcases z with z | ⟨rfl, rfl⟩
    · exact q3 x z
    · exact ne rfl
theorem HW.own (hw : HW K w H h) {p : Addr} {o : HO} {x : LO} (hp : w.rs p o) (r : RO (K := K) w o x) : HW K ((w.unres p).push p) H (h ++ [x]) := by
  obtain ⟨p1, p2, p3⟩ := hw.rs p o hp
  have r' : RO (K := K) ((w.unres p).push p) o x := (r.eqv (w := w) (w' := w.unres p) rfl rfl).mono Wd.le_push
  refine ⟨fun a u q => hw.fz a u q, by simp [Wd.push, Wd.unres, hw.len], fun n a y e1 e2 => ?_, ?_, fun a u hm q => ?_, fun a u q => ?_⟩
  · by_cases hn : n < h.length
    · have e1' : w.at_[n]? = some a := by
        have : (w.at_ ++ [p])[n]? = some a := e1
        rwa [List.getElem?_append_left (by rw [hw.len]; exact hn)] at this
      rw [List.getElem?_append_left hn] at e2
      obtain ⟨u, h1, h2⟩ := hw.ats n a y e1' e2
      exact ⟨u, h1, (h2.eqv (w := w) (w' := w.unres p) rfl rfl).mono Wd.le_push⟩
    · have hn2 : n = h.length := by
        have := (List.getElem?_eq_some_iff.mp e2).1
        simp at this
        omega
      have e1' : (w.at_ ++ [p])[n]? = some a := e1
      rw [hn2, ← hw.len, List.getElem?_append_right (Nat.le_refl _)] at e1'
      simp at e1'
      rw [hn2, List.getElem?_append_right (Nat.le_refl _)] at e2
      simp at e2
      subst e1' e2
      exact ⟨o, p1, r'⟩
  · show (w.at_ ++ [p]).Nodup
    rw [List.nodup_append]
    refine ⟨hw.nd, by simp, fun a ha b hb => ?_⟩
    simp at hb
    subst hb
    exact fun e => p2 (e ▸ ha)
  · have hm' : a ∈ w.at_ ++ [p] := hm
    rcases List.mem_append.mp hm' with hm | hm
    · exact hw.sep a u hm q
    · simp at hm
      subst hm
      exact p3 u q
  · obtain ⟨q, ne⟩ := q
    obtain ⟨q1, q2, q3⟩ := hw.rs a u q
    refine ⟨q1, fun hm => ?_, q3⟩
    have hm' : a ∈ w.at_ ++ [p] := hm
    rcases List.mem_append.mp hm' with hm | hm
    · exact q2 hm
    · simp at hm
      exact ne hm
/-! what follows a new object -/
theorem Pv.tup {Q : VK} {ds : List D} {vs : List V} {p : Addr} (q : Pv K w Q (.tup ds) h) (hw : HW K w H h) (r : RVs K w vs ds) (hp : H p = none) : Q (.ref p) (upd H p (.tup vs)) :=
  q _ _ _ Wd.le_add (.tup (.inl (.inr ⟨rfl, rfl⟩)) (r.mono Wd.le_add)) (hw.add hp)
theorem Pv.lst {Q : VK} {ds : List D} {vs : List V} {p : Addr} (q : Pv K w Q (.lst ds) h) (hw : HW K w H h) (r : RVs K w vs ds) (hp : H p = none) : Q (.ref p) (upd H p (.lst vs)) :=
  q _ _ _ Wd.le_add (.lst (.inr ⟨rfl, rfl⟩) (r.mono Wd.le_add)) (hw.add hp)
theorem Pv.new {Q : VK} {ds : List D} {vs : List V} {p : Addr} (q : Pv K w Q (.ref h.length) (h ++ [.lst ds])) (hw : HW K w H h) (r : RVs K w vs ds) (hp : H p = none) : Q (.ref p) (upd H p (.lst vs)) :=
  q _ _ _ Wd.le_push (.ref (by show (w.at_ ++ [p])[h.length]? = some p; rw [← hw.len]; simp)) (hw.push hp (.lst r))
theorem Pv.here {Q : VK} {d : D} {v : V} (q : Pv K w Q d h) (hw : HW K w H h) (r : RV K w v d) : Q v H := q w v H (.refl w) r hw
end

/-! ### operators: by the two values -/
abbrev O2 := LH → D → D → Option D
def rO (K : PySem.W.Frag) (g : O2) : R2 := fun x y H Q => ∃ w h dx dy d, RV K w x dx ∧ RV K w y dy ∧ HW K w H h ∧ g h dx dy = some d ∧ Pv K w Q d h
def OD (X : Cx) (f : Value → Value → Sem Value) (g : O2) : Prop := OpR X f (rO X.K g)
def mOp (g : O2) (a b : EM) : EM := fun s h => (a s h).bind fun x h1 => (b s h1).bind fun y h2 => match g h2 x y with
  | some d => .ok d h2
  | none => .no
section
variable {X : Cx} {W : WX} {a b c : Expr} {ma mb mc : EM} {pos : Pos}
theorem te_op {K : PySem.W.Frag} {g : O2} {σ : St} {H : Hp} {Q : VK} (q : TE_ K W (mOp g ma mb) σ H Q) : tOp (rO K g) (TE_ K W ma) (TE_ K W mb) σ H Q := by
  obtain ⟨w, s, h, rs, hw, q⟩ := q
  refine ⟨w, s, h, rs, hw, WpE.bind (G := WpE K w Q _) q (fun _ _ z => z) (fun z => z) fun x h1 w1 v H1 l1 rx hw1 q1 => ?_⟩
  refine ⟨w1, s, h1, rs.mono l1, hw1, WpE.bind (G := WpE K w Q _) q1 (fun _ _ z => Px.mono l1 z) (fun z => z) fun y h2 w2 u H2 l2 ry hw2 q2 => ?_⟩
  split at q2
  · rename_i d e
    exact ⟨w2, h2, x, y, d, rx.mono l2, ry, hw2, e, fun w3 z H3 l3 => q2 w3 z H3 ((l1.trans l2).trans l3)⟩
  · exact q2.elim
theorem d_op {op : Operator} {g : O2} (ho : OD X (binaryOp op) g) (ha : DE X W a ma) (hb : DE X W b mb) : DE X W (.BinOp a op b pos) (mOp g ma mb) := PE.imp (pe_op ho ha hb) fun _ _ _ q => te_op q
theorem d_cmp {op : CmpOp} {g : O2} (ho : OD X (compareOp op) g) (ha : DE X W a ma) (hb : DE X W b mb) (hm : behindInMarks op b = false) : DE X W (.Compare a [op] [b] pos) (mOp g ma mb) := PE.imp (pe_cmpR ho ha hb hm) fun _ _ _ q => te_op q

/-! ### tests -/
def toB (r : R D) : R Bool := match r with
  | .ok (.bl k) h => .ok k h
  | .ok _ _ => .no
  | .ex x h => .ex x h
  | .no => .no
def mTest (m : EM) : BM := fun s h => toB (m s h)
theorem wpb_toB {K : PySem.W.Frag} {w : Wd} {Q : Bool → Hp → Prop} {E : XK} {r : R D} (q : WpB K w Q E (toB r)) : WpE K w (fun v H => ∃ k, v = .bl k ∧ Q k H) E r := by
  unfold toB at q
  split at q
  · rename_i k h
    intro w' v H' l rv hw
    cases rv with
    | bl k => exact ⟨k, rfl, q w' H' l hw⟩
  · exact q.elim
  · exact q
  · exact q.elim
theorem te_test {K : PySem.W.Frag} {m : EM} {σ : St} {H : Hp} {Q : Bool → Hp → Prop} (q : TB_ K W (mTest m) σ H Q) : tTest (TE_ K W m) σ H Q := by
  obtain ⟨w, s, h, rs, hw, q⟩ := q
  exact ⟨w, s, h, rs, hw, wpb_toB q⟩
theorem dt_cmp {op : CmpOp} {g : O2} (ho : OD X (compareOp op) g) (ha : DE X W a ma) (hb : DE X W b mb) (hm : behindInMarks op b = false) : DT X W (.Compare a [op] [b] pos) (mTest (mOp g ma mb)) := PT.imp (pt_cmpR ho ha hb hm) fun σ H Q q => by
  obtain ⟨w, s, h, rs, hw, q⟩ := te_test q
  exact te_op ⟨w, s, h, rs, hw, q⟩
/-- an expression whose value is a truth, as a test -/
theorem dt_val {e : Expr} {m : EM} (he : DE X W e m) (hp : ∀ whole, isTrue e X.env whole = (do let v ← whole; standAt e.pos; holding [v] (truthy v)) := by intro _; rfl) : DT X W e (mTest m) := PT.imp (pt_val he hp) fun σ H Q q => te_test q
def mNotT (m : BM) : BM := fun s h => (m s h).bind fun k h => .ok (!k) h
theorem dt_not {m : BM} (ha : DT X W a m) : DT X W (.UnaryOp .Not a pos) (mNotT m) := PT.imp (pt_not ha) fun σ H Q ⟨w, s, h, rs, hw, q⟩ =>
  ⟨w, s, h, rs, hw, WpB.bind (G := WpB X.K w Q _) q (fun _ _ z => z) (fun z => z) fun k h1 w1 H1 l hw1 q1 => q1 w1 H1 l hw1⟩
def mAndT (m n : BM) : BM := fun s h => (m s h).bind fun k h1 => if k = true then n s h1 else .ok false h1
def mOrT (m n : BM) : BM := fun s h => (m s h).bind fun k h1 => if k = true then .ok true h1 else n s h1
variable {rest : List Expr} {m n : BM}
theorem dw_and1 (ha : DT X W a m) : DW X W (.BoolOp .And [a] pos) m := pw_and1 ha
theorem dw_or1 (ha : DT X W a m) : DW X W (.BoolOp .Or [a] pos) m := pw_or1 ha
theorem dw_and (ha : DT X W a m) (hb : DW X W (.BoolOp .And (b :: rest) pos) n) : DW X W (.BoolOp .And (a :: b :: rest) pos) (mAndT m n) := PW.imp (pw_and ha hb) fun σ H Q ⟨w, s, h, rs, hw, q⟩ =>
  ⟨w, s, h, rs, hw, WpB.bind (G := WpB X.K w Q _) q (fun _ _ z => z) (fun z => z) fun k h1 w1 H1 l hw1 q1 => by
    cases k with
    | true => exact iteT ⟨w1, s, h1, rs.mono l, hw1, WpB.mono l q1⟩
    | false => exact iteF (q1 w1 H1 l hw1)⟩
theorem dw_or (ha : DT X W a m) (hb : DW X W (.BoolOp .Or (b :: rest) pos) n) : DW X W (.BoolOp .Or (a :: b :: rest) pos) (mOrT m n) := PW.imp (pw_or ha hb) fun σ H Q ⟨w, s, h, rs, hw, q⟩ =>
  ⟨w, s, h, rs, hw, WpB.bind (G := WpB X.K w Q _) q (fun _ _ z => z) (fun z => z) fun k h1 w1 H1 l hw1 q1 => by
    cases k with
    | true => exact iteT (q1 w1 H1 l hw1)
    | false => exact iteF ⟨w1, s, h1, rs.mono l, hw1, WpB.mono l q1⟩⟩
theorem dt_w {e : Expr} (h : DW X W e m) : DT X W e m := PW.pt h
/-! .. as values -/
def mAndV (m n : EM) : EM := fun s h => (m s h).bind fun k h1 => match k with
  | .bl true => n s h1
  | .bl false => .ok (.bl false) h1
  | _ => .no
def mOrV (m n : EM) : EM := fun s h => (m s h).bind fun k h1 => match k with
  | .bl true => .ok (.bl true) h1
  | .bl false => n s h1
  | _ => .no
theorem d_one {op} {m : EM} (h : DE X W a m) : DE X W (.BoolOp op [a] pos) m := pe_one h
theorem d_and (ha : DE X W a ma) (hb : DE X W (.BoolOp .And (b :: rest) pos) mb) : DE X W (.BoolOp .And (a :: b :: rest) pos) (mAndV ma mb) := PE.imp (pe_and ha hb) fun σ H Q ⟨w, s, h, rs, hw, q⟩ =>
  ⟨w, s, h, rs, hw, WpE.bind (G := WpE X.K w Q _) q (fun _ _ z => z) (fun z => z) fun k h1 w1 v H1 l rv hw1 q1 => by
    split at q1
    · cases rv
      exact ⟨true, rfl, iteT ⟨w1, s, h1, rs.mono l, hw1, WpE.mono l q1⟩⟩
    · cases rv
      exact ⟨false, rfl, iteF (q1 w1 _ H1 l (.bl false) hw1)⟩
    · exact q1.elim⟩
theorem d_or (ha : DE X W a ma) (hb : DE X W (.BoolOp .Or (b :: rest) pos) mb) : DE X W (.BoolOp .Or (a :: b :: rest) pos) (mOrV ma mb) := PE.imp (pe_or ha hb) fun σ H Q ⟨w, s, h, rs, hw, q⟩ =>
  ⟨w, s, h, rs, hw, WpE.bind (G := WpE X.K w Q _) q (fun _ _ z => z) (fun z => z) fun k h1 w1 v H1 l rv hw1 q1 => by
    split at q1
    · cases rv
      exact ⟨true, rfl, iteT (q1 w1 _ H1 l (.bl true) hw1)⟩
    · cases rv
      exact ⟨false, rfl, iteF ⟨w1, s, h1, rs.mono l, hw1, WpE.mono l q1⟩⟩
    · exact q1.elim⟩
def mNotV (m : EM) : EM := fun s h => (m s h).bind fun k h1 => match k with
  | .bl k => .ok (.bl (!k)) h1
  | _ => .no
theorem d_not (ha : DE X W a ma) : DE X W (.UnaryOp .Not a pos) (mNotV ma) := PE.imp (pe_not ha) fun σ H Q ⟨w, s, h, rs, hw, q⟩ =>
  ⟨w, s, h, rs, hw, WpE.bind (G := WpE X.K w Q _) q (fun _ _ z => z) (fun z => z) fun k h1 w1 v H1 l rv hw1 q1 => by
    split at q1
    · cases rv
      exact ⟨_, rfl, q1 w1 _ H1 l (.bl _) hw1⟩
    · exact q1.elim⟩
def mIf (c : BM) (a b : EM) : EM := fun s h => (c s h).bind fun k h1 => if k = true then a s h1 else b s h1
theorem d_if {c : Expr} (hc : DT X W c m) (ha : DE X W a ma) (hb : DE X W b mb) : DE X W (.IfExp c a b pos) (mIf m ma mb) := PE.imp (pe_ifExp hc ha hb) fun σ H Q ⟨w, s, h, rs, hw, q⟩ =>
  ⟨w, s, h, rs, hw, WpB.bind (G := WpE X.K w Q _) q (fun _ _ z => z) (fun z => z) fun k h1 w1 H1 l hw1 q1 => by
    cases k with
    | true => exact iteT ⟨w1, s, h1, rs.mono l, hw1, WpE.mono l q1⟩
    | false => exact iteF ⟨w1, s, h1, rs.mono l, hw1, WpE.mono l q1⟩⟩
/-- a < b < c -/
def mChain (g g' : O2) (a b c : EM) : EM := fun s h => (a s h).bind fun x h1 => (b s h1).bind fun y h2 => match g h2 x y with
  | some (.bl true) => (c s h2).bind fun z h3 => match g' h3 y z with
    | some d => .ok d h3
    | none => .no
  | some (.bl false) => .ok (.bl false) h2
  | _ => .no
theorem te_chain {K : PySem.W.Frag} {g g' : O2} {σ : St} {H : Hp} {Q : VK} (q : TE_ K W (mChain g g' ma mb mc) σ H Q) : tChain (rO K g) (rO K g') (TE_ K W ma) (TE_ K W mb) (TE_ K W mc) σ H Q := by
  obtain ⟨w, s, h, rs, hw, q⟩ := q
  refine ⟨w, s, h, rs, hw, WpE.bind (G := WpE K w Q _) q (fun _ _ z => z) (fun z => z) fun x h1 w1 v H1 l1 rx hw1 q1 => ?_⟩
  refine ⟨w1, s, h1, rs.mono l1, hw1, WpE.bind (G := WpE K w Q _) q1 (fun _ _ z => Px.mono l1 z) (fun z => z) fun y h2 w2 u H2 l2 ry hw2 q2 => ?_⟩
  split at q2
  · rename_i e
    refine ⟨w2, h2, x, y, .bl true, rx.mono l2, ry, hw2, e, fun w3 z H3 l3 rz hw3 => ?_⟩
    cases rz
    refine ⟨true, rfl, iteT ⟨w3, s, h2, rs.mono ((l1.trans l2).trans l3), hw3, WpE.bind (G := WpE K w Q _) q2 (fun _ _ z => Px.mono ((l1.trans l2).trans l3) z) (fun z => z) fun z h4 w4 t H4 l4 rt hw4 q4 => ?_⟩⟩
    split at q4
    · rename_i d e'
      exact ⟨w4, h4, y, z, d, ry.mono (l3.trans l4), rt, hw4, e', fun w5 z5 H5 l5 => q4 w5 z5 H5 ((((l1.trans l2).trans l3).trans l4).trans l5)⟩
    · exact q4.elim
  · rename_i e
    refine ⟨w2, h2, x, y, .bl false, rx.mono l2, ry, hw2, e, fun w3 z H3 l3 rz hw3 => ?_⟩
    cases rz
    exact ⟨false, rfl, iteF (q2 w3 _ H3 ((l1.trans l2).trans l3) (.bl false) hw3)⟩
  · exact q2.elim
theorem d_chain {op op' : CmpOp} {g g' : O2} (ho : OD X (compareOp op) g) (ho' : OD X (compareOp op') g') (ha : DE X W a ma) (hb : DE X W b mb) (hc : DE X W c mc) (hm : lastMarks [op, op'] [b, c] = false := by with_unfolding_all rfl) :
    DE X W (.Compare a [op, op'] [b, c] pos) (mChain g g' ma mb mc) := PE.imp (pe_chain ho ho' ha hb hc hm) fun _ _ _ q => te_chain q
theorem dt_chain {op op' : CmpOp} {g g' : O2} (ho : OD X (compareOp op) g) (ho' : OD X (compareOp op') g') (ha : DE X W a ma) (hb : DE X W b mb) (hc : DE X W c mc) (hm : lastMarks [op, op'] [b, c] = false := by with_unfolding_all rfl) :
    DT X W (.Compare a [op, op'] [b, c] pos) (mTest (mChain g g' ma mb mc)) := PT.imp (pt_chain ho ho' ha hb hc hm) fun σ H Q q => by
  obtain ⟨w, s, h, rs, hw, q⟩ := te_test q
  exact te_chain ⟨w, s, h, rs, hw, q⟩
/-! ### argument lists, displays -/
def aNil : AM := fun _ h => .ok [] h
def aCons (m : EM) (r : AM) : AM := fun s h => (m s h).bind fun x h1 => (r s h1).bind fun xs h2 => .ok (x :: xs) h2
variable {es : List Expr} {e : Expr} {me : EM} {mr : AM}
theorem da_nil : DA X W [] aNil := PA.imp pa_nil fun σ H Q ⟨w, s, h, rs, hw, q⟩ => q w [] H (.refl w) .nil hw
theorem da_cons (ha : DE X W e me) (hr : DA X W es mr) (hs : starEach (e :: es) X.env = (false, eval e X.env) :: starEach es X.env := by rfl) : DA X W (e :: es) (aCons me mr) := PA.imp (pa_cons ha hr hs) fun σ H Q ⟨w, s, h, rs, hw, q⟩ =>
  ⟨w, s, h, rs, hw, WpE.bind (G := WpA X.K w Q _) q (fun _ _ z => z) (fun z => z) fun x h1 w1 v H1 l1 rv hw1 q1 =>
    ⟨w1, s, h1, rs.mono l1, hw1, WpA.bind (G := WpA X.K w Q _) q1 (fun _ _ z => Px.mono l1 z) (fun z => z) fun y h2 w2 u H2 l2 ru hw2 q2 => q2 w2 _ H2 (l1.trans l2) (.cons (rv.mono l2) ru) hw2⟩⟩
def small (n : Nat) : Bool := decide (n ≤ sizeLine)
def mTup (m : AM) : EM := fun s h => (m s h).bind fun l h1 => if small l.length = true then .ok (.tup l) h1 else .no
/-- a list that is never changed; a new one that may be -/
def mLst (m : AM) : EM := fun s h => (m s h).bind fun l h1 => if small l.length = true then .ok (.lst l) h1 else .no
def mNew (m : AM) : EM := fun s h => (m s h).bind fun l h1 => if small l.length = true then .ok (.ref h1.length) (h1 ++ [.lst l]) else .no
theorem small_le {n : Nat} (e : small n = true) : n ≤ sizeLine := of_decide_eq_true e
theorem d_tup {x1} {m : AM} (ha : DA X W es m) : DE X W (.Tuple es x1 pos) (mTup m) := PE.imp (pe_tup ha) fun σ H Q ⟨w, s, h, rs, hw, q⟩ =>
  ⟨w, s, h, rs, hw, WpA.bind (G := WpE X.K w Q _) q (fun _ _ z => z) (fun z => z) fun l h1 w1 v H1 l1 rv hw1 q1 => by
    split at q1
    · rename_i e
      exact ⟨by rw [rv.length]; exact small_le e, fun p hp => Pv.tup (fun w3 z H3 l3 => q1 w3 z H3 (l1.trans l3)) hw1 rv hp⟩
    · exact q1.elim⟩
theorem d_lst {m : AM} (ha : DA X W es m) : DE X W (.List es pos) (mLst m) := PE.imp (pe_lst ha) fun σ H Q ⟨w, s, h, rs, hw, q⟩ =>
  ⟨w, s, h, rs, hw, WpA.bind (G := WpE X.K w Q _) q (fun _ _ z => z) (fun z => z) fun l h1 w1 v H1 l1 rv hw1 q1 => by
    split at q1
    · rename_i e
      exact ⟨by rw [rv.length]; exact small_le e, fun p hp => Pv.lst (fun w3 z H3 l3 => q1 w3 z H3 (l1.trans l3)) hw1 rv hp⟩
    · exact q1.elim⟩
theorem d_new {m : AM} (ha : DA X W es m) : DE X W (.List es pos) (mNew m) := PE.imp (pe_lst ha) fun σ H Q ⟨w, s, h, rs, hw, q⟩ =>
  ⟨w, s, h, rs, hw, WpA.bind (G := WpE X.K w Q _) q (fun _ _ z => z) (fun z => z) fun l h1 w1 v H1 l1 rv hw1 q1 => by
    split at q1
    · rename_i e
      exact ⟨by rw [rv.length]; exact small_le e, fun p hp => Pv.new (fun w3 z H3 l3 => q1 w3 z H3 (l1.trans l3)) hw1 rv hp⟩
    · exact q1.elim⟩
end
end DN
namespace DN
open PySem L2

/-! ### data as plain data -/
mutual
def pyG (g : Nat → Option PyData) : D → Option PyData
  | .non => some .none
  | .bl b => some (.bool b)
  | .int i => some (.int i)
  | .str s => some (.str s)
  | .tup l => (pyGs g l).map .tuple
  | .lst l => (pyGs g l).map .list
  | .kst l => (pyGs g l).map .list
  | .dct _ => none
  | .ref n => g n
  | .st _ => none
def pyGs (g : Nat → Option PyData) : List D → Option (List PyData)
  | [] => some []
  | d :: ds => (pyG g d).bind fun p => (pyGs g ds).map (p :: ·)
end
def pyN : Nat → LH → Nat → Option PyData
  | 0, _, _ => none
  | n + 1, h, k => match h[k]? with
    | some (.lst l) => (pyGs (pyN n h) l).map .list
    | _ => none
def py (h : LH) (d : D) : Option PyData := pyG (pyN 6 h) d
section
variable {K : PySem.W.Frag} {w : Wd} {H : Hp} {h : LH}
mutual
theorem pyG_ok {g : Nat → Option PyData} (hw : HW K w H h) (hg : ∀ n a p, w.at_[n]? = some a → g n = some p → Dp K H (.ref a) p) : ∀ (d : D) (v : V) (p : PyData), RV K w v d → pyG g d = some p → Dp K H v p
  | .non, _, _, .non, e => by cases e; exact .non
  | .bl _, _, _, .bl _, e => by cases e; exact .bl _
  | .int _, _, _, .int _, e => by cases e; exact .int _
  | .str _, _, _, .str _, e => by cases e; exact .str _
  | .tup l, _, _, .tup q r, e => by
    simp only [pyG, Option.map_eq_some_iff] at e
    obtain ⟨ps, e1, rfl⟩ := e
    exact .tup (q.elim (fun z => .inl (.inl (hw.fz _ _ z))) .inr) (pyGs_ok hw hg l _ _ r e1)
  | .lst l, _, _, .lst q r, e => by
    simp only [pyG, Option.map_eq_some_iff] at e
    obtain ⟨ps, e1, rfl⟩ := e
    exact .lst (.inl (.inl (hw.fz _ _ q))) (pyGs_ok hw hg l _ _ r e1)
  | .kst l, _, _, .kst q r, e => by
    simp only [pyG, Option.map_eq_some_iff] at e
    obtain ⟨ps, e1, rfl⟩ := e
    refine .lst ?_ (pyGs_ok hw hg l _ _ r e1)
    rcases q with ⟨o, q⟩ | q
    · exact .inl (.inr ⟨o, hw.fz _ _ q⟩)
    · exact .inr q
  | .ref n, _, _, .ref q, e => hg _ _ _ q (by simpa only [pyG] using e)
theorem pyGs_ok {g : Nat → Option PyData} (hw : HW K w H h) (hg : ∀ n a p, w.at_[n]? = some a → g n = some p → Dp K H (.ref a) p) : ∀ (d : List D) (v : List V) (p : List PyData), RVs K w v d → pyGs g d = some p → DpAll K H v p
  | [], _, _, .nil, e => by cases e; exact .nil
  | d :: ds, _, _, .cons r rs, e => by
    simp only [pyGs, Option.bind_eq_some_iff, Option.map_eq_some_iff] at e
    obtain ⟨p, e1, ps, e2, rfl⟩ := e
    exact .cons (pyG_ok hw hg d _ _ r e1) (pyGs_ok hw hg ds _ _ rs e2)
end
theorem pyN_ok (hw : HW K w H h) : ∀ (m n : Nat) (a : Addr) (p : PyData), w.at_[n]? = some a → pyN m h n = some p → Dp K H (.ref a) p
  | 0, _, _, _, _, e => by cases e
  | m + 1, n, a, p, q, e => by
    unfold pyN at e
    split at e
    · rename_i l e'
      simp only [Option.map_eq_some_iff] at e
      obtain ⟨ps, e1, rfl⟩ := e
      obtain ⟨a', o, h1, h2, h3⟩ := hw.get e'
      rw [q] at h1
      cases h1
      cases h3 with
      | lst r => exact .lst (.inl (.inl h2)) (pyGs_ok hw (pyN_ok hw m) l _ _ r e1)
    · cases e
theorem py_ok (hw : HW K w H h) {d : D} {v : V} {p : PyData} (r : RV K w v d) (e : py h d = some p) : Dp K H v p := pyG_ok hw (pyN_ok hw 6) d v p r e
end

/-! ### arithmetic -/
def oAdd : O2 := fun h x y => match x, y with
  | .int i, .int j => some (.int (i + j))
  | .str i, .str j => if small (i.length + j.length) = true then some (.str (i ++ j)) else none
  | .tup i, .tup j => if small (i.length + j.length) = true then some (.tup (i ++ j)) else none
  | x, y => (catL h x).bind fun i => (catL h y).bind fun j => if small (i.length + j.length) = true then some (.lst (i ++ j)) else none
def oSub : O2 := fun _ x y => match x, y with
  | .int i, .int j => some (.int (i - j))
  | _, _ => none
/-- a text times an int -/
def sRep (x : Str) (j : Int) : Str := if j < 1 then Str.empty else if (j == 1 || x.length == 0) = true then x else ⟨(List.replicate j.toNat x.cps).foldl (· ++ ·) #[]⟩
/-- a * n: ints, texts, lists and tuples -/
def oMul : O2 := fun h x y => match x, y with
  | .int i, .int j => if decide (i.natAbs.log2 + j.natAbs.log2 < 1000000) = true then some (.int (i * j)) else none
  | .tup i, .int j => if decide (i ≠ [] ∧ 2 ≤ j ∧ j ≤ 1000 ∧ i.length ≤ 1000) = true then some (.tup (List.replicate j.toNat i).flatten) else none
  | .str x, .int j => if decide (-1000000 ≤ j ∧ j ≤ 1000000 ∧ x.length ≤ 1000000 ∧ x.length * j.toNat ≤ sizeLine ∧ (sRep x j).length ≤ sizeLine) = true then some (.str (sRep x j)) else none
  | x, .int j => (catL h x).bind fun i => if decide (-(2 ^ 63) ≤ j ∧ j < 2 ^ 63 ∧ i.length * j.toNat ≤ sizeLine) = true then some (.lst (List.replicate j.toNat i).flatten) else none
  | _, _ => none
def oDiv : O2 := fun _ x y => match x, y with
  | .int i, .int j => if decide (0 < j ∧ j.natAbs.log2 < 9000) = true then some (.int (i / j)) else none
  | _, _ => none
def oMod : O2 := fun _ x y => match x, y with
  | .int i, .int j => if decide (0 < j) = true then some (.int (i % j)) else none
  | _, _ => none
def oPow : O2 := fun _ x y => match x, y with
  | .int i, .int j => if decide (0 ≤ j ∧ j ≤ 1000000 ∧ i.natAbs < 2 ^ 64) = true then some (.int (i ^ j.toNat)) else none
  | _, _ => none
def oCmpI (p : Int → Int → Bool) (q : List Nat → List Nat → Bool) : O2 := fun _ x y => match x, y with
  | .int i, .int j => some (.bl (p i j))
  | .str i, .str j => some (.bl (q i.cps.toList j.cps.toList))
  | _, _ => none
def oLt : O2 := oCmpI (fun i j => decide (i < j)) (fun i j => decide (i < j))
def oLe : O2 := oCmpI (fun i j => decide (i ≤ j)) (fun i j => !decide (j < i))
def oGt : O2 := oCmpI (fun i j => decide (j < i)) (fun i j => decide (j < i))
def oGe : O2 := oCmpI (fun i j => decide (j ≤ i)) (fun i j => !decide (i < j))
def oEq : O2 := fun h x y => match x, y with
  | .str a, .str b => some (.bl (a == b))
  | x, y => (py h x).bind fun p => (py h y).bind fun q => if (SeqAt.shaped p && SeqAt.shaped q) = true then some (.bl (PyData.eqv p q)) else none
def oNe : O2 := fun h x y => match x, y with
  | .str a, .str b => some (.bl (!(a == b)))
  | x, y => (py h x).bind fun p => (py h y).bind fun q => if (SeqAt.shaped p && SeqAt.shaped q) = true then some (.bl (!PyData.eqv p q)) else none
/-- in: a sign in a text; a text in a text; data in a list -/
def isIn (h : LH) (x y : D) : Option Bool := match x, y with
  | .str i, .str j => if decide (i.cps.size = 1) = true then some (decide (i.cps.getD 0 0 ∈ j.cps.toList)) else some (!(Builtin.Str.occurrences j i 0 j.length 1).isEmpty)
  | x, .tup l => (flatOf x).bind fun a => (flatsOf l).map fun b => inV a b
  | x, y => (py h x).bind fun p => (py h y).bind fun q => match q with
    | .list ds => if (SeqAt.shaped p && SeqAt.shaped (.list ds)) = true then some (ds.any fun z => PyData.eqv z p) else none
    | _ => none
where
  flatOf : D → Option V
    | .non => some .non
    | .bl b => some (.bl b)
    | .int i => some (.int i)
    | .str s => some (.str s)
    | _ => none
  flatsOf : List D → Option (List V)
    | [] => some []
    | d :: ds => (flatOf d).bind fun v => (flatsOf ds).map (v :: ·)
def oIn : O2 := fun h x y => (isIn h x y).map .bl
def oNotIn : O2 := fun h x y => (isIn h x y).map fun b => .bl (!b)
def oIs : O2 := fun _ x y => match x, y with
  | x, .non => match x with
    | .non => some (.bl true)
    | .st _ => none
    | _ => some (.bl false)
  | .bl a, .bl b => some (.bl (decide (a = b)))
  | _, _ => none
def oIsNot : O2 := fun h x y => match oIs h x y with
  | some (.bl b) => some (.bl (!b))
  | _ => none

section
variable {X : Cx}
theorem rep_ok {K : PySem.W.Frag} {w : Wd} {vs : List V} {ds : List D} (r : RVs K w vs ds) : ∀ n : Nat, RVs K w (List.replicate n vs).flatten (List.replicate n ds).flatten
  | 0 => .nil
  | n + 1 => by
    rw [List.replicate_succ, List.replicate_succ, List.flatten_cons, List.flatten_cons]
    exact r.append (rep_ok r n)
theorem rvs_nil {K : PySem.W.Frag} {w : Wd} {vs : List V} {ds : List D} (r : RVs K w vs ds) : vs = [] ↔ ds = [] := by
  cases r <;> simp
theorem od_add : OD X (binaryOp .Add) oAdd := by
  intro pins s σ H x y v u Q I rx ry ⟨w, h, dx, dy, d, r1, r2, hw, e, q⟩
  unfold oAdd at e
  split at e
  · cases r1; cases r2; cases e
    exact op_add pins s σ H _ _ v u Q I rx ry ⟨_, _, rfl, rfl, Pv.here q hw (.int _)⟩
  · cases r1; cases r2
    split at e
    · rename_i z
      cases e
      exact op_add_str pins s σ H _ _ v u Q I rx ry ⟨_, _, rfl, rfl, small_le z, Pv.here q hw (.str _)⟩
    · cases e
  · rename_i i j
    split at e
    · rename_i z
      cases e
      obtain ⟨a, vs, rfl, s1, q1⟩ := seqT_ok hw r1 (l := i) rfl
      obtain ⟨b, us, rfl, s2, q2⟩ := seqT_ok hw r2 (l := j) rfl
      refine op_catA pins s σ H _ _ v u Q I rx ry ⟨a, b, vs, us, rfl, rfl, s1, s2, by rw [q1.length, q2.length]; exact small_le z, fun e0 => ?_, fun _ e0 => ?_, fun _ _ p hp => Pv.tup q hw (q1.append q2) hp⟩
      · have e1 := (rvs_nil q1).mp e0
        subst e1
        exact Pv.here q hw r2
      · have e1 := (rvs_nil q2).mp e0
        subst e1
        rw [List.append_nil] at q
        exact Pv.here q hw r1
    · cases e
  · simp only [Option.bind_eq_some_iff] at e
    obtain ⟨i, e1, j, e2, e3⟩ := e
    split at e3
    · rename_i z
      cases e3
      obtain ⟨a, vs, rfl, s1, q1⟩ := catL_ok hw r1 e1
      obtain ⟨b, us, rfl, s2, q2⟩ := catL_ok hw r2 e2
      exact op_cat pins s σ H _ _ v u Q I rx ry ⟨a, b, vs, us, rfl, rfl, s1, s2, by rw [q1.length, q2.length]; exact small_le z, fun p hp => Pv.lst q hw (q1.append q2) hp⟩
    · cases e3
theorem od_sub : OD X (binaryOp .Sub) oSub := by
  intro pins s σ H x y v u Q I rx ry ⟨w, h, dx, dy, d, r1, r2, hw, e, q⟩
  unfold oSub at e
  split at e
  · cases r1; cases r2; cases e
    exact op_sub pins s σ H _ _ v u Q I rx ry ⟨_, _, rfl, rfl, Pv.here q hw (.int _)⟩
  · cases e
theorem op_mul_str {X : Cx} : OpR X (binaryOp .Mult) (fun x y H Q => ∃ (i : Str) (j : Int), x = .str i ∧ y = .int j ∧ -1000000 ≤ j ∧ j ≤ 1000000 ∧ i.length ≤ 1000000 ∧ i.length * j.toNat ≤ sizeLine ∧ (sRep i j).length ≤ sizeLine ∧ Q (.str (sRep i j)) H) := by
  intro pins s σ H x y v u Q I rx ry h
  obtain ⟨i, j, rfl, rfl, z1, z2, z3, z4, z5, q⟩ := h
  obtain ⟨t, rfl⟩ := rx
  obtain ⟨t', rfl⟩ := ry
  refine PySem.P.mul_str (by rw [decide_eq_false (by omega), decide_eq_false (by omega)]; rfl) (fun h1 h2 => ?_) (fun _ _ => ?_) ?_
  · have hj : 0 < j := by omega
    have h3 : (1000000 : Int) ≤ (2 ^ 63 - 1) / j := by
      rw [Int.le_ediv_iff_mul_le hj]
      omega
    omega
  · unfold Builtin.Str.tooLong
    exact decide_eq_false (by omega)
  · unfold sRep at z5 q
    split
    · rename_i c
      rw [if_pos c] at q
      exact ⟨by decide, .str _, H, I.tok _, ⟨_, rfl⟩, q⟩
    · rename_i c
      rw [if_neg c] at q z5
      split
      · rename_i c2
        rw [if_pos c2] at q
        exact ⟨.str _, H, I, ⟨_, rfl⟩, q⟩
      · rename_i c2
        rw [if_neg c2] at q z5
        exact ⟨z5, .str _, H, I.tok _, ⟨_, rfl⟩, q⟩
theorem od_mul : OD X (binaryOp .Mult) oMul := by
  intro pins s σ H x y v u Q I rx ry ⟨w, h, dx, dy, d, r1, r2, hw, e, q⟩
  unfold oMul at e
  split at e
  · cases r1; cases r2
    split at e
    · rename_i z
      cases e
      have z := of_decide_eq_true z
      exact op_mulW pins s σ H _ _ v u Q I rx ry ⟨_, _, rfl, rfl, z, Pv.here q hw (.int _)⟩
    · cases e
  · rename_i i j
    cases r2
    split at e
    · rename_i z
      cases e
      obtain ⟨z1, z2, z3, z4⟩ := of_decide_eq_true z
      obtain ⟨a, vs, rfl, s1, q1⟩ := seqT_ok hw r1 (l := i) rfl
      exact op_repT pins s σ H _ _ v u Q I rx ry ⟨a, j, vs, rfl, rfl, s1, fun e0 => z1 ((rvs_nil q1).mp e0), z2, z3, by rw [q1.length]; exact z4, fun p hp => Pv.tup q hw (rep_ok q1 _) hp⟩
    · cases e
  · rename_i x j
    cases r1; cases r2
    split at e
    · rename_i z
      cases e
      obtain ⟨z1, z2, z3, z4, z5⟩ := of_decide_eq_true z
      exact op_mul_str pins s σ H _ _ v u Q I rx ry ⟨_, _, rfl, rfl, z1, z2, z3, z4, z5, Pv.here q hw (.str _)⟩
    · cases e
  · rename_i j hx hy hz
    cases r2
    simp only [Option.bind_eq_some_iff] at e
    obtain ⟨i, e1, e3⟩ := e
    split at e3
    · rename_i z
      cases e3
      obtain ⟨z1, z2, z3⟩ := of_decide_eq_true z
      obtain ⟨a, vs, rfl, s1, q1⟩ := catL_ok hw r1 e1
      exact op_rep pins s σ H _ _ v u Q I rx ry ⟨a, j, vs, rfl, rfl, s1, z1, z2, by rw [q1.length]; exact z3, fun p hp => Pv.lst q hw (rep_ok q1 _) hp⟩
    · cases e3
  · cases e
theorem od_div : OD X (binaryOp .FloorDiv) oDiv := by
  intro pins s σ H x y v u Q I rx ry ⟨w, h, dx, dy, d, r1, r2, hw, e, q⟩
  unfold oDiv at e
  split at e
  · cases r1; cases r2
    split at e
    · rename_i z
      cases e
      have z := of_decide_eq_true z
      exact op_fdivW pins s σ H _ _ v u Q I rx ry ⟨_, _, rfl, rfl, z, Pv.here q hw (.int _)⟩
    · cases e
  · cases e
theorem od_mod : OD X (binaryOp .Mod) oMod := by
  intro pins s σ H x y v u Q I rx ry ⟨w, h, dx, dy, d, r1, r2, hw, e, q⟩
  unfold oMod at e
  split at e
  · cases r1; cases r2
    split at e
    · rename_i z
      cases e
      exact op_mod pins s σ H _ _ v u Q I rx ry ⟨_, _, rfl, rfl, of_decide_eq_true z, Pv.here q hw (.int _)⟩
    · cases e
  · cases e
theorem od_pow : OD X (binaryOp .Pow) oPow := by
  intro pins s σ H x y v u Q I rx ry ⟨w, h, dx, dy, d, r1, r2, hw, e, q⟩
  unfold oPow at e
  split at e
  · cases r1; cases r2
    split at e
    · rename_i z
      cases e
      have z := of_decide_eq_true z
      exact op_pow pins s σ H _ _ v u Q I rx ry ⟨_, _, rfl, rfl, z, Pv.here q hw (.int _)⟩
    · cases e
  · cases e
theorem od_cmpI {op : CmpOp} {p : Int → Int → Bool} {q : List Nat → List Nat → Bool} (h1 : OpR X (compareOp op) (rI0 fun i j => .bl (p i j)))
    (h2 : OpR X (compareOp op) (fun x y H Q => ∃ i j, x = .str i ∧ y = .str j ∧ Q (.bl (q i.cps.toList j.cps.toList)) H)) : OD X (compareOp op) (oCmpI p q) := by
  intro pins s σ H x y v u Q I rx ry ⟨w, h, dx, dy, d, r1, r2, hw, e, q⟩
  unfold oCmpI at e
  split at e
  · cases r1; cases r2; cases e
    exact h1 pins s σ H _ _ v u Q I rx ry ⟨_, _, rfl, rfl, Pv.here q hw (.bl _)⟩
  · cases r1; cases r2; cases e
    exact h2 pins s σ H _ _ v u Q I rx ry ⟨_, _, rfl, rfl, Pv.here q hw (.bl _)⟩
  · cases e
theorem od_lt : OD X (compareOp .Lt) oLt := od_cmpI op_lt op_lt_str
theorem od_le : OD X (compareOp .LtE) oLe := od_cmpI op_le op_le_str
theorem od_gt : OD X (compareOp .Gt) oGt := od_cmpI op_gt op_gt_str
theorem od_ge : OD X (compareOp .GtE) oGe := od_cmpI op_ge op_ge_str
theorem od_eq (hu : X.A.units + 64 < cLine) : OD X (compareOp .Eq) oEq := by
  intro pins s σ H x y v u Q I rx ry ⟨w, h, dx, dy, d, r1, r2, hw, e, q⟩
  unfold oEq at e
  split at e
  · rename_i a b
    cases e
    cases r1; cases r2
    exact op_eq pins s σ H _ _ v u Q I rx ry ⟨rfl, by rw [dec_str]; exact Pv.here q hw (.bl _)⟩
  · simp only [Option.bind_eq_some_iff] at e
    obtain ⟨i, e1, j, e2, e3⟩ := e
    split at e3
    · rename_i z
      cases e3
      rw [Bool.and_eq_true] at z
      exact op_eqD hu pins s σ H _ _ v u Q I rx ry ⟨i, j, py_ok hw r1 e1, py_ok hw r2 e2, z.1, z.2, Pv.here q hw (.bl _)⟩
    · cases e3
theorem od_ne (hu : X.A.units + 64 < cLine) : OD X (compareOp .NotEq) oNe := by
  intro pins s σ H x y v u Q I rx ry ⟨w, h, dx, dy, d, r1, r2, hw, e, q⟩
  unfold oNe at e
  split at e
  · rename_i a b
    cases e
    cases r1; cases r2
    exact op_ne pins s σ H _ _ v u Q I rx ry ⟨rfl, by rw [dec_str]; exact Pv.here q hw (.bl _)⟩
  · simp only [Option.bind_eq_some_iff] at e
    obtain ⟨i, e1, j, e2, e3⟩ := e
    split at e3
    · rename_i z
      cases e3
      rw [Bool.and_eq_true] at z
      exact op_neD hu pins s σ H _ _ v u Q I rx ry ⟨i, j, py_ok hw r1 e1, py_ok hw r2 e2, z.1, z.2, Pv.here q hw (.bl _)⟩
    · cases e3
theorem flatOf_ok {K : PySem.W.Frag} {w : Wd} {x : V} {d : D} {v : V} (r : RV K w x d) (e : isIn.flatOf d = some v) : x = v ∧ flatV x = true := by
  cases r <;> (unfold isIn.flatOf at e; cases e) <;> exact ⟨rfl, rfl⟩
theorem flatsOf_ok {K : PySem.W.Frag} {w : Wd} : ∀ {xs : List V} {ds : List D} {vs : List V}, RVs K w xs ds → isIn.flatsOf ds = some vs → xs = vs ∧ xs.all flatV = true
  | _, _, _, .nil, e => by cases e; exact ⟨rfl, rfl⟩
  | _, _, _, .cons r rs, e => by
    simp only [isIn.flatsOf, Option.bind_eq_some_iff, Option.map_eq_some_iff] at e
    obtain ⟨v, e1, vs, e2, rfl⟩ := e
    obtain ⟨a, b⟩ := flatOf_ok r e1
    obtain ⟨c, d⟩ := flatsOf_ok rs e2
    refine ⟨by rw [a, c], ?_⟩
    rw [List.all_cons, b, d]; rfl
theorem one_sign {i : Str} (e : i.cps.size = 1) : i = ⟨#[i.cps.getD 0 0]⟩ := by
  obtain ⟨c⟩ := i
  have e' : c.size = 1 := e
  congr 1
  apply Array.ext
  · simp [e']
  · intro k h1 h2
    have : k = 0 := by omega
    subst this
    simp [Array.getD, h1]
theorem od_in (hu : X.A.units + 65 < cLine) : OD X (compareOp .In) oIn := by
  intro pins s σ H x y v u Q I rx ry ⟨w, h, dx, dy, d, r1, r2, hw, e, q⟩
  unfold oIn at e
  simp only [Option.map_eq_some_iff] at e
  obtain ⟨b, e, rfl⟩ := e
  unfold isIn at e
  split at e
  · rename_i i j
    cases r1; cases r2
    split at e
    · rename_i z
      cases e
      have o := one_sign (of_decide_eq_true z)
      refine op_in_sign pins s σ H _ _ v u Q I rx ry ⟨i.cps.getD 0 0, j, by rw [← o], rfl, Pv.here q hw (.bl _)⟩
    · cases e
      exact op_in_str pins s σ H _ _ v u Q I rx ry ⟨i, j, rfl, rfl, Pv.here q hw (.bl _)⟩
  · simp only [Option.bind_eq_some_iff, Option.map_eq_some_iff] at e
    obtain ⟨a, e1, vs, e2, rfl⟩ := e
    obtain ⟨p, us, rfl, s1, q1⟩ := seqT_ok hw r2 rfl
    obtain ⟨c1, c2⟩ := flatOf_ok r1 e1
    obtain ⟨c3, c4⟩ := flatsOf_ok q1 e2
    subst c1 c3
    exact op_in_seq pins s σ H _ _ v u Q I rx ry ⟨p, us, rfl, .inr s1, c2, c4, Pv.here q hw (.bl _)⟩
  · simp only [Option.bind_eq_some_iff] at e
    obtain ⟨p, e1, p2, e2, e3⟩ := e
    split at e3
    · rename_i ds
      split at e3
      · rename_i z
        cases e3
        rw [Bool.and_eq_true] at z
        exact op_inD hu pins s σ H _ _ v u Q I rx ry ⟨p, ds, py_ok hw r1 e1, py_ok hw r2 e2, z.1, z.2, Pv.here q hw (.bl _)⟩
      · cases e3
    · cases e3
theorem od_notIn (hu : X.A.units + 65 < cLine) : OD X (compareOp .NotIn) oNotIn := by
  intro pins s σ H x y v u Q I rx ry ⟨w, h, dx, dy, d, r1, r2, hw, e, q⟩
  unfold oNotIn at e
  simp only [Option.map_eq_some_iff] at e
  obtain ⟨b, e, rfl⟩ := e
  unfold isIn at e
  split at e
  · rename_i i j
    cases r1; cases r2
    split at e
    · rename_i z
      cases e
      have o := one_sign (of_decide_eq_true z)
      refine op_notIn_sign pins s σ H _ _ v u Q I rx ry ⟨i.cps.getD 0 0, j, by rw [← o], rfl, Pv.here q hw (.bl _)⟩
    · cases e
      exact L2.op_notIn_str pins s σ H _ _ v u Q I rx ry ⟨i, j, rfl, rfl, Pv.here q hw (.bl _)⟩
  · simp only [Option.bind_eq_some_iff, Option.map_eq_some_iff] at e
    obtain ⟨a, e1, vs, e2, rfl⟩ := e
    obtain ⟨p, us, rfl, s1, q1⟩ := seqT_ok hw r2 rfl
    obtain ⟨c1, c2⟩ := flatOf_ok r1 e1
    obtain ⟨c3, c4⟩ := flatsOf_ok q1 e2
    subst c1 c3
    exact op_notIn_seq pins s σ H _ _ v u Q I rx ry ⟨p, us, rfl, .inr s1, c2, c4, Pv.here q hw (.bl _)⟩
  · simp only [Option.bind_eq_some_iff] at e
    obtain ⟨p, e1, p2, e2, e3⟩ := e
    split at e3
    · rename_i ds
      split at e3
      · rename_i z
        cases e3
        rw [Bool.and_eq_true] at z
        exact op_notInD hu pins s σ H _ _ v u Q I rx ry ⟨p, ds, py_ok hw r1 e1, py_ok hw r2 e2, z.1, z.2, Pv.here q hw (.bl _)⟩
      · cases e3
    · cases e3
theorem is_none_rv {K : PySem.W.Frag} {w : Wd} {x : V} {d : D} {b : Bool} (r : RV K w x d) (e : (match d with
    | .non => some (D.bl true)
    | .st _ => none
    | _ => some (.bl false)) = some (.bl b)) : decide (x = V.non) = b := by
  cases r <;> (simp at e; try subst e) <;> simp
theorem od_is : OD X (compareOp .Is) oIs := by
  intro pins s σ H x y v u Q I rx ry ⟨w, h, dx, dy, d, r1, r2, hw, e, q⟩
  unfold oIs at e
  split at e
  · cases r2
    have hb : ∃ b, d = .bl b := by
      split at e <;> cases e <;> exact ⟨_, rfl⟩
    obtain ⟨b, rfl⟩ := hb
    have e' := is_none_rv r1 e
    refine op_isN pins s σ H _ _ v u Q I rx ry ⟨rfl, ?_⟩
    rw [e']
    exact Pv.here q hw (.bl _)
  · cases r1; cases r2; cases e
    exact op_isBl pins s σ H _ _ v u Q I rx ry ⟨_, _, rfl, rfl, Pv.here q hw (.bl _)⟩
  · cases e
theorem od_isNot : OD X (compareOp .IsNot) oIsNot := by
  intro pins s σ H x y v u Q I rx ry ⟨w, h, dx, dy, d, r1, r2, hw, e, q⟩
  unfold oIsNot at e
  split at e
  · rename_i b e0
    cases e
    unfold oIs at e0
    split at e0
    · cases r2
      have e' := is_none_rv r1 e0
      refine op_notN pins s σ H _ _ v u Q I rx ry ⟨rfl, ?_⟩
      rw [e']
      exact Pv.here q hw (.bl _)
    · cases r1; cases r2; cases e0
      exact op_notBl pins s σ H _ _ v u Q I rx ry ⟨_, _, rfl, rfl, Pv.here q hw (.bl _)⟩
    · cases e0
  · cases e
end
end DN
namespace DN
open PySem L2

/-! ### repr -/
mutual
/-- scalars and tuples alone -/
def pyT : D → Option PyData
  | .non => some .none
  | .bl b => some (.bool b)
  | .int i => some (.int i)
  | .str s => some (.str s)
  | .tup l => (pyTs l).map .tuple
  | _ => none
def pyTs : List D → Option (List PyData)
  | [] => some []
  | d :: ds => (pyT d).bind fun p => (pyTs ds).map (p :: ·)
end
def pyKey : Key → PyData
  | .inl i => .int i
  | .inr s => .str s
def pyKs : List (Key × D) → Option (List (PyData × PyData))
  | [] => some []
  | (k, d) :: r => (pyT d).bind fun p => (pyKs r).map ((pyKey k, p) :: ·)
def pyOne : D → Option PyData
  | .dct kvs => (pyKs kvs).map PyData.dict
  | d => pyT d
/-- data that may be shown: dicts stand in tuples alone -/
def pyR (h : LH) : D → Option PyData
  | .dct kvs => (pyKs kvs).map .dict
  | .tup l => match py h (.tup l) with
    | some p => some p
    | none => (go l).map .tuple
  | d => py h d
where go : List D → Option (List PyData)
  | [] => some []
  | d :: ds => (pyOne d).bind fun p => (go ds).map (p :: ·)

section
variable {X : Cx} {w : Wd} {H : Hp} {h : LH} {pins : List (Addr × Obj)} {σ : St} {s : Shared}
mutual
theorem pyT_py {g : Nat → Option PyData} : ∀ {d : D} {p : PyData}, pyT d = some p → pyG g d = some p
  | .non, _, e => by simpa [pyT, pyG] using e
  | .bl _, _, e => by simpa [pyT, pyG] using e
  | .int _, _, e => by simpa [pyT, pyG] using e
  | .str _, _, e => by simpa [pyT, pyG] using e
  | .tup l, _, e => by
    simp only [pyT, Option.map_eq_some_iff] at e
    obtain ⟨ps, e1, rfl⟩ := e
    simp only [pyG, pyTs_py e1, Option.map_some]
  | .lst _, _, e => by simp [pyT] at e
  | .kst _, _, e => by simp [pyT] at e
  | .dct _, _, e => by simp [pyT] at e
  | .ref _, _, e => by simp [pyT] at e
  | .st _, _, e => by simp [pyT] at e
theorem pyTs_py {g : Nat → Option PyData} : ∀ {d : List D} {p : List PyData}, pyTs d = some p → pyGs g d = some p
  | [], _, e => by simpa [pyTs, pyGs] using e
  | d :: ds, _, e => by
    simp only [pyTs, Option.bind_eq_some_iff, Option.map_eq_some_iff] at e
    obtain ⟨p, e1, ps, e2, rfl⟩ := e
    simp only [pyGs, pyT_py e1, pyTs_py e2, Option.map_some, Option.bind_some]
end
mutual
theorem reads_nil (g : Heap) : ∀ (d : PyData) (u : Value) (as : List Addr), Reads g u d as → (∃ x, pyT x = some d) → as = []
  | .none, _, _, .none, _ => rfl
  | .bool _, _, _, .bool _, _ => rfl
  | .int _, _, _, .int _ _, _ => rfl
  | .str _, _, _, .str _ _, _ => rfl
  | .tuple ds, _, _, .tuple _ _ _ r, ⟨x, e⟩ => by
    cases x <;> simp only [pyT, Option.map_eq_some_iff, reduceCtorEq] at e
    · simp at e
    · simp at e
    · simp at e
    · simp at e
    · obtain ⟨ps, e1, e2⟩ := e
      cases e2
      exact reads_nils g _ _ _ r ⟨_, e1⟩
  | .list ds, _, _, .list _ _ _ _, ⟨x, e⟩ => by cases x <;> simp [pyT] at e
  | .dict ds, _, _, .dict _ _ _ _ _, ⟨x, e⟩ => by cases x <;> simp [pyT] at e
theorem reads_nils (g : Heap) : ∀ (d : List PyData) (u : List Value) (as : List Addr), ReadsAll g u d as → (∃ x, pyTs x = some d) → as = []
  | [], _, _, .nil, _ => rfl
  | d :: ds, _, _, .cons r rs, ⟨x, e⟩ => by
    cases x with
    | nil => simp [pyTs] at e
    | cons y ys =>
      simp only [pyTs, Option.bind_eq_some_iff, Option.map_eq_some_iff] at e
      obtain ⟨p, e1, ps, e2, e3⟩ := e
      obtain ⟨rfl, rfl⟩ := List.cons.inj e3
      rw [reads_nil g _ _ _ r ⟨_, e1⟩, reads_nils g _ _ _ rs ⟨_, e2⟩]
      rfl
end
theorem key_reads (g : Heap) {k : Key} {u : Value} (e : (mixKind X.prog X.w).is k u = true) : Reads g u (pyKey k) [] := by
  rw [mixKind_is] at e
  rcases keyIs_shape e with ⟨i, t, rfl, rfl⟩ | ⟨x, t, rfl, rfl⟩
  · exact .int _ _
  · exact .str _ _
theorem entries_read (I : Inv X pins σ H s) (hw : HW X.K w H h) : ∀ {ds : List (Key × D)} {es : List DictEntry} {kvs : List (Key × Value)} {vs : List (Key × V)} {ps : List (PyData × PyData)},
    Pairs (mixKind X.prog X.w) es kvs → KV vs kvs → RKs X.K w vs ds → pyKs ds = some ps → ReadsAll s.heap (es.map (·.key)) (ps.map (·.1)) [] ∧ ReadsAll s.heap (es.map (·.val)) (ps.map (·.2)) []
  | [], es, kvs, vs, ps, hp, hk, hr, e => by
    cases hr
    cases hk
    cases hp
    cases e
    exact ⟨.nil, .nil⟩
  | (k, d) :: ds, es, kvs, vs, ps, hp, hk, hr, e => by
    cases hr with
    | cons q qs =>
      cases hk with
      | cons k1 k2 =>
        cases hp with
        | cons h1 h2 r =>
          simp only [pyKs, Option.bind_eq_some_iff, Option.map_eq_some_iff] at e
          obtain ⟨p, e1, ps, e2, rfl⟩ := e
          obtain ⟨a1, a2⟩ := entries_read I hw r k2 qs e2
          obtain ⟨k11, k12⟩ := k1
          dsimp only at k11 k12
          rw [← k11] at h1
          rw [← h2] at k12
          obtain ⟨as, b⟩ := Dp.reads I _ _ _ (pyG_ok hw (g := fun _ => none) (fun _ _ _ _ z => by cases z) d _ p q (pyT_py e1)) k12
          have eb := reads_nil _ _ _ _ b ⟨_, e1⟩
          subst eb
          exact ⟨ReadsAll.cons (as := []) (key_reads s.heap h1) a1, ReadsAll.cons (as := []) b a2⟩
theorem dct_reads (I : Inv X pins σ H s) (hw : HW X.K w H h) {ds : List (Key × D)} {v : V} {u : Value} {ps : List (PyData × PyData)} (r : RV X.K w v (.dct ds)) (ru : RelV v u) (e : pyKs ds = some ps) :
    ∃ as, Reads s.heap u (.dict ps) as ∧ sysModules ∉ as := by
  cases r with
  | dct q r =>
    cases ru
    obtain ⟨_, sm, kvs, kv, o, es, ep, h1, h2, h3, _, h5, _⟩ := I.hok _ _ (hw.fz _ _ q)
    obtain ⟨a1, a2⟩ := entries_read I hw h5 kv r e
    refine ⟨_, Reads.dict h1 h2.1 h3 a1 a2, ?_⟩
    simp
    exact fun e => by rw [← e] at sm; simp at sm
mutual
theorem py_nodict {g : Nat → Option PyData} (hg : ∀ n p, g n = some p → p.hasDict = false) : ∀ {d : D} {p : PyData}, pyG g d = some p → p.hasDict = false
  | .non, _, e => by simp [pyG] at e; subst e; rfl
  | .bl _, _, e => by simp [pyG] at e; subst e; rfl
  | .int _, _, e => by simp [pyG] at e; subst e; rfl
  | .str _, _, e => by simp [pyG] at e; subst e; rfl
  | .tup l, _, e => by
    simp only [pyG, Option.map_eq_some_iff] at e
    obtain ⟨ps, e1, rfl⟩ := e
    simp only [PyData.hasDict, pys_nodict hg e1]
  | .lst l, _, e => by
    simp only [pyG, Option.map_eq_some_iff] at e
    obtain ⟨ps, e1, rfl⟩ := e
    simp only [PyData.hasDict, pys_nodict hg e1]
  | .kst l, _, e => by
    simp only [pyG, Option.map_eq_some_iff] at e
    obtain ⟨ps, e1, rfl⟩ := e
    simp only [PyData.hasDict, pys_nodict hg e1]
  | .dct _, _, e => by simp [pyG] at e
  | .ref n, _, e => hg n _ (by simpa only [pyG] using e)
  | .st _, _, e => by simp [pyG] at e
theorem pys_nodict {g : Nat → Option PyData} (hg : ∀ n p, g n = some p → p.hasDict = false) : ∀ {d : List D} {p : List PyData}, pyGs g d = some p → PyData.hasDictAll p = false
  | [], _, e => by simp [pyGs] at e; subst e; rfl
  | d :: ds, _, e => by
    simp only [pyGs, Option.bind_eq_some_iff, Option.map_eq_some_iff] at e
    obtain ⟨p, e1, ps, e2, rfl⟩ := e
    simp only [PyData.hasDictAll, py_nodict hg e1, pys_nodict hg e2, Bool.or_self]
end
theorem pyN_nodict (h : LH) : ∀ (m n : Nat) (p : PyData), pyN m h n = some p → p.hasDict = false
  | 0, _, _, e => by cases e
  | m + 1, n, p, e => by
    unfold pyN at e
    split at e
    · simp only [Option.map_eq_some_iff] at e
      obtain ⟨ps, e1, rfl⟩ := e
      simp only [PyData.hasDict, pys_nodict (pyN_nodict h m) e1]
    · cases e
theorem py_reads (I : Inv X pins σ H s) (hw : HW X.K w H h) {d : D} {v : V} {u : Value} {p : PyData} (r : RV X.K w v d) (ru : RelV v u) (e : py h d = some p) : ∃ as, Reads s.heap u p as ∧ (p.hasDict = true → sysModules ∉ as) := by
  obtain ⟨as, z⟩ := Dp.reads I p v u (py_ok hw r e) ru
  exact ⟨as, z, PyData.noDict_hsm (py_nodict (pyN_nodict h 6) e)⟩
theorem one_reads (I : Inv X pins σ H s) (hw : HW X.K w H h) {d : D} {v : V} {u : Value} {p : PyData} (r : RV X.K w v d) (ru : RelV v u) (e1 : pyOne d = some p) : ∃ as, Reads s.heap u p as ∧ sysModules ∉ as := by
  unfold pyOne at e1
  split at e1
  · simp only [Option.map_eq_some_iff] at e1
    obtain ⟨qs, e3, rfl⟩ := e1
    exact dct_reads I hw r ru e3
  · obtain ⟨as, z⟩ := Dp.reads I p _ _ (pyG_ok hw (g := fun _ => none) (fun _ _ _ _ z => by cases z) d _ p r (pyT_py e1)) ru
    have := reads_nil _ _ _ _ z ⟨_, e1⟩
    subst this
    exact ⟨[], z, by simp⟩
theorem go_reads (I : Inv X pins σ H s) (hw : HW X.K w H h) : ∀ {ds : List D} {vs : List V} {us : List Value} {ps : List PyData}, RVs X.K w vs ds → Vals vs us → pyR.go ds = some ps → ∃ as, ReadsAll s.heap us ps as ∧ sysModules ∉ as
  | [], _, _, _, hr, hv, e => by
    cases hr
    cases hv
    cases e
    exact ⟨[], .nil, by simp⟩
  | d :: ds, _, _, _, hr, hv, e => by
    cases hr with
    | cons r rs =>
      cases hv with
      | cons ru rus =>
        simp only [pyR.go, Option.bind_eq_some_iff, Option.map_eq_some_iff] at e
        obtain ⟨p, e1, ps, e2, rfl⟩ := e
        obtain ⟨bs, b1, b2⟩ := go_reads I hw rs rus e2
        obtain ⟨as, a1, a2⟩ := one_reads I hw r ru e1
        exact ⟨as ++ bs, .cons a1 b1, by simp [a2, b2]⟩
theorem pyR_reads (I : Inv X pins σ H s) (hw : HW X.K w H h) {d : D} {v : V} {u : Value} {p : PyData} (r : RV X.K w v d) (ru : RelV v u) (e : pyR h d = some p) : ∃ as, Reads s.heap u p as ∧ (p.hasDict = true → sysModules ∉ as) := by
  unfold pyR at e
  split at e
  · simp only [Option.map_eq_some_iff] at e
    obtain ⟨ps, e1, rfl⟩ := e
    obtain ⟨as, a, b⟩ := dct_reads I hw r ru e1
    exact ⟨as, a, fun _ => b⟩
  · split at e
    · rename_i p' e'
      cases e
      exact py_reads I hw r ru e'
    · simp only [Option.map_eq_some_iff] at e
      obtain ⟨ps, e1, rfl⟩ := e
      cases r with
      | tup q r =>
        cases ru
        obtain ⟨its, rv, ⟨o, ho, hc, n, hd⟩, _⟩ := I.tuple (q.elim (fun z => Or.inl (Or.inl (hw.fz _ _ z))) Or.inr : SqT X.K H _ _)
        obtain ⟨as, a1, a2⟩ := go_reads I hw r rv e1
        exact ⟨as, Reads.tuple ho hc hd a1, fun _ => a2⟩
  · exact py_reads I hw r ru e
/-- what repr shows -/
def showD (h : LH) (d : D) : Option Str := (pyR h d).bind fun p => if (p.showable && decide (p.depth ≤ 600) && small p.shown.length) = true then some p.shown else none

/-! ### builtin functions by their arguments -/
abbrev OC := LH → List D → Option D
def rC (K : PySem.W.Frag) (g : OC) : List V → Hp → VK → Prop := fun vs H Q => ∃ w h ds d, RVs K w vs ds ∧ HW K w H h ∧ g h ds = some d ∧ Pv K w Q d h
def OCD (X : Cx) (f : Value) (g : OC) : Prop := CallR X f (rC X.K g)
def mCall (g : OC) (m : AM) : EM := fun s h => (m s h).bind fun l h1 => match g h1 l with
  | some d => .ok d h1
  | none => .no
theorem te_call {K : PySem.W.Frag} {W : WX} {g : OC} {m : AM} {σ : St} {H : Hp} {Q : VK} (q : TE_ K W (mCall g m) σ H Q) : tCB (rC K g) (TA_ K W m) σ H Q := by
  obtain ⟨w, s, h, rs, hw, q⟩ := q
  refine ⟨w, s, h, rs, hw, WpA.bind (G := WpE K w Q _) q (fun _ _ z => z) (fun z => z) fun x h1 w1 v H1 l1 rx hw1 q1 => ?_⟩
  split at q1
  · rename_i d e
    exact ⟨w1, h1, x, d, rx, hw1, e, fun w3 z H3 l3 => q1 w3 z H3 (l1.trans l3)⟩
  · exact q1.elim
section
variable {W : WX} {x : Str} {p pos : Pos} {e : Expr} {es : List Expr} {m : AM} {id T : String} {g : OC}
theorem d_callB (hc : OCD X (.builtin id) g) (hg : Gl X x) (hm : X.mg x = none) (hv : bootBuiltins x = some (.builtin id)) (ha : DA X W (e :: es) m) (hn : x ≠ "__name__" := by decide) (hdb : (x == ("__debug__" : Str)) = false := by decide)
    (he : starEach (e :: es) X.env = (false, eval e X.env) :: starEach es X.env := by rfl) (hpl : (backTo pos (starEach es X.env)).any (·.1) = false := by rfl) : DE X W (.Call (.Name x p) (e :: es) [] pos) (mCall g m) :=
  PE.imp (pe_callB hc hg hm hv ha hn hdb he hpl) fun _ _ _ q => te_call q
theorem d_callTy (hc : OCD X (.type T) g) (hg : Gl X x) (hm : X.mg x = none) (hv : bootBuiltins x = some (.type T)) (ha : DA X W (e :: es) m) (hn : x ≠ "__name__" := by decide) (hdb : (x == ("__debug__" : Str)) = false := by decide)
    (he : starEach (e :: es) X.env = (false, eval e X.env) :: starEach es X.env := by rfl) (hpl : (backTo pos (starEach es X.env)).any (·.1) = false := by rfl) : DE X W (.Call (.Name x p) (e :: es) [] pos) (mCall g m) :=
  PE.imp (pe_callTy hc hg hm hv ha hn hdb he hpl) fun _ _ _ q => te_call q
end
theorem rv1 {K : PySem.W.Frag} {vs : List V} {d : D} (r : RVs K w vs [d]) : ∃ v, vs = [v] ∧ RV K w v d := by
  cases r with
  | cons r rs => cases rs; exact ⟨_, rfl, r⟩
theorem rv2 {K : PySem.W.Frag} {vs : List V} {d e : D} (r : RVs K w vs [d, e]) : ∃ v u, vs = [v, u] ∧ RV K w v d ∧ RV K w u e := by
  cases r with
  | cons r rs =>
    obtain ⟨u, rfl, q⟩ := rv1 rs
    exact ⟨_, _, rfl, r, q⟩
/-- repr(x) -/
def cRepr : OC := fun h ds => match ds with
  | [d] => (showD h d).map .str
  | _ => none
theorem oc_repr (hu : X.A.units + 700 < cLine) (hg : X.A.guards = some []) : OCD X (.builtin "repr") cRepr := by
  intro pins s σ H vs us Q I r ⟨w, h, ds, d, rd, hw, e, q⟩
  unfold cRepr at e
  split at e
  · rename_i d0
    obtain ⟨v, rfl, rv⟩ := rv1 rd
    obtain ⟨u, rfl, ru⟩ := vals1 r
    simp only [Option.map_eq_some_iff, showD, Option.bind_eq_some_iff] at e
    obtain ⟨t, ⟨p, e1, e2⟩, rfl⟩ := e
    split at e2
    · rename_i z
      cases e2
      simp only [Bool.and_eq_true, decide_eq_true_eq] at z
      obtain ⟨⟨z1, z2⟩, z3⟩ := z
      have z3 := small_le z3
      obtain ⟨as, rd, sm⟩ := pyR_reads I hw rv ru e1
      have fin := Pv.here q hw (.str p.shown)
      cases rd with
      | none => exact PySem.P.repr_of_none ⟨.str _, H, I.tok _, ⟨_, rfl⟩, by simpa only [PyData.shown] using fin⟩
      | bool b => exact PySem.P.repr_of_bool ⟨.str _, H, I.tok _, ⟨_, rfl⟩, by simpa only [PyData.shown] using fin⟩
      | int i t => exact PySem.P.repr_of_int (by simpa [PyData.showable] using z1) ⟨.str _, H, I.tok _, ⟨_, rfl⟩, by simpa only [PyData.shown] using fin⟩
      | str x t => exact PySem.P.repr_of_str ⟨.str _, H, I.tok _, ⟨_, rfl⟩, by simpa only [PyData.shown] using fin⟩ (by simpa only [PyData.shown] using z3)
      | list a b c k => exact repr_of_reads' (.list a b c k) z1 sm hg (by omega) (fun _ _ e => e) (fun h' u tk hk => ⟨.str _, H, I.kept hk, ⟨_, rfl⟩, fin⟩) z3
      | tuple a b c k => exact repr_of_reads' (.tuple a b c k) z1 sm hg (by omega) (fun _ _ e => e) (fun h' u tk hk => ⟨.str _, H, I.kept hk, ⟨_, rfl⟩, fin⟩) z3
      | dict a b c k l => exact repr_of_reads' (.dict a b c k l) z1 sm hg (by omega) (fun _ _ e => e) (fun h' u tk hk => ⟨.str _, H, I.kept hk, ⟨_, rfl⟩, fin⟩) z3
    · cases e2
  · cases e
end
end DN
namespace DN
open PySem L2

theorem RVs.toVals {K : PySem.W.Frag} {w : Wd} {f : D → Option V} (hf : ∀ d v x, RV K w x d → f d = some v → x = v) : ∀ {vs : List V} {ds : List D} {ys : List V}, RVs K w vs ds → ds.mapM f = some ys → vs = ys
  | vs, [], ys, h, e => by
    cases h
    simp at e
    exact e.symm ▸ rfl
  | vs, d :: ds, ys, h, e => by
    cases h with
    | cons r rs =>
      simp only [List.mapM_cons, Option.bind_eq_bind, Option.bind_eq_some_iff] at e
      obtain ⟨y, e1, zs, e2, e3⟩ := e
      cases e3
      rw [hf _ _ _ r e1, RVs.toVals hf rs e2]

/-! ### a[i] -/
def oIx : O2 := fun h x y => match y with
  | .int i => match x with
    | .str z => if small z.length = true then (atI z.cps.toList i).map fun c => .str ⟨#[c]⟩ else none
    | .tup l => atI l i
    | x => (seqL h x).bind fun l => atI l i
  | _ => none
theorem atI_rv {K : PySem.W.Frag} {w : Wd} {vs : List V} {ds : List D} {i : Int} {d : D} (r : RVs K w vs ds) (e : atI ds i = some d) : ∃ v, atI vs i = some v ∧ RV K w v d := by
  unfold atI at e ⊢
  rw [r.length]
  simp only [Option.bind_eq_some_iff] at e
  obtain ⟨j, e1, e2⟩ := e
  obtain ⟨v, h1, h2⟩ := r.get e2
  exact ⟨v, by rw [e1]; exact h1, h2⟩
section
variable {X : Cx} {W : WX}
theorem ix_d : IxR X (rO X.K oIx) := by
  intro value slice pins s σ H x y v u Q I rx ry ⟨w, h, dx, dy, d, r1, r2, hw, e, q⟩ hs
  unfold oIx at e
  split at e
  · cases r2
    rename_i i
    split at e
    · cases r1
      split at e
      · rename_i z
        simp only [Option.map_eq_some_iff] at e
        obtain ⟨c, e1, rfl⟩ := e
        exact ix_str value slice pins s σ H _ _ v u Q I rx ry ⟨_, i, c, rfl, rfl, small_le z, e1, Pv.here q hw (.str _)⟩ hs
      · cases e
    · obtain ⟨a, vs, rfl, s1, q1⟩ := seqT_ok hw r1 rfl
      obtain ⟨z, z1, z2⟩ := atI_rv q1 e
      exact ix_tup value slice pins s σ H _ _ v u Q I rx ry ⟨a, vs, i, z, rfl, rfl, s1, z1, Pv.here q hw z2⟩ hs
    · simp only [Option.bind_eq_some_iff] at e
      obtain ⟨l, e1, e2⟩ := e
      obtain ⟨a, vs, rfl, s1, q1⟩ := seqL_ok hw r1 e1
      obtain ⟨z, z1, z2⟩ := atI_rv q1 e2
      exact ix_list value slice pins s σ H _ _ v u Q I rx ry ⟨a, vs, i, z, rfl, rfl, s1, z1, Pv.here q hw z2⟩ hs
  · cases e
variable {a b e : Expr} {ma mb me : EM} {pos p2 : Pos}
theorem d_ix (ha : DE X W a ma) (hb : DE X W b mb) (hs : PlainIx b := by exact fun _ _ => rfl) : DE X W (.Subscript a b pos) (mOp oIx ma mb) := PE.imp (pe_ix ix_d ha hb hs) fun _ _ _ q => te_op q

/-! ### a[lo:hi] -/
abbrev OM := Sg → LH → R (Option Int)
def WpO (K : PySem.W.Frag) (w : Wd) (Q : Option Int → Hp → Prop) (W : XK) : R (Option Int) → Prop
  | .ok d h => ∀ w' H', w.le w' → HW K w' H' h → Q d H'
  | .ex x h => Px K w W x h
  | .no => False
def TO_ (K : PySem.W.Frag) (W : WX) (m : OM) : TO := fun σ H Q => ∃ w s h, RS K w σ s ∧ HW K w H h ∧ WpO K w Q (fun c d H => W c d σ H) (m s h)
def DO (X : Cx) (W : WX) (e : Option Expr) (m : OM) : Prop := ∀ σ H Q, TO_ X.K W m σ H Q → ∃ t, PO X e t ∧ t σ H Q
def oNo : OM := fun _ h => .ok none h
def oPart (m : EM) : OM := fun s h => (m s h).bind fun d h1 => match d with
  | .int i => .ok (some i) h1
  | _ => .no
theorem po_imp {o : Option Expr} {t t' : TO} (h : PO X o t) (k : ∀ σ H Q, t' σ H Q → t σ H Q) : PO X o t' := ⟨fun pins s σ H Q I q => h.run pins s σ H Q I (k σ H Q q)⟩
theorem do_no : PO X none (TO_ X.K W oNo) := po_imp po_none fun σ H Q ⟨w, s, h, rs, hw, q⟩ => q w H (.refl w) hw
theorem do_some (ha : DE X W e me) : PO X (some e) (TO_ X.K W (oPart me)) := po_imp (po_some ha) fun σ H Q ⟨w, s, h, rs, hw, q⟩ =>
  ⟨w, s, h, rs, hw, WpE.bind (G := WpO X.K w Q _) q (fun _ _ z => z) (fun z => z) fun x h1 w1 v H1 l1 rx hw1 q1 => by
    split at q1
    · cases rx
      exact ⟨_, rfl, q1 w1 H1 l1 hw1⟩
    · exact q1.elim⟩
def cut {α : Type} (xs : List α) (lo hi : Option Int) : List α := (xs.drop (HT.sIx xs.length 0 lo)).take (HT.sIx xs.length xs.length hi - HT.sIx xs.length 0 lo)
def oCut (h : LH) (d : D) (lo hi : Option Int) : Option D := match d with
  | .str z => if small z.length = true then some (.str (cutS z lo hi)) else none
  | .tup l => some (.tup (cut l lo hi))
  | d => (seqL h d).map fun l => .lst (cut l lo hi)
def mSl (m : EM) (lo hi : OM) : EM := fun s h => (m s h).bind fun d h1 => (lo s h1).bind fun l h2 => (hi s h2).bind fun u h3 => match oCut h3 d l u with
  | some d => .ok d h3
  | none => .no
def rSl (K : PySem.W.Frag) : V → Option Int → Option Int → Hp → VK → Prop := fun x lo hi H Q => ∃ w h dx d, RV K w x dx ∧ HW K w H h ∧ oCut h dx lo hi = some d ∧ Pv K w Q d h
theorem cut_rv {K : PySem.W.Frag} {w : Wd} {vs : List V} {ds : List D} {lo hi : Option Int} (r : RVs K w vs ds) : RVs K w (cutV vs lo hi) (cut ds lo hi) := by
  unfold cutV cut
  rw [r.length]
  exact (r.drop _).take _
theorem sl_d : SlR X (rSl X.K) := by
  intro pins s σ H x v vl vu lo hi sl Q I rx hs pl pu ⟨w, h, dx, d, r1, hw, e, q⟩
  unfold oCut at e
  split at e
  · cases r1
    split at e
    · rename_i z
      cases e
      exact sl_str pins s σ H _ v vl vu lo hi sl Q I rx hs pl pu ⟨_, rfl, small_le z, Pv.here q hw (.str _)⟩
    · cases e
  · rename_i l0
    cases e
    obtain ⟨a, vs, rfl, s1, q1⟩ := seqT_ok hw r1 rfl
    refine sl_tupA pins s σ H _ v vl vu lo hi sl Q I rx hs pl pu ⟨a, vs, rfl, s1, fun ⟨z1, z2⟩ => ?_, fun _ p hp => Pv.tup q hw (cut_rv q1) hp⟩
    have : cut l0 lo hi = l0 := by
      unfold cut
      rw [q1.length] at z1 z2
      rw [z1, z2, List.drop_zero, Nat.sub_zero, List.take_length]
    rw [this] at q
    exact Pv.here q hw r1
  · simp only [Option.map_eq_some_iff] at e
    obtain ⟨l, e1, rfl⟩ := e
    obtain ⟨a, vs, rfl, s1, q1⟩ := seqL_ok hw r1 e1
    exact sl_list pins s σ H _ v vl vu lo hi sl Q I rx hs pl pu ⟨a, vs, rfl, s1, fun p hp => Pv.lst q hw (cut_rv q1) hp⟩
theorem WpO.bind {α : Type} {K : PySem.W.Frag} {w : Wd} {Q : Option Int → Hp → Prop} {W : XK} {r : R (Option Int)} {f : Option Int → LH → R α} {G : R α → Prop}
    (h : G (r.bind f)) (hx : ∀ x h, G (.ex x h) → Px K w W x h) (hn : ¬ G .no)
    (k : ∀ d h1 w1 H1, w.le w1 → HW K w1 H1 h1 → G (f d h1) → Q d H1) : WpO K w Q W r := by
  cases r with
  | ok d h1 => exact fun w1 H1 l hw => k d h1 w1 H1 l hw h
  | ex x h1 => exact hx x h1 h
  | no => exact (hn h).elim
theorem d_slice {lo hi : Option Expr} {ml mh : OM} (he : DE X W e me) (hl : PO X lo (TO_ X.K W ml)) (hu : PO X hi (TO_ X.K W mh)) : DE X W (.Subscript e (.Slice lo hi none p2) pos) (mSl me ml mh) :=
  PE.imp (pe_slice sl_d he hl hu) fun σ H Q ⟨w, s, h, rs, hw, q⟩ =>
    ⟨w, s, h, rs, hw, WpE.bind (G := WpE X.K w Q _) q (fun _ _ z => z) (fun z => z) fun x h1 w1 v H1 l1 rx hw1 q1 =>
      ⟨w1, s, h1, rs.mono l1, hw1, WpO.bind (G := WpE X.K w Q _) q1 (fun _ _ z => Px.mono l1 z) (fun z => z) fun lo h2 w2 H2 l2 hw2 q2 =>
        ⟨w2, s, h2, rs.mono (l1.trans l2), hw2, WpO.bind (G := WpE X.K w Q _) q2 (fun _ _ z => Px.mono (l1.trans l2) z) (fun z => z) fun hi h3 w3 H3 l3 hw3 q3 => by
          split at q3
          · rename_i d e
            exact ⟨w3, h3, x, d, rx.mono (l2.trans l3), hw3, e, fun w4 z H4 l4 => q3 w4 z H4 (((l1.trans l2).trans l3).trans l4)⟩
          · exact q3.elim⟩⟩⟩
/-- xs[::-1] of a list: frozen, or new -/
def mRev (m : EM) : EM := fun s h => (m s h).bind fun d h1 => match seqL h1 d with
  | some l => .ok (.lst l.reverse) h1
  | none => .no
def mRevN (m : EM) : EM := fun s h => (m s h).bind fun d h1 => match seqL h1 d with
  | some l => .ok (.ref h1.length) (h1 ++ [.lst l.reverse])
  | none => .no
variable {k : Nat} {p1 p3 : Pos}
theorem d_rev (he : DE X W e me) : DE X W (.Subscript e (.Slice none none (some (.UnaryOp .USub (.Constant (.int 1) k p1) p2)) p3) pos) (mRev me) := PE.imp (pe_revL he) fun σ H Q ⟨w, s, h, rs, hw, q⟩ =>
  ⟨w, s, h, rs, hw, WpE.bind (G := WpE X.K w Q _) q (fun _ _ z => z) (fun z => z) fun x h1 w1 v H1 l1 rx hw1 q1 => by
    split at q1
    · rename_i l e
      obtain ⟨a, vs, rfl, s1, r1⟩ := seqL_ok hw1 rx e
      exact ⟨a, vs, rfl, s1, fun p hp => Pv.lst (fun w3 z H3 l3 => q1 w3 z H3 (l1.trans l3)) hw1 r1.reverse hp⟩
    · exact q1.elim⟩
theorem d_revN (he : DE X W e me) : DE X W (.Subscript e (.Slice none none (some (.UnaryOp .USub (.Constant (.int 1) k p1) p2)) p3) pos) (mRevN me) := PE.imp (pe_revL he) fun σ H Q ⟨w, s, h, rs, hw, q⟩ =>
  ⟨w, s, h, rs, hw, WpE.bind (G := WpE X.K w Q _) q (fun _ _ z => z) (fun z => z) fun x h1 w1 v H1 l1 rx hw1 q1 => by
    split at q1
    · rename_i l e
      obtain ⟨a, vs, rfl, s1, r1⟩ := seqL_ok hw1 rx e
      exact ⟨a, vs, rfl, s1, fun p hp => Pv.new (fun w3 z H3 l3 => q1 w3 z H3 (l1.trans l3)) hw1 r1.reverse hp⟩
    · exact q1.elim⟩

/-! ### builtin functions -/
def tyD (h : LH) : D → Option String
  | .non => some "NoneType"
  | .bl _ => some "bool"
  | .int _ => some "int"
  | .str _ => some "str"
  | .tup _ => some "tuple"
  | .lst _ => some "list"
  | .kst _ => some "list"
  | .dct _ => some "dict"
  | .ref n => match h[n]? with
    | some (.lst _) => some "list"
    | some (.dct _) => some "dict"
    | none => none
  | .st _ => none
def allTys : List String := ["NoneType", "bool", "int", "str", "tuple", "list", "dict"]
def askTys : List String := ["bool", "int", "str", "tuple", "list", "dict"]
def subTy (a b : String) : Bool := a == b || (a == "bool" && b == "int")
theorem kit_all : ∀ a ∈ allTys, ∀ b ∈ askTys, kitB a b = some (subTy a b) := by decide +kernel
theorem tyD_in {h : LH} {d : D} {t : String} (e : tyD h d = some t) : t ∈ allTys := by
  unfold tyD at e
  split at e <;> first
    | (cases e; decide)
    | cases e
    | (split at e <;> first | (cases e; decide) | cases e)
theorem tyD_ok {K : PySem.W.Frag} {w : Wd} {H : Hp} {h : LH} (hw : HW K w H h) {v : V} {d : D} {t : String} (r : RV K w v d) (e : tyD h d = some t) : TyX K H v (.type t) := by
  cases r with
  | non => cases e; exact .base .non
  | bl b => cases e; exact .base (.bl b)
  | int b => cases e; exact .base (.int b)
  | str b => cases e; exact .base (.str b)
  | tup q r =>
    cases e
    rcases q with q | ⟨o, its, n, h1, h2, _⟩
    · exact .base (.tup (hw.fz _ _ q))
    · exact .kTuple h1 h2
  | lst q r => cases e; exact .base (.lst (hw.fz _ _ q))
  | kst q r =>
    cases e
    rcases q with ⟨o, q⟩ | ⟨o, its, n, h1, h2, _⟩
    · exact .base (.frz (hw.fz _ _ q))
    · exact .kList h1 h2
  | dct q r => cases e; exact .base (.dK (hw.fz _ _ q))
  | @ref a n q =>
    unfold tyD at e
    simp only at e
    split at e
    · rename_i l e'
      cases e
      obtain ⟨a', o, h1, h2, h3⟩ := hw.get e'
      rw [q] at h1
      cases h1
      cases h3 with
      | lst r => exact .base (.lst h2)
    · rename_i l e'
      cases e
      obtain ⟨a', o, h1, h2, h3⟩ := hw.get e'
      rw [q] at h1
      cases h1
      cases h3 with
      | dct r => exact .base (.dK h2)
    · cases e
  | st v => cases e
/-- isinstance(x, T), T a built-in class -/
def cIsi : OC := fun h ds => match ds with
  | [d, .st (.ty b)] => (tyD h d).bind fun a => if askTys.contains b = true then some (.bl (subTy a b)) else none
  | _ => none
theorem oc_isi : OCD X (.builtin "isinstance") cIsi := by
  intro pins s σ H vs us Q I r ⟨w, h, ds, d, rd, hw, e, q⟩
  unfold cIsi at e
  split at e
  · rename_i d0 b
    obtain ⟨v, c, rfl, rv, rc⟩ := rv2 rd
    simp only [Option.bind_eq_some_iff] at e
    obtain ⟨t, e1, e2⟩ := e
    split at e2
    · rename_i z
      cases e2
      have hc : c = .ty b := by
        cases rc
        rfl
      subst hc
      exact call_isi pins s σ H _ us Q I r ⟨v, .ty b, .type t, .type b, _, rfl, .ty b, tyD_ok hw rv e1, kit_ty (kit_all t (tyD_in e1) b (by simpa using z)), Pv.here q hw (.bl _)⟩
    · cases e2
  · cases e
def lenD (h : LH) : D → Option Nat
  | .str z => if small z.length = true then some z.length else none
  | .tup l => some l.length
  | d => (seqL h d).map List.length
def cLen : OC := fun h ds => match ds with
  | [d] => (lenD h d).map fun (n : Nat) => D.int (n : Int)
  | _ => none
theorem oc_len : OCD X (.builtin "len") cLen := by
  intro pins s σ H vs us Q I r ⟨w, h, ds, d, rd, hw, e, q⟩
  unfold cLen at e
  split at e
  · obtain ⟨v, rfl, rv⟩ := rv1 rd
    simp only [Option.map_eq_some_iff] at e
    obtain ⟨n, e1, rfl⟩ := e
    refine call_len pins s σ H _ us Q I r ⟨v, n, rfl, ?_, Pv.here q hw (.int _)⟩
    unfold lenD at e1
    split at e1
    · cases rv
      split at e1
      · rename_i z
        cases e1
        exact ⟨small_le z, rfl⟩
      · cases e1
    · cases e1
      obtain ⟨a, vs, rfl, s1, r1⟩ := seqT_ok hw rv rfl
      exact .inr ⟨vs, s1, r1.length.symm⟩
    · simp only [Option.map_eq_some_iff] at e1
      obtain ⟨l, e1, rfl⟩ := e1
      obtain ⟨a, vs, rfl, s1, r1⟩ := seqL_ok hw rv e1
      exact .inl ⟨vs, s1, r1.length.symm⟩
  · cases e
def asB : D → Option Bool
  | .bl b => some b
  | _ => none
def asI : D → Option Int
  | .int b => some b
  | _ => none
def asS : D → Option Str
  | .str b => some b
  | _ => none
theorem bls_ok {K : PySem.W.Frag} {w : Wd} : ∀ {vs : List V} {ds : List D} {bs : List Bool}, RVs K w vs ds → ds.mapM asB = some bs → vs = bs.map V.bl
  | vs, [], ys, h, e => by cases h; simp at e; subst e; rfl
  | vs, d :: ds, ys, h, e => by
    cases h with
    | cons r rs =>
      simp only [List.mapM_cons, Option.bind_eq_bind, Option.bind_eq_some_iff] at e
      obtain ⟨y, e1, zs, e2, e3⟩ := e
      cases e3
      rw [bls_ok rs e2]
      cases d <;> cases e1
      cases r
      rfl
theorem ints_ok {K : PySem.W.Frag} {w : Wd} : ∀ {vs : List V} {ds : List D} {bs : List Int}, RVs K w vs ds → ds.mapM asI = some bs → vs = bs.map V.int
  | vs, [], ys, h, e => by cases h; simp at e; subst e; rfl
  | vs, d :: ds, ys, h, e => by
    cases h with
    | cons r rs =>
      simp only [List.mapM_cons, Option.bind_eq_bind, Option.bind_eq_some_iff] at e
      obtain ⟨y, e1, zs, e2, e3⟩ := e
      cases e3
      rw [ints_ok rs e2]
      cases d <;> cases e1
      cases r
      rfl
theorem strs_ok {K : PySem.W.Frag} {w : Wd} : ∀ {vs : List V} {ds : List D} {bs : List Str}, RVs K w vs ds → ds.mapM asS = some bs → vs = bs.map V.str
  | vs, [], ys, h, e => by cases h; simp at e; subst e; rfl
  | vs, d :: ds, ys, h, e => by
    cases h with
    | cons r rs =>
      simp only [List.mapM_cons, Option.bind_eq_bind, Option.bind_eq_some_iff] at e
      obtain ⟨y, e1, zs, e2, e3⟩ := e
      cases e3
      rw [strs_ok rs e2]
      cases d <;> cases e1
      cases r
      rfl
theorem ints_rv {K : PySem.W.Frag} {w : Wd} : ∀ ns : List Int, RVs K w (ns.map V.int) (ns.map D.int)
  | [] => .nil
  | n :: ns => .cons (.int n) (ints_rv ns)
theorem strs_rv {K : PySem.W.Frag} {w : Wd} : ∀ ns : List Str, RVs K w (ns.map V.str) (ns.map D.str)
  | [] => .nil
  | n :: ns => .cons (.str n) (strs_rv ns)
def cAll : OC := fun h ds => match ds with
  | [d] => (seqL h d).bind fun l => (l.mapM asB).map fun bs => .bl (bs.all id)
  | _ => none
theorem oc_all (hc : X.calm = true) : OCD X (.builtin "all") cAll := by
  intro pins s σ H vs us Q I r ⟨w, h, ds, d, rd, hw, e, q⟩
  unfold cAll at e
  split at e
  · obtain ⟨v, rfl, rv⟩ := rv1 rd
    simp only [Option.bind_eq_some_iff, Option.map_eq_some_iff] at e
    obtain ⟨l, e1, bs, e2, rfl⟩ := e
    obtain ⟨a, vs, rfl, s1, r1⟩ := seqL_ok hw rv e1
    rw [bls_ok r1 e2] at s1
    exact cr_all hc pins s σ H _ us Q I r ⟨a, bs, rfl, s1, Pv.here q hw (.bl _)⟩
  · cases e
def cAny : OC := fun h ds => match ds with
  | [d] => (seqL h d).bind fun l => (l.mapM asB).map fun bs => .bl (bs.any id)
  | _ => none
theorem oc_any (hc : X.calm = true) : OCD X (.builtin "any") cAny := by
  intro pins s σ H vs us Q I r ⟨w, h, ds, d, rd, hw, e, q⟩
  unfold cAny at e
  split at e
  · obtain ⟨v, rfl, rv⟩ := rv1 rd
    simp only [Option.bind_eq_some_iff, Option.map_eq_some_iff] at e
    obtain ⟨l, e1, bs, e2, rfl⟩ := e
    obtain ⟨a, vs, rfl, s1, r1⟩ := seqL_ok hw rv e1
    rw [bls_ok r1 e2] at s1
    exact cr_any hc pins s σ H _ us Q I r ⟨a, bs, rfl, s1, Pv.here q hw (.bl _)⟩
  · cases e
def cSum : OC := fun h ds => match ds with
  | [d] => (seqL h d).bind fun l => (l.mapM asI).map fun bs => .int bs.sum
  | _ => none
theorem oc_sum (hc : X.calm = true) : OCD X (.builtin "sum") cSum := by
  intro pins s σ H vs us Q I r ⟨w, h, ds, d, rd, hw, e, q⟩
  unfold cSum at e
  split at e
  · obtain ⟨v, rfl, rv⟩ := rv1 rd
    simp only [Option.bind_eq_some_iff, Option.map_eq_some_iff] at e
    obtain ⟨l, e1, bs, e2, rfl⟩ := e
    obtain ⟨a, vs, rfl, s1, r1⟩ := seqL_ok hw rv e1
    rw [ints_ok r1 e2] at s1
    exact cr_sum hc pins s σ H _ us Q I r ⟨a, bs, rfl, s1, Pv.here q hw (.int _)⟩
  · cases e
/-- list(xs), tuple(xs) of a list or a tuple -/
def cList : OC := fun h ds => match ds with
  | [.tup l] => some (.lst l)
  | [d] => (seqL h d).map .lst
  | _ => none
def cTuple : OC := fun h ds => match ds with
  | [.tup l] => some (.tup l)
  | [d] => (seqL h d).map .tup
  | _ => none
theorem oc_list : OCD X (.type "list") cList := by
  intro pins s σ H vs us Q I r ⟨w, h, ds, d, rd, hw, e, q⟩
  unfold cList at e
  split at e
  · obtain ⟨v, rfl, rv⟩ := rv1 rd
    cases e
    obtain ⟨a, vs, rfl, s1, r1⟩ := seqT_ok hw rv rfl
    exact call_list_of pins s σ H _ us Q I r ⟨a, vs, rfl, .inr s1, fun p hp => Pv.lst q hw r1 hp⟩
  · obtain ⟨v, rfl, rv⟩ := rv1 rd
    simp only [Option.map_eq_some_iff] at e
    obtain ⟨l, e1, rfl⟩ := e
    obtain ⟨a, vs, rfl, s1, r1⟩ := seqL_ok hw rv e1
    exact call_list_of pins s σ H _ us Q I r ⟨a, vs, rfl, .inl s1, fun p hp => Pv.lst q hw r1 hp⟩
  · cases e
theorem oc_tuple : OCD X (.type "tuple") cTuple := by
  intro pins s σ H vs us Q I r ⟨w, h, ds, d, rd, hw, e, q⟩
  unfold cTuple at e
  split at e
  · obtain ⟨v, rfl, rv⟩ := rv1 rd
    cases e
    obtain ⟨a, vs, rfl, s1, r1⟩ := seqT_ok hw rv rfl
    exact call_tuple_of pins s σ H _ us Q I r ⟨a, vs, rfl, .inr ⟨s1, Pv.here q hw rv⟩⟩
  · obtain ⟨v, rfl, rv⟩ := rv1 rd
    simp only [Option.map_eq_some_iff] at e
    obtain ⟨l, e1, rfl⟩ := e
    obtain ⟨a, vs, rfl, s1, r1⟩ := seqL_ok hw rv e1
    exact call_tuple_of pins s σ H _ us Q I r ⟨a, vs, rfl, .inl ⟨s1, fun p hp => Pv.tup q hw r1 hp⟩⟩
  · cases e
def cOrd : OC := fun _ ds => match ds with
  | [.str z] => if decide (z.length = 1) = true then some (.int (z.cps.getD 0 0 : Nat)) else none
  | _ => none
theorem oc_ord : OCD X (.builtin "ord") cOrd := by
  intro pins s σ H vs us Q I r ⟨w, h, ds, d, rd, hw, e, q⟩
  unfold cOrd at e
  split at e
  · obtain ⟨v, rfl, rv⟩ := rv1 rd
    cases rv
    split at e
    · rename_i z
      cases e
      exact call_ord pins s σ H _ us Q I r ⟨_, rfl, of_decide_eq_true z, Pv.here q hw (.int _)⟩
    · cases e
  · cases e
def cAbs : OC := fun _ ds => match ds with
  | [.int i] => some (.int (if i < 0 then -i else i))
  | _ => none
theorem oc_abs : OCD X (.builtin "abs") cAbs := by
  intro pins s σ H vs us Q I r ⟨w, h, ds, d, rd, hw, e, q⟩
  unfold cAbs at e
  split at e
  · obtain ⟨v, rfl, rv⟩ := rv1 rd
    cases rv
    cases e
    exact call_abs pins s σ H _ us Q I r ⟨_, rfl, Pv.here q hw (.int _)⟩
  · cases e
/-- int(n), int(flag), int(text) -/
def cInt : OC := fun _ ds => match ds with
  | [.int i] => some (.int i)
  | [.bl k] => some (.int (if k then 1 else 0))
  | [.str z] => if decide (z.length ≤ 640) = true then (PySem.intText? z).map .int else none
  | _ => none
theorem oc_int : OCD X (.type "int") cInt := by
  intro pins s σ H vs us Q I r ⟨w, h, ds, d, rd, hw, e, q⟩
  unfold cInt at e
  split at e
  · obtain ⟨v, rfl, rv⟩ := rv1 rd
    cases rv
    cases e
    exact call_int1 pins s σ H _ us Q I r (.inl ⟨_, rfl, Pv.here q hw (.int _)⟩)
  · obtain ⟨v, rfl, rv⟩ := rv1 rd
    cases rv
    cases e
    exact call_int1 pins s σ H _ us Q I r (.inr ⟨_, rfl, Pv.here q hw (.int _)⟩)
  · obtain ⟨v, rfl, rv⟩ := rv1 rd
    cases rv
    split at e
    · rename_i z
      simp only [Option.map_eq_some_iff] at e
      obtain ⟨n, e1, rfl⟩ := e
      exact call_int_str pins s σ H _ us Q I r ⟨_, n, rfl, e1, of_decide_eq_true z, Pv.here q hw (.int _)⟩
    · cases e
  · cases e
/-- str(n) -/
def cStr : OC := fun _ ds => match ds with
  | [.int i] => if decide (i.natAbs.log2 < 1920) = true then some (.str (toString i)) else none
  | _ => none
theorem oc_str : OCD X (.type "str") cStr := by
  intro pins s σ H vs us Q I r ⟨w, h, ds, d, rd, hw, e, q⟩
  unfold cStr at e
  split at e
  · obtain ⟨v, rfl, rv⟩ := rv1 rd
    cases rv
    split at e
    · rename_i z
      cases e
      exact call_str_int pins s σ H _ us Q I r ⟨_, rfl, of_decide_eq_true z, Pv.here q hw (.str _)⟩
    · cases e
  · cases e

/-! ### methods of built-in types: by the receiver and the arguments; the state may change -/
abbrev OMt := LH → D → List D → Option (D × LH)
def rM (K : PySem.W.Frag) (T : String) (g : OMt) : V → List V → Hp → VK → Prop := fun x vs H Q => ∃ w h dx ds d h', RV K w x dx ∧ RVs K w vs ds ∧ HW K w H h ∧ g h dx ds = some (d, h') ∧ Pv K w Q d h'
def mMeth (T : String) (g : OMt) (m : EM) (a : AM) : EM := fun s h => (m s h).bind fun x h1 => if decide (tyD h1 x = some T) = true then (a s h1).bind fun l h2 => match g h2 x l with
  | some (d, h3) => .ok d h3
  | none => .no
  else .no
theorem tyV_ok {K : PySem.W.Frag} {w : Wd} {H : Hp} {h : LH} (hw : HW K w H h) {v : V} {d : D} {T : String} (hT : T = "str" ∨ T = "list" ∨ T = "dict") (r : RV K w v d) (e : tyD h d = some T) : tyV K T v H := by
  have nt : T ≠ "tuple" ∧ T ≠ "int" ∧ T ≠ "bool" ∧ T ≠ "NoneType" := by rcases hT with rfl | rfl | rfl <;> decide
  cases r with
  | non => cases e; exact (nt.2.2.2 rfl).elim
  | bl b => cases e; exact (nt.2.2.1 rfl).elim
  | int b => cases e; exact (nt.2.1 rfl).elim
  | str b => cases e; rfl
  | tup q r => cases e; exact (nt.1 rfl).elim
  | lst q r => cases e; exact .inl ⟨rfl, _, .inl (.inl (hw.fz _ _ q))⟩
  | kst q r =>
    cases e
    rcases q with ⟨o, q⟩ | q
    · exact .inl ⟨rfl, _, .inl (.inr ⟨o, hw.fz _ _ q⟩)⟩
    · exact .inl ⟨rfl, _, .inr q⟩
  | dct q r => cases e; exact .inr (.inr (.inl ⟨rfl, .inl ⟨_, hw.fz _ _ q⟩⟩))
  | @ref a n q =>
    unfold tyD at e
    simp only at e
    split at e
    · rename_i l e'
      cases e
      obtain ⟨a', o, h1, h2, h3⟩ := hw.get e'
      rw [q] at h1
      cases h1
      cases h3 with
      | lst r => exact .inl ⟨rfl, _, .inl (.inl h2)⟩
    · rename_i l e'
      cases e
      obtain ⟨a', o, h1, h2, h3⟩ := hw.get e'
      rw [q] at h1
      cases h1
      cases h3 with
      | dct r => exact .inr (.inr (.inl ⟨rfl, .inl ⟨_, h2⟩⟩))
    · cases e
  | st v => cases e
theorem te_meth {T : String} {g : OMt} {a : AM} (hT : T = "str" ∨ T = "list" ∨ T = "dict") {σ : St} {H : Hp} {Q : VK} (q : TE_ X.K W (mMeth T g me a) σ H Q) : tBM X.K T (rM X.K T g) (TE_ X.K W me) (TA_ X.K W a) σ H Q := by
  obtain ⟨w, s, h, rs, hw, q⟩ := q
  refine ⟨w, s, h, rs, hw, WpE.bind (G := WpE X.K w Q _) q (fun _ _ z => z) (fun z => z) fun x h1 w1 v H1 l1 rx hw1 q1 => ?_⟩
  split at q1
  · rename_i e0
    refine ⟨tyV_ok hw1 hT rx (of_decide_eq_true e0), w1, s, h1, rs.mono l1, hw1, WpA.bind (G := WpE X.K w Q _) q1 (fun _ _ z => Px.mono l1 z) (fun z => z) fun l h2 w2 vs H2 l2 rl hw2 q2 => ?_⟩
    split at q2
    · rename_i d h3 e
      exact ⟨w2, h2, x, l, d, h3, rx.mono l2, rl, hw2, e, fun w3 z H3 l3 => q2 w3 z H3 ((l1.trans l2).trans l3)⟩
    · exact q2.elim
  · exact q1.elim
theorem te_meth0 {T : String} {g : OMt} (hT : T = "str" ∨ T = "list" ∨ T = "dict") {σ : St} {H : Hp} {Q : VK} (q : TE_ X.K W (mMeth T g me aNil) σ H Q) : tBM0 X.K T (rM X.K T g) (TE_ X.K W me) σ H Q := by
  obtain ⟨w, s, h, rs, hw, q⟩ := q
  refine ⟨w, s, h, rs, hw, WpE.bind (G := WpE X.K w Q _) q (fun _ _ z => z) (fun z => z) fun x h1 w1 v H1 l1 rx hw1 q1 => ?_⟩
  split at q1
  · rename_i e0
    refine ⟨tyV_ok hw1 hT rx (of_decide_eq_true e0), ?_⟩
    simp only [aNil, R.bind_ok] at q1
    split at q1
    · rename_i d h3 e
      exact ⟨w1, h1, x, [], d, h3, rx, .nil, hw1, e, fun w3 z H3 l3 => q1 w3 z H3 (l1.trans l3)⟩
    · exact q1.elim
  · exact q1.elim
variable {o : Expr} {es : List Expr} {mo : EM} {a' : AM} {name : Str} {apos cpos : Pos} {T id : String} {g : OMt}
theorem d_meth0 (pa : PlainAttrs T) (slot : Slot T name id) (hty : typeOf (.builtin id) = pure (.type "method_descriptor")) (hm : MtR X id (rM X.K T g)) (hT : T = "str" ∨ T = "list" ∨ T = "dict") (ho : DE X W o mo)
    (hbase : attributeBase o name X.env (eval o X.env) = eval o X.env := by rfl) (hline : (apos.endLine == cpos.line) = true := by rfl) : DE X W (.Call (.Attribute o name apos) [] [] cpos) (mMeth T g mo aNil) :=
  PE.imp (pe_bm0 pa slot hty hm ho hbase hline) fun _ _ _ q => te_meth0 hT q
theorem d_meth (pa : PlainAttrs T) (slot : Slot T name id) (hty : typeOf (.builtin id) = pure (.type "method_descriptor")) (hm : MtR X id (rM X.K T g)) (hT : T = "str" ∨ T = "list" ∨ T = "dict") (ho : DE X W o mo) (ha : DA X W (e :: es) a')
    (hbase : attributeBase o name X.env (eval o X.env) = eval o X.env := by rfl)
    (hfew : ((backTo cpos (starEach (e :: es) X.env)).all (fun x => !x.1) && (backToKw cpos (keywordEach [] X.env)).all (fun x => x.1.isSome)
      && decide ((e :: es).length + ([] : List Keyword).length + (if ([] : List Keyword).isEmpty then 0 else 1) < 30)) = true := by rfl)
    (hline : (apos.endLine == cpos.line) = true := by rfl) (hs : starEach (e :: es) X.env = (false, eval e X.env) :: starEach es X.env := by rfl) (hplain : (backTo cpos (starEach es X.env)).any (·.1) = false := by rfl) :
    DE X W (.Call (.Attribute o name apos) (e :: es) [] cpos) (mMeth T g mo a') := PE.imp (pe_bm pa slot hty hm ho ha hbase hfew hline hs hplain) fun _ _ _ q => te_meth hT q

theorem refL_ok {K : PySem.W.Frag} {w : Wd} {H : Hp} {h : LH} (hw : HW K w H h) {v : V} {n : Nat} {l : List D} (r : RV K w v (.ref n)) (e : h[n]? = some (.lst l)) : ∃ a vs, v = .ref a ∧ w.at_[n]? = some a ∧ H a = some (.lst vs) ∧ RVs K w vs l := by
  cases r with
  | @ref a n q =>
    obtain ⟨a', o, h1, h2, h3⟩ := hw.get e
    rw [q] at h1
    cases h1
    cases h3 with
    | lst r => exact ⟨_, _, rfl, q, h2, r⟩
theorem Pv.set {K : PySem.W.Frag} {w : Wd} {H : Hp} {h : LH} {Q : VK} {n : Nat} {a : Addr} {d : D} {v : V} {vs : List V} {l l0 : List D} (q : Pv K w Q d (h.set n (.lst l))) (hw : HW K w H h) (ea : w.at_[n]? = some a) (e0 : h[n]? = some (.lst l0)) (r : RVs K w vs l) (rv : RV K w v d) : Q v (upd H a (.lst vs)) :=
  q _ _ _ (.refl w) rv (hw.set ea (List.getElem?_eq_some_iff.mp e0).1 (.lst r))
/-- xs.append(e), xs.pop(), xs.extend(ys) -/
def gAppend : OMt := fun h x ds => match x, ds with
  | .ref n, [d] => match h[n]? with
    | some (.lst l) => if decide (l.length < sizeLine) = true then some (.non, h.set n (.lst (l ++ [d]))) else none
    | _ => none
  | _, _ => none
def gPop : OMt := fun h x ds => match x, ds with
  | .ref n, [] => match h[n]? with
    | some (.lst l) => l[l.length - 1]?.map fun d => (d, h.set n (.lst l.dropLast))
    | _ => none
  | _, _ => none
def gExtend : OMt := fun h x ds => match x, ds with
  | .ref n, [d] => match h[n]? with
    | some (.lst l) => (catL h d).bind fun k => if small (l.length + k.length) = true then some (.non, h.set n (.lst (l ++ k))) else none
    | _ => none
  | _, _ => none
theorem mt_gAppend : MtR X "list.append" (rM X.K "list" gAppend) := by
  intro pins s σ H x xs v us Q I rx rxs ⟨w, h, dx, ds, d, h', r1, r2, hw, e, q⟩
  unfold gAppend at e
  split at e
  · split at e
    · rename_i n y _ l e0
      split at e
      · rename_i z
        cases e
        obtain ⟨a, vs, rfl, ea, s1, q1⟩ := refL_ok hw r1 e0
        obtain ⟨u, rfl, ru⟩ := rv1 r2
        exact mt_append pins s σ H _ _ v us Q I rx rxs ⟨a, vs, u, rfl, rfl, s1, by rw [q1.length]; exact of_decide_eq_true z, Pv.set q hw ea e0 (q1.append (.cons ru .nil)) .non⟩
      · cases e
    · cases e
  · cases e
theorem RVs.dropLast {K : PySem.W.Frag} {w : Wd} {v : List V} {d : List D} (r : RVs K w v d) : RVs K w v.dropLast d.dropLast := by
  rw [List.dropLast_eq_take, List.dropLast_eq_take, r.length]
  exact r.take _
theorem mt_gPop : MtR X "list.pop" (rM X.K "list" gPop) := by
  intro pins s σ H x xs v us Q I rx rxs ⟨w, h, dx, ds, d, h', r1, r2, hw, e, q⟩
  unfold gPop at e
  split at e
  · split at e
    · rename_i n _ l e0
      simp only [Option.map_eq_some_iff, Prod.mk.injEq] at e
      obtain ⟨y, e1, rfl, rfl⟩ := e
      obtain ⟨a, vs, rfl, ea, s1, q1⟩ := refL_ok hw r1 e0
      cases r2
      obtain ⟨z, z1, z2⟩ := q1.get e1
      exact mt_pop pins s σ H _ _ v us Q I rx rxs ⟨a, vs, z, rfl, rfl, s1, by rw [q1.length]; exact z1, Pv.set q hw ea e0 q1.dropLast z2⟩
    · cases e
  · cases e
theorem mt_gExtend : MtR X "list.extend" (rM X.K "list" gExtend) := by
  intro pins s σ H x xs v us Q I rx rxs ⟨w, h, dx, ds, d, h', r1, r2, hw, e, q⟩
  unfold gExtend at e
  split at e
  · split at e
    · rename_i n y _ l e0
      simp only [Option.bind_eq_some_iff] at e
      obtain ⟨k, e1, e2⟩ := e
      split at e2
      · rename_i z
        cases e2
        obtain ⟨a, vs, rfl, ea, s1, q1⟩ := refL_ok hw r1 e0
        obtain ⟨u, rfl, ru⟩ := rv1 r2
        obtain ⟨b, us', rfl, s2, q2⟩ := catL_ok hw ru e1
        exact mt_extend pins s σ H _ _ v us Q I rx rxs ⟨a, b, vs, us', rfl, rfl, s1, s2, by rw [q1.length, q2.length]; exact small_le z, Pv.set q hw ea e0 (q1.append q2) .non⟩
      · cases e2
    · cases e
  · cases e
/-- s.find(t), s.join(ts) .. -/
def gFind : OMt := fun h x ds => match x, ds with
  | .str a, [.str b] => some (.int (Txt.find a b), h)
  | _, _ => none
def gCount : OMt := fun h x ds => match x, ds with
  | .str a, [.str b] => some (.int (Txt.count a b), h)
  | _, _ => none
def gIsdigit : OMt := fun h x ds => match x, ds with
  | .str a, [] => some (.bl (Txt.isdigit a), h)
  | _, _ => none
def strsOf (h : LH) : D → Option (List Str)
  | .tup l => l.mapM asS
  | d => (seqL h d).bind fun l => l.mapM asS
def gJoin : OMt := fun h x ds => match x, ds with
  | .str a, [d] => (strsOf h d).bind fun ys => if decide ((ys.map (·.length)).sum + ys.length * a.length ≤ 16777216) = true then some (.str (Txt.join a ys), h) else none
  | _, _ => none
def gSplit : OMt := fun h x ds => match x, ds with
  | .str a, [.str b] => if decide ((b.length == 0) = false ∧ a.length + 2 ≤ sizeLine) = true then some (.lst ((Txt.split a b).map .str), h) else none
  | _, _ => none
theorem mt_gFind : MtR X "str.find" (rM X.K "str" gFind) := by
  intro pins s σ H x xs v us Q I rx rxs ⟨w, h, dx, ds, d, h', r1, r2, hw, e, q⟩
  unfold gFind at e
  split at e
  · cases e
    cases r1
    obtain ⟨u, rfl, ru⟩ := rv1 r2
    cases ru
    exact mt_find pins s σ H _ _ v us Q I rx rxs ⟨_, _, rfl, rfl, Pv.here q hw (.int _)⟩
  · cases e
theorem mt_gCount : MtR X "str.count" (rM X.K "str" gCount) := by
  intro pins s σ H x xs v us Q I rx rxs ⟨w, h, dx, ds, d, h', r1, r2, hw, e, q⟩
  unfold gCount at e
  split at e
  · cases e
    cases r1
    obtain ⟨u, rfl, ru⟩ := rv1 r2
    cases ru
    exact mt_count pins s σ H _ _ v us Q I rx rxs ⟨_, _, rfl, rfl, Pv.here q hw (.int _)⟩
  · cases e
theorem mt_gIsdigit : MtR X "str.isdigit" (rM X.K "str" gIsdigit) := by
  intro pins s σ H x xs v us Q I rx rxs ⟨w, h, dx, ds, d, h', r1, r2, hw, e, q⟩
  unfold gIsdigit at e
  split at e
  · cases e
    cases r1
    cases r2
    exact mt_isdigit pins s σ H _ _ v us Q I rx rxs ⟨_, rfl, rfl, trivial, Pv.here q hw (.bl _)⟩
  · cases e
theorem mt_gJoin : MtR X "str.join" (rM X.K "str" gJoin) := by
  intro pins s σ H x xs v us Q I rx rxs ⟨w, h, dx, ds, d, h', r1, r2, hw, e, q⟩
  unfold gJoin at e
  split at e
  · cases r1
    obtain ⟨u, rfl, ru⟩ := rv1 r2
    simp only [Option.bind_eq_some_iff] at e
    obtain ⟨ys, e1, e2⟩ := e
    split at e2
    · rename_i z
      cases e2
      unfold strsOf at e1
      split at e1
      · obtain ⟨a, vs, rfl, s1, q1⟩ := seqT_ok hw ru rfl
        rw [strs_ok q1 e1] at s1
        exact mt_join pins s σ H _ _ v us Q I rx rxs ⟨_, a, ys, rfl, rfl, .inr s1, of_decide_eq_true z, Pv.here q hw (.str _)⟩
      · simp only [Option.bind_eq_some_iff] at e1
        obtain ⟨l, e3, e4⟩ := e1
        obtain ⟨a, vs, rfl, s1, q1⟩ := seqL_ok hw ru e3
        rw [strs_ok q1 e4] at s1
        exact mt_join pins s σ H _ _ v us Q I rx rxs ⟨_, a, ys, rfl, rfl, .inl s1, of_decide_eq_true z, Pv.here q hw (.str _)⟩
    · cases e2
  · cases e
theorem mt_gSplit : MtR X "str.split" (rM X.K "str" gSplit) := by
  intro pins s σ H x xs v us Q I rx rxs ⟨w, h, dx, ds, d, h', r1, r2, hw, e, q⟩
  unfold gSplit at e
  split at e
  · cases r1
    obtain ⟨u, rfl, ru⟩ := rv1 r2
    cases ru
    split at e
    · rename_i z
      cases e
      obtain ⟨z1, z2⟩ := of_decide_eq_true z
      exact mt_split pins s σ H _ _ v us Q I rx rxs ⟨_, _, rfl, rfl, z1, z2, fun p hp => Pv.lst q hw (strs_rv _) hp⟩
    · cases e
  · cases e
end
end DN
namespace DN
open PySem L2

inductive RQ where
  | nx (s : Sg) (h : LH) | rt (d : D) (h : LH) | bk (s : Sg) (h : LH) | ct (s : Sg) (h : LH) | ex (x : EX) (s : Sg) (h : LH) | no
abbrev SM := Sg → LH → RQ
def RQ.then (r : RQ) (f : SM) : RQ := match r with
  | .nx s h => f s h
  | r => r
@[simp] theorem RQ.then_nx (s : Sg) (h : LH) (f : SM) : (RQ.nx s h).then f = f s h := rfl
@[simp] theorem RQ.then_rt (d : D) (h : LH) (f : SM) : (RQ.rt d h).then f = .rt d h := rfl
@[simp] theorem RQ.then_bk (s : Sg) (h : LH) (f : SM) : (RQ.bk s h).then f = .bk s h := rfl
@[simp] theorem RQ.then_ct (s : Sg) (h : LH) (f : SM) : (RQ.ct s h).then f = .ct s h := rfl
@[simp] theorem RQ.then_ex (x : EX) (s : Sg) (h : LH) (f : SM) : (RQ.ex x s h).then f = .ex x s h := rfl
@[simp] theorem RQ.then_no (f : SM) : RQ.no.then f = .no := rfl
/-- an expression, then .. -/
def R.q {α : Type} (r : R α) (s : Sg) (f : α → LH → RQ) : RQ := match r with
  | .ok a h => f a h
  | .ex x h => .ex x s h
  | .no => .no
@[simp] theorem R.q_ok {α : Type} (a : α) (h : LH) (s : Sg) (f : α → LH → RQ) : (R.ok a h).q s f = f a h := rfl
@[simp] theorem R.q_ex {α : Type} (x : EX) (h : LH) (s : Sg) (f : α → LH → RQ) : (R.ex x h : R α).q s f = .ex x s h := rfl
@[simp] theorem R.q_no {α : Type} (s : Sg) (f : α → LH → RQ) : (R.no : R α).q s f = .no := rfl

section
variable (K : PySem.W.Frag)
def WpS (w : Wd) (D : Ends) (W : WX) : RQ → Prop
  | .nx s h => ∀ w' σ' H', w.le w' → RS K w' σ' s → HW K w' H' h → D.nx σ' H'
  | .rt d h => ∀ w' v H', w.le w' → RV K w' v d → HW K w' H' h → D.rt v H'
  | .bk s h => ∀ w' σ' H', w.le w' → RS K w' σ' s → HW K w' H' h → D.bk σ' H'
  | .ct s h => ∀ w' σ' H', w.le w' → RS K w' σ' s → HW K w' H' h → D.ct σ' H'
  | .ex x s h => ∀ w' c dd σ' H', w.le w' → RS K w' σ' s → RX K w' H' c dd x → HW K w' H' h → W c dd σ' H'
  | .no => False
def TS_ (W : WX) (m : SM) : TS := fun D σ H => ∃ w s h, RS K w σ s ∧ HW K w H h ∧ WpS K w D W (m s h)
end
def DS (X : Cx) (W : WX) (st : Stmt) (m : SM) : Prop := PS X st (TS_ X.K W m)
def DSs (X : Cx) (W : WX) (st : List Stmt) (m : SM) : Prop := PSs X st (TS_ X.K W m)
theorem PS.imp {X : Cx} {e : Stmt} {t t' : TS} (h : PS X e t) (k : ∀ D σ H, t' D σ H → t D σ H) : PS X e t' := ⟨fun pins s σ H D I q => h.run pins s σ H D I (k D σ H q)⟩
theorem PSs.imp {X : Cx} {e : List Stmt} {t t' : TS} (h : PSs X e t) (k : ∀ D σ H, t' D σ H → t D σ H) : PSs X e t' := ⟨fun pins s σ H D I q => h.run pins s σ H D I (k D σ H q)⟩

section
variable {K : PySem.W.Frag} {w w' : Wd} {W : WX}
theorem WpS.mono {D : Ends} {r : RQ} (l : w.le w') (p : WpS K w D W r) : WpS K w' D W r := by
  cases r with
  | nx s h => exact fun v σ H k r q => p v σ H (l.trans k) r q
  | rt s h => exact fun v σ H k r q => p v σ H (l.trans k) r q
  | bk s h => exact fun v σ H k r q => p v σ H (l.trans k) r q
  | ct s h => exact fun v σ H k r q => p v σ H (l.trans k) r q
  | ex x s h => exact fun v c d σ H k r a q => p v c d σ H (l.trans k) r a q
  | no => exact p
/-- a statement, then the rest -/
theorem WpS.then {D : Ends} {r : RQ} {f : SM} (p : WpS K w D W (r.then f)) : WpS K w { D with nx := TS_ K W f D } W r := by
  cases r with
  | nx s h => exact fun v σ H k r q => ⟨v, s, h, r, q, WpS.mono k p⟩
  | rt s h => exact p
  | bk s h => exact p
  | ct s h => exact p
  | ex x s h => exact p
  | no => exact p
/-- an expression's value, then .. -/
theorem WpS.q {D : Ends} {Q : VK} {r : R DN.D} {s : Sg} {σ : St} {f : DN.D → LH → RQ} (rs : RS K w σ s) (p : WpS K w D W (r.q s f))
    (k : ∀ d h1 w1 v H1, w.le w1 → RV K w1 v d → HW K w1 H1 h1 → WpS K w1 D W (f d h1) → Q v H1) : WpE K w Q (fun c d H => W c d σ H) r := by
  cases r with
  | ok d h1 => exact fun w1 v H1 l rv hw => k d h1 w1 v H1 l rv hw (WpS.mono l p)
  | ex x h1 => exact fun v c d H l a q => p v c d σ H l (rs.mono l) a q
  | no => exact p
theorem WpS.qB {D : Ends} {Q : Bool → Hp → Prop} {r : R Bool} {s : Sg} {σ : St} {f : Bool → LH → RQ} (rs : RS K w σ s) (p : WpS K w D W (r.q s f))
    (k : ∀ d h1 w1 H1, w.le w1 → HW K w1 H1 h1 → WpS K w1 D W (f d h1) → Q d H1) : WpB K w Q (fun c d H => W c d σ H) r := by
  cases r with
  | ok d h1 => exact fun w1 H1 l hw => k d h1 w1 H1 l hw (WpS.mono l p)
  | ex x h1 => exact fun v c d H l a q => p v c d σ H l (rs.mono l) a q
  | no => exact p
theorem WpS.qA {D : Ends} {Q : List V → Hp → Prop} {r : R (List DN.D)} {s : Sg} {σ : St} {f : List DN.D → LH → RQ} (rs : RS K w σ s) (p : WpS K w D W (r.q s f))
    (k : ∀ d h1 w1 v H1, w.le w1 → RVs K w1 v d → HW K w1 H1 h1 → WpS K w1 D W (f d h1) → Q v H1) : WpA K w Q (fun c d H => W c d σ H) r := by
  cases r with
  | ok d h1 => exact fun w1 v H1 l rv hw => k d h1 w1 v H1 l rv hw (WpS.mono l p)
  | ex x h1 => exact fun v c d H l a q => p v c d σ H l (rs.mono l) a q
  | no => exact p
end

section
variable {X : Cx} {W : WX} {st : Stmt} {rest : List Stmt} {m n : SM} {e : Expr} {me : EM} {pos : Pos}
def sNil : SM := fun s h => .nx s h
def sSeq (m n : SM) : SM := fun s h => (m s h).then n
theorem ds_nil : DSs X W [] sNil := PSs.imp pss_nil fun D σ H ⟨w, s, h, rs, hw, q⟩ => q w σ H (.refl w) rs hw
theorem ds_cons (h1 : DS X W st m) (h2 : DSs X W rest n) : DSs X W (st :: rest) (sSeq m n) := PSs.imp (pss_cons h1 h2) fun D σ H ⟨w, s, h, rs, hw, q⟩ => ⟨w, s, h, rs, hw, WpS.then q⟩
theorem ds_one (h1 : DS X W st m) : DSs X W [st] m := pss_one h1
theorem ds_pass : DS X W (.Pass pos) sNil := PS.imp ps_pass fun D σ H ⟨w, s, h, rs, hw, q⟩ => q w σ H (.refl w) rs hw
def sBreak : SM := fun s h => .bk s h
def sCont : SM := fun s h => .ct s h
theorem ds_break : DS X W (.Break pos) sBreak := PS.imp ps_break fun D σ H ⟨w, s, h, rs, hw, q⟩ => q w σ H (.refl w) rs hw
theorem ds_continue : DS X W (.Continue pos) sCont := PS.imp ps_continue fun D σ H ⟨w, s, h, rs, hw, q⟩ => q w σ H (.refl w) rs hw
theorem ds_doc {x j pos pos'} : DS X W (.Expr (.Constant (.str x) j pos) pos') sNil := PS.imp ps_doc fun D σ H ⟨w, s, h, rs, hw, q⟩ => q w σ H (.refl w) rs hw
def sExpr (m : EM) : SM := fun s h => (m s h).q s fun _ h1 => .nx s h1
theorem ds_expr (he : DE X W e me) (hs : swapsWith e none pos.line X.env = pure false := by rfl) : DS X W (.Expr e pos) (sExpr me) := PS.imp (ps_expr he hs) fun D σ H ⟨w, s, h, rs, hw, q⟩ =>
  ⟨w, s, h, rs, hw, WpS.q rs q fun d h1 w1 v H1 l rv hw1 q1 => q1 w1 σ H1 (.refl w1) (rs.mono l) hw1⟩
def sRet (m : EM) : SM := fun s h => (m s h).q s fun d h1 => .rt d h1
theorem ds_ret (he : DE X W e me) : DS X W (.Return (some e) pos) (sRet me) := PS.imp (ps_ret he) fun D σ H ⟨w, s, h, rs, hw, q⟩ =>
  ⟨w, s, h, rs, hw, WpS.q rs q fun d h1 w1 v H1 l rv hw1 q1 => q1 w1 v H1 (.refl w1) rv hw1⟩
def sRetN : SM := fun s h => .rt .non h
theorem ds_retN : DS X W (.Return none pos) sRetN := PS.imp ps_retN fun D σ H ⟨w, s, h, rs, hw, q⟩ => q w .non H (.refl w) .non hw
def sIf (c : BM) (a b : SM) : SM := fun s h => (c s h).q s fun k h1 => if k = true then a s h1 else b s h1
theorem ds_if {c : Expr} {a b : List Stmt} {mc : BM} (hc : DT X W c mc) (ha : DSs X W a m) (hb : DSs X W b n) : DS X W (.If c a b pos) (sIf mc m n) := PS.imp (ps_if hc ha hb) fun D σ H ⟨w, s, h, rs, hw, q⟩ =>
  ⟨w, s, h, rs, hw, WpS.qB rs q fun k h1 w1 H1 l hw1 q1 => by
    cases k with
    | true => exact iteT ⟨w1, s, h1, rs.mono l, hw1, q1⟩
    | false => exact iteF ⟨w1, s, h1, rs.mono l, hw1, q1⟩⟩

/-! ### targets -/
abbrev GM := D → Sg → LH → Option (Sg × LH)
/-- what a target does; vs: the slots that it may store -/
def TG_ (K : PySem.W.Frag) (vs : List Nat) (g : GM) : TG := fun v σ H Q => ∃ w d s h s' h', RV K w v d ∧ RS K w σ s ∧ HW K w H h ∧ g d s h = some (s', h') ∧
  ∀ w' σ' H', w.le w' → RS K w' σ' s' → HW K w' H' h' → wipe σ' vs = wipe σ vs → Q σ' H'
def DG (X : Cx) (vs : List Nat) (t : Expr) (g : GM) : Prop := PG X t (TG_ X.K vs g)
theorem PG.imp {X : Cx} {e : Expr} {t t' : TG} (h : PG X e t) (k : ∀ v σ H Q, t' v σ H Q → t v σ H Q) : PG X e t' := ⟨fun pins s σ H v u Q I r q => h.run pins s σ H v u Q I r (k v σ H Q q)⟩
theorem wipe_set_out {i : Nat} {x : Option V} : ∀ {vs : List Nat} {σ : St}, i ∉ vs → wipe (σ.set i x) vs = (wipe σ vs).set i x
  | [], _, _ => rfl
  | v :: vs, σ, h => by
    simp only [List.mem_cons, not_or] at h
    unfold wipe
    rw [wipe_set_out h.2, List.set_comm _ _ h.1]
theorem wipe_set_in {i : Nat} {x : Option V} : ∀ {vs : List Nat} {σ : St}, i ∈ vs → wipe (σ.set i x) vs = wipe σ vs
  | v :: vs, σ, h => by
    unfold wipe
    by_cases hv : i ∈ vs
    · rw [wipe_set_in hv]
    · rcases List.mem_cons.mp h with rfl | h
      · rw [wipe_set_out hv, List.set_set]
      · exact (hv h).elim
def gNm (i : Nat) : GM := fun d s h => some (s.set i (some d), h)
theorem dg_name {vs : List Nat} {i : Nat} {x : Str} (hN : X.N.Nodup) (hi : X.N[i]? = some x) (hx : Loc X.env.scope x) (hf : X.fn x = true ∨ X.env.scope.names.lookup x = some .local := by first | exact .inl rfl | exact .inr rfl | assumption) (hv : i ∈ vs) : DG X vs (.Name x pos) (gNm i) :=
  PG.imp (pg_name hN hi hx hf) fun v σ H Q ⟨w, d, s, h, s', h', rv, rs, hw, e, q⟩ => by
    cases e
    exact q w _ H (.refl w) (rs.set rv) hw (wipe_set_in hv)
abbrev GMs := List D → Sg → LH → Option (Sg × LH)
def TGs_ (K : PySem.W.Frag) (vs : List Nat) (g : GMs) : TGs := fun v σ H Q => ∃ w d s h s' h', RVs K w v d ∧ RS K w σ s ∧ HW K w H h ∧ g d s h = some (s', h') ∧
  ∀ w' σ' H', w.le w' → RS K w' σ' s' → HW K w' H' h' → wipe σ' vs = wipe σ vs → Q σ' H'
def DGs (X : Cx) (vs : List Nat) (t : List Expr) (g : GMs) : Prop := PGs X t (TGs_ X.K vs g)
theorem PGs.imp {X : Cx} {e : List Expr} {t t' : TGs} (h : PGs X e t) (k : ∀ v σ H Q, t' v σ H Q → t v σ H Q) : PGs X e t' := ⟨fun pins s σ H v u Q I r q => h.run pins s σ H v u Q I r (k v σ H Q q)⟩
def gNl : GMs := fun d s h => match d with
  | [] => some (s, h)
  | _ => none
def gCn (g : GM) (gs : GMs) : GMs := fun d s h => match d with
  | x :: xs => (g x s h).bind fun p => gs xs p.1 p.2
  | _ => none
theorem dgs_nil {vs : List Nat} : DGs X vs [] gNl := PGs.imp pgs_nil fun v σ H Q ⟨w, d, s, h, s', h', rv, rs, hw, e, q⟩ => by
  unfold gNl at e
  split at e
  · cases e
    cases rv
    exact ⟨rfl, q w σ H (.refl w) rs hw rfl⟩
  · cases e
theorem dgs_cons {vs : List Nat} {t : Expr} {ts : List Expr} {g : GM} {gs : GMs} (h1 : DG X vs t g) (h2 : DGs X vs ts gs) (hs : (assignEach (t :: ts) X.env).map (·.2) = assign t X.env :: (assignEach ts X.env).map (·.2) := by rfl) : DGs X vs (t :: ts) (gCn g gs) :=
  PGs.imp (pgs_cons h1 h2 hs) fun v σ H Q ⟨w, d, s, h, s', h', rv, rs, hw, e, q⟩ => by
    unfold gCn at e
    split at e
    · simp only [Option.bind_eq_some_iff] at e
      obtain ⟨⟨s1, h1⟩, e1, e2⟩ := e
      cases rv with
      | cons r rr =>
        exact ⟨_, _, rfl, w, _, s, h, s1, h1, r, rs, hw, e1, fun w1 σ1 H1 l1 rs1 hw1 k1 => ⟨w1, _, s1, h1, s', h', rr.mono l1, rs1, hw1, e2, fun w2 σ2 H2 l2 rs2 hw2 k2 => q w2 σ2 H2 (l1.trans l2) rs2 hw2 (k2.trans k1)⟩⟩
    · cases e
/-- (a, b, ..) = a tuple -/
def gTp (n : Nat) (gs : GMs) : GM := fun d s h => match d with
  | .tup l => if decide (l.length = n) = true then gs l s h else none
  | _ => none
theorem dg_tup {vs : List Nat} {ts : List Expr} {k n : Nat} {gs : GMs} (hc : X.calm = true) (h : DGs X vs ts gs) (hn : (assignEach ts X.env).length = n := by rfl) (hst : (assignEach ts X.env).findIdx? (·.1) = none := by rfl) : DG X vs (.Tuple ts k pos) (gTp n gs) :=
  PG.imp (pg_tup hc h hn hst) fun v σ H Q ⟨w, d, s, h, s', h', rv, rs, hw, e, q⟩ => by
    unfold gTp at e
    split at e
    · split at e
      · rename_i z
        obtain ⟨a, us, rfl, s1, q1⟩ := seqT_ok hw rv rfl
        exact ⟨a, us, rfl, s1, q1.length.trans (of_decide_eq_true z), w, _, s, h, s', h', q1, rs, hw, e, q⟩
      · cases e
    · cases e
/-- o[i] = .. of a list that may change -/
def gSb (o i : EM) : GM := fun d s h => match o s h with
  | .ok (.ref n) h1 => match i s h1 with
    | .ok (.int k) h2 => match h2[n]? with
      | some (.lst l) => (ixN l.length k).map fun j => (s, h2.set n (.lst (l.set j d)))
      | _ => none
    | _ => none
  | _ => none
theorem dg_sub {vs : List Nat} {o i : Expr} {mo mi : EM} (ho : DE X W o mo) (hi : DE X W i mi)
    (ha : ∀ v, assign (.Subscript o i pos) X.env v = (do
      let ov ← holding [v] (eval o X.env)
      let iv ← holding [v, ov] (eval i X.env)
      standAt pos
      holding [v, ov, iv] (setItem ov iv v)
      release [v, ov, iv] []) := by intro _; rfl) : DG X vs (.Subscript o i pos) (gSb mo mi) :=
  PG.imp (pg_sub ho hi set_list ha) fun v σ H Q ⟨w, d, s, h, s', h', rv, rs, hw, e, q⟩ => by
    unfold gSb at e
    split at e
    · rename_i n h1 e1
      split at e
      · rename_i k h2 e2
        split at e
        · rename_i l e3
          simp only [Option.map_eq_some_iff, Prod.mk.injEq] at e
          obtain ⟨j, e4, rfl, rfl⟩ := e
          refine ⟨w, s, h, rs, hw, ?_⟩
          rw [e1]
          refine fun w1 x H1 l1 rx hw1 => ⟨w1, s, h1, rs.mono l1, hw1, ?_⟩
          rw [e2]
          refine fun w2 y H2 l2 ry hw2 => ?_
          cases ry
          obtain ⟨a, us, rfl, ea, s1, q1⟩ := refL_ok hw2 (rx.mono l2) e3
          exact ⟨a, us, k, j, rfl, rfl, s1, by rw [q1.length]; exact e4, q w2 σ _ (l1.trans l2) (rs.mono (l1.trans l2)) (hw2.set ea (List.getElem?_eq_some_iff.mp e3).1 (.lst (q1.set ((rv.mono (l1.trans l2))) j))) rfl⟩
        · cases e
      · cases e
    · cases e
def sAsg (m : EM) (g : GM) : SM := fun s h => (m s h).q s fun d h1 => match g d s h1 with
  | some (s', h') => .nx s' h'
  | none => .no
theorem ds_asg {tg : Expr} {g : GM} {vs : List Nat} (he : DE X W e me) (hg : DG X vs tg g) (hs : swapsWithSole [tg] e pos.line X.env = pure false := by rfl) (hw : swappedStores [tg] e X.env = pure none := by rfl)
    (h1 : (assignEach [tg] X.env).map (·.2) = [assign tg X.env] := by rfl) : DS X W (.Assign [tg] e pos) (sAsg me g) := PS.imp (ps_asg he hg hs hw h1) fun D σ H ⟨w, s, h, rs, hw, q⟩ =>
  ⟨w, s, h, rs, hw, WpS.q rs q fun d h1 w1 v H1 l rv hw1 q1 => by
    split at q1
    · rename_i s' h' e
      exact ⟨w1, d, s, h1, s', h', rv, rs.mono l, hw1, e, fun w2 σ2 H2 l2 rs2 hw2 _ => q1 w2 σ2 H2 l2 rs2 hw2⟩
    · exact q1.elim⟩
def sSet (i : Nat) (m : EM) : SM := fun s h => (m s h).q s fun d h1 => .nx (s.set i (some d)) h1
theorem ds_set {i : Nat} {x : Str} {pos' : Pos} (hN : X.N.Nodup) (hi : X.N[i]? = some x) (hx : Loc X.env.scope x) (he : DE X W e me) (hs : swapsWith e (some (.Name x pos')) pos.line X.env = pure false := by rfl) (hf : X.fn x = true ∨ X.env.scope.names.lookup x = some .local := by first | exact .inl rfl | exact .inr rfl | assumption) :
    DS X W (.Assign [.Name x pos'] e pos) (sSet i me) := PS.imp (ps_set hN hi hx he hs hf) fun D σ H ⟨w, s, h, rs, hw, q⟩ =>
  ⟨w, s, h, rs, hw, WpS.q rs q fun d h1 w1 v H1 l rv hw1 q1 => q1 w1 _ H1 (.refl w1) ((rs.mono l).set rv) hw1⟩
/-- a, b = x, y; a, b, c = x, y, z -/
def sPar (i j : Nat) (m : AM) : SM := fun s h => (m s h).q s fun l h1 => match l with
  | [x, y] => .nx ((s.set i (some x)).set j (some y)) h1
  | _ => .no
theorem ds_par {i j : Nat} {x y : Str} {a b : Expr} {ma : AM} {px py pt : Pos} {kt k2 pt2} (hc : X.calm = true) (hN : X.N.Nodup) (hi : X.N[i]? = some x) (hj : X.N[j]? = some y) (hij : i ≠ j)
    (hx : X.env.scope.names.lookup x = some .local) (hy : X.env.scope.names.lookup y = some .local) (ha : DA X W [a, b] ma)
    (hw : swappedStores [.Tuple [.Name x px, .Name y py] kt pt] (.Tuple [a, b] k2 pt2) X.env = pure (some [x, y]))
    (hs : swapsWithSole [.Tuple [.Name x px, .Name y py] kt pt] (.Tuple [a, b] k2 pt2) pos.line X.env = pure false := by rfl) :
    DS X W (.Assign [.Tuple [.Name x px, .Name y py] kt pt] (.Tuple [a, b] k2 pt2) pos) (sPar i j ma) := PS.imp (ps_par hc hN hi hj hij hx hy ha hw hs) fun D σ H ⟨w, s, h, rs, hw, q⟩ =>
  ⟨w, s, h, rs, hw, WpS.qA rs q fun l h1 w1 v H1 l1 rv hw1 q1 => by
    split at q1
    · obtain ⟨x, y, rfl, r1, r2⟩ := rv2 rv
      exact ⟨x, y, rfl, q1 w1 _ H1 (.refl w1) (((rs.mono l1).set r1).set r2) hw1⟩
    · exact q1.elim⟩
/-- x op= e -/
def sAug (i : Nat) (g : O2) (m : EM) : SM := fun s h => match s[i]? with
  | some (some x) => (m s h).q s fun y h1 => match g h1 x y with
    | some d => .nx (s.set i (some d)) h1
    | none => .no
  | _ => .no
def IPD (X : Cx) (op : Operator) (g : O2) : Prop := PIp X op (rO X.K g)
theorem ds_aug {i : Nat} {x : Str} {op : Operator} {g : O2} {pos' : Pos} (hN : X.N.Nodup) (hi : X.N[i]? = some x) (hx : Loc X.env.scope x) (he : DE X W e me) (ho : IPD X op g) (hf : X.fn x = true ∨ X.env.scope.names.lookup x = some .local := by first | exact .inl rfl | exact .inr rfl | assumption) :
    DS X W (.AugAssign (.Name x pos') op e pos) (sAug i g me) := PS.imp (ps_aug hN hi hx he ho hf) fun D σ H ⟨w, s, h, rs, hw, q⟩ => by
  unfold sAug at q
  split at q
  · rename_i x0 e0
    obtain ⟨u, h1, h2⟩ := rs.2 i x0 e0
    refine ⟨u, h1, w, s, h, rs, hw, WpS.q rs q fun d h1 w1 v H1 l rv hw1 q1 => ?_⟩
    split at q1
    · rename_i d' e'
      exact ⟨w1, h1, x0, d, d', h2.mono l, rv, hw1, e', fun w2 z H2 l2 rz hw2 => q1 w2 _ H2 l2 ((rs.mono (l.trans l2)).set rz) hw2⟩
    · exact q1.elim
  · exact q.elim
def oAddI : O2 := fun _ x y => match x, y with
  | .int i, .int j => some (.int (i + j))
  | _, _ => none
theorem ipd_add : IPD X .Add oAddI := by
  intro pins s σ H x y v u Q I rx ry ⟨w, h, dx, dy, d, r1, r2, hw, e, q⟩
  unfold oAddI at e
  split at e
  · cases r1; cases r2; cases e
    exact ip_add pins s σ H _ _ v u Q I rx ry ⟨_, _, rfl, rfl, Pv.here q hw (.int _)⟩
  · cases e
theorem ipd_sub : IPD X .Sub oSub := by
  intro pins s σ H x y v u Q I rx ry ⟨w, h, dx, dy, d, r1, r2, hw, e, q⟩
  unfold oSub at e
  split at e
  · cases r1; cases r2; cases e
    exact ip_sub pins s σ H _ _ v u Q I rx ry ⟨_, _, rfl, rfl, Pv.here q hw (.int _)⟩
  · cases e

/-! ### while -/
def whileM : Nat → BM → SM → SM
  | 0, _, _ => fun _ _ => .no
  | n + 1, t, b => fun s h => (t s h).q s fun k h1 => if k = true then (match b s h1 with
    | .nx s' h' => whileM n t b s' h'
    | .ct s' h' => whileM n t b s' h'
    | .bk s' h' => .nx s' h'
    | r => r) else .nx s h1
theorem te_while {K : PySem.W.Frag} {t : BM} {b : SM} {D : Ends} {σ : St} {H : Hp} (n : Nat) (q : TS_ K W (whileM n t b) D σ H) : tWhile (TB_ K W t) (TS_ K W b) D σ H := by
  refine ⟨fun m σ H => TS_ K W (whileM m t b) D σ H, ⟨n, q⟩, ?_⟩
  rintro m σ H ⟨w, s, h, rs, hw, q⟩
  cases m with
  | zero => exact False.elim q
  | succ m =>
    refine ⟨w, s, h, rs, hw, WpS.qB rs q fun k h1 w1 H1 l hw1 q1 => ?_⟩
    cases k with
    | true =>
      refine iteT ⟨TS_ K W (whileM m t b) D, fun σ' H' z => ⟨m, Nat.lt_succ_self m, z⟩, w1, s, h1, rs.mono l, hw1, ?_⟩
      rw [if_pos rfl] at q1
      revert q1
      cases b s h1 with
      | nx s' h' => exact fun q1 w2 σ2 H2 l2 rs2 hw2 => ⟨w2, s', h', rs2, hw2, WpS.mono l2 q1⟩
      | ct s' h' => exact fun q1 w2 σ2 H2 l2 rs2 hw2 => ⟨w2, s', h', rs2, hw2, WpS.mono l2 q1⟩
      | bk s' h' => exact fun q1 => q1
      | rt d h' => exact fun q1 => q1
      | ex x s' h' => exact fun q1 => q1
      | no => exact fun q1 => q1
    | false => exact iteF (q1 w1 σ H1 (.refl w1) (rs.mono l) hw1)
theorem ds_while {c : Expr} {body : List Stmt} {mc : BM} (n : Nat) (hp : PassesOwn (model X.prog X.w) X.A X.env X.xe) (hc : DT X W c mc) (hb : DSs X W body m) : DS X W (.While c body [] pos) (whileM n mc m) := PS.imp (ps_while hp hc hb) fun D σ H q => te_while n q

end
end DN
namespace DN
open PySem L2

/-! ### what is walked: a stream of items; none: not known -/
abbrev Strm := LH → Nat → Option (Option D)
abbrev IM := Sg → LH → R Strm
def ItOk (K : PySem.W.Frag) (w : Wd) (J : It) (f : Strm) : Prop := ∀ (i : Nat) (w1 : Wd) (H1 : Hp) (h1 : LH), w.le w1 → HW K w1 H1 h1 →
  (∀ d, f h1 i = some (some d) → J.go i H1 ∧ ∀ x H2, J.yld i H1 x H2 → ∃ w2, w1.le w2 ∧ HW K w2 H2 h1 ∧ RV K w2 x d) ∧ (f h1 i = some none → J.stop i H1)
def WpI (K : PySem.W.Frag) (w : Wd) (Q : It → Hp → Prop) (W : XK) : R Strm → Prop
  | .ok f h => ∀ w' H' J, w.le w' → HW K w' H' h → ItOk K w' J f → Q J H'
  | .ex x h => Px K w W x h
  | .no => False
def TI_ (K : PySem.W.Frag) (W : WX) (m : IM) : TI := fun σ H R => ∃ w s h, RS K w σ s ∧ HW K w H h ∧ WpI K w R (fun c d H => W c d σ H) (m s h)
def DI (X : Cx) (W : WX) (tg it : Expr) (m : IM) : Prop := PI X tg it (TI_ X.K W m)
theorem PI.imp {X : Cx} {a b : Expr} {t t' : TI} (h : PI X a b t) (k : ∀ σ H R, t' σ H R → t σ H R) : PI X a b t' := ⟨fun pins s σ H R I q => h.run pins s σ H R I (k σ H R q)⟩
/-- of a fixed list of items; of a list that may change -/
def fixS (l : List D) : Strm := fun _ i => some l[i]?
def refS (n : Nat) : Strm := fun h i => match h[n]? with
  | some (.lst l) => some l[i]?
  | _ => none
section
variable {K : PySem.W.Frag} {w w1 : Wd}
theorem ItOk.of_fix {J : It} {l : List D} (h : ∀ (i : Nat) (w1 : Wd) (H1 : Hp) (h1 : LH), w.le w1 → HW K w1 H1 h1 → (∀ d, l[i]? = some d → J.go i H1 ∧ ∀ x H2, J.yld i H1 x H2 → ∃ w2, w1.le w2 ∧ HW K w2 H2 h1 ∧ RV K w2 x d) ∧ (l.length ≤ i → J.stop i H1)) : ItOk K w J (fixS l) := fun i w1 H1 h1 l1 hw1 =>
  ⟨fun d e => (h i w1 H1 h1 l1 hw1).1 d (Option.some.inj e), fun e => (h i w1 H1 h1 l1 hw1).2 (List.getElem?_eq_none_iff.mp (Option.some.inj e))⟩
theorem fix_itl {a : Addr} {vs : List V} {l : List D} (hS : ∀ w1 H1 h1, w.le w1 → HW K w1 H1 h1 → SqL K H1 a vs) (r : RVs K w vs l) : ItOk K w (Itl K a) (fixS l) := ItOk.of_fix fun i w1 H1 h1 l1 hw1 => by
  refine ⟨fun d e => ?_, fun e => ⟨vs, hS w1 H1 h1 l1 hw1, by rw [r.length]; exact e⟩⟩
  obtain ⟨v, e1, rv⟩ := r.get e
  refine ⟨⟨vs, v, hS w1 H1 h1 l1 hw1, e1⟩, fun x H2 ⟨e2, e3⟩ => ?_⟩
  subst e2
  have ex := e3 vs (hS w1 H2 h1 l1 hw1)
  rw [e1] at ex
  cases ex
  exact ⟨w1, .refl w1, hw1, rv.mono l1⟩
theorem fix_itt {a : Addr} {vs : List V} {l : List D} (hS : ∀ w1 H1 h1, w.le w1 → HW K w1 H1 h1 → SqT K H1 a vs) (r : RVs K w vs l) : ItOk K w (Itt K a) (fixS l) := ItOk.of_fix fun i w1 H1 h1 l1 hw1 => by
  refine ⟨fun d e => ?_, fun e => ⟨vs, hS w1 H1 h1 l1 hw1, by rw [r.length]; exact e⟩⟩
  obtain ⟨v, e1, rv⟩ := r.get e
  refine ⟨⟨vs, v, hS w1 H1 h1 l1 hw1, e1⟩, fun x H2 ⟨e2, e3⟩ => ?_⟩
  subst e2
  have ex := e3 vs (hS w1 H2 h1 l1 hw1)
  rw [e1] at ex
  cases ex
  exact ⟨w1, .refl w1, hw1, rv.mono l1⟩
theorem at_mono {n : Nat} {a : Addr} (l : w.le w1) (e : w.at_[n]? = some a) : w1.at_[n]? = some a := by
  obtain ⟨t, q⟩ := l.2.1
  rw [← q, List.getElem?_append_left (List.getElem?_eq_some_iff.mp e).1]; exact e
theorem ref_itl {a : Addr} {n : Nat} (ea : w.at_[n]? = some a) : ItOk K w (Itl K a) (refS n) := by
  intro i w1 H1 h1 l1 hw1
  have key : ∀ o, refS n h1 i = some o → ∃ l vs, h1[n]? = some (.lst l) ∧ H1 a = some (.lst vs) ∧ RVs K w1 vs l ∧ o = l[i]? := fun o e => by
    unfold refS at e
    split at e
    · rename_i l el
      cases e
      obtain ⟨u, h2, h3⟩ := hw1.ats n a _ (at_mono l1 ea) el
      cases h3 with
      | lst r => exact ⟨l, _, el, h2, r, rfl⟩
    · cases e
  refine ⟨fun d e => ?_, fun e => ?_⟩
  · obtain ⟨l, vs, el, h2, r, e1⟩ := key _ e
    obtain ⟨v, e1, rv⟩ := r.get e1.symm
    refine ⟨⟨vs, v, .inl (.inl h2), e1⟩, fun x H2 ⟨e2, e3⟩ => ?_⟩
    subst e2
    have ex := e3 _ (.inl (.inl h2))
    rw [e1] at ex
    cases ex
    exact ⟨w1, .refl w1, hw1, rv⟩
  · obtain ⟨l, vs, el, h2, r, e1⟩ := key _ e
    exact ⟨vs, .inl (.inl h2), by rw [r.length]; exact List.getElem?_eq_none_iff.mp e1.symm⟩
theorem rng_it {lo : Int} {n : Nat} : ItOk K w (Itr lo n) (fixS ((List.range n).map fun (k : Nat) => D.int (lo + (k : Int)))) := ItOk.of_fix fun i w1 H1 h1 l1 hw1 => by
  refine ⟨fun d e => ?_, fun e => show n ≤ i by simpa using e⟩
  rw [List.getElem?_map] at e
  simp only [Option.map_eq_some_iff] at e
  obtain ⟨k, e1, rfl⟩ := e
  obtain ⟨hi, e1⟩ := List.getElem?_eq_some_iff.mp e1
  simp at hi e1
  subst e1
  refine ⟨hi, fun x H2 ⟨e2, e3⟩ => ?_⟩
  subst e2 e3
  exact ⟨w1, .refl w1, hw1, .int _⟩
def signs (z : Str) : List D := z.cps.toList.map fun c => .str ⟨#[c]⟩
theorem str_it {z : Str} : ItOk K w (Its z) (fixS (signs z)) := ItOk.of_fix fun i w1 H1 h1 l1 hw1 => by
  refine ⟨fun d e => ?_, fun e => show z.cps.size ≤ i by simpa [signs] using e⟩
  unfold signs at e
  rw [List.getElem?_map] at e
  simp only [Option.map_eq_some_iff] at e
  obtain ⟨c, e1, rfl⟩ := e
  have hi : i < z.cps.size := by simpa using (List.getElem?_eq_some_iff.mp e1).1
  refine ⟨hi, fun x H2 ⟨e2, c', e3, e4⟩ => ?_⟩
  subst e2 e4
  have : c' = c := by
    rw [Array.getElem?_toList] at e1
    rw [e1] at e3
    exact (Option.some.inj e3).symm
  subst this
  exact ⟨w1, .refl w1, hw1, .str _⟩
end
section
variable {X : Cx} {W : WX} {tg e : Expr} {me : EM}
/-- for x in a list; in a tuple; in a text -/
def iVal (m : EM) : IM := fun s h => (m s h).bind fun d h1 => match d with
  | .lst l => .ok (fixS l) h1
  | .kst l => .ok (fixS l) h1
  | .ref n => match h1[n]? with
    | some (.lst _) => .ok (refS n) h1
    | _ => .no
  | _ => .no
def iTupV (m : EM) : IM := fun s h => (m s h).bind fun d h1 => match d with
  | .tup l => .ok (fixS l) h1
  | _ => .no
def iStrV (m : EM) : IM := fun s h => (m s h).bind fun d h1 => match d with
  | .str z => .ok (fixS (signs z)) h1
  | _ => .no
theorem di_val (he : DE X W e me) : DI X W tg e (iVal me) := PI.imp (pi_list he) fun σ H R ⟨w, s, h, rs, hw, q⟩ =>
  ⟨w, s, h, rs, hw, WpE.bind (G := WpI X.K w R _) q (fun _ _ z => z) (fun z => z) fun d h1 w1 v H1 l rv hw1 q1 => by
    cases rv with
    | lst z r => exact ⟨_, rfl, ⟨_, .inl (.inl (hw1.fz _ _ z))⟩, q1 w1 H1 _ l hw1 (fix_itl (fun w2 H2 h2 l2 hw2 => .inl (.inl (hw2.fz _ _ (l2.1 _ _ z)))) r)⟩
    | @kst a vs ds z r =>
      refine ⟨a, rfl, ⟨vs, ?_⟩, q1 w1 H1 _ l hw1 (fix_itl (vs := vs) (fun w2 H2 h2 l2 hw2 => ?_) r)⟩
      · rcases z with ⟨o, z⟩ | z
        · exact .inl (.inr ⟨o, hw1.fz _ _ z⟩)
        · exact .inr z
      · rcases z with ⟨o, z⟩ | z
        · exact .inl (.inr ⟨o, hw2.fz _ _ (l2.1 _ _ z)⟩)
        · exact .inr z
    | @ref a n z =>
      dsimp only at q1
      split at q1
      · rename_i l0 e0
        obtain ⟨o, z1, z2⟩ := hw1.ats n a _ z e0
        cases z2 with
        | lst r => exact ⟨a, rfl, ⟨_, .inl (.inl z1)⟩, q1 w1 H1 _ l hw1 (ref_itl z)⟩
      · exact q1.elim
    | _ => exact q1.elim⟩
theorem di_tup (he : DE X W e me) : DI X W tg e (iTupV me) := PI.imp (pi_tup he) fun σ H R ⟨w, s, h, rs, hw, q⟩ =>
  ⟨w, s, h, rs, hw, WpE.bind (G := WpI X.K w R _) q (fun _ _ z => z) (fun z => z) fun d h1 w1 v H1 l rv hw1 q1 => by
    cases rv with
    | tup z r =>
      have hS : ∀ w2 H2 h2, w1.le w2 → HW X.K w2 H2 h2 → SqT X.K H2 _ _ := fun w2 H2 h2 l2 hw2 => z.elim (fun z => .inl (.inl (hw2.fz _ _ (l2.1 _ _ z)))) .inr
      exact ⟨_, rfl, ⟨_, hS w1 H1 h1 (.refl w1) hw1⟩, q1 w1 H1 _ l hw1 (fix_itt hS r)⟩
    | _ => exact q1.elim⟩
theorem di_str (he : DE X W e me) : DI X W tg e (iStrV me) := PI.imp (pi_str he) fun σ H R ⟨w, s, h, rs, hw, q⟩ =>
  ⟨w, s, h, rs, hw, WpE.bind (G := WpI X.K w R _) q (fun _ _ z => z) (fun z => z) fun d h1 w1 v H1 l rv hw1 q1 => by
    cases rv with
    | str z => exact ⟨_, rfl, q1 w1 H1 _ l hw1 str_it⟩
    | _ => exact q1.elim⟩
/-- range(n), range(a, b) -/
def rngL (lo : Int) (n : Nat) : List D := (List.range n).map fun (k : Nat) => D.int (lo + (k : Int))
def inRng (j : Int) : Bool := decide (-(2 ^ 62) ≤ j ∧ j < 2 ^ 62)
def iRng1 (m : AM) : IM := fun s h => (m s h).bind fun l h1 => match l with
  | [.int j] => if inRng j = true then .ok (fixS (rngL 0 j.toNat)) h1 else .no
  | _ => .no
def iRng2 (m : AM) : IM := fun s h => (m s h).bind fun l h1 => match l with
  | [.int i, .int j] => if (inRng i && inRng j) = true then .ok (fixS (rngL i (j - i).toNat)) h1 else .no
  | _ => .no
theorem di_rng1 {a : Expr} {ma : AM} {p pos : Pos} (hg : Gl X "range") (hm : X.mg "range" = none) (ha : DA X W [a] ma) (hs : starEach [a] X.env = [(false, eval a X.env)] := by rfl) : DI X W tg (.Call (.Name "range" p) [a] [] pos) (iRng1 ma) :=
  PI.imp (pi_range1 hg hm ha hs) fun σ H R ⟨w, s, h, rs, hw, q⟩ => ⟨w, s, h, rs, hw, WpA.bind (G := WpI X.K w R _) q (fun _ _ z => z) (fun z => z) fun l h1 w1 v H1 l1 rv hw1 q1 => by
    split at q1
    · obtain ⟨u, rfl, ru⟩ := rv1 rv
      cases ru
      split at q1
      · rename_i z
        obtain ⟨z1, z2⟩ := of_decide_eq_true z
        exact ⟨_, rfl, z1, z2, q1 w1 H1 _ l1 hw1 rng_it⟩
      · exact q1.elim
    · exact q1.elim⟩
theorem di_rng2 {a b : Expr} {ma : AM} {p pos : Pos} (hg : Gl X "range") (hm : X.mg "range" = none) (ha : DA X W [a, b] ma) (hs : starEach [a, b] X.env = [(false, eval a X.env), (false, eval b X.env)] := by rfl) (hs2 : starEach [b] X.env = [(false, eval b X.env)] := by rfl) :
    DI X W tg (.Call (.Name "range" p) [a, b] [] pos) (iRng2 ma) :=
  PI.imp (pi_range2 hg hm ha hs hs2) fun σ H R ⟨w, s, h, rs, hw, q⟩ => ⟨w, s, h, rs, hw, WpA.bind (G := WpI X.K w R _) q (fun _ _ z => z) (fun z => z) fun l h1 w1 v H1 l1 rv hw1 q1 => by
    split at q1
    · obtain ⟨u, u2, rfl, ru, ru2⟩ := rv2 rv
      cases ru
      cases ru2
      split at q1
      · rename_i z
        rw [Bool.and_eq_true] at z
        obtain ⟨z1, z2⟩ := of_decide_eq_true z.1
        obtain ⟨z3, z4⟩ := of_decide_eq_true z.2
        exact ⟨_, _, rfl, ⟨z1, z2, z3, z4⟩, q1 w1 H1 _ l1 hw1 rng_it⟩
      · exact q1.elim
    · exact q1.elim⟩
/-- enumerate(xs), zip(xs, ys) of lists: pairs are new tuples -/
def enumL (l : List D) : List D := (List.range l.length).map fun i => .tup [.int (i : Nat), l.getD i .non]
def zipL : List D → List D → List D
  | x :: xs, y :: ys => .tup [x, y] :: zipL xs ys
  | _, _ => []
def listOf (h : LH) : D → Option (List D)
  | .lst l => some l
  | .kst l => some l
  | _ => none
theorem listOf_ok {K : PySem.W.Frag} {w : Wd} {v : V} {d : D} {l : List D} {h : LH} (r : RV K w v d) (e : listOf h d = some l) : ∃ a vs, v = .ref a ∧ RVs K w vs l ∧ ∀ w1 H1 h1, w.le w1 → HW K w1 H1 h1 → SqL K H1 a vs := by
  cases r with
  | lst z r => cases e; exact ⟨_, _, rfl, r, fun w2 H2 h2 l2 hw2 => .inl (.inl (hw2.fz _ _ (l2.1 _ _ z)))⟩
  | @kst a vs ds z r =>
    cases e
    refine ⟨a, vs, rfl, r, fun w2 H2 h2 l2 hw2 => ?_⟩
    rcases z with ⟨o, z⟩ | z
    · exact .inl (.inr ⟨o, hw2.fz _ _ (l2.1 _ _ z)⟩)
    · exact .inr z
  | _ => cases e
def iEnumM (m : AM) : IM := fun s h => (m s h).bind fun l h1 => match l with
  | [d] => match listOf h1 d with
    | some l => .ok (fixS (enumL l)) h1
    | none => .no
  | _ => .no
theorem enum_it {K : PySem.W.Frag} {w : Wd} {a : Addr} {vs : List V} {l : List D} (hS : ∀ w1 H1 h1, w.le w1 → HW K w1 H1 h1 → SqL K H1 a vs) (r : RVs K w vs l) : ItOk K w (Ite K a) (fixS (enumL l)) := ItOk.of_fix fun i w1 H1 h1 l1 hw1 => by
  refine ⟨fun d e => ?_, fun e => ⟨vs, hS w1 H1 h1 l1 hw1, by rw [r.length]; simpa [enumL] using e⟩⟩
  unfold enumL at e
  rw [List.getElem?_map] at e
  simp only [Option.map_eq_some_iff] at e
  obtain ⟨k, e1, rfl⟩ := e
  obtain ⟨hi, e1⟩ := List.getElem?_eq_some_iff.mp e1
  simp at hi e1
  subst e1
  obtain ⟨v, e2, rv⟩ := r.get (List.getElem?_eq_getElem hi)
  refine ⟨⟨vs, v, hS w1 H1 h1 l1 hw1, e2⟩, fun x H2 ⟨T, y, e3, e4, e5, e6⟩ => ?_⟩
  subst e3 e5
  have ey := e6 vs (hS w1 H1 h1 l1 hw1)
  rw [e2] at ey
  cases ey
  refine ⟨_, Wd.le_add, hw1.add e4, .tup (.inl (.inr ⟨rfl, rfl⟩)) (.cons (.int _) (.cons ?_ .nil))⟩
  rw [List.getD_eq_getElem?_getD, List.getElem?_eq_getElem hi]
  exact (rv.mono l1).mono Wd.le_add
theorem di_enum {e : Expr} {ma : AM} {p pos tpos : Pos} {elts : List Expr} {kk : Nat} (hg : Gl X "enumerate") (hm : X.mg "enumerate" = none) (ha : DA X W [e] ma) (hs : starEach [e] X.env = [(false, eval e X.env)] := by rfl) :
    DI X W (.Tuple elts kk tpos) (.Call (.Name "enumerate" p) [e] [] pos) (iEnumM ma) := PI.imp (pi_enum hg hm ha hs) fun σ H R ⟨w, s, h, rs, hw, q⟩ =>
  ⟨w, s, h, rs, hw, WpA.bind (G := WpI X.K w R _) q (fun _ _ z => z) (fun z => z) fun l h1 w1 v H1 l1 rv hw1 q1 => by
    split at q1
    · obtain ⟨u, rfl, ru⟩ := rv1 rv
      split at q1
      · rename_i l0 e0
        obtain ⟨a, vs, rfl, r, hS⟩ := listOf_ok ru e0
        exact ⟨a, vs, rfl, hS w1 H1 h1 (.refl w1) hw1, q1 w1 H1 _ l1 hw1 (enum_it hS r)⟩
      · exact q1.elim
    · exact q1.elim⟩
theorem zipL_get : ∀ {xs ys : List D} {i : Nat} {d : D}, (zipL xs ys)[i]? = some d → ∃ x y, xs[i]? = some x ∧ ys[i]? = some y ∧ d = .tup [x, y]
  | [], _, _, _, e => by simp [zipL] at e
  | _ :: _, [], _, _, e => by simp [zipL] at e
  | x :: xs, y :: ys, 0, d, e => by
    simp [zipL] at e
    exact ⟨x, y, rfl, rfl, e.symm⟩
  | x :: xs, y :: ys, i + 1, d, e => by
    simp [zipL] at e
    simpa using zipL_get e
theorem zipL_len : ∀ (xs ys : List D), (zipL xs ys).length = min xs.length ys.length
  | [], _ => by simp [zipL]
  | _ :: _, [] => by simp [zipL]
  | x :: xs, y :: ys => by simp [zipL, zipL_len xs ys]
def iZipM (m : AM) : IM := fun s h => (m s h).bind fun l h1 => match l with
  | [x, y] => match listOf h1 x, listOf h1 y with
    | some xs, some ys => .ok (fixS (zipL xs ys)) h1
    | _, _ => .no
  | _ => .no
theorem zip_it {K : PySem.W.Frag} {w : Wd} {a b : Addr} {vs us : List V} {xs ys : List D} (hS : ∀ w1 H1 h1, w.le w1 → HW K w1 H1 h1 → SqL K H1 a vs) (hT : ∀ w1 H1 h1, w.le w1 → HW K w1 H1 h1 → SqL K H1 b us) (r : RVs K w vs xs) (r' : RVs K w us ys) : ItOk K w (Itz K a b) (fixS (zipL xs ys)) := ItOk.of_fix fun i w1 H1 h1 l1 hw1 => by
  refine ⟨fun d e => ?_, fun e => ⟨vs, us, hS w1 H1 h1 l1 hw1, hT w1 H1 h1 l1 hw1, ?_⟩⟩
  · obtain ⟨x, y, e1, e2, rfl⟩ := zipL_get e
    obtain ⟨v, z1, z2⟩ := r.get e1
    obtain ⟨u, y1, y2⟩ := r'.get e2
    refine ⟨⟨vs, us, v, u, hS w1 H1 h1 l1 hw1, hT w1 H1 h1 l1 hw1, z1, y1⟩, fun x H2 ⟨T, p, q, e3, e4, e5, e6, e7⟩ => ?_⟩
    subst e3 e5
    have ey := e6 vs (hS w1 H1 h1 l1 hw1)
    rw [z1] at ey
    cases ey
    have ey := e7 us (hT w1 H1 h1 l1 hw1)
    rw [y1] at ey
    cases ey
    exact ⟨_, Wd.le_add, hw1.add e4, .tup (.inl (.inr ⟨rfl, rfl⟩)) (.cons ((z2.mono l1).mono Wd.le_add) (.cons ((y2.mono l1).mono Wd.le_add) .nil))⟩
  · rw [zipL_len] at e
    rw [r.length, r'.length]
    omega
theorem di_zip {e e2 : Expr} {ma : AM} {p pos tpos : Pos} {elts : List Expr} {kk : Nat} (hg : Gl X "zip") (hm : X.mg "zip" = none) (ha : DA X W [e, e2] ma)
    (hs : starEach [e, e2] X.env = (false, eval e X.env) :: starEach [e2] X.env := by rfl) (hpl : (backTo pos (starEach [e2] X.env)).any (·.1) = false := by rfl) :
    DI X W (.Tuple elts kk tpos) (.Call (.Name "zip" p) [e, e2] [] pos) (iZipM ma) := PI.imp (pi_zip hg hm ha hs hpl) fun σ H R ⟨w, s, h, rs, hw, q⟩ =>
  ⟨w, s, h, rs, hw, WpA.bind (G := WpI X.K w R _) q (fun _ _ z => z) (fun z => z) fun l h1 w1 v H1 l1 rv hw1 q1 => by
    split at q1
    · obtain ⟨u, u2, rfl, ru, ru2⟩ := rv2 rv
      split at q1
      · rename_i xs ys e1 e2
        obtain ⟨a, vs, rfl, r, hS⟩ := listOf_ok ru e1
        obtain ⟨b, us, rfl, r2, hT⟩ := listOf_ok ru2 e2
        exact ⟨a, b, vs, us, rfl, hS w1 H1 h1 (.refl w1) hw1, hT w1 H1 h1 (.refl w1) hw1, q1 w1 H1 _ l1 hw1 (zip_it hS hT r r2)⟩
      · exact q1.elim
    · exact q1.elim⟩

/-! ### for -/
def forS : Nat → Strm → Nat → GM → SM → SM
  | 0, _, _, _, _ => fun _ _ => .no
  | n + 1, f, i, g, b => fun s h => match f h i with
    | none => .no
    | some none => .nx s h
    | some (some d) => match g d s h with
      | none => .no
      | some (s1, h1) => match b s1 h1 with
        | .nx s' h' => forS n f (i + 1) g b s' h'
        | .ct s' h' => forS n f (i + 1) g b s' h'
        | .bk s' h' => .nx s' h'
        | r => r
def forL (g : GM) (b : SM) : List D → SM
  | [] => fun s h => .nx s h
  | d :: ds => fun s h => match g d s h with
    | none => .no
    | some (s1, h1) => match b s1 h1 with
      | .nx s' h' => forL g b ds s' h'
      | .ct s' h' => forL g b ds s' h'
      | .bk s' h' => .nx s' h'
      | r => r
theorem forS_fix (g : GM) (b : SM) (l : List D) : ∀ (n i : Nat), l.length - i < n → forS n (fixS l) i g b = forL g b (l.drop i)
  | 0, i, h => by omega
  | n + 1, i, h => by
    funext s h0
    unfold forS
    cases e : l[i]? with
    | none =>
      have e' := List.getElem?_eq_none_iff.mp e
      rw [List.drop_eq_nil_of_le e']
      simp only [fixS, e, forL]
    | some d =>
      have hi := (List.getElem?_eq_some_iff.mp e).1
      rw [List.drop_eq_getElem_cons hi]
      have ed : l[i] = d := (List.getElem?_eq_some_iff.mp e).2
      simp only [fixS, e, ed, forL]
      rw [forS_fix g b l n (i + 1) (by omega)]
def sFor (n : Nat) (im : IM) (g : GM) (b : SM) : SM := fun s h => (im s h).q s fun f h1 => forS n f 0 g b s h1
theorem te_for {vs : List Nat} {im : IM} {g : GM} {b : SM} {D : Ends} {σ : St} {H : Hp} (n : Nat) (q : TS_ X.K W (sFor n im g b) D σ H) : tFor (TI_ X.K W im) (TG_ X.K vs g) (TS_ X.K W b) D σ H := by
  obtain ⟨w, s, h, rs, hw, q⟩ := q
  refine ⟨w, s, h, rs, hw, ?_⟩
  unfold sFor at q
  revert q
  cases im s h with
  | ex x h1 => exact fun q v c d H' l a q' => q v c d σ H' l (rs.mono l) a q'
  | no => exact fun q => q
  | ok f h1 =>
    intro q w1 H1 J l1 hw1 it
    refine ⟨fun i m σ' H' => ∃ w2 s2 h2, w1.le w2 ∧ RS X.K w2 σ' s2 ∧ HW X.K w2 H' h2 ∧ WpS X.K w2 D W (forS m f i g b s2 h2), ⟨n, w1, s, h1, .refl w1, rs.mono l1, hw1, WpS.mono l1 q⟩, ?_⟩
    rintro i m σ2 H2 ⟨w2, s2, h2, l2, rs2, hw2, q2⟩
    cases m with
    | zero => exact False.elim q2
    | succ m =>
      unfold forS at q2
      obtain ⟨it1, it2⟩ := it i w2 H2 h2 l2 hw2
      split at q2
      · exact q2.elim
      · rename_i e
        exact .inl ⟨it2 e, q2 w2 σ2 H2 (.refl w2) rs2 hw2⟩
      · rename_i d e
        obtain ⟨go, yl⟩ := it1 d e
        refine .inr ⟨go, fun σ' H' => ∃ w3 s3 h3, w1.le w3 ∧ RS X.K w3 σ' s3 ∧ HW X.K w3 H' h3 ∧ WpS X.K w3 D W (forS m f (i + 1) g b s3 h3), fun σ' H' z => ⟨m, Nat.lt_succ_self m, z⟩, fun x H3 y3 => ?_⟩
        obtain ⟨w3, l3, hw3, rv⟩ := yl x H3 y3
        split at q2
        · exact q2.elim
        · rename_i s4 h4 e4
          refine ⟨w3, d, s2, h2, s4, h4, rv, rs2.mono l3, hw3, e4, fun w5 σ5 H5 l5 rs5 hw5 _ => ⟨w5, s4, h4, rs5, hw5, ?_⟩⟩
          have l25 := l3.trans l5
          revert q2
          cases b s4 h4 with
          | nx s' h' => exact fun q1 w6 σ6 H6 l6 rs6 hw6 => ⟨w6, s', h', (l2.trans l25).trans l6, rs6, hw6, WpS.mono (l25.trans l6) q1⟩
          | ct s' h' => exact fun q1 w6 σ6 H6 l6 rs6 hw6 => ⟨w6, s', h', (l2.trans l25).trans l6, rs6, hw6, WpS.mono (l25.trans l6) q1⟩
          | bk s' h' => exact fun q1 => WpS.mono l25 q1
          | rt d h' => exact fun q1 => WpS.mono l25 q1
          | ex x s' h' => exact fun q1 => WpS.mono l25 q1
          | no => exact fun q1 => q1
theorem ds_for {iter : Expr} {body : List Stmt} {vs : List Nat} {im : IM} {g : GM} {b : SM} {pos : Pos} (n : Nat) (hp : PassesOwn (model X.prog X.w) X.A X.env X.xe) (hc : X.calm = true) (hi : DI X W tg iter im) (hg : DG X vs tg g) (hb : DSs X W body b)
    (hs : ∀ x, foldedSetIterable iter X.env x = pure x := by intro _; rfl) : DS X W (.For tg iter body [] pos) (sFor n im g b) := PS.imp (ps_for hp hc hi hg hb hs) fun D σ H q => te_for n q

/-! ### list comprehensions -/
def wipeS (s : Sg) : List Nat → Sg
  | [] => s
  | v :: vs => (wipeS s vs).set v none
theorem RS.wipe {K : PySem.W.Frag} {w : Wd} {σ : St} {s : Sg} (r : RS K w σ s) : ∀ vs : List Nat, RS K w (wipe σ vs) (wipeS s vs)
  | [] => r
  | v :: vs => by
    have ih := RS.wipe r vs
    unfold L2.wipe wipeS
    refine ⟨by simp [ih.1], fun i d e => ?_⟩
    by_cases hj : v = i
    · subst hj
      by_cases hl : v < (wipeS s vs).length
      · rw [List.getElem?_set_self hl] at e; cases e
      · rw [List.getElem?_eq_none (by simpa using hl)] at e; cases e
    · rw [List.getElem?_set_ne hj] at e
      rw [List.getElem?_set_ne hj]
      exact ih.2 i d e
theorem wipe_idem (σ : St) : ∀ vs : List Nat, wipe (wipe σ vs) vs = wipe σ vs := by
  intro vs
  have key : ∀ (us vs : List Nat) (σ : St), (∀ u ∈ vs, u ∈ us) → wipe (wipe σ vs) us = wipe σ us := by
    intro us vs
    induction vs with
    | nil => intro σ _; rfl
    | cons v vs ih =>
      intro σ hs
      show wipe ((wipe σ vs).set v none) us = wipe σ us
      rw [wipe_set_in (hs v List.mem_cons_self), ih σ fun u hu => hs u (List.mem_cons_of_mem _ hu)]
  exact key vs vs σ fun _ h => h
/-- nothing may be raised -/
def R.bindN {α β : Type} (r : R α) (f : α → LH → R β) : R β := match r with
  | .ok a h => f a h
  | _ => .no
@[simp] theorem R.bindN_ok {α β : Type} (a : α) (h : LH) (f : α → LH → R β) : (R.ok a h).bindN f = f a h := rfl
/-- the turns over a stream: what was made so far -/
def lcS (vs : List Nat) (g : GM) (t : BM) (e : EM) (s : Sg) : Nat → Strm → Nat → List D → LH → R (List D)
  | 0, _, _, _, _ => .no
  | n + 1, f, i, acc, h => match f h i with
    | none => .no
    | some none => .ok acc h
    | some (some d) => match g d (wipeS s vs) h with
      | none => .no
      | some (s1, h1) => (t s1 h1).bindN fun k h2 => if k = true then ((e s1 h2).bindN fun y h3 => if decide (acc.length < sizeLine) = true then lcS vs g t e s n f (i + 1) (acc ++ [y]) h3 else .no)
        else lcS vs g t e s n f (i + 1) acc h2
def lcL (vs : List Nat) (g : GM) (t : BM) (e : EM) (s : Sg) : List D → List D → LH → R (List D)
  | [], acc, h => .ok acc h
  | d :: ds, acc, h => match g d (wipeS s vs) h with
    | none => .no
    | some (s1, h1) => (t s1 h1).bindN fun k h2 => if k = true then ((e s1 h2).bindN fun y h3 => if decide (acc.length < sizeLine) = true then lcL vs g t e s ds (acc ++ [y]) h3 else .no)
      else lcL vs g t e s ds acc h2
theorem lcS_fix (vs : List Nat) (g : GM) (t : BM) (e : EM) (s : Sg) (l : List D) : ∀ (n i : Nat), l.length - i < n → lcS vs g t e s n (fixS l) i = lcL vs g t e s (l.drop i)
  | 0, i, h => by omega
  | n + 1, i, h => by
    funext acc h0
    unfold lcS
    cases q : l[i]? with
    | none =>
      have q' := List.getElem?_eq_none_iff.mp q
      rw [List.drop_eq_nil_of_le q']
      simp only [fixS, q, lcL]
    | some d =>
      have hi := (List.getElem?_eq_some_iff.mp q).1
      rw [List.drop_eq_getElem_cons hi]
      have ed : l[i] = d := (List.getElem?_eq_some_iff.mp q).2
      simp only [fixS, q, ed, lcL]
      rw [lcS_fix vs g t e s l n (i + 1) (by omega)]
def mLcG (fin : List D → LH → R D) (n : Nat) (vs : List Nat) (im : IM) (g : GM) (t : BM) (e : EM) : EM := fun s h => (im s h).bind fun f h1 => (lcS vs g t e s n f 0 [] h1).bindN fin
def mLc : Nat → List Nat → IM → GM → BM → EM → EM := mLcG fun l h => .ok (.lst l) h
/-- .. a new list that may change -/
def mLcN : Nat → List Nat → IM → GM → BM → EM → EM := mLcG fun l h => .ok (.ref h.length) (h ++ [.lst l])
/-- what a finished list may be -/
def FinOk (K : PySem.W.Frag) (fin : List D → LH → R D) : Prop := ∀ (w w1 : Wd) (H : Hp) (h : LH) (p : Addr) (us : List V) (l : List D) (Q : VK) (E : XK), w.le w1 → (∀ o, ¬ w.rs p o) → w1.rs p (.lst us) → RVs K w1 us l → HW K w1 H h → WpE K w Q E (fin l h) → Q (.ref p) H
theorem fin_lst {K : PySem.W.Frag} : FinOk K fun l h => .ok (.lst l) h := fun w w1 H h p us l Q E l1 np rp rv hw q =>
  q _ _ _ ((Wd.le_unres l1 np).trans Wd.le_add) (.lst (.inr ⟨rfl, rfl⟩) ((rv.eqv (w := w1) (w' := w1.unres p) rfl rfl).mono Wd.le_add)) (hw.frz rp)
theorem fin_new {K : PySem.W.Frag} : FinOk K fun l h => .ok (.ref h.length) (h ++ [.lst l]) := fun w w1 H h p us l Q E l1 np rp rv hw q =>
  q _ _ _ ((Wd.le_unres l1 np).trans Wd.le_push) (.ref (by show (w1.at_ ++ [p])[h.length]? = some p; rw [← hw.len]; simp)) (hw.own rp (.lst rv))
/-- nothing is raised in a comprehension -/
abbrev WX0 : WX := fun _ _ _ _ => False
def WpN (K : PySem.W.Frag) (w : Wd) (Q : VK) (E : XK) (fin : List D → LH → R D) (r : R (List D)) : Prop := WpE K w Q E (r.bindN fin)
theorem te_lc {fin : List D → LH → R D} (hf : FinOk X.K fin) {vs : List Nat} {im : IM} {g : GM} {t : BM} {e : EM} {σ : St} {H : Hp} {Q : VK} (n : Nat) (q : TE_ X.K W (mLcG fin n vs im g t e) σ H Q) :
    tLc (TI_ X.K W im) (TG_ X.K vs g) (TB_ X.K WX0 t) (TE_ X.K WX0 e) vs σ H Q := by
  obtain ⟨w, s, h, rs, hw, q⟩ := q
  refine ⟨w, s, h, rs, hw, ?_⟩
  unfold mLcG at q
  revert q
  cases im s h with
  | ex x h1 => exact fun q => q
  | no => exact fun q => q
  | ok f h1 =>
    intro q w1 H1 J l1 hw1 it D nD
    have f1 := hw1.free nD
    refine ⟨fun i m H' => ∃ w2 h2 us acc, w1.le w2 ∧ w2.rs D (.lst us) ∧ RVs X.K w2 us acc ∧ HW X.K w2 H' h2 ∧ WpE X.K w Q _ ((lcS vs g t e s m f i acc h2).bindN fin),
      ⟨n, w1.res D (.lst []), h1, [], [], Wd.le_res, .inr ⟨rfl, rfl⟩, .nil, hw1.res nD, q⟩, ?_⟩
    rintro i m H2 ⟨w2, h2, us, acc, l2, rD, rv, hw2, q2⟩
    cases m with
    | zero => exact False.elim q2
    | succ m =>
      unfold lcS at q2
      obtain ⟨it1, it2⟩ := it i w2 H2 h2 l2 hw2
      split at q2
      · exact q2.elim
      · rename_i e1
        exact .inl ⟨it2 e1, hf w w2 H2 h2 D us acc Q _ (l1.trans l2) (fun o z => f1.2.2 o (l1.2.2 _ _ z)) rD rv hw2 q2⟩
      · rename_i d e1
        obtain ⟨go, yl⟩ := it1 d e1
        refine .inr ⟨go, fun H' => ∃ w3 h3 us acc, w1.le w3 ∧ w3.rs D (.lst us) ∧ RVs X.K w3 us acc ∧ HW X.K w3 H' h3 ∧ WpE X.K w Q _ ((lcS vs g t e s m f (i + 1) acc h3).bindN fin), fun H' z => ⟨m, Nat.lt_succ_self m, z⟩, fun x H3 y3 => ?_⟩
        obtain ⟨w3, l3, hw3, rd⟩ := yl x H3 y3
        split at q2
        · exact q2.elim
        · rename_i s4 h4 e4
          refine ⟨w3, d, wipeS s vs, h2, s4, h4, rd, (rs.mono ((l1.trans l2).trans l3)).wipe vs, hw3, e4, fun w5 σ5 H5 l5 rs5 hw5 k5 => ⟨k5.trans (wipe_idem σ vs), w5, s4, h4, rs5, hw5, ?_⟩⟩
          revert q2
          cases t s4 h4 with
          | ex x h' => exact fun q2 => q2.elim
          | no => exact fun q2 => q2.elim
          | ok k h6 =>
            rw [R.bindN_ok]
            intro q2 w6 H6 l6 hw6
            have l26 := (l3.trans l5).trans l6
            cases k with
            | false =>
              rw [if_neg Bool.false_ne_true] at q2
              exact iteF ⟨w6, h6, us, acc, l2.trans l26, l26.2.2 _ _ rD, rv.mono l26, hw6, q2⟩
            | true =>
              rw [if_pos rfl] at q2
              refine iteT ⟨w6, s4, h6, rs5.mono l6, hw6, ?_⟩
              revert q2
              cases e s4 h6 with
              | ex x h' => exact fun q2 => q2.elim
              | no => exact fun q2 => q2.elim
              | ok y h7 =>
                rw [R.bindN_ok]
                intro q2 w7 v7 H7 l7 r7 hw7
                split at q2
                · rename_i z
                  have l27 := l26.trans l7
                  have rD7 := l27.2.2 _ _ rD
                  refine ⟨us, (hw7.rs _ _ rD7).1, by rw [rv.length]; exact of_decide_eq_true z, (w7.unres D).res D (.lst (us ++ [v7])), h7, us ++ [v7], acc ++ [y], ?_, .inr ⟨rfl, rfl⟩, ?_, hw7.reset ⟨_, rD7⟩, q2⟩
                  · exact (Wd.le_unres (l2.trans l27) f1.2.2).trans Wd.le_res
                  · exact ((rv.mono l27).append (.cons r7 .nil)).eqv (w := w7) (w' := (w7.unres D).res D (.lst (us ++ [v7]))) rfl rfl
                · exact q2.elim
section
variable {elt iter : Expr} {ifs : List Expr} {scope : Scope} {own : List (Str × Nat)} {pos spos : Pos} {im : IM} {g : GM} {t : BM} {el : EM} {fin : List D → LH → R D}
def DTs (X : Cx) (W : WX) (es : List Expr) (m : BM) : Prop := PTs X es (TB_ X.K W m)
def bYes : BM := fun _ h => .ok true h
theorem dts_nil {X : Cx} {W : WX} : DTs X W [] bYes := ⟨fun pins s σ H Q I ⟨w, s', h, rs, hw, q⟩ => pts_nil.run pins s σ H Q I (q w H (.refl w) hw)⟩
theorem dts_one {X : Cx} {W : WX} {c : Expr} {m : BM} (h : DT X W c m) : DTs X W [c] m := pts_one h
theorem d_lc (hf : FinOk X.K fin) (n : Nat) (hc : X.calm = true) (hN : X.N.Nodup) (hi : DI X W tg iter im) (ok : BlkOk X.N X.env.scope scope own)
    (hg : ∀ (s : Shared) (H : Hp) (C : Addr) (cl : List (Str × Addr)) (fp : List Addr), DG (X.blk s H scope (compEnvC scope cl C X.env) fp) (own.map (·.2)) tg g) (ht : ∀ (s : Shared) (H : Hp) (C : Addr) (cl : List (Str × Addr)) (fp : List Addr), DTs (X.blk s H scope (compEnvC scope cl C X.env) fp) WX0 ifs t)
    (he : ∀ (s : Shared) (H : Hp) (C : Addr) (cl : List (Str × Addr)) (fp : List Addr), DE (X.blk s H scope (compEnvC scope cl C X.env) fp) WX0 elt el) (hs : ∀ x, foldedSetIterable iter X.env x = pure x := by intro _; rfl) :
    DE X W (.ListComp elt [⟨tg, iter, ifs, 0⟩] scope pos) (mLcG fin n (own.map (·.2)) im g t el) := PE.imp (pe_lc (g := TG_ X.K (own.map fun (p : Str × Nat) => p.2) g) (tt := TB_ X.K WX0 t) (te := TE_ X.K WX0 el) hc hN hi ok hg ht he hs) fun σ H Q q => te_lc hf n q
theorem ds_setLc {i : Nat} {y : Str} {py : Pos} (hf : FinOk X.K fin) (n : Nat) (hc : X.calm = true) (hN : X.N.Nodup) (hy : X.N[i]? = some y) (hyl : X.env.scope.names.lookup y = some .local)
    (hsw : swapsWith (.ListComp elt [⟨tg, iter, ifs, 0⟩] scope pos) (some (.Name y py)) spos.line X.env = pure true) (hi : DI X W tg iter im) (ok : BlkOk X.N X.env.scope scope own)
    (hg : ∀ (s : Shared) (H : Hp) (C : Addr) (cl : List (Str × Addr)) (fp : List Addr), DG (X.blk s H scope (compEnvC scope cl C X.env) fp) (own.map (·.2)) tg g) (ht : ∀ (s : Shared) (H : Hp) (C : Addr) (cl : List (Str × Addr)) (fp : List Addr), DTs (X.blk s H scope (compEnvC scope cl C X.env) fp) WX0 ifs t)
    (he : ∀ (s : Shared) (H : Hp) (C : Addr) (cl : List (Str × Addr)) (fp : List Addr), DE (X.blk s H scope (compEnvC scope cl C X.env) fp) WX0 elt el) (hs : ∀ x, foldedSetIterable iter X.env x = pure x := by intro _; rfl) :
    DS X W (.Assign [.Name y py] (.ListComp elt [⟨tg, iter, ifs, 0⟩] scope pos) spos) (sSet i (mLcG fin n (own.map (·.2)) im g t el)) := PS.imp (ps_setLc (g := TG_ X.K (own.map fun (p : Str × Nat) => p.2) g) (tt := TB_ X.K WX0 t) (te := TE_ X.K WX0 el) hc hN hy hyl hsw hi ok hg ht he hs) fun D σ H ⟨w, s, h, rs, hw, q⟩ =>
  te_lc hf n ⟨w, s, h, rs, hw, WpS.q rs q fun d h1 w1 v H1 l rv hw1 q1 => q1 w1 _ H1 (.refl w1) ((rs.mono l).set rv) hw1⟩
end
end
end DN
namespace DN
open PySem PySem.Spec PyProof.Rows L2

/-! ### defs: what a call gives, by the arguments and the state -/
abbrev FM := List D → LH → R D
/-- room for k calls; no repr goes on -/
structure Rm (k : Nat) (A : Around) : Prop where
  room : Room k A
  gd : A.guards = some []
  sl : A.units + 16 * k + 1000 < cLine
theorem Rm.mono {j k : Nat} {A : Around} (r : Rm k A) (h : j ≤ k) : Rm j A := ⟨r.room.mono h, r.gd, by have := r.sl; omega⟩
theorem Rm.u700 {k : Nat} {A : Around} (r : Rm k A) : A.units + 700 < cLine := by have := r.sl; omega
theorem Rm.deeper {k : Nat} {A : Around} (r : Rm (k + 1) A) (env : Env) : Rm k (A.deeper env) := ⟨r.room.deeper env, r.gd, by have := r.sl; show A.units + 3 + 16 * k + 1000 < cLine; omega⟩
theorem Rm.u65 {k : Nat} {A : Around} (r : Rm k A) : A.units + 65 < cLine := by have := r.room.un; omega
theorem Rm.u64 {k : Nat} {A : Around} (r : Rm k A) : A.units + 64 < cLine := by have := r.room.un; omega
structure FnG (P : Program) (w : World) (K : PySem.W.Frag) (mg : Str → Option Value) (base : Heap) (k : Nat) (f : Addr) (fd : FuncData) (ps : List Str) (m : FM) : Prop where
  run : ∀ (A : Around) (outer : List Env) (s : Shared) (H : Hp) (args : Args) (us : List Value) (vs : List V) (Q : VK) (E : XK) (v : Wd) (ds : List D) (h : LH), Rm k A → Env0 P w K mg base A outer s H →
    BindsTo s fd args (ps.zip us) → Vals vs us → RVs K v vs ds → HW K v H h → ds.length = ps.length → WpE K v Q E (m ds h) → codeAny (model P w) A (.call (.ref f) args) (CR (L2.CX P w) outer P w H s Q E) s
section
variable {P : Program} {w : World} {K : PySem.W.Frag} {mg : Str → Option Value} {base : Heap} {k : Nat} {f : Addr} {fd : FuncData} {ps : List Str} {m m' : FM}
theorem FnG.mono {j : Nat} (F : FnG P w K mg base j f fd ps m) (h : j ≤ k) : FnG P w K mg base k f fd ps m := ⟨fun A o s H a us vs Q E v ds h' r => F.run A o s H a us vs Q E v ds h' (r.mono h)⟩
/-- another way to say what it gives -/
theorem FnG.imp (F : FnG P w K mg base k f fd ps m) (h : ∀ (v : Wd) (Q : VK) (E : XK) (H : Hp) (ds : List D) (s : LH), HW K v H s → ds.length = ps.length → WpE K v Q E (m' ds s) → WpE K v Q E (m ds s)) : FnG P w K mg base k f fd ps m' :=
  ⟨fun A o s H a us vs Q E v ds h' r e b q1 q2 q3 q4 q5 => F.run A o s H a us vs Q E v ds h' r e b q1 q2 q3 q4 (h v Q E H ds h' q3 q4 q5)⟩
theorem FnG.eq (F : FnG P w K mg base k f fd ps m) (h : ∀ ds s, m' ds s ≠ .no → m ds s = m' ds s) : FnG P w K mg base k f fd ps m' := F.imp fun v Q E H ds s _ _ q => by
  by_cases e : m' ds s = .no
  · rw [e] at q; exact q.elim
  · rw [h ds s e]; exact q

def fin_ (r : RQ) : R D := match r with
  | .rt d h => .ok d h
  | .nx _ h => .ok .non h
  | .ex x _ h => .ex x h
  | _ => .no
def fnM (n : Nat) (m : SM) : FM := fun ds h => fin_ (m (ds.map some ++ List.replicate (n - ds.length) none) h)
theorem start_rs {v : Wd} {N : List Str} {vs : List V} {ds : List D} (r : RVs K v vs ds) : RS K v (L2.start N vs) (ds.map some ++ List.replicate (N.length - ds.length) none) := by
  unfold L2.start
  rw [r.length]
  refine ⟨by simp [r.length], fun i d e => ?_⟩
  by_cases hi : i < ds.length
  · rw [List.getElem?_append_left (by simpa using hi), List.getElem?_map] at e
    cases q : ds[i]? with
    | none => rw [q] at e; cases e
    | some x =>
      rw [q] at e
      cases e
      obtain ⟨u, h1, h2⟩ := r.get q
      exact ⟨u, by rw [List.getElem?_append_left (by simpa [r.length] using hi), List.getElem?_map, h1]; rfl, h2⟩
  · rw [List.getElem?_append_right (by simpa using hi), List.getElem?_replicate] at e
    split at e <;> cases e
/-- a def by its body -/
theorem fnG_of {x qual : Str} {st : Stmt} {N : List Str} {sm : SM} (F : Fun K x qual st f fd) (S : FnScope N ps (defScope st))
    (hbody : ∀ (cdv : Value) (A : Around) (outer : List Env) (s : Shared) (H : Hp) (E : XK), Rm k (A.deeper (envOfC qual (defScope st) s.heap.objs.size f cdv)) →
      DSs (cxOf (L2.CX P w) P w K mg base N qual (defScope st) f cdv A outer s H E) (fun c d _ H => E c d H) (defBody st) sm) : FnG P w K mg base (k + 1) f fd ps (fnM N.length sm) := by
  obtain ⟨oc, od, kV, doc, pm, an, cdv, ct, osl, efd, lk, hcd⟩ := F.ex
  subst efd
  refine ⟨fun A outer s H args us vs Q E v ds h hr e0 hb rv rd hw hl q => ?_⟩
  have hl' : vs.length = ps.length := rd.length.trans hl
  have inK : K.In s.heap := e0.mod.kin.keeps fun b o e => (e0.bs b o e).1
  have kinds : ∀ y ∈ ps.zip us, (defScope st).names.lookup y.1 = some .local ∨ ((defScope st).names.lookup y.1 = some .cell ∧ ((cellsFrom (s.heap.objs.size + 1) (defScope st).names []).lookup y.1).isSome = true) := by
    rintro ⟨n, u⟩ hy
    cases S.par n (List.of_mem_zip hy).1 with
    | inl z => exact .inl z
    | inr z => exact .inr ⟨z, PySem.W.cellsFrom_some _ _ _ (.inl z)⟩
  refine codeAny_call_function hr.room.depth (inK _ _ lk) rfl S.co S.gen rfl (PySem.W.codeRec_of inK hcd) (hb _ _ _ _ (wpAny_newFunctionEnv_cells S.kind kinds ?_))
  intro env he s1 x1
  cases he
  refine ⟨(e0.mod.nolimit.keeps fun b o e => (e0.bs b o e).1).keeps x1.toInCall.keep, codeAny_func ?_⟩
  have start_ : Inv (cxOf (L2.CX P w) P w K mg base N qual (defScope st) f cdv A outer s H E) [] (L2.start N vs) H s1 := inv_start S hr.room.hd e0 hl' rv x1
  have body := hbody cdv A outer s H E (hr.deeper _)
  refine wpAny_mono (body.run [] s1 (L2.start N vs) H { nx := fun _ H' => Q .non H', rt := Q } start_ ⟨v, _, h, start_rs rd, hw, ?_⟩) ?_ (fun e s' hs => hs)
  · unfold fnM fin_ at q
    revert q
    cases sm (ds.map some ++ List.replicate (N.length - ds.length) none) h with
    | nx s' h' => exact fun q w' σ' H' l rs hw' => q w' .non H' l .non hw'
    | rt d h' => exact fun q => q
    | ex x s' h' => exact fun q w' c dd σ' H' l rs rx hw' => q w' c dd H' l rx hw'
    | bk s' h' => exact fun q => q.elim
    | ct s' h' => exact fun q => q.elim
    | no => exact fun q => q.elim
  · intro fl s' hs
    cases fl with
    | ret u =>
      obtain ⟨v', σ', H', J, r', q'⟩ := hs
      exact ⟨v', H', J.os, J.bare, J.base, J.hok, r', q'⟩
    | next =>
      obtain ⟨σ', H', J, q'⟩ := hs
      exact ⟨.non, H', J.os, J.bare, J.base, J.hok, rfl, q'⟩
    | brk =>
      obtain ⟨_, _, _, z⟩ := hs
      exact False.elim z
    | cont =>
      obtain ⟨_, _, _, z⟩ := hs
      exact False.elim z

/-! what a def leaves of its own state: nothing, its value frozen -/
mutual
/-- no reference from n on -/
def below (n : Nat) : D → Bool
  | .tup l => belows n l
  | .lst l => belows n l
  | .kst l => belows n l
  | .dct l => belowk n l
  | .ref k => decide (k < n)
  | _ => true
def belows (n : Nat) : List D → Bool
  | [] => true
  | d :: ds => below n d && belows n ds
def belowk (n : Nat) : List (Key × D) → Bool
  | [] => true
  | (_, d) :: ds => below n d && belowk n ds
end
/-- the value, a new list frozen -/
def frzD (n : Nat) (h : LH) (d : D) : Option D := match d with
  | .ref k => if decide (k < n) = true then some (.ref k) else match h[k]? with
    | some (.lst l) => if belows n l = true then some (.lst l) else none
    | some (.dct l) => if belowk n l = true then some (.dct l) else none
    | none => none
  | d => if below n d = true then some d else none
open Classical in
noncomputable def gcM (m : FM) : FM := fun ds h => match m ds h with
  | .ok d h' => if h'.take h.length = h then (match frzD h.length h' d with
    | some d' => .ok d' h
    | none => .no) else .no
  | .ex x h' => .ex x h'
  | .no => .no
end
section
variable {K : PySem.W.Frag} {w : Wd} {n : Nat}
def Wd.cutW (w : Wd) (n : Nat) : Wd := ⟨w.fz, w.at_.take n, w.rs⟩
mutual
theorem RV.cutW : ∀ {v : V} {d : D}, RV K w v d → below n d = true → RV K (w.cutW n) v d
  | _, _, .non, _ => .non
  | _, _, .bl b, _ => .bl b
  | _, _, .int b, _ => .int b
  | _, _, .str b, _ => .str b
  | _, _, .tup h r, e => .tup h (RVs.cutW r (by simpa only [below] using e))
  | _, _, .lst h r, e => .lst h (RVs.cutW r (by simpa only [below] using e))
  | _, _, .kst h r, e => .kst h (RVs.cutW r (by simpa only [below] using e))
  | _, _, .dct h r, e => .dct h (RKs.cutW r (by simpa only [below] using e))
  | _, _, .ref (n := k) h, e => .ref (by
      have e' : k < n := by simpa only [below, decide_eq_true_eq] using e
      show (w.at_.take n)[k]? = _
      rw [List.getElem?_take_of_lt e']
      exact h)
  | _, _, .st v, _ => .st v
theorem RVs.cutW : ∀ {v : List V} {d : List D}, RVs K w v d → belows n d = true → RVs K (w.cutW n) v d
  | _, _, .nil, _ => .nil
  | _, _, .cons h r, e => by
    simp only [belows, Bool.and_eq_true] at e
    exact .cons (RV.cutW h e.1) (RVs.cutW r e.2)
theorem RKs.cutW : ∀ {v : List (Key × V)} {d : List (Key × D)}, RKs K w v d → belowk n d = true → RKs K (w.cutW n) v d
  | _, _, .nil, _ => .nil
  | _, _, .cons h r, e => by
    simp only [belowk, Bool.and_eq_true] at e
    exact .cons (RV.cutW h e.1) (RKs.cutW r e.2)
end
mutual
theorem RV.lows : ∀ {v : V} {d : D}, RV K w v d → below w.at_.length d = true
  | _, _, .non => rfl
  | _, _, .bl b => rfl
  | _, _, .int b => rfl
  | _, _, .str b => rfl
  | _, _, .tup h r => by simpa only [DN.below] using RVs.lows r
  | _, _, .lst h r => by simpa only [DN.below] using RVs.lows r
  | _, _, .kst h r => by simpa only [DN.below] using RVs.lows r
  | _, _, .dct h r => by simpa only [DN.below] using RKs.lows r
  | _, _, .ref h => by simpa only [DN.below, decide_eq_true_eq] using (List.getElem?_eq_some_iff.mp h).1
  | _, _, .st v => rfl
theorem RVs.lows : ∀ {v : List V} {d : List D}, RVs K w v d → belows w.at_.length d = true
  | _, _, .nil => rfl
  | _, _, .cons h r => by simp only [belows, RV.lows h, RVs.lows r, Bool.and_self]
theorem RKs.lows : ∀ {v : List (Key × V)} {d : List (Key × D)}, RKs K w v d → belowk w.at_.length d = true
  | _, _, .nil => rfl
  | _, _, .cons h r => by simp only [belowk, RV.lows h, RKs.lows r, Bool.and_self]
end
/-- back to the state ahead: what was made since is no longer known -/
theorem HW.cutW {w0 : Wd} {H0 H : Hp} {h h' : LH} (hw0 : HW K w0 H0 h) (l : w0.le w) (hw : HW K w H h') (e : h'.take h.length = h) : HW K (w.cutW h.length) H h ∧ w0.le (w.cutW h.length) := by
  have hle : h.length ≤ h'.length := by
    have := congrArg List.length e
    rw [List.length_take] at this
    omega
  have eat : w.at_.take h.length = w0.at_ := by
    obtain ⟨t, q⟩ := l.2.1
    rw [← q, ← hw0.len]
    simp
  refine ⟨⟨fun a o q => hw.fz a o q, ?_, fun m a p e1 e2 => ?_, ?_, fun a o hm => hw.sep a o (List.mem_of_mem_take hm), fun a o q => ?_⟩, l.1, ?_, l.2.2⟩
  · show (w.at_.take h.length).length = h.length
    rw [eat, hw0.len]
  · -- the old objects stand as ahead: the state of then tells how
    have e1' : (w.at_.take h.length)[m]? = some a := e1
    have hm : m < h.length := (List.getElem?_eq_some_iff.mp e2).1
    have e3 : h'[m]? = some p := by
      rw [← e, List.getElem?_take_of_lt hm] at e2
      exact e2
    rw [List.getElem?_take_of_lt hm] at e1'
    obtain ⟨o, h1, h2⟩ := hw.ats m a p e1' e3
    refine ⟨o, h1, ?_⟩
    -- its parts were known ahead, so they lie below
    obtain ⟨a0, o0, _, _, r0⟩ := hw0.get e2
    cases r0 with
    | lst r0 =>
      cases h2 with
      | lst r => exact .lst (r.cutW (by rw [← hw0.len]; exact r0.lows))
    | dct r0 =>
      cases h2 with
      | dct r => exact .dct (r.cutW (by rw [← hw0.len]; exact r0.lows))
  · show (w.at_.take h.length).Nodup
    exact hw.nd.sublist (List.take_sublist _ _)
  · obtain ⟨q1, q2, q3⟩ := hw.rs a o q
    exact ⟨q1, fun z => q2 (List.mem_of_mem_take z), q3⟩
  · show w0.at_ <+: w.at_.take h.length
    rw [eat]
    exact List.prefix_refl _
end
section
variable {P : Program} {w : World} {K : PySem.W.Frag} {mg : Str → Option Value} {base : Heap} {k : Nat} {f : Addr} {fd : FuncData} {ps : List Str} {m m' : FM}
theorem frzD_ok {v : Wd} {w1 : Wd} {H0 H1 : Hp} {h h1 : LH} {u : V} {d d' : D} {Q : VK} (hw0 : HW K v H0 h) (l : v.le w1) (hw : HW K w1 H1 h1) (e : h1.take h.length = h) (r : RV K w1 u d) (e2 : frzD h.length h1 d = some d') (q : Pv K v Q d' h) : Q u H1 := by
  obtain ⟨hc, lc⟩ := hw0.cutW l hw e
  have plain : ∀ d, below h.length d = true → RV K w1 u d → Pv K v Q d h → Q u H1 := fun d b r q => q _ u H1 lc (r.cutW b) hc
  cases r with
  | @ref a n z =>
    unfold frzD at e2
    dsimp only at e2
    split at e2
    · rename_i z0
      cases e2
      exact plain _ (by simpa only [below] using z0) (.ref z) q
    · rename_i z0
      have nin : a ∉ w1.at_.take h.length := fun hm => by
        obtain ⟨i, hi, ei⟩ := List.getElem_of_mem hm
        have hi' : i < h.length := by
          have := hi
          rw [List.length_take] at this
          omega
        rw [List.getElem_take] at ei
        have hlt : i < w1.at_.length := by
          rw [List.length_take] at hi
          omega
        have : i = n := nd_ix hw.nd (by rw [List.getElem?_eq_getElem hlt]; exact congrArg some ei) z
        subst this
        exact z0 (decide_eq_true hi')
      have nfz : ∀ o, ¬ w1.fz a o := fun o => hw.sep a o (List.mem_of_getElem? z)
      have nrs : ∀ o, ¬ w1.rs a o := fun o q => (hw.rs a o q).2.1 (List.mem_of_getElem? z)
      -- the object becomes one of the frozen
      have frz : ∀ o, H1 a = some o → HW K ((w1.cutW h.length).add a o) H1 h := fun o ho =>
        ⟨fun b u z => z.elim (fun z => hc.fz b u z) fun ⟨e1, e2⟩ => by rw [e1, e2]; exact ho, hc.len, fun i b p e1 e2 => let ⟨u, h1, h2⟩ := hc.ats i b p e1 e2; ⟨u, h1, h2.mono Wd.le_add⟩, hc.nd,
          fun b u hm z => z.elim (fun z => hc.sep b u hm z) fun ⟨e1, _⟩ => nin (e1 ▸ hm), fun b u z => let ⟨q1, q2, q3⟩ := hc.rs b u z; ⟨q1, q2, fun x y => y.elim (q3 x) fun ⟨e1, _⟩ => nrs u (e1 ▸ z)⟩⟩
      split at e2
      · rename_i l0 e0
        split at e2
        · rename_i zb
          cases e2
          obtain ⟨o, h2, h3⟩ := hw.ats n a _ z e0
          cases h3 with
          | lst r => exact q _ _ _ (lc.trans Wd.le_add) (.lst (.inr ⟨rfl, rfl⟩) ((r.cutW zb).mono Wd.le_add)) (frz _ h2)
        · cases e2
      · rename_i l0 e0
        split at e2
        · rename_i zb
          cases e2
          obtain ⟨o, h2, h3⟩ := hw.ats n a _ z e0
          cases h3 with
          | dct r => exact q _ _ _ (lc.trans Wd.le_add) (.dct (.inr ⟨rfl, rfl⟩) ((r.cutW zb).mono Wd.le_add)) (frz _ h2)
        · cases e2
      · cases e2
  | non => cases e2; exact plain _ rfl .non q
  | bl b => cases e2; exact plain _ rfl (.bl b) q
  | int b => cases e2; exact plain _ rfl (.int b) q
  | str b => cases e2; exact plain _ rfl (.str b) q
  | st b =>
    have e3 : some (D.st u) = some d' := e2
    cases e3
    exact plain _ rfl (.st _) q
  | tup a b =>
    unfold frzD at e2
    dsimp only at e2
    split at e2
    · rename_i z
      cases e2
      exact plain _ z (.tup a b) q
    · cases e2
  | lst a b =>
    unfold frzD at e2
    dsimp only at e2
    split at e2
    · rename_i z
      cases e2
      exact plain _ z (.lst a b) q
    · cases e2
  | kst a b =>
    unfold frzD at e2
    dsimp only at e2
    split at e2
    · rename_i z
      cases e2
      exact plain _ z (.kst a b) q
    · cases e2
  | dct a b =>
    unfold frzD at e2
    dsimp only at e2
    split at e2
    · rename_i z
      cases e2
      exact plain _ z (.dct a b) q
    · cases e2
theorem FnG.gc (F : FnG P w K mg base k f fd ps m) : FnG P w K mg base k f fd ps (gcM m) := F.imp fun v Q E H ds h hw hl q => by
  unfold gcM at q
  revert q
  cases m ds h with
  | ex x h1 => exact fun q => q
  | no => exact fun q => q
  | ok d h1 =>
    intro q w1 u H1 l rv hw1
    dsimp only at q
    split at q
    · rename_i e
      split at q
      · rename_i d' e2
        exact frzD_ok hw l hw1 e rv e2 q
      · exact q.elim
    · exact q.elim
end
/-! ### calls of defs -/
def mFn (n : Nat) (m : FM) (dvs : List D) (a : AM) : EM := fun s h => (a s h).bind fun l h1 => if decide ((l ++ dvs).length = n) = true then m (l ++ dvs) h1 else .no
section
variable {X : Cx} {W : WX} {k : Nat} {f : Addr} {fd : FuncData} {ps : List Str} {m : FM} {x : Str} {p pos : Pos} {e : Expr} {es : List Expr} {a : AM} {dvs : List D} {dvv : List V} {ds : List Value}
theorem run_fg {pins : List (Addr × Obj)} {σ : L2.St} {H : Hp} {s : Shared} {Q : VK} {us all : List Value} {kw : List (Str × Value)} {vs : List V} {w : Wd} {l : List D} {h : LH} (F : FnG X.prog X.w X.K X.mg X.base k f fd ps m) (hr : Rm k X.A) (tk : Takes X W)
    (I : Inv X pins σ H s) (hb : BindsTo s fd ⟨us, kw⟩ (ps.zip all)) (r : Vals vs all) (rd : RVs X.K w vs l) (hw : HW X.K w H h) (hl : l.length = ps.length) (q : WpE X.K w Q (fun c d H => W c d σ H) (m l h)) :
    wpAny (model X.prog X.w) X.A (call (.ref f) us kw) (EP X pins σ Q) X.xe s := by
  have run := F.run X.A X.stack s H ⟨us, kw⟩ all vs Q (fun c d H => W c d σ H) w l h hr I.env0 hb r rd hw hl q
  refine wpAny_call (codeAny_mono run ?_)
  intro res s2 hres
  cases res with
  | error err => exact tk err s2 (XE.of_call I (fun c d H' z => z) hres)
  | ok fl =>
    cases fl with
    | ret u => exact I.after hres
    | next => exact False.elim hres
    | brk => exact False.elim hres
    | cont => exact False.elim hres
/-- f(e, ..), defaults behind -/
theorem d_call (F : FnG X.prog X.w X.K X.mg X.base k f fd ps m) (hr : Rm k X.A) (tk : Takes X W) (hg : Gl X x) (hm : X.mg x = some (.ref f)) (hk : PySem.W.keepIn X.K (.ref f) = true) (hb : Binds X.K fd ps ds) (hd : Vals dvv ds) (hv : ∀ w, RVs X.K w dvv dvs)
    (ha : DA X W (e :: es) a) (hdb : (x == ("__debug__" : Str)) = false := by decide) (he : starEach (e :: es) X.env = (false, eval e X.env) :: starEach es X.env := by rfl) (hpl : (backTo pos (starEach es X.env)).any (·.1) = false := by rfl) :
    DE X W (.Call (.Name x p) (e :: es) [] pos) (mFn ps.length m dvs a) := ⟨fun pins s σ H Q I ⟨w, sg, h, rs, hw, q⟩ => by
  refine wpAny_Call_Name_kw (ld_glob I hg hm ?_ hdb)
  refine PySem.W.callWith_K (h₀ := X.base) I.ok.mod.kin hk (thn (ha.run pos pins s σ H (fun vs H1 => ∃ w1 l h1, RVs X.K w1 vs l ∧ HW X.K w1 H1 h1 ∧ (l ++ dvs).length = ps.length ∧ WpE X.K w1 Q (fun c d H => W c d σ H) (m (l ++ dvs) h1)) I
    ⟨w, sg, h, rs, hw, WpA.bind (G := WpE X.K w Q _) q (fun _ _ z => z) (fun z => z) fun l h1 w1 vs H1 l1 rv hw1 q1 => ?_⟩) ?_) he hpl
  · split at q1
    · rename_i z
      exact ⟨w1, l, h1, rv, hw1, of_decide_eq_true z, WpE.mono l1 q1⟩
    · exact q1.elim
  · rintro us s1 ⟨vs, H1, I1, r, w1, l, h1, rv, hw1, hl, q1⟩
    refine ⟨I1.kIn, run_fg F hr tk I1 (hb s1 us I1.kIn ?_) (r.append hd) (rv.append (hv w1)) hw1 hl q1⟩
    rw [← (r.append hd).length, (rv.append (hv w1)).length, hl]⟩
theorem d_call0 (F : FnG X.prog X.w X.K X.mg X.base k f fd ps m) (hr : Rm k X.A) (tk : Takes X W) (hg : Gl X x) (hm : X.mg x = some (.ref f)) (hk : PySem.W.keepIn X.K (.ref f) = true) (hb : Binds X.K fd ps ds) (hd : Vals dvv ds) (hv : ∀ w, RVs X.K w dvv dvs)
    (hdb : (x == ("__debug__" : Str)) = false := by decide) : DE X W (.Call (.Name x p) [] [] pos) (mFn ps.length m dvs aNil) := ⟨fun pins s σ H Q I ⟨w, sg, h, rs, hw, q⟩ => by
  refine wpAny_Call_Name_kw (ld_glob I hg hm ?_ hdb)
  unfold mFn aNil at q
  rw [R.bind_ok] at q
  split at q
  · rename_i z
    have hl : ([] ++ dvs).length = ps.length := of_decide_eq_true z
    refine PySem.W.callWith_K0 I.kIn hk (run_fg (us := []) F hr tk I (hb s [] I.kIn ?_) (Vals.append .nil hd) (RVs.append .nil (hv w)) hw hl q)
    rw [← (Vals.append .nil hd).length, (RVs.append .nil (hv w)).length, hl]
  · exact q.elim⟩

/-! .. with keywords: each parameter is the j-th positional one, the j-th keyword's, or a default -/
inductive Src where
  | pos (j : Nat) | kw (j : Nat) | df (j : Nat)
def pick {α : Type} (l z d : List α) : List Src → List α
  | [] => []
  | .pos j :: r => l[j]?.toList ++ pick l z d r
  | .kw j :: r => z[j]?.toList ++ pick l z d r
  | .df j :: r => d[j]?.toList ++ pick l z d r
theorem rv_opt {K : PySem.W.Frag} {w : Wd} {vs : List V} {ds : List D} (r : RVs K w vs ds) (j : Nat) : RVs K w vs[j]?.toList ds[j]?.toList := by
  cases e : ds[j]? with
  | none =>
    have : vs[j]? = none := by
      rw [List.getElem?_eq_none_iff] at e ⊢
      rw [r.length]; exact e
    rw [this]
    exact .nil
  | some d =>
    obtain ⟨v, e1, e2⟩ := r.get e
    rw [e1]
    exact .cons e2 .nil
theorem vals_opt {vs : List V} {us : List Value} (r : Vals vs us) (j : Nat) : Vals vs[j]?.toList us[j]?.toList := by
  cases e : vs[j]? with
  | none => rw [r.none_of e]; exact .nil
  | some v =>
    obtain ⟨u, e1, e2⟩ := r.get e
    rw [e1]
    exact .cons e2 .nil
theorem pick_rv {K : PySem.W.Frag} {w : Wd} {l z d : List V} {l' z' d' : List D} (r : RVs K w l l') (q : RVs K w z z') (t : RVs K w d d') : ∀ ix : List Src, RVs K w (pick l z d ix) (pick l' z' d' ix)
  | [] => .nil
  | .pos j :: ix => (rv_opt r j).append (pick_rv r q t ix)
  | .kw j :: ix => (rv_opt q j).append (pick_rv r q t ix)
  | .df j :: ix => (rv_opt t j).append (pick_rv r q t ix)
theorem pick_vals {l z d : List V} {l' z' d' : List Value} (r : Vals l l') (q : Vals z z') (t : Vals d d') : ∀ ix : List Src, Vals (pick l z d ix) (pick l' z' d' ix)
  | [] => .nil
  | .pos j :: ix => (vals_opt r j).append (pick_vals r q t ix)
  | .kw j :: ix => (vals_opt q j).append (pick_vals r q t ix)
  | .df j :: ix => (vals_opt t j).append (pick_vals r q t ix)
/-- how a call with na positional values and the keywords ks binds -/
def BindsK (K : PySem.W.Frag) (fd : FuncData) (ps ks : List Str) (na : Nat) (ds : List Value) (ix : List Src) : Prop :=
  ∀ (s : Shared) (us ws : List Value), K.In s.heap → us.length = na → ws.length = ks.length → BindsTo s fd ⟨us, ks.zip ws⟩ (ps.zip (pick us ws ds ix))
def DK (X : Cx) (W : WX) (ks : List Keyword) (m : AM) : Prop := PK X ks (TA_ X.K W m)
theorem PK.imp {X : Cx} {e : List Keyword} {t t' : TA} (h : PK X e t) (k : ∀ σ H Q, t' σ H Q → t σ H Q) : PK X e t' := ⟨fun pos pins s σ H Q I q => h.run pos pins s σ H Q I (k σ H Q q)⟩
theorem dk_nil : DK X W [] aNil := PK.imp pk_nil fun σ H Q ⟨w, s, h, rs, hw, q⟩ => q w [] H (.refl w) .nil hw
theorem dk_cons {nm : Option Str} {kpos : Pos} {kws : List Keyword} {me : EM} {mr : AM} (ha : DE X W e me) (hr : DK X W kws mr) : DK X W (⟨nm, e, kpos⟩ :: kws) (aCons me mr) := PK.imp (pk_cons ha hr) fun σ H Q ⟨w, s, h, rs, hw, q⟩ =>
  ⟨w, s, h, rs, hw, WpE.bind (G := WpA X.K w Q _) q (fun _ _ z => z) (fun z => z) fun x h1 w1 v H1 l1 rv hw1 q1 =>
    ⟨w1, s, h1, rs.mono l1, hw1, WpA.bind (G := WpA X.K w Q _) q1 (fun _ _ z => Px.mono l1 z) (fun z => z) fun y h2 w2 u H2 l2 ru hw2 q2 => q2 w2 _ H2 (l1.trans l2) (.cons (rv.mono l2) ru) hw2⟩⟩
def mFnK (n na nk : Nat) (ix : List Src) (m : FM) (dvs : List D) (a z : AM) : EM := fun s h => (a s h).bind fun l h1 => (z s h1).bind fun y h2 =>
  if decide ((pick l y dvs ix).length = n ∧ l.length = na ∧ y.length = nk) = true then m (pick l y dvs ix) h2 else .no
/-- f(e, .., k = v, ..) -/
theorem d_callK {ks : List Str} {na : Nat} {ix : List Src} {kws : List Keyword} {z : AM} (F : FnG X.prog X.w X.K X.mg X.base k f fd ps m) (hr : Rm k X.A) (tk : Takes X W) (hg : Gl X x) (hm : X.mg x = some (.ref f)) (hk : PySem.W.keepIn X.K (.ref f) = true)
    (hb : BindsK X.K fd ps ks na ds ix) (hd : Vals dvv ds) (hv : ∀ w, RVs X.K w dvv dvs)
    (ha : DA X W (e :: es) a) (hkw : DK X W kws z) (hall : (backToKw pos (keywordEach kws X.env)).all (·.1.isSome) = true := by rfl) (hks : (backToKw pos (keywordEach kws X.env)).filterMap (·.1) = ks := by rfl)
    (hdb : (x == ("__debug__" : Str)) = false := by decide) (he : starEach (e :: es) X.env = (false, eval e X.env) :: starEach es X.env := by rfl)
    (hpl : ((backTo pos (starEach (e :: es) X.env)).any (·.1) || (backToKw pos (keywordEach kws X.env)).any (·.1.isNone)) = false := by rfl) :
    DE X W (.Call (.Name x p) (e :: es) kws pos) (mFnK ps.length na ks.length ix m dvs a z) := ⟨fun pins s σ H Q I ⟨w, sg, h, rs, hw, q⟩ => by
  refine wpAny_Call_Name_kw (ld_glob I hg hm ?_ hdb)
  refine PySem.W.callWith_KW (h₀ := X.base) I.ok.mod.kin hk hall (thn (ha.run pos pins s σ H (fun vs H1 => ∃ w1 l h1, RVs X.K w1 vs l ∧ RS X.K w1 σ sg ∧ HW X.K w1 H1 h1 ∧ WpE X.K w1 Q (fun c d H => W c d σ H) ((z sg h1).bind fun y h2 =>
    if decide ((pick l y dvs ix).length = ps.length ∧ l.length = na ∧ y.length = ks.length) = true then m (pick l y dvs ix) h2 else .no)) I
    ⟨w, sg, h, rs, hw, WpA.bind (G := WpE X.K w Q _) q (fun _ _ z => z) (fun z => z) fun l h1 w1 vs H1 l1 rv hw1 q1 => ⟨w1, l, h1, rv, rs.mono l1, hw1, WpE.mono l1 q1⟩⟩) ?_) hpl he
  rintro us s1 ⟨vs, H1, I1, r, w1, l, h1, rv, rs1, hw1, q1⟩
  refine thn (hkw.run pos pins s1 σ H1 (fun zs H2 => ∃ w2 y h2, w1.le w2 ∧ RVs X.K w2 zs y ∧ HW X.K w2 H2 h2 ∧ ((pick l y dvs ix).length = ps.length ∧ l.length = na ∧ y.length = ks.length) ∧ WpE X.K w2 Q (fun c d H => W c d σ H) (m (pick l y dvs ix) h2)) I1
    ⟨w1, sg, h1, rs1, hw1, WpA.bind (G := WpE X.K w1 Q _) q1 (fun _ _ z => z) (fun z => z) fun y h2 w2 zs H2 l2 rz hw2 q2 => ?_⟩) ?_
  · split at q2
    · rename_i z0
      exact ⟨w2, y, h2, l2, rz, hw2, of_decide_eq_true z0, WpE.mono l2 q2⟩
    · exact q2.elim
  · rintro ws s2 ⟨zs, H2, I2, rws, w2, y, h2, l2, rz, hw2, ⟨n1, n2, n3⟩, q2⟩
    refine ⟨I2.kIn, ?_⟩
    rw [hks]
    refine run_fg F hr tk I2 (hb s2 us ws I2.kIn ?_ ?_) (pick_vals r rws hd ix) (pick_rv (rv.mono l2) rz (hv w2) ix) hw2 n1 q2
    · rw [← r.length, rv.length, n2]
    · rw [← rws.length, rz.length, n3]⟩
end

/-! ### defs by their names -/
/-- the def st of the module, called x, keeps m -/
structure CalP (P : Program) (w : World) (K : PySem.W.Frag) (mg : Str → Option Value) (base : Heap) (k : Nat) (x : Str) (st : Stmt) (ps : List Str) (m : FM) : Prop where
  ex : ∃ f fd, Fun K x x st f fd ∧ mg x = some (.ref f) ∧ FnG P w K mg base k f fd ps m
structure DefAt (K : PySem.W.Frag) (mg : Str → Option Value) (x : Str) (st : Stmt) : Prop where
  ex : ∃ f fd, Fun K x x st f fd ∧ mg x = some (.ref f)
theorem defAt_mk {K : PySem.W.Frag} {h : Heap} {mg : Str → Option Value} {x : Str} {st : Stmt} {f : Addr} {oc : Value} {od an : Option Addr} {osl : Array (Option Value)} {kV doc pm cdv ct : Value} (X : K.In h) (G : h.Ns mainGlobals mg)
    (a : PySem.W.nsIn K mainGlobals x = some (some (.ref f))) (l : K.lookup f = some ⟨oc, od, .func (PySem.W.fnOf x x (defArgs st) (defBody st) (defScope st) .none kV doc pm an cdv ct), osl⟩) (c : PySem.W.codeIn K cdv x = true) (k : PySem.W.keepIn K (.ref f) = true) : DefAt K mg x st :=
  ⟨f, _, fun_mk l c k, PySem.W.mg_of X G a⟩
section
variable {P : Program} {w : World} {K : PySem.W.Frag} {mg : Str → Option Value} {base : Heap} {k : Nat} {x : Str} {st : Stmt} {ps N : List Str} {m m' : FM} {sm : SM}
theorem DefAt.cal (T : DefAt K mg x st) (S : FnScope N ps (defScope st)) {m : FM} (hbody : ∀ (f : Addr) (cdv : Value) (A : Around) (outer : List Env) (s : Shared) (H : Hp) (E : XK), Rm k (A.deeper (envOfC x (defScope st) s.heap.objs.size f cdv)) →
      DSs (cxOf (L2.CX P w) P w K mg base N x (defScope st) f cdv A outer s H E) (fun c d _ H => E c d H) (defBody st) sm) : CalP P w K mg base (k + 1) x st ps (fnM N.length sm) := by
  obtain ⟨f, fd, F, g⟩ := T.ex
  exact ⟨f, fd, F, g, fnG_of F S (hbody f)⟩
theorem DefAt.none (T : DefAt K mg x st) : CalP P w K mg base k x st ps (fun _ _ => .no) := by
  obtain ⟨f, fd, F, g⟩ := T.ex
  exact ⟨f, fd, F, g, ⟨fun _ _ _ _ _ _ _ _ _ _ _ _ _ _ _ _ _ _ _ q => q.elim⟩⟩
theorem CalP.mono {j : Nat} (C : CalP P w K mg base j x st ps m) (h : j ≤ k) : CalP P w K mg base k x st ps m := by
  obtain ⟨f, fd, F, g, r⟩ := C.ex
  exact ⟨f, fd, F, g, r.mono h⟩
theorem CalP.imp (C : CalP P w K mg base k x st ps m) (h : ∀ (v : Wd) (Q : VK) (E : XK) (H : Hp) (ds : List D) (s : LH), HW K v H s → ds.length = ps.length → WpE K v Q E (m' ds s) → WpE K v Q E (m ds s)) : CalP P w K mg base k x st ps m' := by
  obtain ⟨f, fd, F, g, r⟩ := C.ex
  exact ⟨f, fd, F, g, r.imp h⟩
theorem CalP.eq (C : CalP P w K mg base k x st ps m) (h : ∀ ds s, ds.length = ps.length → m' ds s ≠ .no → m ds s = m' ds s) : CalP P w K mg base k x st ps m' := C.imp fun v Q E H ds s _ hl q => by
  by_cases e : m' ds s = .no
  · rw [e] at q; exact q.elim
  · rw [h ds s hl e]; exact q
theorem CalP.gc (C : CalP P w K mg base k x st ps m) : CalP P w K mg base k x st ps (gcM m) := by
  obtain ⟨f, fd, F, g, r⟩ := C.ex
  exact ⟨f, fd, F, g, r.gc⟩
end
section
variable {X : Cx} {W : WX} {k : Nat} {st : Stmt} {ps : List Str} {m : FM} {x : Str} {p pos : Pos} {e : Expr} {es : List Expr} {a : AM}
theorem d_c1 (C : CalP X.prog X.w X.K X.mg X.base k x st ps m) (hr : Rm k X.A) (tk : Takes X W) (hg : Gl X x)
    (hb : ∀ (kV doc pm : Value) (an : Option Addr) (cdv ct : Value) (us : List Value), us.length = ps.length → bindArgs (PySem.W.fnOf x x (defArgs st) (defBody st) (defScope st) .none kV doc pm an cdv ct) ⟨us, []⟩ = pure (ps.zip us))
    (ha : DA X W (e :: es) a) (hdb : (x == ("__debug__" : Str)) = false := by decide) (he : starEach (e :: es) X.env = (false, eval e X.env) :: starEach es X.env := by rfl) (hpl : (backTo pos (starEach es X.env)).any (·.1) = false := by rfl) :
    DE X W (.Call (.Name x p) (e :: es) [] pos) (mFn ps.length m [] a) := by
  obtain ⟨f, fd, F, g, r⟩ := C.ex
  exact d_call (dvv := []) (ds := []) r hr tk hg g F.kp (F.binds hb) .nil (fun _ => .nil) ha hdb he hpl
theorem d_c0 (C : CalP X.prog X.w X.K X.mg X.base k x st ps m) (hr : Rm k X.A) (tk : Takes X W) (hg : Gl X x)
    (hb : ∀ (kV doc pm : Value) (an : Option Addr) (cdv ct : Value) (us : List Value), us.length = ps.length → bindArgs (PySem.W.fnOf x x (defArgs st) (defBody st) (defScope st) .none kV doc pm an cdv ct) ⟨us, []⟩ = pure (ps.zip us))
    (hdb : (x == ("__debug__" : Str)) = false := by decide) : DE X W (.Call (.Name x p) [] [] pos) (mFn ps.length m [] aNil) := by
  obtain ⟨f, fd, F, g, r⟩ := C.ex
  exact d_call0 (dvv := []) (ds := []) r hr tk hg g F.kp (F.binds hb) .nil (fun _ => .nil) hdb
/-- f(k = v, ..) with keywords alone, or behind positional values -/
theorem d_ck {ks : List Str} {na : Nat} {ix : List Src} {kws : List Keyword} {z : AM} (C : CalP X.prog X.w X.K X.mg X.base k x st ps m) (hr : Rm k X.A) (tk : Takes X W) (hg : Gl X x)
    (hb : ∀ (kV doc pm : Value) (an : Option Addr) (cdv ct : Value) (us ws : List Value), us.length = na → ws.length = ks.length → bindArgs (PySem.W.fnOf x x (defArgs st) (defBody st) (defScope st) .none kV doc pm an cdv ct) ⟨us, ks.zip ws⟩ = pure (ps.zip (pick us ws [] ix)))
    (ha : DA X W (e :: es) a) (hkw : DK X W kws z) (hall : (backToKw pos (keywordEach kws X.env)).all (·.1.isSome) = true := by rfl) (hks : (backToKw pos (keywordEach kws X.env)).filterMap (·.1) = ks := by rfl)
    (hdb : (x == ("__debug__" : Str)) = false := by decide) (he : starEach (e :: es) X.env = (false, eval e X.env) :: starEach es X.env := by rfl)
    (hpl : ((backTo pos (starEach (e :: es) X.env)).any (·.1) || (backToKw pos (keywordEach kws X.env)).any (·.1.isNone)) = false := by rfl) :
    DE X W (.Call (.Name x p) (e :: es) kws pos) (mFnK ps.length na ks.length ix m [] a z) := by
  obtain ⟨f, fd, F, g, r⟩ := C.ex
  refine d_callK (dvv := []) (ds := []) r hr tk hg g F.kp (fun s us ws _ h1 h2 => ?_) .nil (fun _ => .nil) ha hkw hall hks hdb he hpl
  obtain ⟨oc, od, kV, doc, pm, an, cdv, ct, osl, rfl, lk, hcd⟩ := F.ex
  exact .of_eq (hb kV doc pm an cdv ct us ws h1 h2)
/-- f(k = v, ..) -/
theorem d_ck0 {ks : List Str} {ix : List Src} {kw : Keyword} {kws : List Keyword} {z : AM} (C : CalP X.prog X.w X.K X.mg X.base k x st ps m) (hr : Rm k X.A) (tk : Takes X W) (hg : Gl X x)
    (hb : ∀ (kV doc pm : Value) (an : Option Addr) (cdv ct : Value) (ws : List Value), ws.length = ks.length → bindArgs (PySem.W.fnOf x x (defArgs st) (defBody st) (defScope st) .none kV doc pm an cdv ct) ⟨[], ks.zip ws⟩ = pure (ps.zip (pick [] ws [] ix)))
    (hkw : DK X W (kw :: kws) z) (hall : (backToKw pos (keywordEach (kw :: kws) X.env)).all (·.1.isSome) = true := by rfl) (hks : (backToKw pos (keywordEach (kw :: kws) X.env)).filterMap (·.1) = ks := by rfl)
    (hdb : (x == ("__debug__" : Str)) = false := by decide)
    (hpl : ((backTo pos (starEach [] X.env)).any (·.1) || (backToKw pos (keywordEach (kw :: kws) X.env)).any (·.1.isNone)) = false := by rfl) :
    DE X W (.Call (.Name x p) [] (kw :: kws) pos) (mFnK ps.length 0 ks.length ix m [] aNil z) := ⟨fun pins s σ H Q I ⟨w, sg, h, rs, hw, q⟩ => by
  obtain ⟨f, fd, F, g, r⟩ := C.ex
  refine wpAny_Call_Name_kw (ld_glob I hg g ?_ hdb)
  unfold mFnK aNil at q
  rw [R.bind_ok] at q
  refine PySem.W.callWith_KW0 (h₀ := X.base) I.ok.mod.kin F.kp hall (thn (hkw.run pos pins s σ H (fun zs H2 => ∃ w2 y h2, w.le w2 ∧ RVs X.K w2 zs y ∧ HW X.K w2 H2 h2 ∧ ((pick [] y [] ix).length = ps.length ∧ y.length = ks.length) ∧ WpE X.K w2 Q (fun c d H => W c d σ H) (m (pick [] y [] ix) h2)) I
    ⟨w, sg, h, rs, hw, WpA.bind (G := WpE X.K w Q _) q (fun _ _ z => z) (fun z => z) fun y h2 w2 zs H2 l2 rz hw2 q2 => ?_⟩) ?_) hpl
  · split at q2
    · rename_i z0
      obtain ⟨z1, _, z3⟩ := of_decide_eq_true z0
      exact ⟨w2, y, h2, l2, rz, hw2, ⟨z1, z3⟩, WpE.mono l2 q2⟩
    · exact q2.elim
  · rintro ws s2 ⟨zs, H2, I2, rws, w2, y, h2, l2, rz, hw2, ⟨n1, n3⟩, q2⟩
    refine ⟨I2.kIn, ?_⟩
    rw [hks]
    refine run_fg r hr tk I2 ?_ (pick_vals .nil rws .nil ix) (pick_rv .nil rz .nil ix) hw2 n1 q2
    obtain ⟨oc, od, kV, doc, pm, an, cdv, ct, osl, rfl, lk, hcd⟩ := F.ex
    exact .of_eq (hb kV doc pm an cdv ct ws (by rw [← rws.length, rz.length, n3]))⟩
end

/-! ### the law's own call -/
section
variable {P : Program} {w : World} {K : PySem.W.Frag} {mg mb : Str → Option Value} {k : Nat} {fa a : Addr} {fd : FuncData} {x : Str} {m : FM} {s₁ : Shared} {vs : List Value} {ns : List Int}
/-- the heap of which nothing but the script is known -/
theorem head_at {H : Hp} (inK : K.In s₁.heap) (ng : s₁.heap.Ns mainGlobals mg) (nb : s₁.heap.Ns builtinsNs mb) (bb : ∀ x : Str, x ≠ "__name__" → mb x = bootBuiltins x) (nl : s₁.heap.NoLimit) (gens : s₁.gens = #[])
    (ho : ∃ o, s₁.heap.get? a = some o ∧ ∀ es ep, o.data ≠ .dict es ep) (room : Rm k callerA) (F : ∀ base : Heap, K.In base → base.Ns mainGlobals mg → FnG P w K mg base k fa fd [x] m) (hbind : ∀ (s : Shared) (u : Value), BindsTo s fd ⟨[u], []⟩ [(x, u)])
    (only : ∀ b o, H b = some o → b = a ∧ ∃ ob xs, o = .frz ob (.lst xs)) (okH : HOk P w H s₁.heap) (freeK : H a ≠ none → K.lookup a = none) (rd : RV K ⟨fun b o => H b = some o, [], fun _ _ => False⟩ (.ref a) (.kst (ns.map .int)))
    (hm : ∃ h', m [.kst (ns.map .int)] [] = .ok (.bl true) h') :
    codeAny (model P w) callerA (.call (.ref fa) ⟨[.ref a], []⟩) (fun r s' => r = .ok (.ret (.bool true)) ∧ OldK s₁.heap s'.heap ∧ s'.os = s₁.os ∧ AllBare s'.gens) s₁ := by
  obtain ⟨h', em⟩ := hm
  have noDict : ∀ {b : Addr} {o : Obj} {es : Array DictEntry} {ep : Nat}, s₁.heap.get? b = some o → o.data = .dict es ep → H b = none := by
    intro b o es ep e d
    cases q : H b with
    | none => rfl
    | some u =>
      obtain ⟨rfl, _⟩ := only b u q
      obtain ⟨o', e', nd⟩ := ho
      rw [e] at e'
      cases e'
      exact (nd es ep d).elim
  have keepNs : ∀ {b : Addr} {mm : Str → Option Value}, s₁.heap.Ns b mm → (hidT s₁.heap H).Ns b mm := by
    rintro b mm ⟨o, es, ep, e, d, r⟩
    exact ⟨o, es, ep, hidT_get e (noDict e d), d, r⟩
  have inB : K.In (hidT s₁.heap H) := fun b o e => hidT_get (inK b o e) (by
    cases q : H b with
    | none => rfl
    | some u =>
      obtain ⟨rfl, _⟩ := only b u q
      rw [freeK (by rw [q]; simp)] at e
      cases e)
  have md : Mod K mg (hidT s₁.heap H) := ⟨inB, keepNs ng, ⟨mb, keepNs nb, bb⟩, let ⟨mc, h1, h2⟩ := nl; ⟨mc, keepNs h1, h2⟩⟩
  have e0 : Env0 P w K mg (hidT s₁.heap H) callerA [] s₁ H := ⟨rfl, md, fun b o e => of_hidT e, Nat.le_of_eq (hidT_size _ _), trivial, fun b hb => (nomatch hb), okH, .of_eq gens⟩
  have hw : HW K ⟨fun b o => H b = some o, [], fun _ _ => False⟩ H [] := ⟨fun _ _ e => e, rfl, fun n b p e => (by simp at e), List.nodup_nil, fun _ _ h => (nomatch h), fun _ _ h => h.elim⟩
  refine codeAny_mono ((F _ inB (keepNs ng)).run callerA [] s₁ H ⟨[.ref a], []⟩ [.ref a] [.ref a] (fun v _ => v = .bl true) (fun _ _ _ => False) _ _ [] room e0 (hbind s₁ (.ref a)) (.cons rfl .nil) (.cons rd .nil) hw rfl ?_) ?_
  · rw [em]
    intro w' v H' _ rv _
    cases rv
    rfl
  · intro r s' hres
    cases r with
    | error e =>
      obtain ⟨_, _, _, _, _, _, _, _, _, _, _, _, z⟩ := hres
      exact z.elim
    | ok fl =>
      cases fl with
      | next => exact False.elim hres
      | brk => exact False.elim hres
      | cont => exact False.elim hres
      | ret u =>
        obtain ⟨v, H', os, bare, un, okH', r', q⟩ := hres
        have q' : v = .bl true := q
        subst q'
        obtain rfl : u = Value.bool true := r'
        refine ⟨rfl, OldK.of_keep fun b o e => ?_, os, bare⟩
        cases q : H b with
        | none => exact un.keep b o e q (fun z => nomatch z) (by simp)
        | some z =>
          obtain ⟨rfl, ob, xs, rfl⟩ := only b z q
          have q2 := un.frzs b ob _ q
          obtain ⟨e1, _⟩ := okH b _ q
          obtain ⟨e2, _⟩ := okH' b _ q2
          rw [e] at e1
          cases e1
          exact e2
theorem head_call (inK : K.In s₁.heap) (ng : s₁.heap.Ns mainGlobals mg) (nb : s₁.heap.Ns builtinsNs mb) (bb : ∀ x : Str, x ≠ "__name__" → mb x = bootBuiltins x) (nl : s₁.heap.NoLimit) (gens : s₁.gens = #[])
    (ha : s₁.heap.get? a = some { cls := .type "list", data := .seq vs.toArray }) (hi : IntsAre vs ns) (hl : ns.length ≤ sizeLine) (room : Rm k callerA)
    (F : ∀ base : Heap, K.In base → base.Ns mainGlobals mg → FnG P w K mg base k fa fd [x] m) (hbind : ∀ (s : Shared) (u : Value), BindsTo s fd ⟨[u], []⟩ [(x, u)]) (hm : ∃ h', m [.kst (ns.map .int)] [] = .ok (.bl true) h') :
    codeAny (model P w) callerA (.call (.ref fa) ⟨[.ref a], []⟩) (fun r s' => r = .ok (.ret (.bool true)) ∧ OldK s₁.heap s'.heap ∧ s'.os = s₁.os ∧ AllBare s'.gens) s₁ := by
  have rv := vals_ints hi
  have ho : ∃ o, s₁.heap.get? a = some o ∧ ∀ es ep, o.data ≠ .dict es ep := ⟨_, ha, fun _ _ z => nomatch z⟩
  cases hk : K.lookup a with
  | some o =>
    have e := inK a o hk
    rw [ha] at e
    cases e
    refine head_at (H := fun _ => none) inK ng nb bb nl gens ho room F hbind (fun b o z => by cases z) (fun b o z => by cases z) (fun z => (z rfl).elim) (.kst (vs := ns.map V.int) (.inr ⟨_, vs.toArray, _, hk, rfl, rfl, rfl, ?_, by simpa using rv⟩) (ints_rv ns)) hm
    rw [List.size_toArray, hi.length]
    exact hl
  | none =>
    have here : (fun b => if b = a then some (HO.frz { cls := .type "list", data := .seq vs.toArray } (.lst (ns.map V.int))) else none : Hp) a = some (.frz { cls := .type "list", data := .seq vs.toArray } (.lst (ns.map V.int))) := if_pos rfl
    have at_ : ∀ b o, (fun b => if b = a then some (HO.frz { cls := .type "list", data := .seq vs.toArray } (.lst (ns.map V.int))) else none : Hp) b = some o → b = a ∧ o = .frz { cls := .type "list", data := .seq vs.toArray } (.lst (ns.map V.int)) := fun b o z => by
      dsimp only at z
      split at z
      · rename_i e
        cases z
        exact ⟨e, rfl⟩
      · cases z
    refine head_at (H := fun b => if b = a then some (HO.frz { cls := .type "list", data := .seq vs.toArray } (.lst (ns.map V.int))) else none) inK ng nb bb nl gens ho room F hbind (fun b o z => ?_) (fun b o z => ?_) (fun _ => hk)
      (.kst (vs := ns.map V.int) (.inl ⟨_, here⟩) (ints_rv ns)) hm
    · obtain ⟨e1, e2⟩ := at_ b o z
      exact ⟨e1, _, _, e2⟩
    · obtain ⟨e1, e2⟩ := at_ b o z
      subst e1 e2
      exact ⟨ha, by rw [List.length_map]; exact hl, vs, _, rv, ha⟩
/-- what the law's head asks, of a law whose call gives True -/
theorem walk_g {l : PySem.W.OpenLaw} {n k : Nat} {q : Program} {loose : List Str} {XP : (Str → Option Value) → Heap → Prop} {YP : World → Heap → Prop} {d : DefRec} {K : Params → PySem.W.Frag} {x : Str} {m : FM}
    (hn : l.most = some n) (hn2 : n ≤ sizeLine) (hdf : d.params.defaults = []) (hr : Rm k callerA)
    (hY : ∀ (w : World) (h : Heap), YP w h → (K w.params).In h)
    (F : ∀ (w : World) (mg : Str → Option Value) (fa : Addr) (h : Heap), (K w.params).In h → h.Ns mainGlobals mg → mg d.name = some (.ref fa) →
      ∃ fd : FuncData, (∀ (s : Shared) (u : Value), BindsTo s fd ⟨[u], []⟩ [(x, u)]) ∧
        ∀ base : Heap, (K w.params).In base → base.Ns mainGlobals mg → FnG l.prog w (K w.params) mg base k fa fd [x] m)
    (hm : ∀ ns : List Int, ns.length ≤ n → ∃ h', m [.kst (ns.map .int)] [] = .ok (.bl true) h') :
    PySem.W.WalkO q loose XP YP l.row.toRowW d [] (fun f vs => PySem.call f vs) := by
  refine Att.attach_call hn hdf ?_
  intro w s₀ s₁ mg mb fa o pm cd doc a vs ns G Y ho hd hcd hmg hobj hints hlen hg
  have inK := hY w _ Y
  obtain ⟨fd, hb, hF⟩ := F w mg fa _ inK G.T.g hmg
  exact head_call inK G.T.g G.T.b G.T.builtins G.T.nolimit hg hobj hints (Nat.le_trans hlen hn2) hr hF hb (hm ns hlen)
end
end DN
namespace DN
open PySem PySem.Spec PyProof.Rows L2
section
variable {X : Cx} {W : WX} {pos : Pos} {x : Str} {e : Expr}
theorem d_ty (n : String) (hg : Gl X x) (hm : X.mg x = none) (hv : bootBuiltins x = some (.type n)) (hn : x ≠ "__name__" := by decide) (hd : (x == ("__debug__" : Str)) = false := by decide) :
    DE X W (.Name x pos) (mC (.st (.ty n))) := d_c (pe_bltn (v := .ty n) hg hm hv rfl hn hd) fun _ _ => .st _
theorem d_glob {d : D} {v : V} (hg : Gl X x) (h : ∃ u, X.mg x = some u ∧ RelV v u) (hd : (x == ("__debug__" : Str)) = false := by decide) (r : ∀ K w, RV K w v d := by first | exact fun _ _ => .int _ | exact fun _ _ => .str _ | exact fun _ _ => .bl _ | exact fun _ _ => .non) :
    DE X W (.Name x pos) (mC d) := by
  obtain ⟨u, h1, h2⟩ := h
  exact d_c (pe_glob hg h1 h2 hd) r
def mNeg (m : EM) : EM := fun s h => (m s h).bind fun x h1 => match x with
  | .int i => .ok (.int (-i)) h1
  | _ => .no
theorem d_neg {m : EM} (h : DE X W e m) : DE X W (.UnaryOp .USub e pos) (mNeg m) := PE.imp (pe_un un_neg h) fun σ H Q ⟨w, s, h, rs, hw, q⟩ =>
  ⟨w, s, h, rs, hw, WpE.bind (G := WpE X.K w Q _) q (fun _ _ z => z) (fun z => z) fun k h1 w1 v H1 l rv hw1 q1 => by
    split at q1
    · cases rv
      exact ⟨_, rfl, q1 w1 _ H1 l (.int _) hw1⟩
    · exact q1.elim⟩
/-- a, b, c = x, y, z -/
def sPar3 (i j k : Nat) (m : AM) : SM := fun s h => (m s h).q s fun l h1 => match l with
  | [x, y, z] => .nx (((s.set i (some x)).set j (some y)).set k (some z)) h1
  | _ => .no
theorem rv3 {K : PySem.W.Frag} {w : Wd} {v : List V} {a b c : D} (r : RVs K w v [a, b, c]) : ∃ x y z, v = [x, y, z] ∧ RV K w x a ∧ RV K w y b ∧ RV K w z c := by
  cases r with
  | cons p q => cases q with
    | cons p' q' => cases q' with
      | cons p'' q'' => cases q''; exact ⟨_, _, _, rfl, p, p', p''⟩
theorem ds_par3 {i j l : Nat} {x y z : Str} {a b c : Expr} {ma : AM} {px py pz pt : Pos} {kt k2 pt2} (hc : X.calm = true) (hN : X.N.Nodup) (hi : X.N[i]? = some x) (hj : X.N[j]? = some y) (hl : X.N[l]? = some z) (hij : i ≠ j) (hil : i ≠ l) (hjl : j ≠ l)
    (hx : X.env.scope.names.lookup x = some .local) (hy : X.env.scope.names.lookup y = some .local) (hz : X.env.scope.names.lookup z = some .local) (ha : DA X W [a, b, c] ma)
    (hw : swappedStores [.Tuple [.Name x px, .Name y py, .Name z pz] kt pt] (.Tuple [a, b, c] k2 pt2) X.env = pure (some [x, y, z]))
    (hs : swapsWithSole [.Tuple [.Name x px, .Name y py, .Name z pz] kt pt] (.Tuple [a, b, c] k2 pt2) pos.line X.env = pure false := by rfl) :
    DS X W (.Assign [.Tuple [.Name x px, .Name y py, .Name z pz] kt pt] (.Tuple [a, b, c] k2 pt2) pos) (sPar3 i j l ma) := PS.imp (ps_par3 hc hN hi hj hl hij hil hjl hx hy hz ha hw hs) fun D σ H ⟨w, s, h, rs, hw, q⟩ =>
  ⟨w, s, h, rs, hw, WpS.qA rs q fun l h1 w1 v H1 l1 rv hw1 q1 => by
    split at q1
    · obtain ⟨x, y, z, rfl, r1, r2, r3⟩ := rv3 rv
      exact ⟨x, y, z, rfl, q1 w1 _ H1 (.refl w1) ((((rs.mono l1).set r1).set r2).set r3) hw1⟩
    · exact q1.elim⟩
/-! ### dict displays (never changed) -/
def mDNew : EM := fun _ h => .ok (.dct []) h
theorem d_dnew : DE X W (.Dict [] [] pos) mDNew := PE.imp pe_dnewK fun σ H Q ⟨w, s, h, rs, hw, q⟩ p hp => q _ _ _ Wd.le_add (.dct (.inr ⟨rfl, rfl⟩) .nil) (hw.add hp)
def key : D → Option Key
  | .int i => some (.inl i)
  | .str x => some (.inr x)
  | _ => none
theorem key_v {K : PySem.W.Frag} {w : Wd} {v : V} {d : D} {k : Key} (r : RV K w v d) (e : key d = some k) : v = kV k := by
  cases r <;> first | (cases e; rfl) | cases e
abbrev PM := Sg → LH → R (List (Key × D))
def WpP (K : PySem.W.Frag) (w : Wd) (Q : List (V × V) → Hp → Prop) (W : XK) : R (List (Key × D)) → Prop
  | .ok l h => ∀ w' vs H', w.le w' → RKs K w' vs l → HW K w' H' h → Q (vs.map fun kv => (kV kv.1, kv.2)) H'
  | .ex x h => Px K w W x h
  | .no => False
def DP (X : Cx) (W : WX) (pos : Pos) (keys : List (Option Expr)) (values : List Expr) (m : PM) : Prop :=
  ∃ trs, PPs X pos keys values trs ∧ ∀ (w : Wd) (s : Sg) (h : LH) (σ : L2.St) (H : Hp) (Q : List (V × V) → Hp → Prop), RS X.K w σ s → HW X.K w H h → WpP X.K w Q (fun c d H => W c d σ H) (m s h) → tPairs trs σ H Q
def dNil : PM := fun _ h => .ok [] h
def dCons (a b : EM) (r : PM) : PM := fun s h => (a s h).bind fun x h1 => match key x with
  | none => .no
  | some k => (b s h1).bind fun y h2 => (r s h2).bind fun l h3 => .ok ((k, y) :: l) h3
theorem dp_nil : DP X W pos [] [] dNil := ⟨[], pps_nil, fun w s h σ H Q rs hw q => q w [] H (.refl w) .nil hw⟩
theorem WpP.mono {K : PySem.W.Frag} {w w' : Wd} {Q : List (V × V) → Hp → Prop} {W : XK} {r : R (List (Key × D))} (l : w.le w') (p : WpP K w Q W r) : WpP K w' Q W r := by
  cases r with
  | ok d h => exact fun v c H k r q => p v c H (l.trans k) r q
  | ex x h => exact Px.mono l p
  | no => exact p
theorem dp_cons {k v : Expr} {ks : List (Option Expr)} {vs : List Expr} {mk mv : EM} {mr : PM} (hk : DE X W k mk) (hv : DE X W v mv) (hr : DP X W pos ks vs mr) : DP X W pos (some k :: ks) (v :: vs) (dCons mk mv mr) := by
  obtain ⟨trs, p, f⟩ := hr
  refine ⟨_, pps_cons hk hv p, fun w s h σ H Q rs hw q => ?_⟩
  refine ⟨w, s, h, rs, hw, WpE.bind (G := WpP X.K w Q _) q (fun _ _ z => z) (fun z => z) fun x h1 w1 v1 H1 l1 rv hw1 q1 => ?_⟩
  split at q1
  · exact q1.elim
  · rename_i kk ek
    have := key_v rv ek
    subst this
    refine ⟨w1, s, h1, rs.mono l1, hw1, WpE.bind (G := WpP X.K w Q _) q1 (fun _ _ z => Px.mono l1 z) (fun z => z) fun y h2 w2 v2 H2 l2 rv2 hw2 q2 => ?_⟩
    refine f w2 s h2 σ H2 _ (rs.mono (l1.trans l2)) hw2 ?_
    cases er : mr s h2 with
    | ok l h3 =>
      rw [er] at q2
      exact fun w3 vs3 H3 l3 r3 hw3 => q2 w3 ((kk, v2) :: vs3) H3 ((l1.trans l2).trans l3) (.cons (rv2.mono l3) r3) hw3
    | ex x h3 => rw [er] at q2; exact Px.mono (l1.trans l2) q2
    | no => rw [er] at q2; exact q2.elim
def mDct (m : PM) : EM := fun s h => (m s h).bind fun l h1 => if decide ((l.map (·.1)).Nodup ∧ l.length ≤ 15) = true then .ok (.dct l) h1 else .no
theorem any_fst {α : Type} (k : Key) : ∀ l : List (Key × α), (l.any fun kv => decide (kv.1 = k)) = true ↔ k ∈ l.map (·.1)
  | [] => by simp
  | p :: r => by
    rw [List.any_cons, Bool.or_eq_true, any_fst k r, List.map_cons, List.mem_cons, decide_eq_true_iff]
    exact or_congr ⟨fun e => e.symm, fun e => e.symm⟩ Iff.rfl
theorem mergeK_nd : ∀ (more kvs : List (Key × V)), ((kvs ++ more).map (·.1)).Nodup → mergeK kvs more = kvs ++ more
  | [], kvs, _ => by simp [mergeK]
  | p :: r, kvs, h => by
    have h1 : p.1 ∉ kvs.map (·.1) := by
      rw [List.map_append, List.nodup_append] at h
      exact fun m => h.2.2 _ m _ (by simp) rfl
    have e : putK kvs p.1 p.2 = kvs ++ [p] := by
      unfold putK
      rw [if_neg (fun z => h1 ((any_fst _ _).mp z))]
    show mergeK (putK kvs p.1 p.2) r = _
    rw [e, mergeK_nd r (kvs ++ [p]) (by simpa using h)]
    simp
theorem rks_fst {K : PySem.W.Frag} {w : Wd} : ∀ {vs : List (Key × V)} {l : List (Key × D)}, RKs K w vs l → vs.map (·.1) = l.map (·.1)
  | _, _, .nil => rfl
  | _, _, .cons _ r => by simp [rks_fst r]
theorem d_dct {keys : List (Option Expr)} {values : List Expr} {m : PM} (h : DP X W pos keys values m) (hall : keys.all (·.isSome) = true) (hl : keys.length = values.length) (h0 : keys ≠ []) (h15 : keys.length ≤ 15) : DE X W (.Dict keys values pos) (mDct m) := by
  obtain ⟨trs, p, f⟩ := h
  refine PE.imp (pe_disp p hall hl h0 h15) fun σ H Q ⟨w, s, h, rs, hw, q⟩ a ha => ?_
  obtain ⟨f1, f2, f3⟩ := hw.free ha
  refine f (w.res a (.dK [])) s h σ _ _ (rs.mono Wd.le_res) (hw.res ha) ?_
  unfold mDct at q
  cases er : m s h with
  | ok l h1 =>
    rw [er, R.bind_ok] at q
    split at q
    · rename_i z
      obtain ⟨z1, z2⟩ := of_decide_eq_true z
      intro w2 vs H2 l2 rk hw2
      have hres : w2.rs a (.dK []) := l2.2.2 _ _ (.inr ⟨rfl, rfl⟩)
      have ef := rks_fst rk
      have el : vs.length = l.length := by
        have := congrArg List.length ef
        simpa using this
      refine ⟨(hw2.rs _ _ hres).1, vs, rfl, by omega, ?_⟩
      rw [mergeK_nd vs [] (by rw [List.nil_append, ef]; exact z1), List.nil_append]
      have hw3 := (hw2.reset (o := .dK vs) ⟨_, hres⟩).frz (.inr ⟨rfl, rfl⟩)
      have lx : w.le (((w2.unres a).res a (.dK vs)).unres a) := Wd.le_unres ((Wd.le_unres (Wd.le_res.trans l2) f3).trans Wd.le_res) f3
      exact q _ _ _ (lx.trans Wd.le_add) (.dct (.inr ⟨rfl, rfl⟩) ((rk.eqv (w := w2) (w' := ((w2.unres a).res a (.dK vs)).unres a) rfl rfl).mono Wd.le_add)) hw3
    · exact q.elim
  | ex x h1 => rw [er] at q; exact Px.mono Wd.le_res q
  | no => rw [er] at q; exact q.elim
end
end DN
namespace DN
open PySem PySem.Spec PyProof.Rows L2
theorem law_of {P : Program} {w : World} {K : PySem.W.Frag} {mg : Str → Option Value} {k : Nat} {y x : Str} {st : Stmt} {m : FM} {fa : Addr} (T : DefAt K mg y st) (hfa : mg y = some (.ref fa))
    (hb : ∀ (kV doc pm : Value) (an : Option Addr) (cdv ct : Value) (u : Value), bindArgs (PySem.W.fnOf y y (defArgs st) (defBody st) (defScope st) .none kV doc pm an cdv ct) ⟨[u], []⟩ = pure [(x, u)])
    (C : ∀ base, CalP P w K mg base k y st [x] m) :
    ∃ fd : FuncData, (∀ (s : Shared) (u : Value), BindsTo s fd ⟨[u], []⟩ [(x, u)]) ∧ ∀ base : Heap, K.In base → base.Ns mainGlobals mg → FnG P w K mg base k fa fd [x] m := by
  obtain ⟨f, fd, F, g⟩ := T.ex
  obtain rfl : f = fa := by
    rw [hfa] at g
    cases g
    rfl
  obtain ⟨oc, od, kV, doc, pm, an, cdv, ct, osl, e, lk, hcd⟩ := F.ex
  refine ⟨fd, fun s u => by rw [e]; exact .of_eq (hb kV doc pm an cdv ct u), fun base _ _ => ?_⟩
  obtain ⟨f', fd', F', g', r⟩ := (C base).ex
  obtain rfl : f' = f := by
    rw [hfa] at g'
    cases g'
    rfl
  obtain ⟨oc', od', kV', doc', pm', an', cdv', ct', osl', e', lk', hcd'⟩ := F'.ex
  have : fd' = fd := by
    rw [lk] at lk'
    cases lk'
    rfl
  exact this ▸ r
end DN
namespace DN
open PySem PySem.Spec PyProof.Rows L2
section
variable {s : Sg} {h : LH}
def optR (o : Option D) (h : LH) : R D := match o with
  | some d => .ok d h
  | none => .no
@[simp] theorem optR_some (d : D) : optR (some d) h = .ok d h := rfl
def optM (o : Option (D × LH)) : R D := match o with
  | some (d, h) => .ok d h
  | none => .no
@[simp] theorem optM_some (d : D) : optM (some (d, h)) = .ok d h := rfl
def optG (o : Option (Sg × LH)) : RQ := match o with
  | some (s', h') => .nx s' h'
  | none => .no
@[simp] theorem optG_some : optG (some (s, h)) = .nx s h := rfl
def slotR (o : Option (Option D)) (h : LH) : R D := match o with
  | some (some d) => .ok d h
  | _ => .no
@[simp] theorem slotR_some (d : D) : slotR (some (some d)) h = .ok d h := rfl
@[simp] theorem mVar_ap (i : Nat) : mVar i s h = slotR s[i]? h := by unfold mVar slotR; rfl
@[simp] theorem mC_ap (d : D) : mC d s h = .ok d h := rfl
@[simp] theorem mOp_ap (g : O2) (a b : EM) : mOp g a b s h = (a s h).bind fun x h1 => (b s h1).bind fun y h2 => optR (g h2 x y) h2 := rfl
@[simp] theorem mNeg_ap (a : EM) : mNeg a s h = (a s h).bind fun x h1 => match x with
  | .int i => .ok (.int (-i)) h1
  | _ => .no := rfl
@[simp] theorem mTest_ap (a : EM) : mTest a s h = toB (a s h) := rfl
@[simp] theorem toB_ok (k : Bool) : toB (.ok (.bl k) h) = .ok k h := rfl
@[simp] theorem mNotT_ap (a : BM) : mNotT a s h = (a s h).bind fun k h => .ok (!k) h := rfl
@[simp] theorem mAndT_ap (a b : BM) : mAndT a b s h = (a s h).bind fun k h1 => if k = true then b s h1 else .ok false h1 := rfl
@[simp] theorem mOrT_ap (a b : BM) : mOrT a b s h = (a s h).bind fun k h1 => if k = true then .ok true h1 else b s h1 := rfl
@[simp] theorem mAndV_ap (a b : EM) : mAndV a b s h = (a s h).bind fun k h1 => match k with
  | .bl true => b s h1
  | .bl false => .ok (.bl false) h1
  | _ => .no := rfl
@[simp] theorem mOrV_ap (a b : EM) : mOrV a b s h = (a s h).bind fun k h1 => match k with
  | .bl true => .ok (.bl true) h1
  | .bl false => b s h1
  | _ => .no := rfl
@[simp] theorem mNotV_ap (a : EM) : mNotV a s h = (a s h).bind fun k h1 => match k with
  | .bl k => .ok (.bl (!k)) h1
  | _ => .no := rfl
@[simp] theorem mIf_ap (c : BM) (a b : EM) : mIf c a b s h = (c s h).bind fun k h1 => if k = true then a s h1 else b s h1 := rfl
@[simp] theorem mChain_ap (g g' : O2) (a b c : EM) : mChain g g' a b c s h = (a s h).bind fun x h1 => (b s h1).bind fun y h2 => match g h2 x y with
  | some (.bl true) => (c s h2).bind fun z h3 => optR (g' h3 y z) h3
  | some (.bl false) => .ok (.bl false) h2
  | _ => .no := rfl
@[simp] theorem aNil_ap : aNil s h = .ok [] h := rfl
@[simp] theorem aCons_ap (m : EM) (r : AM) : aCons m r s h = (m s h).bind fun x h1 => (r s h1).bind fun xs h2 => .ok (x :: xs) h2 := rfl
theorem sizeLine_ge : 1000000 ≤ sizeLine := by decide
theorem small_of {n : Nat} (h : n ≤ 1000000) : small n = true := decide_eq_true (Nat.le_trans h sizeLine_ge)
@[simp] theorem mTup_ap (m : AM) : mTup m s h = (m s h).bind fun l h1 => if small l.length = true then .ok (.tup l) h1 else .no := rfl
@[simp] theorem mLst_ap (m : AM) : mLst m s h = (m s h).bind fun l h1 => if small l.length = true then .ok (.lst l) h1 else .no := rfl
@[simp] theorem mNew_ap (m : AM) : mNew m s h = (m s h).bind fun l h1 => if small l.length = true then .ok (.ref h1.length) (h1 ++ [.lst l]) else .no := rfl
@[simp] theorem mDNew_ap : mDNew s h = .ok (.dct []) h := rfl
@[simp] theorem key_str (x : Str) : key (.str x) = some (.inr x) := rfl
@[simp] theorem key_int (x : Int) : key (.int x) = some (.inl x) := rfl
@[simp] theorem dNil_ap : dNil s h = .ok [] h := rfl
@[simp] theorem dCons_ap (a b : EM) (r : PM) : dCons a b r s h = (a s h).bind fun x h1 => match key x with
  | none => .no
  | some k => (b s h1).bind fun y h2 => (r s h2).bind fun l h3 => .ok ((k, y) :: l) h3 := rfl
@[simp] theorem mDct_ap (m : PM) : mDct m s h = (m s h).bind fun l h1 => if decide ((l.map (·.1)).Nodup ∧ l.length ≤ 15) = true then .ok (.dct l) h1 else .no := rfl
@[simp] theorem mCall_ap (g : OC) (m : AM) : mCall g m s h = (m s h).bind fun l h1 => optR (g h1 l) h1 := rfl
@[simp] theorem mMeth_ap (T : String) (g : OMt) (m : EM) (a : AM) : mMeth T g m a s h = (m s h).bind fun x h1 => if decide (tyD h1 x = some T) = true then (a s h1).bind fun l h2 => optM (g h2 x l) else .no := rfl
@[simp] theorem oNo_ap : oNo s h = .ok none h := rfl
@[simp] theorem oPart_ap (m : EM) : oPart m s h = (m s h).bind fun d h1 => match d with
  | .int i => .ok (some i) h1
  | _ => .no := rfl
@[simp] theorem mSl_ap (m : EM) (lo hi : OM) : mSl m lo hi s h = (m s h).bind fun d h1 => (lo s h1).bind fun l h2 => (hi s h2).bind fun u h3 => optR (oCut h3 d l u) h3 := rfl
def optL (o : Option (List D)) (f : List D → R D) : R D := match o with
  | some l => f l
  | none => .no
@[simp] theorem optL_some (l : List D) (f : List D → R D) : optL (some l) f = f l := rfl
@[simp] theorem mRev_ap (m : EM) : mRev m s h = (m s h).bind fun d h1 => optL (seqL h1 d) fun l => .ok (.lst l.reverse) h1 := rfl
@[simp] theorem mRevN_ap (m : EM) : mRevN m s h = (m s h).bind fun d h1 => optL (seqL h1 d) fun l => .ok (.ref h1.length) (h1 ++ [.lst l.reverse]) := rfl
@[simp] theorem sNil_ap : sNil s h = .nx s h := rfl
@[simp] theorem sSeq_ap (m n : SM) : sSeq m n s h = (m s h).then n := rfl
@[simp] theorem then_nx (f : SM) : (RQ.nx s h).then f = f s h := rfl
@[simp] theorem then_rt (d : D) (f : SM) : (RQ.rt d h).then f = .rt d h := rfl
@[simp] theorem then_bk (f : SM) : (RQ.bk s h).then f = .bk s h := rfl
@[simp] theorem then_ct (f : SM) : (RQ.ct s h).then f = .ct s h := rfl
@[simp] theorem q_ok {α : Type} (a : α) (f : α → LH → RQ) : (R.ok a h).q s f = f a h := rfl
@[simp] theorem bindN_ok {α β : Type} (a : α) (f : α → LH → R β) : (R.ok a h).bindN f = f a h := rfl
@[simp] theorem sBreak_ap : sBreak s h = .bk s h := rfl
@[simp] theorem sCont_ap : sCont s h = .ct s h := rfl
@[simp] theorem sExpr_ap (m : EM) : sExpr m s h = (m s h).q s fun _ h1 => .nx s h1 := rfl
@[simp] theorem sRet_ap (m : EM) : sRet m s h = (m s h).q s fun d h1 => .rt d h1 := rfl
@[simp] theorem sRetN_ap : sRetN s h = .rt .non h := rfl
@[simp] theorem sIf_ap (c : BM) (a b : SM) : sIf c a b s h = (c s h).q s fun k h1 => if k = true then a s h1 else b s h1 := rfl
@[simp] theorem gNm_ap (i : Nat) (d : D) : gNm i d s h = some (s.set i (some d), h) := rfl
@[simp] theorem gNl_ap : gNl [] s h = some (s, h) := rfl
@[simp] theorem gCn_ap (g : GM) (gs : GMs) (x : D) (xs : List D) : gCn g gs (x :: xs) s h = (g x s h).bind fun p => gs xs p.1 p.2 := rfl
@[simp] theorem gTp_ap (n : Nat) (gs : GMs) (l : List D) : gTp n gs (.tup l) s h = if decide (l.length = n) = true then gs l s h else none := rfl
theorem gSb_ap (o i : EM) (d : D) : gSb o i d s h = match o s h with
  | .ok (.ref n) h1 => match i s h1 with
    | .ok (.int k) h2 => match h2[n]? with
      | some (.lst l) => (ixN l.length k).map fun j => (s, h2.set n (.lst (l.set j d)))
      | _ => none
    | _ => none
  | _ => none := rfl
@[simp] theorem sAsg_ap (m : EM) (g : GM) : sAsg m g s h = (m s h).q s fun d h1 => optG (g d s h1) := rfl
@[simp] theorem sSet_ap (i : Nat) (m : EM) : sSet i m s h = (m s h).q s fun d h1 => .nx (s.set i (some d)) h1 := rfl
@[simp] theorem sPar_ap (i j : Nat) (m : AM) : sPar i j m s h = (m s h).q s fun l h1 => match l with
  | [x, y] => .nx ((s.set i (some x)).set j (some y)) h1
  | _ => .no := rfl
@[simp] theorem sPar3_ap (i j k : Nat) (m : AM) : sPar3 i j k m s h = (m s h).q s fun l h1 => match l with
  | [x, y, z] => .nx (((s.set i (some x)).set j (some y)).set k (some z)) h1
  | _ => .no := rfl
@[simp] theorem sAug_ap (i : Nat) (g : O2) (m : EM) : sAug i g m s h = match s[i]? with
  | some (some x) => (m s h).q s fun y h1 => match g h1 x y with
    | some d => .nx (s.set i (some d)) h1
    | none => .no
  | _ => .no := rfl
@[simp] theorem fnM_ap (n : Nat) (m : SM) (ds : List D) : fnM n m ds h = fin_ (m (ds.map some ++ List.replicate (n - ds.length) none) h) := rfl
@[simp] theorem fin_rt (d : D) : fin_ (.rt d h) = .ok d h := rfl
@[simp] theorem fin_nx : fin_ (.nx s h) = .ok .non h := rfl
@[simp] theorem mFn_ap (n : Nat) (m : FM) (dvs : List D) (a : AM) : mFn n m dvs a s h = (a s h).bind fun l h1 => if decide ((l ++ dvs).length = n) = true then m (l ++ dvs) h1 else .no := rfl
@[simp] theorem mFnK_ap (n na nk : Nat) (ix : List Src) (m : FM) (dvs : List D) (a z : AM) : mFnK n na nk ix m dvs a z s h = (a s h).bind fun l h1 => (z s h1).bind fun y h2 =>
  if decide ((pick l y dvs ix).length = n ∧ l.length = na ∧ y.length = nk) = true then m (pick l y dvs ix) h2 else .no := rfl
theorem sFor_ap (n : Nat) (im : IM) (g : GM) (b : SM) : sFor n im g b s h = (im s h).q s fun f h1 => forS n f 0 g b s h1 := rfl
theorem mLc_ap (n : Nat) (vs : List Nat) (im : IM) (g : GM) (t : BM) (e : EM) : mLc n vs im g t e s h = (im s h).bind fun f h1 => (lcS vs g t e s n f 0 [] h1).bindN fun l h => .ok (.lst l) h := rfl
theorem mLcN_ap (n : Nat) (vs : List Nat) (im : IM) (g : GM) (t : BM) (e : EM) : mLcN n vs im g t e s h = (im s h).bind fun f h1 => (lcS vs g t e s n f 0 [] h1).bindN fun l h => .ok (.ref h.length) (h ++ [.lst l]) := rfl
theorem for_fix {n : Nat} {g : GM} {b : SM} {l : List D} (hl : l.length < n) : forS n (fixS l) 0 g b s h = forL g b l s h := by rw [forS_fix g b l n 0 (by omega), List.drop_zero]
theorem lc_fix {n : Nat} {vs : List Nat} {g : GM} {t : BM} {e : EM} {l acc : List D} (hl : l.length < n) : lcS vs g t e s n (fixS l) 0 acc h = lcL vs g t e s l acc h := by rw [lcS_fix vs g t e s l n 0 (by omega), List.drop_zero]
def iterD (d : D) (h : LH) : R Strm := match d with
  | .lst l => .ok (fixS l) h
  | .kst l => .ok (fixS l) h
  | .ref n => match h[n]? with
    | some (.lst _) => .ok (refS n) h
    | _ => .no
  | _ => .no
@[simp] theorem iterD_lst (l : List D) : iterD (.lst l) h = .ok (fixS l) h := rfl
@[simp] theorem iterD_kst (l : List D) : iterD (.kst l) h = .ok (fixS l) h := rfl
@[simp] theorem iVal_ap (m : EM) : iVal m s h = (m s h).bind iterD := rfl
@[simp] theorem iTupV_ap (m : EM) : iTupV m s h = (m s h).bind fun d h1 => match d with
  | .tup l => .ok (fixS l) h1
  | _ => .no := rfl
@[simp] theorem iStrV_ap (m : EM) : iStrV m s h = (m s h).bind fun d h1 => match d with
  | .str z => .ok (fixS (signs z)) h1
  | _ => .no := rfl
@[simp] theorem iRng1_ap (m : AM) : iRng1 m s h = (m s h).bind fun l h1 => match l with
  | [.int j] => if inRng j = true then .ok (fixS (rngL 0 j.toNat)) h1 else .no
  | _ => .no := rfl
@[simp] theorem iRng2_ap (m : AM) : iRng2 m s h = (m s h).bind fun l h1 => match l with
  | [.int i, .int j] => if (inRng i && inRng j) = true then .ok (fixS (rngL i (j - i).toNat)) h1 else .no
  | _ => .no := rfl
@[simp] theorem rngL_len (i : Int) (n : Nat) : (rngL i n).length = n := by simp [rngL]
/-! operators on scalars -/
@[simp] theorem oAdd_ii (i j : Int) : oAdd h (.int i) (.int j) = some (.int (i + j)) := rfl
@[simp] theorem oAdd_ss (i j : Str) : oAdd h (.str i) (.str j) = if small (i.length + j.length) = true then some (.str (i ++ j)) else none := rfl
@[simp] theorem oAdd_tt (i j : List D) : oAdd h (.tup i) (.tup j) = if small (i.length + j.length) = true then some (.tup (i ++ j)) else none := rfl
@[simp] theorem oAdd_ll (i j : List D) : oAdd h (.lst i) (.lst j) = if small (i.length + j.length) = true then some (.lst (i ++ j)) else none := rfl
@[simp] theorem oSub_ii (i j : Int) : oSub h (.int i) (.int j) = some (.int (i - j)) := rfl
theorem oMul_ii (i j : Int) : oMul h (.int i) (.int j) = if decide (i.natAbs.log2 + j.natAbs.log2 < 1000000) = true then some (.int (i * j)) else none := rfl
theorem oMul_si (x : Str) (j : Int) : oMul h (.str x) (.int j) = if decide (-1000000 ≤ j ∧ j ≤ 1000000 ∧ x.length ≤ 1000000 ∧ x.length * j.toNat ≤ sizeLine ∧ (sRep x j).length ≤ sizeLine) = true then some (.str (sRep x j)) else none := rfl
@[simp] theorem oMod_ii (i j : Int) : oMod h (.int i) (.int j) = if decide (0 < j) = true then some (.int (i % j)) else none := rfl
theorem oDiv_ii (i j : Int) : oDiv h (.int i) (.int j) = if decide (0 < j ∧ j.natAbs.log2 < 9000) = true then some (.int (i / j)) else none := rfl
@[simp] theorem oPow_ii (i j : Int) : oPow h (.int i) (.int j) = if decide (0 ≤ j ∧ j ≤ 1000000 ∧ i.natAbs < 2 ^ 64) = true then some (.int (i ^ j.toNat)) else none := rfl
@[simp] theorem oLt_ii (i j : Int) : oLt h (.int i) (.int j) = some (.bl (decide (i < j))) := rfl
@[simp] theorem oLe_ii (i j : Int) : oLe h (.int i) (.int j) = some (.bl (decide (i ≤ j))) := rfl
@[simp] theorem oGt_ii (i j : Int) : oGt h (.int i) (.int j) = some (.bl (decide (j < i))) := rfl
@[simp] theorem oGe_ii (i j : Int) : oGe h (.int i) (.int j) = some (.bl (decide (j ≤ i))) := rfl
@[simp] theorem oEq_ss (a b : Str) : oEq h (.str a) (.str b) = some (.bl (a == b)) := rfl
@[simp] theorem oNe_ss (a b : Str) : oNe h (.str a) (.str b) = some (.bl (!(a == b))) := rfl
theorem oEq_ii (i j : Int) : oEq h (.int i) (.int j) = some (.bl (i == j)) := by
  unfold oEq py
  simp only [pyG, Option.bind_some]
  rw [if_pos (by rfl)]
  simp only [PyData.eqv]
theorem lg2 {n m : Nat} (h : n < 2 ^ m) (hm : 0 < m) : n.log2 < m := by
  rcases Nat.eq_zero_or_pos n with rfl | hn
  · simpa using hm
  · exact (Nat.log2_lt (by omega)).mpr h
theorem mul_ok {i j : Int} (hi : i.natAbs < 2 ^ 1000) (hj : j.natAbs < 2 ^ 1000) : oMul h (.int i) (.int j) = some (.int (i * j)) := by
  rw [oMul_ii, if_pos]
  have h1 := lg2 hi (by decide)
  have h2 := lg2 hj (by decide)
  exact decide_eq_true (by omega)
theorem div_ok {i j : Int} (h0 : 0 < j) (hj : j.natAbs < 2 ^ 1000) : oDiv h (.int i) (.int j) = some (.int (i / j)) := by
  rw [oDiv_ii, if_pos]
  have h2 := lg2 hj (by decide)
  exact decide_eq_true ⟨h0, by omega⟩
theorem mul_okS {i j : Int} (hi : -10 ^ 40 ≤ i ∧ i ≤ 10 ^ 40) (hj : -10 ^ 40 ≤ j ∧ j ≤ 10 ^ 40) : oMul h (.int i) (.int j) = some (.int (i * j)) :=
  mul_ok (Nat.lt_of_le_of_lt (m := 10 ^ 40) (by omega) (by decide)) (Nat.lt_of_le_of_lt (m := 10 ^ 40) (by omega) (by decide))
theorem div_okS {i j : Int} (h0 : 0 < j) (hj : j ≤ 10 ^ 40) : oDiv h (.int i) (.int j) = some (.int (i / j)) :=
  div_ok h0 (Nat.lt_of_le_of_lt (m := 10 ^ 40) (by omega) (by decide))
theorem mod_ok {i j : Int} (h0 : 0 < j) : oMod h (.int i) (.int j) = some (.int (i % j)) := by
  rw [oMod_ii, if_pos (decide_eq_true h0)]
/-! lists of ints as data -/
theorem pyGs_ints (g : Nat → Option PyData) : ∀ cs : List Int, pyGs g (cs.map .int) = some (cs.map .int)
  | [] => rfl
  | c :: cs => by simp [pyGs, pyG, pyGs_ints g cs]
theorem lay_ints : ∀ cs : List Int, PyData.canLayAll0 (cs.map .int) = true
  | [] => rfl
  | c :: cs => by simp [PyData.canLayAll0, PyData.canLay0, lay_ints cs]
theorem depth_ints : ∀ cs : List Int, PyData.depthAll (cs.map .int) = 0
  | [] => rfl
  | c :: cs => by simp [PyData.depthAll, PyData.depth, depth_ints cs]
theorem shaped_ints (cs : List Int) : SeqAt.shaped (.list (cs.map .int)) = true := by
  unfold SeqAt.shaped
  simp [PyData.canLay0, PyData.depth, lay_ints, depth_ints]
theorem ne_nil_ints {n : Nat} {cs : List Int} (e : h[n]? = some (.lst (cs.map .int))) : oNe h (.ref n) (.lst []) = some (.bl (!cs.isEmpty)) := by
  unfold oNe py
  simp only [pyG, pyN, e, pyGs_ints, pyGs, Option.map_some, Option.bind_some]
  rw [shaped_ints, show SeqAt.shaped (.list []) = true from rfl, Bool.and_true, if_pos rfl]
  cases cs <;> simp [PyData.eqv, PyData.eqvAll]
end
theorem atI_in {α : Type} {l : List α} {r : Int} (h0 : 0 ≤ r) (h1 : r < l.length) : ∃ d, atI l r = some d ∧ d ∈ l := by
  have hr : r.toNat < l.length := by omega
  refine ⟨l[r.toNat], ?_, List.getElem_mem hr⟩
  unfold atI ixN
  rw [if_pos h0, if_pos h1, Option.bind_some, List.getElem?_eq_getElem hr]
theorem cut_map {α β : Type} (f : α → β) (xs : List α) (lo hi : Option Int) : cut (xs.map f) lo hi = (cut xs lo hi).map f := by
  unfold cut
  rw [List.length_map, ← List.map_drop, ← List.map_take]
theorem cut_len {α : Type} (xs : List α) (lo hi : Option Int) : (cut xs lo hi).length ≤ xs.length := by
  unfold cut
  rw [List.length_take, List.length_drop]
  omega
theorem cut_mem {α : Type} {xs : List α} {lo hi : Option Int} {x : α} (h : x ∈ cut xs lo hi) : x ∈ xs := List.mem_of_mem_drop (List.mem_of_mem_take h)
/-! ### comprehensions, loops -/
section
variable {vs : List Nat} {g : GM} {t : BM} {e : EM} {s : Sg}
/-- a comprehension that keeps all, with the state running through -/
theorem lcL_run (I : Nat → LH → Prop) (P : D → Prop) (N : Nat) : ∀ (ds : List D) (acc : List D) (k : Nat) (h : LH), I k h → k + ds.length ≤ N → acc.length + ds.length ≤ sizeLine →
    (∀ d ∈ ds, ∀ k h, k < N → I k h → ∃ s1 y h2, g d (wipeS s vs) h = some (s1, h) ∧ t s1 h = .ok true h ∧ e s1 h = .ok y h2 ∧ I (k + 1) h2 ∧ P y) →
    ∃ l h', lcL vs g t e s ds acc h = .ok (acc ++ l) h' ∧ l.length = ds.length ∧ I (k + ds.length) h' ∧ ∀ y ∈ l, P y
  | [], acc, k, h, i, _, _, _ => ⟨[], h, by simp [lcL], rfl, by simpa using i, by simp⟩
  | d :: ds, acc, k, h, i, hk, hz, st => by
    simp only [List.length_cons] at hk hz
    obtain ⟨s1, y, h2, e1, e2, e3, i2, py⟩ := st d (by simp) k h (by omega) i
    obtain ⟨l, h3, e4, e5, i3, pl⟩ := lcL_run I P N ds (acc ++ [y]) (k + 1) h2 i2 (by omega) (by simp; omega) fun d' m => st d' (by simp [m])
    refine ⟨y :: l, h3, ?_, by simp [e5], ?_, ?_⟩
    · unfold lcL
      simp only [e1, e2, e3, bindN_ok, if_true]
      rw [if_pos (decide_eq_true (by omega)), e4]
      simp
    · rw [List.length_cons, show k + (ds.length + 1) = k + 1 + ds.length by omega]; exact i3
    · intro z hz
      rcases List.mem_cons.mp hz with rfl | hz
      · exact py
      · exact pl z hz
/-- a comprehension without changes -/
theorem lcL_filter (p : D → Bool) (f : D → D) (h : LH) : ∀ (ds : List D) (acc : List D), acc.length + ds.length ≤ sizeLine →
    (∀ d ∈ ds, ∃ s1, g d (wipeS s vs) h = some (s1, h) ∧ t s1 h = .ok (p d) h ∧ (p d = true → e s1 h = .ok (f d) h)) →
    lcL vs g t e s ds acc h = .ok (acc ++ (ds.filter p).map f) h
  | [], acc, _, _ => by simp [lcL]
  | d :: ds, acc, hz, st => by
    simp only [List.length_cons] at hz
    obtain ⟨s1, e1, e2, e3⟩ := st d (by simp)
    unfold lcL
    simp only [e1, e2, bindN_ok]
    cases q : p d with
    | true =>
      rw [if_pos rfl, e3 q, bindN_ok, if_pos (decide_eq_true (by omega)), lcL_filter p f h ds (acc ++ [f d]) (by simp; omega) fun d' m => st d' (by simp [m])]
      simp [q]
    | false =>
      rw [if_neg (by decide), lcL_filter p f h ds acc (by omega) fun d' m => st d' (by simp [m])]
      simp [q]
end
end DN
namespace DN
open PySem PySem.Spec PyProof.Rows L2
/-! ### a hand that is drawn from -/
def begunM : FM := fnM 4 ((sSeq (sPar 2 3 (aCons (mCall cList (aCons (mSl (mVar 0) oNo (oPart (mC (.int 63)))) aNil)) (aCons (mC (.int 50021)) aNil)))
  (sSeq (sFor 1000000 (iVal (mVar 2)) (gNm 1)
  (sSet 3 (mOp oMod (mOp oAdd (mOp oAdd (mOp oMul (mVar 3) (mC (.int 48271))) (mOp oMod (mVar 1) (mC (.int 2147483563)))) (mC (.int 17))) (mC (.int 2147483629)))))
  (sRet (mNew (aCons (mRevN (mVar 2)) (aCons (mVar 3) (aCons (mC (.int 0)) aNil))))))))
def dealtM : FM := fnM 4 ((sSeq (sAsg (mOp oAdd (mOp oIx (mVar 0) (mC (.int 2))) (mC (.int 1))) (gSb (mVar 0) (mC (.int 2))))
  (sSeq (sSet 2 (mOp oIx (mVar 0) (mC (.int 1))))
  (sSeq (sIf (mTest (mOp oNe (mOp oIx (mVar 0) (mC (.int 0))) (mLst aNil)))
  (sSeq (sSet 2 (mMeth "list" gPop (mOp oIx (mVar 0) (mC (.int 0))) aNil))
  (sIf (mTest (mOp oGe (mVar 2) (mOp oPow (mC (.int 10)) (mC (.int 18)))))
  (sSeq (sExpr (mMeth "list" gAppend (mOp oIx (mVar 0) (mC (.int 0))) (aCons (mOp oDiv (mVar 2) (mVar 1)) aNil)))
  (sRet (mOp oMod (mVar 2) (mVar 1))))
  sNil))
  sNil)
  (sSeq (sSet 3 (mOp oAdd (mOp oAdd (mOp oAdd (mOp oMod (mVar 2) (mC (.int 2147483629))) (mOp oMul (mOp oMul (mC (.int 16807)) (mOp oIx (mVar 0) (mC (.int 2)))) (mOp oIx (mVar 0) (mC (.int 2))))) (mOp oIx (mVar 0) (mC (.int 1)))) (mC (.int 97))))
  (sSeq (sSet 3 (mOp oMod (mOp oMul (mVar 3) (mC (.int 48271))) (mC (.int 2147483647))))
  (sSeq (sSet 3 (mOp oMod (mOp oAdd (mOp oAdd (mOp oMul (mVar 3) (mVar 3)) (mOp oMul (mC (.int 69621)) (mOp oIx (mVar 0) (mC (.int 2))))) (mC (.int 11))) (mC (.int 2147483587))))
  (sRet (mOp oMod (mOp oDiv (mOp oMod (mOp oMul (mVar 3) (mOp oAdd (mOp oDiv (mVar 3) (mC (.int 5))) (mC (.int 39373)))) (mC (.int 2147483563))) (mC (.int 128))) (mVar 1))))))))))
def pickM (c : FM) : FM := fnM 2 ((sRet (mOp oIx (mVar 1) (mFn 2 c [] (aCons (mVar 0) (aCons (mCall cLen (aCons (mVar 1) aNil)) aNil))))))

def hnd (cs : List Int) (t n : Int) (rest : LH) : LH := .lst (cs.map .int) :: .lst [.ref 0, .int t, .int n] :: rest
def Hd (N : Nat) (rest h : LH) : Prop := ∃ cs t n, h = hnd cs t n rest ∧ 0 ≤ t ∧ t < 2147483629 ∧ 0 ≤ n ∧ n ≤ N ∧ cs.length ≤ 1000
theorem ix_mid {h : LH} {cs : List Int} {t n : Int} {rest : LH} (e : h = hnd cs t n rest) (i : Int) : oIx h (.ref 1) (.int i) = atI [.ref 0, .int t, .int n] i := by subst e; rfl
theorem dealt_ok {N : Nat} {rest h : LH} {lots : Int} (hd : Hd N rest h) (hN : N < 1000000) (hl : 0 < lots) (hl2 : lots ≤ 1000000) :
    ∃ r h', dealtM [.ref 1, .int lots] h = .ok (.int r) h' ∧ 0 ≤ r ∧ r < lots ∧ Hd (N + 1) rest h' := by
  obtain ⟨cs, t, n, rfl, ht, ht2, hn, hn2, hc⟩ := hd
  have i0 : ∀ (cs : List Int) (t n : Int), oIx (hnd cs t n rest) (.ref 1) (.int 0) = some (.ref 0) := fun _ _ _ => rfl
  have i1 : ∀ (cs : List Int) (t n : Int), oIx (hnd cs t n rest) (.ref 1) (.int 1) = some (.int t) := fun _ _ _ => rfl
  have i2 : ∀ (cs : List Int) (t n : Int), oIx (hnd cs t n rest) (.ref 1) (.int 2) = some (.int n) := fun _ _ _ => rfl
  have st : ∀ (x : Int), gSb (mVar 0) (mC (.int 2)) (.int x) [some (.ref 1), some (.int lots), none, none] (hnd cs t n rest) = some ([some (.ref 1), some (.int lots), none, none], hnd cs t x rest) := fun _ => rfl
  have ne : ∀ (cs : List Int) (t n : Int), oNe (hnd cs t n rest) (.ref 0) (.lst []) = some (.bl (!cs.isEmpty)) := fun _ _ _ => ne_nil_ints rfl
  have ty0 : ∀ (cs : List Int) (t n : Int), tyD (hnd cs t n rest) (.ref 0) = some "list" := fun _ _ _ => rfl
  have sm0 : small 0 = true := rfl
  have m1 : ∀ (cs : List Int) (t n : Int) (cell : Int), 0 ≤ n → n ≤ N + 1 → 0 ≤ t → t < 2147483629 → ∃ r, 0 ≤ r ∧ r < lots ∧
      fin_ ((sSeq (sSet 3 (mOp oAdd (mOp oAdd (mOp oAdd (mOp oMod (mVar 2) (mC (.int 2147483629))) (mOp oMul (mOp oMul (mC (.int 16807)) (mOp oIx (mVar 0) (mC (.int 2)))) (mOp oIx (mVar 0) (mC (.int 2))))) (mOp oIx (mVar 0) (mC (.int 1)))) (mC (.int 97))))
  (sSeq (sSet 3 (mOp oMod (mOp oMul (mVar 3) (mC (.int 48271))) (mC (.int 2147483647))))
  (sSeq (sSet 3 (mOp oMod (mOp oAdd (mOp oAdd (mOp oMul (mVar 3) (mVar 3)) (mOp oMul (mC (.int 69621)) (mOp oIx (mVar 0) (mC (.int 2))))) (mC (.int 11))) (mC (.int 2147483587))))
  (sRet (mOp oMod (mOp oDiv (mOp oMod (mOp oMul (mVar 3) (mOp oAdd (mOp oDiv (mVar 3) (mC (.int 5))) (mC (.int 39373)))) (mC (.int 2147483563))) (mC (.int 128))) (mVar 1)))))) [some (.ref 1), some (.int lots), some (.int cell), none] (hnd cs t n rest)) = .ok (.int r) (hnd cs t n rest) := by
    intro cs t n cell h1 h2 h3 h4
    have a1 : oMul (hnd cs t n rest) (.int 16807) (.int n) = some (.int (16807 * n)) := mul_okS (by omega) (by omega)
    have a2 : oMul (hnd cs t n rest) (.int (16807 * n)) (.int n) = some (.int (16807 * n * n)) := mul_okS (by omega) (by omega)
    have a3 : 0 ≤ 16807 * n * n ∧ 16807 * n * n ≤ 16807 * 1000001 * 1000001 := by
      have b1 : 0 ≤ 16807 * n := by omega
      have b2 : 16807 * n ≤ 16807 * 1000001 := by omega
      exact ⟨Int.mul_nonneg b1 h1, Int.mul_le_mul b2 (by omega) h1 (by omega)⟩
    have c0 := Int.emod_nonneg cell (b := 2147483629) (by omega)
    have c1 := Int.emod_lt_of_pos cell (b := 2147483629) (by omega)
    generalize ex : cell % 2147483629 + 16807 * n * n + t + 97 = x
    have a4 : oMul (hnd cs t n rest) (.int x) (.int 48271) = some (.int (x * 48271)) := mul_okS (by omega) (by omega)
    have d0 := Int.emod_nonneg (x * 48271) (b := 2147483647) (by omega)
    have d1 := Int.emod_lt_of_pos (x * 48271) (b := 2147483647) (by omega)
    generalize ey : x * 48271 % 2147483647 = y at d0 d1
    have a5 : oMul (hnd cs t n rest) (.int y) (.int y) = some (.int (y * y)) := mul_okS (by omega) (by omega)
    have a6 : oMul (hnd cs t n rest) (.int 69621) (.int n) = some (.int (69621 * n)) := mul_okS (by omega) (by omega)
    have f0 := Int.emod_nonneg (y * y + 69621 * n + 11) (b := 2147483587) (by omega)
    have f1 := Int.emod_lt_of_pos (y * y + 69621 * n + 11) (b := 2147483587) (by omega)
    generalize ez : (y * y + 69621 * n + 11) % 2147483587 = z at f0 f1
    have a7 : oDiv (hnd cs t n rest) (.int z) (.int 5) = some (.int (z / 5)) := div_okS (by omega) (by omega)
    have a8 : oMul (hnd cs t n rest) (.int z) (.int (z / 5 + 39373)) = some (.int (z * (z / 5 + 39373))) := mul_okS (by omega) (by omega)
    have a9 : oDiv (hnd cs t n rest) (.int (z * (z / 5 + 39373) % 2147483563)) (.int 128) = some (.int (z * (z / 5 + 39373) % 2147483563 / 128)) := div_okS (by omega) (by omega)
    refine ⟨z * (z / 5 + 39373) % 2147483563 / 128 % lots, Int.emod_nonneg _ (by omega), Int.emod_lt_of_pos _ hl, ?_⟩
    simp [i1, i2, a1, a2, a4, a5, a6, a7, a8, a9, hl, ex, ey, ez]
  unfold dealtM
  cases hcs : cs.isEmpty with
  | true =>
    obtain ⟨r, r1, r2, e⟩ := m1 cs t (n + 1) t (by omega) (by omega) ht ht2
    refine ⟨r, hnd cs t (n + 1) rest, ?_, r1, r2, cs, t, n + 1, rfl, ht, ht2, by omega, by omega, hc⟩
    rw [← e]
    simp [i0, i1, i2, st, ne, hcs, sm0]
  | false =>
    have hne : cs ≠ [] := fun z => by rw [z] at hcs; cases hcs
    have hlen : 0 < cs.length := List.length_pos_iff.mpr hne
    have hp : ∀ (t n : Int), gPop (hnd cs t n rest) (.ref 0) [] = some (.int (cs.getLast hne), hnd cs.dropLast t n rest) := fun t n => by
      have e1 : (cs.map D.int)[(cs.map D.int).length - 1]? = some (.int (cs.getLast hne)) := by
        rw [List.getElem?_map, List.length_map, List.getLast_eq_getElem, List.getElem?_eq_getElem (by omega)]
        rfl
      show ((cs.map D.int)[(cs.map D.int).length - 1]?.map fun d => (d, (hnd cs t n rest).set 0 (.lst (cs.map D.int).dropLast))) = _
      rw [e1, ← List.map_dropLast]
      rfl
    generalize cs.getLast hne = cell at hp
    have hdl : cs.dropLast.length ≤ 999 := by rw [List.length_dropLast]; omega
    by_cases big : (10 ^ 18 : Int) ≤ cell
    · have ap : ∀ (x : Int), gAppend (hnd cs.dropLast t (n + 1) rest) (.ref 0) [.int x] = some (.non, hnd (cs.dropLast ++ [x]) t (n + 1) rest) := fun x => by
        show (if decide ((cs.dropLast.map D.int).length < sizeLine) = true then _ else _) = _
        rw [if_pos (decide_eq_true (by have := sizeLine_ge; rw [List.length_map]; omega))]
        simp [hnd]
      have dv : oDiv (hnd cs.dropLast t (n + 1) rest) (.int cell) (.int lots) = some (.int (cell / lots)) := div_okS hl (by omega)
      refine ⟨cell % lots, hnd (cs.dropLast ++ [cell / lots]) t (n + 1) rest, ?_, Int.emod_nonneg _ (by omega), Int.emod_lt_of_pos _ hl, _, t, n + 1, rfl, ht, ht2, by omega, by omega, by simp; omega⟩
      have big' : (1000000000000000000 : Int) ≤ cell := big
      simp [i0, i1, i2, st, ne, hcs, sm0, hp, ty0, big, big', ap, dv, hl]
    · obtain ⟨r, r1, r2, e⟩ := m1 cs.dropLast t (n + 1) cell (by omega) (by omega) ht ht2
      refine ⟨r, hnd cs.dropLast t (n + 1) rest, ?_, r1, r2, _, t, n + 1, rfl, ht, ht2, by omega, by omega, by omega⟩
      rw [← e]
      have big' : ¬ (1000000000000000000 : Int) ≤ cell := big
      simp [i0, i1, i2, st, ne, hcs, sm0, hp, ty0, big, big']
theorem begun_loop (a c : Option D) (h : LH) : ∀ (ms : List Int) (b : Option D) (t : Int), 0 ≤ t → t < 2147483629 → ∃ b' t', 0 ≤ t' ∧ t' < 2147483629 ∧
    forL (gNm 1) (sSet 3 (mOp oMod (mOp oAdd (mOp oAdd (mOp oMul (mVar 3) (mC (.int 48271))) (mOp oMod (mVar 1) (mC (.int 2147483563)))) (mC (.int 17))) (mC (.int 2147483629)))) (ms.map .int) [a, b, c, some (.int t)] h = .nx [a, b', c, some (.int t')] h
  | [], b, t, h1, h2 => ⟨b, t, h1, h2, rfl⟩
  | m :: ms, b, t, h1, h2 => by
    have a1 : oMul h (.int t) (.int 48271) = some (.int (t * 48271)) := mul_okS (by omega) (by omega)
    obtain ⟨b', t', x1, x2, e⟩ := begun_loop a c h ms (some (.int m)) ((t * 48271 + m % 2147483563 + 17) % 2147483629) (Int.emod_nonneg _ (by omega)) (Int.emod_lt_of_pos _ (by omega))
    refine ⟨b', t', x1, x2, ?_⟩
    rw [List.map_cons]
    unfold forL
    simp [a1, e]
theorem begun_ok {ns : List Int} (hl : ns.length ≤ 63) : ∃ h', begunM [.kst (ns.map .int)] [] = .ok (.ref 1) h' ∧ Hd 0 [] h' := by
  have hc := cut_len ns none (some 63)
  have e0 : oCut [] (.kst (ns.map .int)) none (some 63) = some (.lst ((cut ns none (some 63)).map .int)) := by rw [← cut_map]; rfl
  generalize cut ns none (some 63) = ms at hc e0
  have e1 : cList [] [.lst (ms.map .int)] = some (.lst (ms.map .int)) := rfl
  obtain ⟨b', t', x1, x2, e⟩ := begun_loop (some (.kst (ns.map .int))) (some (.lst (ms.map .int))) [] ms none 50021 (by omega) (by omega)
  have hf : (ms.map D.int).length < 1000000 := by rw [List.length_map]; omega
  have e2 : seqL [] (.lst (ms.map .int)) = some (ms.map .int) := rfl
  refine ⟨hnd ms.reverse t' 0 [], ?_, ms.reverse, t', 0, rfl, x1, x2, by omega, by omega, by simp; omega⟩
  unfold begunM
  simp [e0, e1, sFor_ap, for_fix hf, e, e2, hnd, show small 3 = true from rfl]
theorem pick_ok {N : Nat} {rest h : LH} {l : List D} (hd : Hd N rest h) (hN : N < 1000000) (hl : l ≠ []) (hl2 : l.length ≤ 1000000) :
    ∃ d h', pickM dealtM [.ref 1, .lst l] h = .ok d h' ∧ d ∈ l ∧ Hd (N + 1) rest h' := by
  have hp : 0 < l.length := List.length_pos_iff.mpr hl
  obtain ⟨r, h', e, r1, r2, hd'⟩ := dealt_ok (lots := (l.length : Int)) hd hN (by omega) (by omega)
  obtain ⟨d, e2, m⟩ := atI_in r1 r2
  refine ⟨d, h', ?_, m, hd'⟩
  have e3 : cLen h [.lst l] = some (.int l.length) := rfl
  have e4 : oIx h' (.lst l) (.int r) = some d := e2
  unfold pickM
  simp [e3, e, e4]
end DN
namespace DN
open PySem PySem.Spec PyProof.Rows L2
/-! ### texts by their signs -/
def tl (z : Str) : List Nat := z.cps.toList
theorem len_tl (z : Str) : z.length = (tl z).length := (Array.length_toList).symm
theorem tl_app (a b : Str) : tl (a ++ b) = tl a ++ tl b := TL.tl_append a b
theorem tl_join_nil : ∀ ys : List Str, tl (Str.join ⟨#[]⟩ ys) = (ys.map tl).flatten
  | [] => rfl
  | [x] => by simp [Str.join]
  | x :: y :: r => by
    show tl (x ++ ⟨#[]⟩ ++ Str.join ⟨#[]⟩ (y :: r)) = _
    rw [tl_app, tl_app, tl_join_nil (y :: r)]
    simp [show tl ⟨#[]⟩ = [] from rfl]
/-- all signs of a text are such -/
def Sg1 (p : Nat → Prop) (z : Str) : Prop := ∀ c ∈ tl z, p c
theorem Sg1.app {p : Nat → Prop} {a b : Str} (h : Sg1 p a) (k : Sg1 p b) : Sg1 p (a ++ b) := fun c m => by
  rw [tl_app, List.mem_append] at m
  exact m.elim (h c) (k c)
theorem Sg1.cut {p : Nat → Prop} {a : Str} (h : Sg1 p a) (lo hi : Option Int) : Sg1 p (cutS a lo hi) := fun c m => by
  have m' : c ∈ ((a.cps.toList.drop (HT.sIx a.length 0 lo)).take (HT.sIx a.length a.length hi - HT.sIx a.length 0 lo)) := by
    have e : tl (cutS a lo hi) = ((a.cps.toList.drop (HT.sIx a.length 0 lo)).take (HT.sIx a.length a.length hi - HT.sIx a.length 0 lo)) := by unfold cutS; rfl
    rw [e] at m; exact m
  exact h c (List.mem_of_mem_drop (List.mem_of_mem_take m'))
theorem len_cutS (a : Str) (lo hi : Option Int) : (cutS a lo hi).length ≤ a.length := by
  rw [len_tl, len_tl]
  have e : tl (cutS a lo hi) = ((a.cps.toList.drop (HT.sIx a.length 0 lo)).take (HT.sIx a.length a.length hi - HT.sIx a.length 0 lo)) := by unfold cutS; rfl
  rw [e, List.length_take, List.length_drop]
  show _ ≤ a.cps.toList.length
  omega
theorem len_app (a b : Str) : (a ++ b).length = a.length + b.length := by rw [len_tl, tl_app, List.length_append, ← len_tl, ← len_tl]
theorem Sg1.imp {p q : Nat → Prop} {z : Str} (h : Sg1 p z) (k : ∀ c, p c → q c) : Sg1 q z := fun c m => k c (h c m)
theorem mapM_asS : ∀ ys : List Str, (ys.map D.str).mapM asS = some ys
  | [] => rfl
  | y :: ys => by
    rw [List.map_cons, List.mapM_cons, mapM_asS ys]
    rfl
theorem str_list : ∀ {l : List D} {p : Str → Prop}, (∀ y ∈ l, ∃ z, y = .str z ∧ p z) → ∃ ys : List Str, l = ys.map .str ∧ ∀ z ∈ ys, p z
  | [], _, _ => ⟨[], rfl, by simp⟩
  | d :: l, p, h => by
    obtain ⟨z, rfl, hz⟩ := h d (by simp)
    obtain ⟨ys, rfl, hy⟩ := str_list (l := l) fun y m => h y (by simp [m])
    exact ⟨z :: ys, rfl, fun y m => by
      rcases List.mem_cons.mp m with rfl | m
      · exact hz
      · exact hy y m⟩
/-- signs put together -/
theorem join_signs {h : LH} {l : List D} {p : Nat → Prop} (hl : ∀ y ∈ l, ∃ c, y = .str ⟨#[c]⟩ ∧ p c) (hn : l.length ≤ 1000000) :
    ∃ z, gJoin h (.str ⟨#[]⟩) [.lst l] = some (.str z, h) ∧ z.length = l.length ∧ Sg1 p z := by
  obtain ⟨ys, rfl, hy⟩ := str_list (p := fun z => ∃ c, z = ⟨#[c]⟩ ∧ p c) fun y m => by
    obtain ⟨c, e, q⟩ := hl y m
    exact ⟨_, e, c, rfl, q⟩
  rw [List.length_map] at hn ⊢
  have hlen : ∀ ys : List Str, (∀ z ∈ ys, ∃ c, z = ⟨#[c]⟩ ∧ p c) → (ys.map (·.length)).sum = ys.length := by
    intro ys
    induction ys with
    | nil => intro _; rfl
    | cons y ys ih =>
      intro h
      obtain ⟨c, rfl, _⟩ := h y (by simp)
      rw [List.map_cons, List.sum_cons, ih fun z m => h z (by simp [m]), List.length_cons]
      show 1 + ys.length = _
      omega
  have hs : ∀ ys : List Str, (∀ z ∈ ys, ∃ c, z = ⟨#[c]⟩ ∧ p c) → (ys.map tl).flatten.length = ys.length ∧ ∀ c ∈ (ys.map tl).flatten, p c := by
    intro ys
    induction ys with
    | nil => intro _; exact ⟨rfl, by simp⟩
    | cons y ys ih =>
      intro h
      obtain ⟨c, rfl, hc⟩ := h y (by simp)
      obtain ⟨i1, i2⟩ := ih fun z m => h z (by simp [m])
      refine ⟨?_, fun k m => ?_⟩
      · rw [List.map_cons, List.flatten_cons, List.length_append, i1, List.length_cons]
        show 1 + ys.length = _
        omega
      rw [List.map_cons, List.flatten_cons, List.mem_append] at m
      rcases m with m | m
      · have : k = c := by simpa [tl] using m
        rw [this]; exact hc
      · exact i2 k m
  refine ⟨Txt.join ⟨#[]⟩ ys, ?_, ?_, ?_⟩
  · have e1 : strsOf h (.lst (ys.map .str)) = some ys := mapM_asS ys
    unfold gJoin
    simp only [e1, Option.bind_some]
    rw [if_pos (decide_eq_true (by rw [hlen ys hy]; show ys.length + ys.length * 0 ≤ _; omega))]
  · rw [TL.join_eq, len_tl, tl_join_nil, (hs ys hy).1]
  · intro c m
    rw [TL.join_eq, tl_join_nil] at m
    exact (hs ys hy).2 c m
theorem find_one (x : Str) (c : Nat) : decide (Txt.find x ⟨#[c]⟩ < 0) = !decide (c ∈ x.cps.toList) := by
  have h := PySem.StrLaws.found_one x c
  unfold Txt.find
  cases e : Builtin.Str.occurrences x ⟨#[c]⟩ 0 x.length 1 with
  | nil =>
    rw [e] at h
    rw [← h]
    rfl
  | cons i r =>
    rw [e] at h
    rw [← h]
    simp
/-- in an alphabet -/
theorem in_one (h : LH) (x : Str) (c : Nat) : oIn h (.str ⟨#[c]⟩) (.str x) = some (.bl (decide (c ∈ tl x))) := by
  show Option.map D.bl (if decide (1 = 1) = true then some (decide (c ∈ x.cps.toList)) else none) = _
  rw [if_pos (by rfl)]
  rfl
/-- what can be shown -/
def Shw (it : D) (n : Nat) : Prop := ∃ t : Str, t.length ≤ n ∧ ∀ h, showD h it = some t
theorem shw_py {it : D} {p : PyData} {n : Nat} (e : ∀ h, pyR h it = some p) (h1 : p.showable = true) (h2 : p.depth ≤ 600) (h3 : p.shown.length ≤ n) (hn : n ≤ 1000000) : Shw it n := ⟨p.shown, h3, fun h => by
  unfold showD
  rw [e, Option.bind_some, h1, decide_eq_true h2, small_of (by omega)]
  rfl⟩
theorem shw_str {z : Str} (hz : Sg1 (· < 1114112) z) (hl : z.length ≤ 90000) : Shw (.str z) (10 * z.length + 2) := by
  refine shw_py (p := .str z) (fun _ => rfl) rfl (Nat.zero_le _) ?_ (by omega)
  rw [show (PyData.str z).shown = reprText z by simp only [PyData.shown]]
  exact StrLaws.reprText_len z fun c m => Nat.lt_of_lt_of_le (hz c m) (by decide)
end DN
set_option maxHeartbeats 0
namespace Wk01
open PySem PySem.Spec PyProof.Rows L2 DN
def topS (i : Nat) : Stmt := PySem.Challenge.pw_everyway_k01_names_of_anything.main.body.getD i (.Pass ⟨0, 0, 0, 0⟩)
abbrev s_is_name : Stmt := topS 3
abbrev s__law_begun : Stmt := topS 5
abbrev s__law_dealt : Stmt := topS 6
abbrev s__law_pick : Stmt := topS 7
abbrev s__law_deemed : Stmt := topS 8
abbrev s__law_text_of : Stmt := topS 9
abbrev s__law_right : Stmt := topS 10
abbrev s_law : Stmt := topS 11
abbrev k_LETTERS : D := .str "abcdefghijklmnopqrstuvwxyz"
abbrev k_LONGEST_NAME : D := .int 8
structure Tops (K : PySem.W.Frag) (mg : Str → Option Value) : Prop where
  d_is_name : DefAt K mg "is_name" s_is_name
  d__law_begun : DefAt K mg "_law_begun" s__law_begun
  d__law_dealt : DefAt K mg "_law_dealt" s__law_dealt
  d__law_pick : DefAt K mg "_law_pick" s__law_pick
  d__law_deemed : DefAt K mg "_law_deemed" s__law_deemed
  d__law_text_of : DefAt K mg "_law_text_of" s__law_text_of
  d__law_right : DefAt K mg "_law_right" s__law_right
  d_law : DefAt K mg "law" s_law
  n_all : mg "all" = none
  n_isinstance : mg "isinstance" = none
  n_len : mg "len" = none
  n_list : mg "list" = none
  n_range : mg "range" = none
  n_repr : mg "repr" = none
  n_str : mg "str" = none
  k_LETTERS : ∃ u, mg "LETTERS" = some u ∧ RelV (.str "abcdefghijklmnopqrstuvwxyz") u
  k_LONGEST_NAME : ∃ u, mg "LONGEST_NAME" = some u ∧ RelV (.int 8) u
section
variable {P : Program} {w : World} {K : PySem.W.Frag} {mg : Str → Option Value} {base : Heap} {k : Nat}
theorem sc_is_name : FnScope ["thing", "sign"] ["thing"] (defScope s_is_name) := ⟨rfl, rfl, rfl, by decide +kernel, rfl, by decide +kernel, by decide +kernel⟩
def b_is_name : FM := fnM 2 ((sSeq (sIf (mOrT (mNotT (mTest (mCall cIsi (aCons (mVar 0) (aCons (mC (.st (.ty "str"))) aNil))))) (mNotT (mTest (mChain oLe oLe (mC (.int 1)) (mCall cLen (aCons (mVar 0) aNil)) (mC k_LONGEST_NAME)))))
  (sRet (mC (.bl false)))
  sNil)
  (sRet (mCall cAll (aCons (mLc 1000000 [1] (iStrV (mVar 0)) (gNm 1) bYes (mOp oIn (mVar 1) (mC k_LETTERS))) aNil)))))
theorem ok_is_name (T : Tops K mg) : CalP P w K mg base (k + 1) "is_name" s_is_name ["thing"] (b_is_name) := DefAt.cal (N := ["thing", "sign"]) T.d_is_name sc_is_name (m := fun _ _ => .no) fun f cdv A outer s H E hr =>
    have tk : Takes (cxOf (L2.CX P w) P w K mg base ["thing", "sign"] "is_name" (defScope s_is_name) f cdv A outer s H E) (fun c d _ H => E c d H) := takes_of rfl rfl rfl rfl
    have pass_ : PassesOwn (model P w) (A.deeper (envOfC "is_name" (defScope s_is_name) s.heap.objs.size f cdv)) (envOfC "is_name" (defScope s_is_name) s.heap.objs.size f cdv) (cxOf (L2.CX P w) P w K mg base ["thing", "sign"] "is_name" (defScope s_is_name) f cdv A outer s H E).xe := passes_of rfl
    (ds_cons (ds_if (dt_w (dw_or (dt_not (dt_val (d_callB oc_isi (by rfl) T.n_isinstance (by decide +kernel) (da_cons (d_var (pv 0)) (da_cons (d_ty "str" (by rfl) T.n_str (by decide +kernel)) da_nil))))) (dw_or1 (dt_not (dt_chain od_le od_le d_int (d_callB oc_len (by rfl) T.n_len (by decide +kernel) (da_cons (d_var (pv 0)) da_nil)) (d_glob (by rfl) T.k_LONGEST_NAME))))))
      (ds_one (ds_ret d_bl))
      ds_nil)
      (ds_one (ds_ret (d_callB (oc_all rfl) (by rfl) T.n_all (by decide +kernel) (da_cons (d_lc (own := [("sign", 1)]) fin_lst 1000000 rfl sc_is_name.nd (di_str (d_var (pv 0))) (blkOk_by (own := [("sign", 1)]) (N := ["thing", "sign"]) (sc := defScope s_is_name) (by decide +kernel)) (fun _ _ _ _ _ => (dg_name (i := 1) sc_is_name.nd rfl (Or.inl rfl) (hv := by decide))) (fun _ _ _ _ _ => dts_nil) (fun _ _ _ _ _ => (d_cmp (od_in hr.u65) (d_var (pv 1)) (d_glob (by rfl) T.k_LETTERS) (by rfl)))) da_nil)))))
theorem sc__law_begun : FnScope ["script", "cell", "cells", "total"] ["script"] (defScope s__law_begun) := ⟨rfl, rfl, rfl, by decide +kernel, rfl, by decide +kernel, by decide +kernel⟩
def b__law_begun : FM := fnM 4 ((sSeq (sPar 2 3 (aCons (mCall cList (aCons (mSl (mVar 0) oNo (oPart (mC (.int 63)))) aNil)) (aCons (mC (.int 50021)) aNil)))
  (sSeq (sFor 1000000 (iVal (mVar 2)) (gNm 1)
  (sSet 3 (mOp oMod (mOp oAdd (mOp oAdd (mOp oMul (mVar 3) (mC (.int 48271))) (mOp oMod (mVar 1) (mC (.int 2147483563)))) (mC (.int 17))) (mC (.int 2147483629)))))
  (sRet (mNew (aCons (mRevN (mVar 2)) (aCons (mVar 3) (aCons (mC (.int 0)) aNil))))))))
theorem ok__law_begun (T : Tops K mg) : CalP P w K mg base (k + 1) "_law_begun" s__law_begun ["script"] (b__law_begun) := DefAt.cal (N := ["script", "cell", "cells", "total"]) T.d__law_begun sc__law_begun (m := fun _ _ => .no) fun f cdv A outer s H E hr =>
    have tk : Takes (cxOf (L2.CX P w) P w K mg base ["script", "cell", "cells", "total"] "_law_begun" (defScope s__law_begun) f cdv A outer s H E) (fun c d _ H => E c d H) := takes_of rfl rfl rfl rfl
    have pass_ : PassesOwn (model P w) (A.deeper (envOfC "_law_begun" (defScope s__law_begun) s.heap.objs.size f cdv)) (envOfC "_law_begun" (defScope s__law_begun) s.heap.objs.size f cdv) (cxOf (L2.CX P w) P w K mg base ["script", "cell", "cells", "total"] "_law_begun" (defScope s__law_begun) f cdv A outer s H E).xe := passes_of rfl
    (ds_cons (ds_par (i := 2) (j := 3) rfl sc__law_begun.nd rfl rfl (by decide) rfl rfl (da_cons (d_callTy oc_list (by rfl) T.n_list (by decide +kernel) (da_cons (d_slice (d_var (pv 0)) do_no (do_some d_int)) da_nil)) (da_cons d_int da_nil)) rfl)
      (ds_cons (ds_for (vs := [1]) 1000000 pass_ rfl (di_val (d_var (pv 2))) (dg_name (i := 1) sc__law_begun.nd rfl (Or.inl rfl) (hv := by decide))
      (ds_one (ds_set (i := 3) sc__law_begun.nd rfl (.inl rfl) (d_op od_mod (d_op od_add (d_op od_add (d_op od_mul (d_var (pv 3)) d_int) (d_op od_mod (d_var (pv 1)) d_int)) d_int) d_int))))
      (ds_one (ds_ret (d_new (da_cons (d_revN (d_var (pv 2))) (da_cons (d_var (pv 3)) (da_cons d_int da_nil))))))))
theorem sc__law_dealt : FnScope ["hand", "lots", "cell", "mixed"] ["hand", "lots"] (defScope s__law_dealt) := ⟨rfl, rfl, rfl, by decide +kernel, rfl, by decide +kernel, by decide +kernel⟩
def b__law_dealt : FM := fnM 4 ((sSeq (sAsg (mOp oAdd (mOp oIx (mVar 0) (mC (.int 2))) (mC (.int 1))) (gSb (mVar 0) (mC (.int 2))))
  (sSeq (sSet 2 (mOp oIx (mVar 0) (mC (.int 1))))
  (sSeq (sIf (mTest (mOp oNe (mOp oIx (mVar 0) (mC (.int 0))) (mLst aNil)))
  (sSeq (sSet 2 (mMeth "list" gPop (mOp oIx (mVar 0) (mC (.int 0))) aNil))
  (sIf (mTest (mOp oGe (mVar 2) (mOp oPow (mC (.int 10)) (mC (.int 18)))))
  (sSeq (sExpr (mMeth "list" gAppend (mOp oIx (mVar 0) (mC (.int 0))) (aCons (mOp oDiv (mVar 2) (mVar 1)) aNil)))
  (sRet (mOp oMod (mVar 2) (mVar 1))))
  sNil))
  sNil)
  (sSeq (sSet 3 (mOp oAdd (mOp oAdd (mOp oAdd (mOp oMod (mVar 2) (mC (.int 2147483629))) (mOp oMul (mOp oMul (mC (.int 16807)) (mOp oIx (mVar 0) (mC (.int 2)))) (mOp oIx (mVar 0) (mC (.int 2))))) (mOp oIx (mVar 0) (mC (.int 1)))) (mC (.int 97))))
  (sSeq (sSet 3 (mOp oMod (mOp oMul (mVar 3) (mC (.int 48271))) (mC (.int 2147483647))))
  (sSeq (sSet 3 (mOp oMod (mOp oAdd (mOp oAdd (mOp oMul (mVar 3) (mVar 3)) (mOp oMul (mC (.int 69621)) (mOp oIx (mVar 0) (mC (.int 2))))) (mC (.int 11))) (mC (.int 2147483587))))
  (sRet (mOp oMod (mOp oDiv (mOp oMod (mOp oMul (mVar 3) (mOp oAdd (mOp oDiv (mVar 3) (mC (.int 5))) (mC (.int 39373)))) (mC (.int 2147483563))) (mC (.int 128))) (mVar 1))))))))))
theorem ok__law_dealt (T : Tops K mg) : CalP P w K mg base (k + 1) "_law_dealt" s__law_dealt ["hand", "lots"] (b__law_dealt) := DefAt.cal (N := ["hand", "lots", "cell", "mixed"]) T.d__law_dealt sc__law_dealt (m := fun _ _ => .no) fun f cdv A outer s H E hr =>
    have tk : Takes (cxOf (L2.CX P w) P w K mg base ["hand", "lots", "cell", "mixed"] "_law_dealt" (defScope s__law_dealt) f cdv A outer s H E) (fun c d _ H => E c d H) := takes_of rfl rfl rfl rfl
    have pass_ : PassesOwn (model P w) (A.deeper (envOfC "_law_dealt" (defScope s__law_dealt) s.heap.objs.size f cdv)) (envOfC "_law_dealt" (defScope s__law_dealt) s.heap.objs.size f cdv) (cxOf (L2.CX P w) P w K mg base ["hand", "lots", "cell", "mixed"] "_law_dealt" (defScope s__law_dealt) f cdv A outer s H E).xe := passes_of rfl
    (ds_cons (ds_asg (vs := []) (d_op od_add (d_ix (d_var (pv 0)) d_int) d_int) (dg_sub (W := WX0) (d_var (pv 0)) d_int))
      (ds_cons (ds_set (i := 2) sc__law_dealt.nd rfl (.inl rfl) (d_ix (d_var (pv 0)) d_int))
      (ds_cons (ds_if (dt_cmp (od_ne hr.u64) (d_ix (d_var (pv 0)) d_int) (d_lst da_nil) (nomark _))
      (ds_cons (ds_set (i := 2) sc__law_dealt.nd rfl (.inl rfl) (d_meth0 PySem.F.plainAttrs_list PySem.F.slot_list_pop PySem.F.type_list_pop mt_gPop (.inr (.inl rfl)) (d_ix (d_var (pv 0)) d_int)))
      (ds_one (ds_if (dt_cmp od_ge (d_var (pv 2)) (d_op od_pow d_int d_int) (nomark _))
      (ds_cons (ds_expr (d_meth PySem.F.plainAttrs_list PySem.F.slot_list_append PySem.F.type_list_append mt_gAppend (.inr (.inl rfl)) (d_ix (d_var (pv 0)) d_int) (da_cons (d_op od_div (d_var (pv 2)) (d_var (pv 1))) da_nil)))
      (ds_one (ds_ret (d_op od_mod (d_var (pv 2)) (d_var (pv 1))))))
      ds_nil)))
      ds_nil)
      (ds_cons (ds_set (i := 3) sc__law_dealt.nd rfl (.inl rfl) (d_op od_add (d_op od_add (d_op od_add (d_op od_mod (d_var (pv 2)) d_int) (d_op od_mul (d_op od_mul d_int (d_ix (d_var (pv 0)) d_int)) (d_ix (d_var (pv 0)) d_int))) (d_ix (d_var (pv 0)) d_int)) d_int))
      (ds_cons (ds_set (i := 3) sc__law_dealt.nd rfl (.inl rfl) (d_op od_mod (d_op od_mul (d_var (pv 3)) d_int) d_int))
      (ds_cons (ds_set (i := 3) sc__law_dealt.nd rfl (.inl rfl) (d_op od_mod (d_op od_add (d_op od_add (d_op od_mul (d_var (pv 3)) (d_var (pv 3))) (d_op od_mul d_int (d_ix (d_var (pv 0)) d_int))) d_int) d_int))
      (ds_one (ds_ret (d_op od_mod (d_op od_div (d_op od_mod (d_op od_mul (d_var (pv 3)) (d_op od_add (d_op od_div (d_var (pv 3)) d_int) d_int)) d_int) d_int) (d_var (pv 1)))))))))))
theorem sc__law_pick : FnScope ["hand", "some"] ["hand", "some"] (defScope s__law_pick) := ⟨rfl, rfl, rfl, by decide +kernel, rfl, by decide +kernel, by decide +kernel⟩
def b__law_pick (c__law_dealt : FM) : FM := fnM 2 ((sRet (mOp oIx (mVar 1) (mFn 2 c__law_dealt [] (aCons (mVar 0) (aCons (mCall cLen (aCons (mVar 1) aNil)) aNil))))))
theorem ok__law_pick {c__law_dealt : FM} (C__law_dealt : CalP P w K mg base k "_law_dealt" s__law_dealt ["hand", "lots"] c__law_dealt) (T : Tops K mg) : CalP P w K mg base (k + 1) "_law_pick" s__law_pick ["hand", "some"] (b__law_pick c__law_dealt) := DefAt.cal (N := ["hand", "some"]) T.d__law_pick sc__law_pick (m := fun _ _ => .no) fun f cdv A outer s H E hr =>
    have tk : Takes (cxOf (L2.CX P w) P w K mg base ["hand", "some"] "_law_pick" (defScope s__law_pick) f cdv A outer s H E) (fun c d _ H => E c d H) := takes_of rfl rfl rfl rfl
    have pass_ : PassesOwn (model P w) (A.deeper (envOfC "_law_pick" (defScope s__law_pick) s.heap.objs.size f cdv)) (envOfC "_law_pick" (defScope s__law_pick) s.heap.objs.size f cdv) (cxOf (L2.CX P w) P w K mg base ["hand", "some"] "_law_pick" (defScope s__law_pick) f cdv A outer s H E).xe := passes_of rfl
    (ds_one (ds_ret (d_ix (d_var (pv 1)) (d_c1 (ps := ["hand", "lots"]) C__law_dealt hr tk (by rfl) (fun _ _ _ _ _ _ us hl => match us, hl with | [_, _], _ => rfl) (da_cons (d_var (pv 0)) (da_cons (d_callB oc_len (by rfl) T.n_len (by decide +kernel) (da_cons (d_var (pv 1)) da_nil)) da_nil))))))
theorem sc__law_deemed : FnScope ["it", "sign"] ["it"] (defScope s__law_deemed) := ⟨rfl, rfl, rfl, by decide +kernel, rfl, by decide +kernel, by decide +kernel⟩
def b__law_deemed : FM := fnM 2 ((sSeq (sIf (mOrT (mNotT (mTest (mCall cIsi (aCons (mVar 0) (aCons (mC (.st (.ty "str"))) aNil))))) (mOrT (mTest (mOp oLt (mCall cLen (aCons (mVar 0) aNil)) (mC (.int 1)))) (mTest (mOp oGt (mCall cLen (aCons (mVar 0) aNil)) (mC (.int 8))))))
  (sRet (mC (.bl false)))
  sNil)
  (sRet (mOp oEq (mLc 1000000 [1] (iStrV (mVar 0)) (gNm 1) (mTest (mOp oLt (mMeth "str" gFind (mC (.str "abcdefghijklmnopqrstuvwxyz")) (aCons (mVar 1) aNil)) (mC (.int 0)))) (mVar 1)) (mLst aNil)))))
theorem ok__law_deemed (T : Tops K mg) : CalP P w K mg base (k + 1) "_law_deemed" s__law_deemed ["it"] (b__law_deemed) := DefAt.cal (N := ["it", "sign"]) T.d__law_deemed sc__law_deemed (m := fun _ _ => .no) fun f cdv A outer s H E hr =>
    have tk : Takes (cxOf (L2.CX P w) P w K mg base ["it", "sign"] "_law_deemed" (defScope s__law_deemed) f cdv A outer s H E) (fun c d _ H => E c d H) := takes_of rfl rfl rfl rfl
    have pass_ : PassesOwn (model P w) (A.deeper (envOfC "_law_deemed" (defScope s__law_deemed) s.heap.objs.size f cdv)) (envOfC "_law_deemed" (defScope s__law_deemed) s.heap.objs.size f cdv) (cxOf (L2.CX P w) P w K mg base ["it", "sign"] "_law_deemed" (defScope s__law_deemed) f cdv A outer s H E).xe := passes_of rfl
    (ds_cons (ds_if (dt_w (dw_or (dt_not (dt_val (d_callB oc_isi (by rfl) T.n_isinstance (by decide +kernel) (da_cons (d_var (pv 0)) (da_cons (d_ty "str" (by rfl) T.n_str (by decide +kernel)) da_nil))))) (dw_or (dt_cmp od_lt (d_callB oc_len (by rfl) T.n_len (by decide +kernel) (da_cons (d_var (pv 0)) da_nil)) d_int (nomark _)) (dw_or1 (dt_cmp od_gt (d_callB oc_len (by rfl) T.n_len (by decide +kernel) (da_cons (d_var (pv 0)) da_nil)) d_int (nomark _))))))
      (ds_one (ds_ret d_bl))
      ds_nil)
      (ds_one (ds_ret (d_cmp (od_eq hr.u64) (d_lc (own := [("sign", 1)]) fin_lst 1000000 rfl sc__law_deemed.nd (di_str (d_var (pv 0))) (blkOk_by (own := [("sign", 1)]) (N := ["it", "sign"]) (sc := defScope s__law_deemed) (by decide +kernel)) (fun _ _ _ _ _ => (dg_name (i := 1) sc__law_deemed.nd rfl (Or.inl rfl) (hv := by decide))) (fun _ _ _ _ _ => (dts_one (dt_cmp od_lt (d_meth PySem.F.plainAttrs_str PySem.F.slot_str_find PySem.F.type_str_find mt_gFind (.inl rfl) d_str (da_cons (d_var (pv 1)) da_nil)) d_int (nomark _)))) (fun _ _ _ _ _ => (d_var (pv 1)))) (d_lst da_nil) (nomark _)))))
theorem sc__law_text_of : FnScope ["hand", "letters", "sign", "found", "odd", "size", "at", "turn"] ["hand"] (defScope s__law_text_of) := ⟨rfl, rfl, rfl, by decide +kernel, rfl, by decide +kernel, by decide +kernel⟩
def b__law_text_of (c__law_dealt c__law_pick : FM) : FM := fnM 8 ((sSeq (sSet 1 (mC (.str "abcdefghijklmnopqrstuvwxyz")))
  (sSeq (sPar3 4 5 6 (aCons (mOp oEq (mFn 2 c__law_dealt [] (aCons (mVar 0) (aCons (mC (.int 2)) aNil))) (mC (.int 1))) (aCons (mFn 2 c__law_dealt [] (aCons (mVar 0) (aCons (mC (.int 10)) aNil))) (aCons (mFn 2 c__law_dealt [] (aCons (mVar 0) (aCons (mC (.int 9)) aNil))) aNil))))
  (sSeq (sSet 2 (mFn 2 c__law_pick [] (aCons (mVar 0) (aCons (mLst (aCons (mC (.str "A")) (aCons (mC (.str "Z")) (aCons (mC (.str "0")) (aCons (mC (.str "9")) (aCons (mC (.str " ")) (aCons (mC (.str ".")) (aCons (mC (.str ":")) (aCons (mC (.str "'")) (aCons (mC (.str "\n")) (aCons (mC (.str "`")) (aCons (mC (.str "{")) (aCons (mC (.str "_")) (aCons (mC (.str "-")) (aCons (mC (.str "@")) (aCons (mC (.str "[")) (aCons (mC (.str "~")) (aCons (mC (.str "!")) aNil)))))))))))))))))) aNil))))
  (sSeq (sSet 3 (mMeth "str" gJoin (mC (.str "")) (aCons (mLc 1000000 [7] (iRng1 (aCons (mVar 5) aNil)) (gNm 7) bYes (mOp oIx (mVar 1) (mFn 2 c__law_dealt [] (aCons (mVar 0) (aCons (mC (.int 26)) aNil))))) aNil)))
  (sRet (mIf (mTest (mVar 4)) (mOp oAdd (mOp oAdd (mSl (mVar 3) oNo (oPart (mVar 6))) (mVar 2)) (mSl (mVar 3) (oPart (mOp oAdd (mVar 6) (mC (.int 1)))) oNo)) (mVar 3))))))))
theorem ok__law_text_of {c__law_dealt : FM} (C__law_dealt : CalP P w K mg base k "_law_dealt" s__law_dealt ["hand", "lots"] c__law_dealt) {c__law_pick : FM} (C__law_pick : CalP P w K mg base k "_law_pick" s__law_pick ["hand", "some"] c__law_pick) (T : Tops K mg) : CalP P w K mg base (k + 1) "_law_text_of" s__law_text_of ["hand"] (b__law_text_of c__law_dealt c__law_pick) := DefAt.cal (N := ["hand", "letters", "sign", "found", "odd", "size", "at", "turn"]) T.d__law_text_of sc__law_text_of (m := fun _ _ => .no) fun f cdv A outer s H E hr =>
    have tk : Takes (cxOf (L2.CX P w) P w K mg base ["hand", "letters", "sign", "found", "odd", "size", "at", "turn"] "_law_text_of" (defScope s__law_text_of) f cdv A outer s H E) (fun c d _ H => E c d H) := takes_of rfl rfl rfl rfl
    have pass_ : PassesOwn (model P w) (A.deeper (envOfC "_law_text_of" (defScope s__law_text_of) s.heap.objs.size f cdv)) (envOfC "_law_text_of" (defScope s__law_text_of) s.heap.objs.size f cdv) (cxOf (L2.CX P w) P w K mg base ["hand", "letters", "sign", "found", "odd", "size", "at", "turn"] "_law_text_of" (defScope s__law_text_of) f cdv A outer s H E).xe := passes_of rfl
    (ds_cons (ds_set (i := 1) sc__law_text_of.nd rfl (.inr rfl) d_str)
      (ds_cons (ds_par3 (i := 4) (j := 5) (l := 6) rfl sc__law_text_of.nd rfl rfl rfl (by decide) (by decide) (by decide) rfl rfl rfl (da_cons (d_cmp (od_eq hr.u64) (d_c1 (ps := ["hand", "lots"]) C__law_dealt hr tk (by rfl) (fun _ _ _ _ _ _ us hl => match us, hl with | [_, _], _ => rfl) (da_cons (d_var (pv 0)) (da_cons d_int da_nil))) d_int (nomark _)) (da_cons (d_c1 (ps := ["hand", "lots"]) C__law_dealt hr tk (by rfl) (fun _ _ _ _ _ _ us hl => match us, hl with | [_, _], _ => rfl) (da_cons (d_var (pv 0)) (da_cons d_int da_nil))) (da_cons (d_c1 (ps := ["hand", "lots"]) C__law_dealt hr tk (by rfl) (fun _ _ _ _ _ _ us hl => match us, hl with | [_, _], _ => rfl) (da_cons (d_var (pv 0)) (da_cons d_int da_nil))) da_nil))) rfl)
      (ds_cons (ds_set (i := 2) sc__law_text_of.nd rfl (.inl rfl) (d_c1 (ps := ["hand", "some"]) C__law_pick hr tk (by rfl) (fun _ _ _ _ _ _ us hl => match us, hl with | [_, _], _ => rfl) (da_cons (d_var (pv 0)) (da_cons (d_lst (da_cons d_str (da_cons d_str (da_cons d_str (da_cons d_str (da_cons d_str (da_cons d_str (da_cons d_str (da_cons d_str (da_cons d_str (da_cons d_str (da_cons d_str (da_cons d_str (da_cons d_str (da_cons d_str (da_cons d_str (da_cons d_str (da_cons d_str da_nil)))))))))))))))))) da_nil))))
      (ds_cons (ds_set (i := 3) sc__law_text_of.nd rfl (.inl rfl) (d_meth PySem.F.plainAttrs_str PySem.F.slot_str_join PySem.F.type_str_join mt_gJoin (.inl rfl) d_str (da_cons (d_lc (own := [("turn", 7)]) fin_lst 1000000 rfl sc__law_text_of.nd (di_rng1 (by rfl) T.n_range (da_cons (d_var (pv 5)) da_nil)) (blkOk_by (own := [("turn", 7)]) (N := ["hand", "letters", "sign", "found", "odd", "size", "at", "turn"]) (sc := defScope s__law_text_of) (by decide +kernel)) (fun _ _ _ _ _ => (dg_name (i := 7) sc__law_text_of.nd rfl (Or.inl rfl) (hv := by decide))) (fun _ _ _ _ _ => dts_nil) (fun _ _ _ _ _ => (d_ix (d_var (pv 1)) (d_c1 (ps := ["hand", "lots"]) C__law_dealt hr takes0 (by rfl) (fun _ _ _ _ _ _ us hl => match us, hl with | [_, _], _ => rfl) (da_cons (d_var (pv 0)) (da_cons d_int da_nil)))))) da_nil)))
      (ds_one (ds_ret (d_if (dt_val (d_var (pv 4))) (d_op od_add (d_op od_add (d_slice (d_var (pv 3)) do_no (do_some (d_var (pv 6)))) (d_var (pv 2))) (d_slice (d_var (pv 3)) (do_some (d_op od_add (d_var (pv 6)) d_int)) do_no)) (d_var (pv 3)))))))))
theorem sc__law_right : FnScope ["it", "kept"] ["it"] (defScope s__law_right) := ⟨rfl, rfl, rfl, by decide +kernel, rfl, by decide +kernel, by decide +kernel⟩
def b__law_right (c_is_name c__law_deemed : FM) : FM := fnM 2 ((sSeq (sSet 1 (mCall cRepr (aCons (mVar 0) aNil)))
  (sRet (mAndV (mOp oEq (mCall cRepr (aCons (mLst (aCons (mFn 1 c_is_name [] (aCons (mVar 0) aNil)) (aCons (mFnK 1 0 1 [.kw 0] c_is_name [] aNil (aCons (mVar 0) aNil)) aNil))) aNil)) (mCall cRepr (aCons (mOp oMul (mLst (aCons (mFn 1 c__law_deemed [] (aCons (mVar 0) aNil)) aNil)) (mC (.int 2))) aNil))) (mOp oEq (mCall cRepr (aCons (mVar 0) aNil)) (mVar 1))))))
theorem ok__law_right {c_is_name : FM} (C_is_name : CalP P w K mg base k "is_name" s_is_name ["thing"] c_is_name) {c__law_deemed : FM} (C__law_deemed : CalP P w K mg base k "_law_deemed" s__law_deemed ["it"] c__law_deemed) (T : Tops K mg) : CalP P w K mg base (k + 1) "_law_right" s__law_right ["it"] (b__law_right c_is_name c__law_deemed) := DefAt.cal (N := ["it", "kept"]) T.d__law_right sc__law_right (m := fun _ _ => .no) fun f cdv A outer s H E hr =>
    have tk : Takes (cxOf (L2.CX P w) P w K mg base ["it", "kept"] "_law_right" (defScope s__law_right) f cdv A outer s H E) (fun c d _ H => E c d H) := takes_of rfl rfl rfl rfl
    have pass_ : PassesOwn (model P w) (A.deeper (envOfC "_law_right" (defScope s__law_right) s.heap.objs.size f cdv)) (envOfC "_law_right" (defScope s__law_right) s.heap.objs.size f cdv) (cxOf (L2.CX P w) P w K mg base ["it", "kept"] "_law_right" (defScope s__law_right) f cdv A outer s H E).xe := passes_of rfl
    (ds_cons (ds_set (i := 1) sc__law_right.nd rfl (.inl rfl) (d_callB (oc_repr hr.u700 hr.gd) (by rfl) T.n_repr (by decide +kernel) (da_cons (d_var (pv 0)) da_nil)))
      (ds_one (ds_ret (d_and (d_cmp (od_eq hr.u64) (d_callB (oc_repr hr.u700 hr.gd) (by rfl) T.n_repr (by decide +kernel) (da_cons (d_lst (da_cons (d_c1 (ps := ["thing"]) C_is_name hr tk (by rfl) (fun _ _ _ _ _ _ us hl => match us, hl with | [_], _ => rfl) (da_cons (d_var (pv 0)) da_nil)) (da_cons (d_ck0 (ps := ["thing"]) (ks := ["thing"]) (ix := [.kw 0]) C_is_name hr tk (by rfl) (fun _ _ _ _ _ _ ws hl => match ws, hl with | [_], _ => rfl) (dk_cons (d_var (pv 0)) dk_nil)) da_nil))) da_nil)) (d_callB (oc_repr hr.u700 hr.gd) (by rfl) T.n_repr (by decide +kernel) (da_cons (d_op od_mul (d_lst (da_cons (d_c1 (ps := ["it"]) C__law_deemed hr tk (by rfl) (fun _ _ _ _ _ _ us hl => match us, hl with | [_], _ => rfl) (da_cons (d_var (pv 0)) da_nil)) da_nil)) d_int) da_nil)) (nomark _)) (d_one (d_cmp (od_eq hr.u64) (d_callB (oc_repr hr.u700 hr.gd) (by rfl) T.n_repr (by decide +kernel) (da_cons (d_var (pv 0)) da_nil)) (d_var (pv 1)) (nomark _)))))))
theorem sc_law : FnScope ["script", "hand", "some", "turn", "it"] ["script"] (defScope s_law) := ⟨rfl, rfl, rfl, by decide +kernel, rfl, by decide +kernel, by decide +kernel⟩
def b_law (c__law_begun c__law_text_of c__law_right : FM) : FM := fnM 5 ((sSeq (sSet 1 (mFn 1 c__law_begun [] (aCons (mVar 0) aNil)))
  (sSeq (sSet 2 (mLc 1000000 [3] (iRng1 (aCons (mC (.int 40)) aNil)) (gNm 3) bYes (mFn 1 c__law_text_of [] (aCons (mVar 1) aNil))))
  (sSeq (sSet 2 (mOp oAdd (mVar 2) (mLst (aCons (mC (.str "row")) (aCons (mC (.str "none")) (aCons (mC (.str "yes")) (aCons (mC (.str "main")) (aCons (mC (.str "a")) (aCons (mC (.str "abcdefgh")) (aCons (mC (.str "abcdefghi")) (aCons (mC (.str "")) (aCons (mC .non) (aCons (mC (.bl true)) (aCons (mC (.bl false)) (aCons (mC (.int 0)) (aCons (mC (.int 1)) (aCons (mOp oPow (mC (.int 10)) (mC (.int 39))) aNil)))))))))))))))))
  (sSeq (sSet 2 (mOp oAdd (mVar 2) (mLst (aCons (mTup (aCons (mC (.str "a")) aNil)) (aCons (mLst (aCons (mC (.str "a")) aNil)) (aCons (mDct (dCons (mC (.str "a")) (mC (.str "a")) dNil)) (aCons (mTup aNil) (aCons (mLst aNil) (aCons mDNew (aCons (mTup (aCons (mC (.str "deed")) (aCons (mC (.str "a")) (aCons (mC (.str "b")) aNil)))) (aCons (mTup (aCons (mC (.str "row")) (aCons (mTup (aCons (mC (.str "a")) aNil)) aNil))) (aCons (mTup (aCons (mC (.str "thing")) (aCons (mC (.int 0)) aNil))) (aCons (mOp oMul (mC (.str "a")) (mC (.int 4000))) aNil)))))))))))))
  (sRet (mOp oEq (mLc 1000000 [4] (iVal (mOp oAdd (mVar 2) (mRev (mVar 2)))) (gNm 4) (mNotT (mTest (mFn 1 c__law_right [] (aCons (mVar 4) aNil)))) (mVar 4)) (mLst aNil))))))))
theorem ok_law {c__law_begun : FM} (C__law_begun : CalP P w K mg base k "_law_begun" s__law_begun ["script"] c__law_begun) {c__law_text_of : FM} (C__law_text_of : CalP P w K mg base k "_law_text_of" s__law_text_of ["hand"] c__law_text_of) {c__law_right : FM} (C__law_right : CalP P w K mg base k "_law_right" s__law_right ["it"] c__law_right) (T : Tops K mg) : CalP P w K mg base (k + 1) "law" s_law ["script"] (b_law c__law_begun c__law_text_of c__law_right) := DefAt.cal (N := ["script", "hand", "some", "turn", "it"]) T.d_law sc_law (m := fun _ _ => .no) fun f cdv A outer s H E hr =>
    have tk : Takes (cxOf (L2.CX P w) P w K mg base ["script", "hand", "some", "turn", "it"] "law" (defScope s_law) f cdv A outer s H E) (fun c d _ H => E c d H) := takes_of rfl rfl rfl rfl
    have pass_ : PassesOwn (model P w) (A.deeper (envOfC "law" (defScope s_law) s.heap.objs.size f cdv)) (envOfC "law" (defScope s_law) s.heap.objs.size f cdv) (cxOf (L2.CX P w) P w K mg base ["script", "hand", "some", "turn", "it"] "law" (defScope s_law) f cdv A outer s H E).xe := passes_of rfl
    (ds_cons (ds_set (i := 1) sc_law.nd rfl (.inr rfl) (d_c1 (ps := ["script"]) C__law_begun hr tk (by rfl) (fun _ _ _ _ _ _ us hl => match us, hl with | [_], _ => rfl) (da_cons (d_var (pv 0)) da_nil)))
      (ds_cons (ds_setLc (i := 2) (own := [("turn", 3)]) fin_lst 1000000 rfl sc_law.nd rfl rfl (sw_true rfl rfl rfl (by decide +kernel)) (di_rng1 (by rfl) T.n_range (da_cons d_int da_nil)) (blkOk_by (own := [("turn", 3)]) (N := ["script", "hand", "some", "turn", "it"]) (sc := defScope s_law) (by decide +kernel)) (fun _ _ _ _ _ => (dg_name (i := 3) sc_law.nd rfl (Or.inl rfl) (hv := by decide))) (fun _ _ _ _ _ => dts_nil) (fun _ _ _ _ _ => (d_c1 (ps := ["hand"]) C__law_text_of hr takes0 (by rfl) (fun _ _ _ _ _ _ us hl => match us, hl with | [_], _ => rfl) (da_cons (d_var (pv 1)) da_nil))))
      (ds_cons (ds_set (i := 2) sc_law.nd rfl (.inl rfl) (d_op od_add (d_var (pv 2)) (d_lst (da_cons d_str (da_cons d_str (da_cons d_str (da_cons d_str (da_cons d_str (da_cons d_str (da_cons d_str (da_cons d_str (da_cons d_non (da_cons d_bl (da_cons d_bl (da_cons d_int (da_cons d_int (da_cons (d_op od_pow d_int d_int) da_nil)))))))))))))))))
      (ds_cons (ds_set (i := 2) sc_law.nd rfl (.inl rfl) (d_op od_add (d_var (pv 2)) (d_lst (da_cons (d_tup (da_cons d_str da_nil)) (da_cons (d_lst (da_cons d_str da_nil)) (da_cons (d_dct (dp_cons d_str d_str dp_nil) (by rfl) (by rfl) (fun z => by cases z) (by decide)) (da_cons (d_tup da_nil) (da_cons (d_lst da_nil) (da_cons d_dnew (da_cons (d_tup (da_cons d_str (da_cons d_str (da_cons d_str da_nil)))) (da_cons (d_tup (da_cons d_str (da_cons (d_tup (da_cons d_str da_nil)) da_nil))) (da_cons (d_tup (da_cons d_str (da_cons d_int da_nil))) (da_cons (d_op od_mul d_str d_int) da_nil)))))))))))))
      (ds_one (ds_ret (d_cmp (od_eq hr.u64) (d_lc (own := [("it", 4)]) fin_lst 1000000 rfl sc_law.nd (di_val (d_op od_add (d_var (pv 2)) (d_rev (d_var (pv 2))))) (blkOk_by (own := [("it", 4)]) (N := ["script", "hand", "some", "turn", "it"]) (sc := defScope s_law) (by decide +kernel)) (fun _ _ _ _ _ => (dg_name (i := 4) sc_law.nd rfl (Or.inl rfl) (hv := by decide))) (fun _ _ _ _ _ => (dts_one (dt_not (dt_val (d_c1 (ps := ["it"]) C__law_right hr takes0 (by rfl) (fun _ _ _ _ _ _ us hl => match us, hl with | [_], _ => rfl) (da_cons (d_var (pv 4)) da_nil)))))) (fun _ _ _ _ _ => (d_var (pv 4)))) (d_lst da_nil) (nomark _))))))))
end
end Wk01
namespace Wk01
open PySem PySem.Spec PyProof.Rows L2 DN
theorem isi_str {h : LH} {d : D} {T : String} (e : tyD h d = some T) : cIsi h [d, .st (.ty "str")] = some (.bl (subTy T "str")) := by
  unfold cIsi
  simp only [e, Option.bind_some]
  rfl
abbrev lts : Str := "abcdefghijklmnopqrstuvwxyz"
def inL (d : D) : D := match d with
  | .str x => .bl (decide (x.cps.getD 0 0 ∈ tl lts))
  | d => d
def nm (z : Str) : Bool := decide (1 ≤ z.length) && (decide (z.length ≤ 8) && (tl z).all fun c => decide (c ∈ tl lts))
theorem is_name_no {h : LH} {d : D} {T : String} (e : tyD h d = some T) (ht : subTy T "str" = false) : b_is_name [d] h = .ok (.bl false) h := by
  unfold b_is_name
  simp [isi_str e, ht]
theorem deemed_no {h : LH} {d : D} {T : String} (e : tyD h d = some T) (ht : subTy T "str" = false) : b__law_deemed [d] h = .ok (.bl false) h := by
  unfold b__law_deemed
  simp [isi_str e, ht]
theorem len_ok {h : LH} {z : Str} (hz : z.length ≤ 100000) : cLen h [.str z] = some (.int z.length) := by
  unfold cLen lenD
  simp [small_of (show z.length ≤ 1000000 by omega)]
theorem sg_len {z : Str} (hz : z.length ≤ 100000) : (DN.signs z).length < 1000000 := by
  rw [show DN.signs z = (tl z).map fun c => D.str ⟨#[c]⟩ from rfl, List.length_map, ← len_tl]
  omega
theorem sg_len2 {z : Str} (hz : z.length ≤ 100000) : ([] : List D).length + (DN.signs z).length ≤ sizeLine := by have := sizeLine_ge; have := sg_len hz; simp; omega
theorem sT : subTy "str" "str" = true := rfl
theorem is_name_str {h : LH} {z : Str} (hz : z.length ≤ 100000) : b_is_name [.str z] h = .ok (.bl (nm z)) h := by
  have e1 := len_ok (h := h) hz
  have e2 : lcS [1] (gNm 1) bYes (mOp oIn (mVar 1) (mC k_LETTERS)) [some (.str z), none] 1000000 (fixS (DN.signs z)) 0 [] h = .ok ((DN.signs z).map inL) h := by
    rw [lc_fix (sg_len hz), lcL_filter (fun _ => true) inL h (DN.signs z) [] (sg_len2 hz)]
    · rw [List.filter_eq_self.mpr (fun _ _ => rfl), List.nil_append]
    · intro d m
      simp only [DN.signs, List.mem_map] at m
      obtain ⟨c, _, rfl⟩ := m
      refine ⟨[some (.str z), some (.str ⟨#[c]⟩)], rfl, rfl, fun _ => ?_⟩
      simp only [mOp_ap, mVar_ap, mC_ap, List.getElem?_cons_succ, List.getElem?_cons_zero, slotR_some, R.bind_ok, in_one]
      rfl
  have e3 : ∀ l : List Nat, ((l.map fun c => D.str ⟨#[c]⟩).map inL).mapM asB = some (l.map fun c => decide (c ∈ tl lts)) := by
    intro l
    induction l with
    | nil => rfl
    | cons c l ih =>
      rw [List.map_cons, List.map_cons, List.mapM_cons, ih]
      rfl
  have e4 : ∀ l : List D, ∀ bs, l.mapM asB = some bs → cAll h [.lst l] = some (.bl (bs.all id)) := fun l bs e => by
    show (l.mapM asB).map _ = _
    rw [e]; rfl
  have e5 : cAll h [.lst ((DN.signs z).map inL)] = some (.bl ((tl z).all fun c => decide (c ∈ tl lts))) := by
    rw [show DN.signs z = (tl z).map fun c => D.str ⟨#[c]⟩ from rfl, e4 _ _ (e3 (tl z)), List.all_map]; rfl
  unfold b_is_name
  by_cases c1 : 1 ≤ z.length
  · have c1' : (1 : Int) ≤ z.length := by omega
    by_cases c2 : z.length ≤ 8
    · have c2' : (z.length : Int) ≤ 8 := by omega
      simp [isi_str (d := .str z) rfl, sT, e1, k_LONGEST_NAME, c1', c2', mLc_ap, e2, e5, nm, c1, c2]
    · have c2' : ¬ (z.length : Int) ≤ 8 := by omega
      simp [isi_str (d := .str z) rfl, sT, e1, k_LONGEST_NAME, c1', c2', nm, c1, c2]
  · have c1' : ¬ (1 : Int) ≤ z.length := by omega
    simp [isi_str (d := .str z) rfl, sT, e1, k_LONGEST_NAME, c1', nm, c1]
theorem eq_nil {h : LH} (ys : List Str) (hy : PyData.canLayAll0 (ys.map .str) = true) : oEq h (.lst (ys.map .str)) (.lst []) = some (.bl ys.isEmpty) := by
  have g1 : ∀ (g : Nat → Option PyData) (ys : List Str), pyGs g (ys.map .str) = some (ys.map .str) := by
    intro g ys
    induction ys with
    | nil => rfl
    | cons y ys ih => simp [pyGs, pyG, ih]
  have d1 : ∀ ys : List Str, PyData.depthAll (ys.map .str) = 0 := by
    intro ys
    induction ys with
    | nil => rfl
    | cons y ys ih => simp [PyData.depthAll, PyData.depth, ih]
  have s1 : SeqAt.shaped (.list (ys.map .str)) = true := by
    unfold SeqAt.shaped
    simp [PyData.canLay0, PyData.depth, hy, d1]
  unfold oEq py
  simp only [pyG, g1, pyGs, Option.map_some, Option.bind_some]
  rw [s1, show SeqAt.shaped (.list []) = true from rfl, Bool.and_true, if_pos rfl]
  cases ys <;> simp [PyData.eqv, PyData.eqvAll]
theorem deemed_str {h : LH} {z : Str} (hz : z.length ≤ 100000) (hs : Sg1 (· < 1114112) z) : b__law_deemed [.str z] h = .ok (.bl (nm z)) h := by
  have e1 := len_ok (h := h) hz
  have e2 : lcS [1] (gNm 1) (mTest (mOp oLt (mMeth "str" gFind (mC (.str lts)) (aCons (mVar 1) aNil)) (mC (.int 0)))) (mVar 1) [some (.str z), none] 1000000 (fixS (DN.signs z)) 0 [] h =
      .ok (((tl z).filter fun c => !decide (c ∈ tl lts)).map fun c => .str ⟨#[c]⟩) h := by
    rw [lc_fix (sg_len hz), lcL_filter (fun d => match d with
      | .str x => !decide (x.cps.getD 0 0 ∈ tl lts)
      | _ => false) id h (DN.signs z) [] (sg_len2 hz)]
    · unfold DN.signs
      rw [List.map_id, List.nil_append, List.filter_map]
      rfl
    · intro d m
      simp only [DN.signs, List.mem_map] at m
      obtain ⟨c, _, rfl⟩ := m
      refine ⟨[some (.str z), some (.str ⟨#[c]⟩)], rfl, ?_, fun _ => rfl⟩
      simp only [mTest_ap, mOp_ap, mMeth_ap, mVar_ap, mC_ap, aCons_ap, aNil_ap, List.getElem?_cons_succ, List.getElem?_cons_zero, slotR_some, R.bind_ok]
      rw [if_pos (by rfl)]
      show toB (optR (some (.bl (decide (Txt.find lts ⟨#[c]⟩ < 0)))) h) = _
      rw [find_one]
      rfl
  have e5 : oEq h (.lst (((tl z).filter fun c => !decide (c ∈ tl lts)).map fun c => .str ⟨#[c]⟩)) (.lst []) = some (.bl ((tl z).all fun c => decide (c ∈ tl lts))) := by
    have e6 : (((tl z).filter fun c => !decide (c ∈ tl lts)).map fun c => D.str ⟨#[c]⟩) = (((tl z).filter fun c => !decide (c ∈ tl lts)).map fun c => (⟨#[c]⟩ : Str)).map .str := by rw [List.map_map]; rfl
    rw [e6, eq_nil]
    · congr 2
      rw [List.isEmpty_map]
      clear e6 e2 hs hz e1
      induction tl z with
      | nil => rfl
      | cons c l ih =>
        cases q : decide (c ∈ tl lts) <;> simp [q, List.filter_cons, ih]
    · have : ∀ l : List Nat, (∀ c ∈ l, c < 1114112) → PyData.canLayAll0 ((l.map fun c => (⟨#[c]⟩ : Str)).map .str) = true := by
        intro l
        induction l with
        | nil => intro _; rfl
        | cons c l ih =>
          intro hl
          rw [List.map_cons, List.map_cons]
          show (PyData.canLay0 (.str ⟨#[c]⟩) && _) = true
          rw [ih fun c m => hl c (by simp [m]), Bool.and_true]
          show PyData.strOk ⟨#[c]⟩ = true
          unfold PyData.strOk
          simp [hl c (by simp)]
      exact this _ fun c m => hs c (List.mem_filter.mp m |>.1)
  unfold b__law_deemed
  by_cases c1 : 1 ≤ z.length
  · have c1' : ¬ (z.length : Int) < 1 := by omega
    by_cases c2 : z.length ≤ 8
    · have c2' : ¬ (8 : Int) < z.length := by omega
      simp [isi_str (d := .str z) rfl, sT, e1, c1', c2', mLc_ap, e2, e5, nm, c1, c2, show small 0 = true from rfl]
    · have c2' : (8 : Int) < z.length := by omega
      simp [isi_str (d := .str z) rfl, sT, e1, c1', c2', nm, c1, c2]
  · have c1' : (z.length : Int) < 1 := by omega
    simp [isi_str (d := .str z) rfl, sT, e1, c1', nm, c1]
theorem Hd_mono {N M : Nat} {rest h : LH} (hd : Hd N rest h) (l : N ≤ M) : Hd M rest h := by
  obtain ⟨cs, t, n, e, h1, h2, h3, h4, h5⟩ := hd
  exact ⟨cs, t, n, e, h1, h2, h3, by omega, h5⟩
theorem letters_eq : tl lts = [97, 98, 99, 100, 101, 102, 103, 104, 105, 106, 107, 108, 109, 110, 111, 112, 113, 114, 115, 116, 117, 118, 119, 120, 121, 122] := by decide +kernel
theorem ix_letters {h : LH} {r : Int} (h0 : 0 ≤ r) (h1 : r < 26) : ∃ c, oIx h (.str lts) (.int r) = some (.str ⟨#[c]⟩) ∧ c < 1114112 := by
  have hl : (tl lts).length = 26 := by rw [letters_eq]; rfl
  obtain ⟨c, e, m⟩ := atI_in (l := tl lts) h0 (by rw [hl]; exact h1)
  refine ⟨c, ?_, ?_⟩
  · show (if small lts.length = true then (atI (tl lts) r).map fun c => D.str ⟨#[c]⟩ else none) = _
    rw [if_pos (by rfl), e]
    rfl
  · rw [letters_eq] at m
    have : ∀ c ∈ [97, 98, 99, 100, 101, 102, 103, 104, 105, 106, 107, 108, 109, 110, 111, 112, 113, 114, 115, 116, 117, 118, 119, 120, 121, 122], c < 1114112 := by decide
    exact this c m
theorem cut_str {h : LH} {z : Str} (hz : z.length ≤ 1000000) (lo hi : Option Int) : oCut h (.str z) lo hi = some (.str (cutS z lo hi)) := by
  unfold oCut
  simp only
  rw [if_pos (small_of hz)]
theorem text_of_ok {N : Nat} {h : LH} (hd : Hd N [] h) (hN : N < 900000) : ∃ z h', b__law_text_of dealtM (pickM dealtM) [.ref 1] h = .ok (.str z) h' ∧ z.length ≤ 100 ∧ Sg1 (· < 1114112) z ∧ Hd (N + 20) [] h' := by
  obtain ⟨r1, h1, e1, a1, b1, d1⟩ := dealt_ok (lots := 2) hd (by omega) (by omega) (by omega)
  obtain ⟨r2, h2, e2, a2, b2, d2⟩ := dealt_ok (lots := 10) d1 (by omega) (by omega) (by omega)
  obtain ⟨r3, h3, e3, a3, b3, d3⟩ := dealt_ok (lots := 9) d2 (by omega) (by omega) (by omega)
  obtain ⟨sg, h4, e4, m4, d4⟩ := pick_ok (l := [.str "A", .str "Z", .str "0", .str "9", .str " ", .str ".", .str ":", .str "'", .str "\n", .str "`", .str "{", .str "_", .str "-", .str "@", .str "[", .str "~", .str "!"]) d3 (by omega) (by simp) (by simp)
  obtain ⟨sg, rfl, ls, gs⟩ : ∃ z, sg = .str z ∧ z.length = 1 ∧ Sg1 (· < 1114112) z := by
    have : ∀ d ∈ ([.str "A", .str "Z", .str "0", .str "9", .str " ", .str ".", .str ":", .str "'", .str "\n", .str "`", .str "{", .str "_", .str "-", .str "@", .str "[", .str "~", .str "!"] : List D), ∃ z, d = .str z ∧ z.length = 1 ∧ (tl z).all (fun c => decide (c < 1114112)) = true := by
      intro d m
      simp only [List.mem_cons, List.not_mem_nil, or_false] at m
      rcases m with rfl | rfl | rfl | rfl | rfl | rfl | rfl | rfl | rfl | rfl | rfl | rfl | rfl | rfl | rfl | rfl | rfl <;> exact ⟨_, rfl, rfl, rfl⟩
    obtain ⟨z, e, l, g⟩ := this sg m4
    exact ⟨z, e, l, fun c m => of_decide_eq_true (List.all_eq_true.mp g c m)⟩
  have q1 : oEq h1 (.int r1) (.int 1) = some (.bl (r1 == 1)) := oEq_ii _ _
  generalize (r1 == 1) = odd at q1
  obtain ⟨l, h5, e5, l5, d5, p5⟩ := lcL_run (vs := [7]) (g := gNm 7) (t := bYes) (e := mOp oIx (mVar 1) (mFn 2 dealtM [] (aCons (mVar 0) (aCons (mC (.int 26)) aNil))))
    (s := [some (.ref 1), some (.str lts), some (.str sg), none, some (.bl odd), some (.int r2), some (.int r3), none]) (fun k h => Hd (N + 4 + k) [] h) (fun y => ∃ c, y = .str ⟨#[c]⟩ ∧ c < 1114112) 10
    (rngL 0 r2.toNat) [] 0 h4 d4 (by rw [rngL_len]; omega) (by rw [rngL_len]; have := sizeLine_ge; simp; omega) (fun d m k h hk i => by
      obtain ⟨r, h', e, a, b, d'⟩ := dealt_ok (lots := 26) i (by omega) (by omega) (by omega)
      obtain ⟨c, e', hc⟩ := ix_letters (h := h') a b
      refine ⟨[some (.ref 1), some (.str lts), some (.str sg), none, some (.bl odd), some (.int r2), some (.int r3), some d], .str ⟨#[c]⟩, h', rfl, rfl, ?_, d', c, rfl, hc⟩
      simp [e, e'])
  rw [rngL_len] at l5
  obtain ⟨z, e6, l6, g6⟩ := join_signs (h := h5) p5 (by rw [l5]; omega)
  have lz : z.length ≤ 9 := by rw [l6, l5]; omega
  have rg : inRng r2 = true := decide_eq_true (by omega)
  have f1 : lcS [7] (gNm 7) bYes (mOp oIx (mVar 1) (mFn 2 dealtM [] (aCons (mVar 0) (aCons (mC (.int 26)) aNil)))) [some (.ref 1), some (.str lts), some (.str sg), none, some (.bl odd), some (.int r2), some (.int r3), none] 1000000 (fixS (rngL 0 r2.toNat)) 0 [] h4 = .ok l h5 := by
    rw [lc_fix (by rw [rngL_len]; omega), e5]; rfl
  have d6 : Hd (N + 20) [] h5 := by
    rw [rngL_len] at d5
    exact Hd_mono d5 (by omega)
  have ej : (("" : Str)) = ⟨#[]⟩ := rfl
  have c1 := cut_str (h := h5) (z := z) (by omega) none (some r3)
  have c2 := cut_str (h := h5) (z := z) (by omega) (some (r3 + 1)) none
  have s1 : small ((cutS z none (some r3)).length + sg.length) = true := small_of (by have := len_cutS z none (some r3); omega)
  have s2 : small ((cutS z none (some r3) ++ sg).length + (cutS z (some (r3 + 1)) none).length) = true := small_of (by have := len_cutS z none (some r3); have := len_cutS z (some (r3 + 1)) none; rw [len_app]; omega)
  cases odd with
  | false =>
    refine ⟨z, h5, ?_, by omega, g6, d6⟩
    unfold b__law_text_of
    simp [e1, e2, e3, e4, q1, mLc_ap, rg, f1, ej, e6, show small 17 = true from rfl, tyD]
  | true =>
    refine ⟨cutS z none (some r3) ++ sg ++ cutS z (some (r3 + 1)) none, h5, ?_, ?_, (((g6.cut _ _).app gs).app (g6.cut _ _)), d6⟩
    · unfold b__law_text_of
      simp [e1, e2, e3, e4, q1, mLc_ap, rg, f1, ej, e6, show small 17 = true from rfl, tyD, c1, c2, s1, s2]
    · rw [len_app, len_app]
      have := len_cutS z none (some r3)
      have := len_cutS z (some (r3 + 1)) none
      omega
structure OkIt (it : D) : Prop where
  same : ∀ h, ∃ b, b_is_name [it] h = .ok (.bl b) h ∧ b__law_deemed [it] h = .ok (.bl b) h
  shw : ∃ n, Shw it n
theorem okIt_str {z : Str} (hz : z.length ≤ 5000) (hs : Sg1 (· < 1114112) z) : OkIt (.str z) := ⟨fun h => ⟨_, is_name_str (by omega), deemed_str (by omega) hs⟩, _, shw_str hs (by omega)⟩
theorem okIt_no {it : D} {T : String} (e : ∀ h, tyD h it = some T) (ht : subTy T "str" = false) (h : ∃ n, Shw it n) : OkIt it := ⟨fun h => ⟨_, is_name_no (e h) ht, deemed_no (e h) ht⟩, h⟩
theorem right_ok {it : D} (ok : OkIt it) (h : LH) : b__law_right b_is_name b__law_deemed [it] h = .ok (.bl true) h := by
  obtain ⟨b, e1, e2⟩ := ok.same h
  obtain ⟨n, t, _, e3⟩ := ok.shw
  have e4 : cRepr h [it] = some (.str t) := by
    show (showD h it).map D.str = _
    rw [e3]; rfl
  have e5 : oMul h (.lst [.bl b]) (.int 2) = some (.lst [.bl b, .bl b]) := by cases b <;> rfl
  have e6 : cRepr h [.lst [.bl b, .bl b]] = some (.str (listText (PyData.shownAll [.bool b, .bool b]))) := by cases b <;> rfl
  unfold b__law_right
  simp [e1, e2, e4, e5, e6, pick, show small 1 = true from rfl, show small 2 = true from rfl]
theorem foldl_app : ∀ (l : List (Array Nat)) (a : Array Nat), (l.foldl (· ++ ·) a).toList = a.toList ++ (l.map (·.toList)).flatten
  | [], a => by simp
  | x :: l, a => by
    rw [List.foldl_cons, foldl_app l]
    simp
theorem tl_rep {x : Str} {j : Int} (h : 2 ≤ j) (hx : x.length ≠ 0) : tl (sRep x j) = (List.replicate j.toNat (tl x)).flatten := by
  unfold sRep
  rw [if_neg (by omega), if_neg (by simp [hx]; omega)]
  show (List.foldl (fun (a b : Array Nat) => a ++ b) #[] (List.replicate j.toNat x.cps)).toList = _
  rw [foldl_app, List.map_replicate]
  rfl
theorem rep_sg {p : Nat → Prop} {x : Str} {j : Int} (h : 2 ≤ j) (hx : x.length ≠ 0) (hp : Sg1 p x) : Sg1 p (sRep x j) := fun c m => by
  rw [tl_rep h hx, List.mem_flatten] at m
  obtain ⟨l, m1, m2⟩ := m
  rw [List.eq_of_mem_replicate m1] at m2
  exact hp c m2
theorem rep_len {x : Str} {j : Int} (h : 2 ≤ j) (hx : x.length ≠ 0) : (sRep x j).length = j.toNat * x.length := by
  rw [len_tl, tl_rep h hx, len_tl]
  simp
theorem a4000 (h : LH) : oMul h (.str "a") (.int 4000) = some (.str (sRep "a" 4000)) := by
  rw [oMul_si, if_pos]
  have := rep_len (x := "a") (j := 4000) (by decide) (by decide)
  have l1 : ("a" : Str).length = 1 := rfl
  have := sizeLine_ge
  exact decide_eq_true ⟨by decide, by decide, by decide, by rw [l1]; show 1 * 4000 ≤ _; omega, by rw [rep_len (by decide) (by decide), l1]; show 4000 * 1 ≤ _; omega⟩
def itemsA : List D := [.str "row", .str "none", .str "yes", .str "main", .str "a", .str "abcdefgh", .str "abcdefghi", .str "", .non, .bl true, .bl false, .int 0, .int 1, .int (10 ^ 39)]
def itemsB : List D := [.tup [.str "a"], .lst [.str "a"], .dct [(.inr "a", .str "a")], .tup [], .lst [], .dct [], .tup [.str "deed", .str "a", .str "b"], .tup [.str "row", .tup [.str "a"]], .tup [.str "thing", .int 0], .str (sRep "a" 4000)]
theorem lit {z : Str} (h1 : z.length ≤ 5000) (h2 : (tl z).all (fun c => decide (c < 1114112)) = true) : OkIt (.str z) := okIt_str h1 fun c m => of_decide_eq_true (List.all_eq_true.mp h2 c m)
theorem nlit {it : D} {T : String} (p : PyData) (e : ∀ h, tyD h it = some T) (ht : subTy T "str" = false) (e2 : ∀ h, pyR h it = some p) (h1 : p.showable = true) (h2 : p.depth ≤ 600) (h3 : p.shown.length ≤ 1000) : OkIt it :=
  okIt_no e ht ⟨1000, shw_py e2 h1 h2 h3 (by decide)⟩
theorem okA : ∀ d ∈ itemsA, OkIt d := by
  intro d m
  simp only [itemsA, List.mem_cons, List.not_mem_nil, or_false] at m
  rcases m with rfl | rfl | rfl | rfl | rfl | rfl | rfl | rfl | rfl | rfl | rfl | rfl | rfl | rfl
  · exact lit (by decide +kernel) (by decide +kernel)
  · exact lit (by decide +kernel) (by decide +kernel)
  · exact lit (by decide +kernel) (by decide +kernel)
  · exact lit (by decide +kernel) (by decide +kernel)
  · exact lit (by decide +kernel) (by decide +kernel)
  · exact lit (by decide +kernel) (by decide +kernel)
  · exact lit (by decide +kernel) (by decide +kernel)
  · exact lit (by decide +kernel) (by decide +kernel)
  · exact nlit .none (fun _ => rfl) rfl (fun _ => rfl) (by decide +kernel) (by decide +kernel) (by decide +kernel)
  · exact nlit (.bool true) (fun _ => rfl) rfl (fun _ => rfl) (by decide +kernel) (by decide +kernel) (by decide +kernel)
  · exact nlit (.bool false) (fun _ => rfl) rfl (fun _ => rfl) (by decide +kernel) (by decide +kernel) (by decide +kernel)
  · exact nlit (.int 0) (fun _ => rfl) rfl (fun _ => rfl) (by decide +kernel) (by decide +kernel) (by decide +kernel)
  · exact nlit (.int 1) (fun _ => rfl) rfl (fun _ => rfl) (by decide +kernel) (by decide +kernel) (by decide +kernel)
  · exact nlit (.int (10 ^ 39)) (fun _ => rfl) rfl (fun _ => rfl) (by decide +kernel) (by decide +kernel) (by decide +kernel)
theorem okB : ∀ d ∈ itemsB, OkIt d := by
  intro d m
  simp only [itemsB, List.mem_cons, List.not_mem_nil, or_false] at m
  rcases m with rfl | rfl | rfl | rfl | rfl | rfl | rfl | rfl | rfl | rfl
  · exact nlit (.tuple [.str "a"]) (fun _ => rfl) rfl (fun _ => rfl) (by decide +kernel) (by decide +kernel) (by decide +kernel)
  · exact nlit (.list [.str "a"]) (fun _ => rfl) rfl (fun _ => rfl) (by decide +kernel) (by decide +kernel) (by decide +kernel)
  · exact nlit (.dict [(.str "a", .str "a")]) (fun _ => rfl) rfl (fun _ => rfl) (by decide +kernel) (by decide +kernel) (by decide +kernel)
  · exact nlit (.tuple []) (fun _ => rfl) rfl (fun _ => rfl) (by decide +kernel) (by decide +kernel) (by decide +kernel)
  · exact nlit (.list []) (fun _ => rfl) rfl (fun _ => rfl) (by decide +kernel) (by decide +kernel) (by decide +kernel)
  · exact nlit (.dict []) (fun _ => rfl) rfl (fun _ => rfl) (by decide +kernel) (by decide +kernel) (by decide +kernel)
  · exact nlit (.tuple [.str "deed", .str "a", .str "b"]) (fun _ => rfl) rfl (fun _ => rfl) (by decide +kernel) (by decide +kernel) (by decide +kernel)
  · exact nlit (.tuple [.str "row", .tuple [.str "a"]]) (fun _ => rfl) rfl (fun _ => rfl) (by decide +kernel) (by decide +kernel) (by decide +kernel)
  · exact nlit (.tuple [.str "thing", .int 0]) (fun _ => rfl) rfl (fun _ => rfl) (by decide +kernel) (by decide +kernel) (by decide +kernel)
  · exact okIt_str (by rw [rep_len (by decide) (by decide)]; decide) (rep_sg (by decide) (by decide) fun c m => by
      have : c = 97 := by simpa [show tl ("a" : Str) = [97] from rfl] using m
      omega)
theorem law_ok {ns : List Int} (hl : ns.length ≤ 63) : ∃ h', b_law begunM (b__law_text_of dealtM (pickM dealtM)) (b__law_right b_is_name b__law_deemed) [.kst (ns.map .int)] [] = .ok (.bl true) h' := by
  obtain ⟨h1, e1, d1⟩ := begun_ok hl
  obtain ⟨l, h2, e2, l2, d2, p2⟩ := lcL_run (vs := [3]) (g := gNm 3) (t := bYes) (e := mFn 1 (b__law_text_of dealtM (pickM dealtM)) [] (aCons (mVar 1) aNil))
    (s := [some (.kst (ns.map .int)), some (.ref 1), none, none, none]) (fun k h => Hd (20 * k) [] h) OkIt 40
    (rngL 0 40) [] 0 h1 d1 (by rw [rngL_len]; omega) (by rw [rngL_len]; have := sizeLine_ge; simp; omega) (fun d m k h hk i => by
      obtain ⟨z, h', e, lz, gz, d'⟩ := text_of_ok i (by omega)
      refine ⟨[some (.kst (ns.map .int)), some (.ref 1), none, some d, none], .str z, h', rfl, rfl, ?_, d', okIt_str (by omega) gz⟩
      simp [e])
  rw [rngL_len] at l2
  have f2 : lcS [3] (gNm 3) bYes (mFn 1 (b__law_text_of dealtM (pickM dealtM)) [] (aCons (mVar 1) aNil)) [some (.kst (ns.map .int)), some (.ref 1), none, none, none] 1000000 (fixS (rngL 0 40)) 0 [] h1 = .ok l h2 := by
    rw [lc_fix (by rw [rngL_len]; omega), e2]; rfl
  refine ⟨h2, ?_⟩
  have g1 : oAdd h2 (.lst l) (.lst itemsA) = some (.lst (l ++ itemsA)) := by rw [oAdd_ll, if_pos (small_of (by rw [l2]; decide))]
  have g2 : oAdd h2 (.lst (l ++ itemsA)) (.lst itemsB) = some (.lst (l ++ itemsA ++ itemsB)) := by rw [oAdd_ll, if_pos (small_of (by rw [List.length_append, l2]; decide))]
  generalize em : l ++ itemsA ++ itemsB = ms at g2
  have lm : ms.length = 64 := by rw [← em, List.length_append, List.length_append, l2]; rfl
  have om : ∀ d ∈ ms, OkIt d := by
    intro d m
    rw [← em, List.mem_append, List.mem_append] at m
    rcases m with (m | m) | m
    · exact p2 d m
    · exact okA d m
    · exact okB d m
  have g3 : oAdd h2 (.lst ms) (.lst ms.reverse) = some (.lst (ms ++ ms.reverse)) := by rw [oAdd_ll, if_pos (small_of (by rw [List.length_reverse, lm]; decide))]
  have g4 : lcS [4] (gNm 4) (mNotT (mTest (mFn 1 (b__law_right b_is_name b__law_deemed) [] (aCons (mVar 4) aNil)))) (mVar 4) [some (.kst (ns.map .int)), some (.ref 1), some (.lst ms), none, none] 1000000 (fixS (ms ++ ms.reverse)) 0 [] h2 = .ok [] h2 := by
    rw [lc_fix (by rw [List.length_append, List.length_reverse, lm]; omega), lcL_filter (fun _ => false) id h2 _ [] (by rw [List.length_append, List.length_reverse, lm]; decide)]
    · simp
    · intro d m
      have ok : OkIt d := by
        rw [List.mem_append, List.mem_reverse] at m
        exact om d (m.elim id id)
      refine ⟨[some (.kst (ns.map .int)), some (.ref 1), some (.lst ms), none, some d], rfl, ?_, fun z => by cases z⟩
      simp [right_ok ok]
  have g5 : oEq h2 (.lst []) (.lst []) = some (.bl true) := rfl
  have s3 : seqL h2 (.lst ms) = some ms := rfl
  have kA : (aCons (mC (.str "row")) (aCons (mC (.str "none")) (aCons (mC (.str "yes")) (aCons (mC (.str "main")) (aCons (mC (.str "a")) (aCons (mC (.str "abcdefgh")) (aCons (mC (.str "abcdefghi")) (aCons (mC (.str "")) (aCons (mC .non) (aCons (mC (.bl true)) (aCons (mC (.bl false)) (aCons (mC (.int 0)) (aCons (mC (.int 1)) (aCons (mOp oPow (mC (.int 10)) (mC (.int 39))) aNil)))))))))))))) = fun s h => .ok itemsA h := by
    funext s h
    rfl
  have kB : (aCons (mTup (aCons (mC (.str "a")) aNil)) (aCons (mLst (aCons (mC (.str "a")) aNil)) (aCons (mDct (dCons (mC (.str "a")) (mC (.str "a")) dNil)) (aCons (mTup aNil) (aCons (mLst aNil) (aCons mDNew (aCons (mTup (aCons (mC (.str "deed")) (aCons (mC (.str "a")) (aCons (mC (.str "b")) aNil)))) (aCons (mTup (aCons (mC (.str "row")) (aCons (mTup (aCons (mC (.str "a")) aNil)) aNil))) (aCons (mTup (aCons (mC (.str "thing")) (aCons (mC (.int 0)) aNil))) (aCons (mOp oMul (mC (.str "a")) (mC (.int 4000))) aNil)))))))))) = fun s h => .ok itemsB h := by
    funext s h
    simp [itemsB, a4000, show small 0 = true from rfl, show small 1 = true from rfl, show small 2 = true from rfl, show small 3 = true from rfl]
  have iA : small itemsA.length = true := rfl
  have iB : small itemsB.length = true := rfl
  have rg : inRng 40 = true := by decide
  unfold b_law
  simp only [kA, kB]
  simp [e1, mLc_ap, rg, f2, iA, iB, g1, em, g2, s3, g3, g4, g5, show small 0 = true from rfl]
end Wk01
namespace Wk01
open PySem PySem.Spec PyProof.Rows L2 DN
theorem whole {P : Program} {w : World} {K : PySem.W.Frag} {mg : Str → Option Value} (T : Tops K mg) (base : Heap) :
    CalP P w K mg base 5 "law" s_law ["script"] (b_law begunM (b__law_text_of dealtM (pickM dealtM)) (b__law_right b_is_name b__law_deemed)) :=
  have cd := ok__law_dealt (P := P) (w := w) (base := base) (k := 0) T
  have cp := ok__law_pick (k := 1) cd T
  have ct := ok__law_text_of (k := 2) (cd.mono (by decide)) cp T
  have ci := ok_is_name (P := P) (w := w) (base := base) (k := 0) T
  have ce := ok__law_deemed (P := P) (w := w) (base := base) (k := 0) T
  have cr := ok__law_right (k := 1) ci ce T
  have cb := ok__law_begun (P := P) (w := w) (base := base) (k := 0) T
  ok_law (k := 4) (cb.mono (by decide)) (ct.mono (by decide)) (cr.mono (by decide)) T
end Wk01
open PySem PySem.W PyProof.Rows
theorem PySem.Challenge.cw_everyway_k01_names_of_anything_holds : PySem.Challenge.rw_everyway_k01_names_of_anything.Holds := by
  w_on; o_law; k_head; (case hw => w_witness2)
  k_fill
  refine DN.walk_g (l := PySem.Challenge.rw_everyway_k01_names_of_anything) (n := 63) (k := 5) (x := "script") (m := Wk01.b_law DN.begunM (Wk01.b__law_text_of DN.dealtM (DN.pickM DN.dealtM)) (Wk01.b__law_right Wk01.b_is_name Wk01.b__law_deemed)) rfl (by decide) rfl ⟨⟨rfl, by decide, by decide⟩, rfl, by decide⟩ (fun w h Y => PySem.W.kIn_of Y) ?F (fun ns hl => Wk01.law_ok hl)
  case F =>
    intro w mg fa h KX G hmg
    refine' DN.law_of (st := Wk01.s_law) (DN.defAt_mk KX G ?e0 ?e1 ?e2 ?e3) hmg (fun _ _ _ _ _ _ _ => rfl) (fun base => Wk01.whole ⟨DN.defAt_mk KX G ?a0 ?l0 ?c0 ?k0, DN.defAt_mk KX G ?a1 ?l1 ?c1 ?k1, DN.defAt_mk KX G ?a2 ?l2 ?c2 ?k2, DN.defAt_mk KX G ?a3 ?l3 ?c3 ?k3, DN.defAt_mk KX G ?a4 ?l4 ?c4 ?k4, DN.defAt_mk KX G ?a5 ?l5 ?c5 ?k5, DN.defAt_mk KX G ?a6 ?l6 ?c6 ?k6, DN.defAt_mk KX G ?a7 ?l7 ?c7 ?k7, PySem.W.mg_none_of KX G ?z_all, PySem.W.mg_none_of KX G ?z_isinstance, PySem.W.mg_none_of KX G ?z_len, PySem.W.mg_none_of KX G ?z_list, PySem.W.mg_none_of KX G ?z_range, PySem.W.mg_none_of KX G ?z_repr, PySem.W.mg_none_of KX G ?z_str, ⟨_, PySem.W.mg_of KX G ?y_LETTERS, ?v_LETTERS⟩, ⟨_, PySem.W.mg_of KX G ?y_LONGEST_NAME, ?v_LONGEST_NAME⟩⟩ base)
    (case e0 => k_is); (case e1 => k_is); (case e2 => k_is); (case e3 => k_is)
    (case a0 => k_is); (case l0 => k_is); (case c0 => k_is); (case k0 => k_is); (case a1 => k_is); (case l1 => k_is); (case c1 => k_is); (case k1 => k_is); (case a2 => k_is); (case l2 => k_is); (case c2 => k_is); (case k2 => k_is); (case a3 => k_is); (case l3 => k_is); (case c3 => k_is); (case k3 => k_is); (case a4 => k_is); (case l4 => k_is); (case c4 => k_is); (case k4 => k_is); (case a5 => k_is); (case l5 => k_is); (case c5 => k_is); (case k5 => k_is); (case a6 => k_is); (case l6 => k_is); (case c6 => k_is); (case k6 => k_is); (case a7 => k_is); (case l7 => k_is); (case c7 => k_is); (case k7 => k_is); (case z_all => k_is); (case z_isinstance => k_is); (case z_len => k_is); (case z_list => k_is); (case z_range => k_is); (case z_repr => k_is); (case z_str => k_is); (case y_LETTERS => k_is); (case v_LETTERS => exact ⟨_, rfl⟩); (case y_LONGEST_NAME => k_is); (case v_LONGEST_NAME => exact ⟨_, rfl⟩)
