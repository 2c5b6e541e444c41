import PyProof.Rows.All
import Wide.All
import OpenK.AllK
import Wide.FinOn
import HandS.ForMost
import HandS.ForExc
import HandS.IsInst
import HandS.Wide
import HandS.TupAny
import HandS.TupMul
import HandS.Deep
import HandS.Style
import HandS.Dict
import PyProof.ReprRoads
import HandS.Text
import HandS.Iter
import HandS.Comp
import HandS.Zip
import HandS.Ends
import HandS.Exc
import HandS.WordsExc
import HandS.SortKw
import PyProof.MinMaxWalk
import PyProof.WalkInts
import HandS.FStr
import HandS.StrMore
import KE.GoesEnumKw
import HandS.Codes
import PyProof.ReprLen
import PyProof.FitsInt
import PyProof.Rows.ReprOcc
import PySem.Challenge.RW_everyway_k03_alike_by_sort
set_option Elab.async false
set_option linter.all false
set_option maxRecDepth 100000
namespace DN
open PySem L2

/-! ### data: what a value is, seen without addresses -/
inductive D where
  | non | bl (b : Bool) | int (i : Int) | str (s : Str)
  | tup (l : List D) | lst (l : List D) | kst (l : List D) | dct (l : List (Key × D))
  | ref (n : Nat) | st (v : V)

inductive LO where
  | lst (l : List D) | dct (l : List (Key × D))
abbrev LH := List LO
structure EX where
  cls : Value
  fs : Option (List (Str × D))
inductive R (α : Type) where
  | ok (a : α) (h : LH) | ex (x : EX) (h : LH) | no

abbrev Sg := List (Option D)
abbrev EM := Sg → LH → R D
abbrev BM := Sg → LH → R Bool
abbrev AM := Sg → LH → R (List D)

/-- what is known of addresses: what is frozen for ever; where the changing objects stand -/
structure Wd where
  fz : Addr → HO → Prop
  at_ : List Addr
  rs : Addr → HO → Prop
def Wd.le (w w' : Wd) : Prop := (∀ a o, w.fz a o → w'.fz a o) ∧ w.at_ <+: w'.at_ ∧ ∀ a o, w.rs a o → w'.rs a o
theorem Wd.le.refl (w : Wd) : w.le w := ⟨fun _ _ h => h, List.prefix_refl _, fun _ _ h => h⟩
theorem Wd.le.trans {a b c : Wd} (h : a.le b) (k : b.le c) : a.le c := ⟨fun x o z => k.1 x o (h.1 x o z), h.2.1.trans k.2.1, fun x o z => k.2.2 x o (h.2.2 x o z)⟩

section
variable (K : PySem.W.Frag)
def StL (a : Addr) (xs : List V) : Prop := ∃ (o : Obj) (its : Array Value) (n : Nat), K.lookup a = some o ∧ o.cls = .type "list" ∧ o.dict = none ∧ o.data = .seq its n ∧ its.size ≤ sizeLine ∧ Vals xs its.toList
def StT (a : Addr) (xs : List V) : Prop := ∃ (o : Obj) (its : Array Value) (n : Nat), K.lookup a = some o ∧ o.cls = .type "tuple" ∧ o.data = .seq its n ∧ its.size ≤ sizeLine ∧ Vals xs its.toList

mutual
inductive RV (w : Wd) : V → D → Prop where
  | non : RV w .non .non
  | bl (b : Bool) : RV w (.bl b) (.bl b)
  | int (i : Int) : RV w (.int i) (.int i)
  | str (s : Str) : RV w (.str s) (.str s)
  | tup {a : Addr} {vs : List V} {ds : List D} (h : w.fz a (.tup vs) ∨ StT K a vs) (r : RVs w vs ds) : RV w (.ref a) (.tup ds)
  | lst {a : Addr} {vs : List V} {ds : List D} (h : w.fz a (.lst vs)) (r : RVs w vs ds) : RV w (.ref a) (.lst ds)
  | kst {a : Addr} {vs : List V} {ds : List D} (h : (∃ o, w.fz a (.frz o (.lst vs))) ∨ StL K a vs) (r : RVs w vs ds) : RV w (.ref a) (.kst ds)
  | dct {a : Addr} {vs : List (Key × V)} {ds : List (Key × D)} (h : w.fz a (.dK vs)) (r : RKs w vs ds) : RV w (.ref a) (.dct ds)
  | ref {a : Addr} {n : Nat} (h : w.at_[n]? = some a) : RV w (.ref a) (.ref n)
  | st (v : V) : RV w v (.st v)
inductive RVs (w : Wd) : List V → List D → Prop where
  | nil : RVs w [] []
  | cons {v : V} {vs : List V} {d : D} {ds : List D} (h : RV w v d) (r : RVs w vs ds) : RVs w (v :: vs) (d :: ds)
inductive RKs (w : Wd) : List (Key × V) → List (Key × D) → Prop where
  | nil : RKs w [] []
  | cons {k : Key} {v : V} {vs : List (Key × V)} {d : D} {ds : List (Key × D)} (h : RV w v d) (r : RKs w vs ds) : RKs w ((k, v) :: vs) ((k, d) :: ds)
end
variable {K} {w w' : Wd}
mutual
theorem RV.mono (l : w.le w') : ∀ {v : V} {d : D}, RV K w v d → RV K w' v d
  | _, _, .non => .non
  | _, _, .bl b => .bl b
  | _, _, .int b => .int b
  | _, _, .str b => .str b
  | _, _, .tup h r => .tup (h.imp (l.1 _ _) id) (RVs.mono l r)
  | _, _, .lst h r => .lst (l.1 _ _ h) (RVs.mono l r)
  | _, _, .kst h r => .kst (h.imp (fun ⟨o, z⟩ => ⟨o, l.1 _ _ z⟩) id) (RVs.mono l r)
  | _, _, .dct h r => .dct (l.1 _ _ h) (RKs.mono l r)
  | _, _, .ref h => .ref (by
      obtain ⟨t, e⟩ := l.2.1
      rw [← e, List.getElem?_append_left (List.getElem?_eq_some_iff.mp h).1]; exact h)
  | _, _, .st v => .st v
theorem RVs.mono (l : w.le w') : ∀ {v : List V} {d : List D}, RVs K w v d → RVs K w' v d
  | _, _, .nil => .nil
  | _, _, .cons h r => .cons (RV.mono l h) (RVs.mono l r)
theorem RKs.mono (l : w.le w') : ∀ {v : List (Key × V)} {d : List (Key × D)}, RKs K w v d → RKs K w' v d
  | _, _, .nil => .nil
  | _, _, .cons h r => .cons (RV.mono l h) (RKs.mono l r)
end
theorem RVs.length : ∀ {v : List V} {d : List D}, RVs K w v d → v.length = d.length
  | _, _, .nil => rfl
  | _, _, .cons h r => by simp [RVs.length r]
theorem RVs.append : ∀ {v v' : List V} {d d' : List D}, RVs K w v d → RVs K w v' d' → RVs K w (v ++ v') (d ++ d')
  | _, _, _, _, .nil, s => s
  | _, _, _, _, .cons h r, s => .cons h (RVs.append r s)
theorem RVs.get : ∀ {v : List V} {d : List D} {i : Nat} {x : D}, RVs K w v d → d[i]? = some x → ∃ y, v[i]? = some y ∧ RV K w y x
  | _, _, _, _, .nil, e => by simp at e
  | _, _, 0, _, .cons h r, e => by simp at e; subst e; exact ⟨_, rfl, h⟩
  | _, _, i + 1, _, .cons h r, e => by
    obtain ⟨y, a, b⟩ := RVs.get (i := i) r (by simpa using e)
    exact ⟨y, by simpa using a, b⟩
theorem RVs.get' : ∀ {v : List V} {d : List D} {i : Nat} {y : V}, RVs K w v d → v[i]? = some y → ∃ x, d[i]? = some x ∧ RV K w y x
  | _, _, _, _, .nil, e => by simp at e
  | _, _, 0, _, .cons h r, e => by simp at e; subst e; exact ⟨_, rfl, h⟩
  | _, _, i + 1, _, .cons h r, e => by
    obtain ⟨y, a, b⟩ := RVs.get' (i := i) r (by simpa using e)
    exact ⟨y, by simpa using a, b⟩
theorem RVs.take : ∀ {v : List V} {d : List D} (n : Nat), RVs K w v d → RVs K w (v.take n) (d.take n)
  | _, _, 0, _ => .nil
  | _, _, _ + 1, .nil => .nil
  | _, _, n + 1, .cons r t => .cons r (RVs.take n t)
theorem RVs.drop : ∀ {v : List V} {d : List D} (n : Nat), RVs K w v d → RVs K w (v.drop n) (d.drop n)
  | _, _, 0, r => r
  | _, _, _ + 1, .nil => .nil
  | _, _, n + 1, .cons _ t => RVs.drop n t
theorem RVs.set {y : V} {x : D} (r : RV K w y x) : ∀ {v : List V} {d : List D} (i : Nat), RVs K w v d → RVs K w (v.set i y) (d.set i x)
  | _, _, _, .nil => .nil
  | _, _, 0, .cons _ t => .cons r t
  | _, _, i + 1, .cons q t => .cons q (RVs.set r i t)
theorem RVs.reverse : ∀ {v : List V} {d : List D}, RVs K w v d → RVs K w v.reverse d.reverse
  | _, _, .nil => .nil
  | _, _, .cons h r => by
    rw [List.reverse_cons, List.reverse_cons]
    exact (RVs.reverse r).append (.cons h .nil)
/-! ### the state -/
inductive RO (w : Wd) : HO → LO → Prop where
  | lst {vs : List V} {ds : List D} (r : RVs K w vs ds) : RO w (.lst vs) (.lst ds)
  | dct {vs : List (Key × V)} {ds : List (Key × D)} (r : RKs K w vs ds) : RO w (.dK vs) (.dct ds)
theorem RO.mono (l : w.le w') {o : HO} {p : LO} (r : RO (K := K) w o p) : RO (K := K) w' o p := by
  cases r with
  | lst r => exact .lst (r.mono l)
  | dct r => exact .dct (r.mono l)
variable (K)
structure HW (w : Wd) (H : Hp) (h : LH) : Prop where
  fz : ∀ a o, w.fz a o → H a = some o
  len : w.at_.length = h.length
  ats : ∀ (n : Nat) (a : Addr) (p : LO), w.at_[n]? = some a → h[n]? = some p → ∃ o, H a = some o ∧ RO (K := K) w o p
  nd : w.at_.Nodup
  sep : ∀ a o, a ∈ w.at_ → ¬ w.fz a o
  rs : ∀ a o, w.rs a o → H a = some o ∧ a ∉ w.at_ ∧ ∀ u, ¬ w.fz a u
  /-- where the table of modules stands, no list of ours stands -/
  sm : ∃ o u, w.fz sysModules (.frz o u)
def RS (w : Wd) (σ : St) (s : Sg) : Prop := σ.length = s.length ∧ ∀ (i : Nat) (d : D), s[i]? = some (some d) → ∃ v, σ[i]? = some (some v) ∧ RV K w v d
variable {K}
theorem RS.mono (l : w.le w') {σ : St} {s : Sg} (r : RS K w σ s) : RS K w' σ s := ⟨r.1, fun i d e =>
  let ⟨v, h1, h2⟩ := r.2 i d e
  ⟨v, h1, h2.mono l⟩⟩
theorem RS.set {σ : St} {s : Sg} (r : RS K w σ s) {i : Nat} {v : V} {d : D} (q : RV K w v d) : RS K w (σ.set i (some v)) (s.set i (some d)) := ⟨by simp [r.1], fun j x e => by
  by_cases hj : i = j
  · subst hj
    have hl : i < s.length := by
      have := (List.getElem?_eq_some_iff.mp e).1
      simpa using this
    rw [List.getElem?_set_self hl] at e
    cases e
    exact ⟨v, by rw [List.getElem?_set_self (by rw [r.1]; exact hl)], q⟩
  · rw [List.getElem?_set_ne hj] at e
    rw [List.getElem?_set_ne hj]
    exact r.2 j x e⟩
end

/-! ### what a piece of syntax means: readings out of results -/
section
variable (K : PySem.W.Frag)
/-- an exception at hand -/
inductive RX (w : Wd) (H : Hp) : Value → Option Addr → EX → Prop where
  | bare (c : Value) : RX w H c none ⟨c, none⟩
  | own (c : Value) {a : Addr} {vs : List (Str × V)} {ds : List (Str × D)} (h : H a = some (.xd vs)) (hf : ∀ f d, ds.lookup f = some d → ∃ v, vs.lookup f = some v ∧ RV K w v d) : RX w H c (some a) ⟨c, some ds⟩
def Pv (w : Wd) (Q : VK) (d : D) (h : LH) : Prop := ∀ w' v H', w.le w' → RV K w' v d → HW K w' H' h → Q v H'
def Px (w : Wd) (W : XK) (x : EX) (h : LH) : Prop := ∀ w' c dd H', w.le w' → RX K w' H' c dd x → HW K w' H' h → W c dd H'
def WpE (w : Wd) (Q : VK) (W : XK) : R D → Prop
  | .ok d h => Pv K w Q d h
  | .ex x h => Px K w W x h
  | .no => False
def WpB (w : Wd) (Q : Bool → Hp → Prop) (W : XK) : R Bool → Prop
  | .ok d h => ∀ w' H', w.le w' → HW K w' H' h → Q d H'
  | .ex x h => Px K w W x h
  | .no => False
def WpA (w : Wd) (Q : List V → Hp → Prop) (W : XK) : R (List D) → Prop
  | .ok d h => ∀ w' v H', w.le w' → RVs K w' v d → HW K w' H' h → Q v H'
  | .ex x h => Px K w W x h
  | .no => False
def TE_ (W : WX) (m : EM) : TE := fun σ H Q => ∃ w s h, RS K w σ s ∧ HW K w H h ∧ WpE K w Q (fun c d H => W c d σ H) (m s h)
def TB_ (W : WX) (m : BM) : TT := fun σ H Q => ∃ w s h, RS K w σ s ∧ HW K w H h ∧ WpB K w Q (fun c d H => W c d σ H) (m s h)
def TA_ (W : WX) (m : AM) : TA := fun σ H Q => ∃ w s h, RS K w σ s ∧ HW K w H h ∧ WpA K w Q (fun c d H => W c d σ H) (m s h)
end

/-- an expression means m -/
def DE (X : Cx) (W : WX) (e : Expr) (m : EM) : Prop := PE X e (TE_ X.K W m)
def DT (X : Cx) (W : WX) (e : Expr) (m : BM) : Prop := PT X e (TB_ X.K W m)
def DW (X : Cx) (W : WX) (e : Expr) (m : BM) : Prop := PW X e (TB_ X.K W m)
def DA (X : Cx) (W : WX) (es : List Expr) (m : AM) : Prop := PA X es (TA_ X.K W m)

theorem PE.imp {X : Cx} {e : Expr} {t t' : TE} (h : PE X e t) (k : ∀ σ H Q, t' σ H Q → t σ H Q) : PE X e t' := ⟨fun pins s σ H Q I q => h.run pins s σ H Q I (k σ H Q q)⟩
theorem PT.imp {X : Cx} {e : Expr} {t t' : TT} (h : PT X e t) (k : ∀ σ H Q, t' σ H Q → t σ H Q) : PT X e t' := ⟨fun pins s σ H Q I q => h.run pins s σ H Q I (k σ H Q q)⟩
theorem PW.imp {X : Cx} {e : Expr} {t t' : TT} (h : PW X e t) (k : ∀ σ H Q, t' σ H Q → t σ H Q) : PW X e t' := ⟨fun wh pins s σ H Q I q => h.run wh pins s σ H Q I (k σ H Q q)⟩
theorem PA.imp {X : Cx} {e : List Expr} {t t' : TA} (h : PA X e t) (k : ∀ σ H Q, t' σ H Q → t σ H Q) : PA X e t' := ⟨fun pos pins s σ H Q I q => h.run pos pins s σ H Q I (k σ H Q q)⟩

/-! ### results in a row -/
@[inline] def R.bind {α β : Type} (r : R α) (f : α → LH → R β) : R β := match r with
  | .ok a h => f a h
  | .ex x h => .ex x h
  | .no => .no
@[simp] theorem R.bind_ok {α β : Type} (a : α) (h : LH) (f : α → LH → R β) : (R.ok a h).bind f = f a h := rfl
@[simp] theorem R.bind_ex {α β : Type} (x : EX) (h : LH) (f : α → LH → R β) : (R.ex x h).bind f = .ex x h := rfl
@[simp] theorem R.bind_no {α β : Type} (f : α → LH → R β) : (R.no : R α).bind f = .no := rfl

section
variable {K : PySem.W.Frag} {w w' : Wd}
theorem Px.mono {W : XK} {x : EX} {h : LH}  (l : w.le w') (p : Px K w W x h) : Px K w' W x h := fun v c d H k r q => p v c d H (l.trans k) r q
theorem WpE.mono {Q : VK} {W : XK} {r : R D} (l : w.le w') (p : WpE K w Q W r) : WpE K w' Q W r := by
  cases r with
  | ok d h => exact fun v c H k r q => p v c H (l.trans k) r q
  | ex x h => exact Px.mono l p
  | no => exact p
theorem WpB.mono {Q : Bool → Hp → Prop} {W : XK} {r : R Bool} (l : w.le w') (p : WpB K w Q W r) : WpB K w' Q W r := by
  cases r with
  | ok d h => exact fun v H k q => p v H (l.trans k) q
  | ex x h => exact Px.mono l p
  | no => exact p
theorem WpA.mono {Q : List V → Hp → Prop} {W : XK} {r : R (List D)} (l : w.le w') (p : WpA K w Q W r) : WpA K w' Q W r := by
  cases r with
  | ok d h => exact fun v c H k r q => p v c H (l.trans k) r q
  | ex x h => exact Px.mono l p
  | no => exact p
/-- first one, then the other -/
theorem WpE.bind {α : Type} {Q : VK} {W : XK} {r : R D} {f : D → LH → R α} {G : R α → Prop}
    (h : G (r.bind f)) (hx : ∀ x h, G (.ex x h) → Px K w W x h) (hn : ¬ G .no)
    (k : ∀ d h1 w1 v H1, w.le w1 → RV K w1 v d → HW K w1 H1 h1 → G (f d h1) → Q v H1) : WpE K w Q W r := by
  cases r with
  | ok d h1 => exact fun w1 v H1 l rv hw => k d h1 w1 v H1 l rv hw h
  | ex x h1 => exact hx x h1 h
  | no => exact (hn h).elim
theorem WpB.bind {α : Type} {Q : Bool → Hp → Prop} {W : XK} {r : R Bool} {f : Bool → LH → R α} {G : R α → Prop}
    (h : G (r.bind f)) (hx : ∀ x h, G (.ex x h) → Px K w W x h) (hn : ¬ G .no)
    (k : ∀ d h1 w1 H1, w.le w1 → HW K w1 H1 h1 → G (f d h1) → Q d H1) : WpB K w Q W r := by
  cases r with
  | ok d h1 => exact fun w1 H1 l hw => k d h1 w1 H1 l hw h
  | ex x h1 => exact hx x h1 h
  | no => exact (hn h).elim
theorem WpA.bind {α : Type} {Q : List V → Hp → Prop} {W : XK} {r : R (List D)} {f : List D → LH → R α} {G : R α → Prop}
    (h : G (r.bind f)) (hx : ∀ x h, G (.ex x h) → Px K w W x h) (hn : ¬ G .no)
    (k : ∀ d h1 w1 v H1, w.le w1 → RVs K w1 v d → HW K w1 H1 h1 → G (f d h1) → Q v H1) : WpA K w Q W r := by
  cases r with
  | ok d h1 => exact fun w1 v H1 l rv hw => k d h1 w1 v H1 l rv hw h
  | ex x h1 => exact hx x h1 h
  | no => exact (hn h).elim
end

/-! ### names, constants -/
section
variable {X : Cx} {W : WX}
def mVar (i : Nat) : EM := fun s h => match s[i]? with
  | some (some d) => .ok d h
  | _ => .no
def mC (d : D) : EM := fun _ h => .ok d h
theorem d_var {i : Nat} {e : Expr} (h : PE X e (tVar i)) : DE X W e (mVar i) := PE.imp h fun σ H Q ⟨w, s, h, rs, hw, q⟩ => by
  unfold mVar at q
  split at q
  · rename_i d e
    obtain ⟨v, h1, h2⟩ := rs.2 i d e
    exact ⟨v, h1, q w v H (.refl w) h2 hw⟩
  · exact q.elim
theorem d_c {d : D} {v : V} {e : Expr} (h : PE X e (tC v)) (r : ∀ K w, RV K w v d) : DE X W e (mC d) := PE.imp h fun σ H Q ⟨w, s, h, rs, hw, q⟩ => q w v H (.refl w) (r _ _) hw
theorem d_int {i j pos} : DE X W (.Constant (.int i) j pos) (mC (.int i)) := d_c pe_int fun _ _ => .int i
theorem d_bl {b j pos} : DE X W (.Constant (.bool b) j pos) (mC (.bl b)) := d_c pe_bl fun _ _ => .bl b
theorem d_non {j pos} : DE X W (.Constant .none j pos) (mC .non) := d_c pe_non fun _ _ => .non
theorem d_str {x j pos} : DE X W (.Constant (.str x) j pos) (mC (.str x)) := d_c pe_str fun _ _ => .str x
end
end DN
namespace DN
open PySem L2

/-! ### sequences seen -/
def seqL (h : LH) : D → Option (List D)
  | .lst l => some l
  | .kst l => some l
  | .ref n => match h[n]? with
    | some (.lst l) => some l
    | _ => none
  | _ => none
/-- .. that may be joined -/
def catL (h : LH) : D → Option (List D)
  | .lst l => some l
  | .ref n => match h[n]? with
    | some (.lst l) => some l
    | _ => none
  | _ => none
def seqT : D → Option (List D)
  | .tup l => some l
  | _ => none

section
variable {K : PySem.W.Frag} {w : Wd} {H : Hp} {h : LH}
theorem HW.get (hw : HW K w H h) {n : Nat} {p : LO} (e : h[n]? = some p) : ∃ a o, w.at_[n]? = some a ∧ H a = some o ∧ RO (K := K) w o p := by
  have hl : n < w.at_.length := by rw [hw.len]; exact (List.getElem?_eq_some_iff.mp e).1
  obtain ⟨o, h1, h2⟩ := hw.ats n w.at_[n] p (List.getElem?_eq_getElem hl) e
  exact ⟨_, o, List.getElem?_eq_getElem hl, h1, h2⟩
theorem seqL_ok (hw : HW K w H h) {v : V} {d : D} {l : List D} (r : RV K w v d) (e : seqL h d = some l) : ∃ a vs, v = .ref a ∧ SqL K H a vs ∧ RVs K w vs l := by
  cases r with
  | lst q r => cases e; exact ⟨_, _, rfl, .inl (.inl (hw.fz _ _ q)), r⟩
  | kst q r =>
    cases e
    rcases q with ⟨o, q⟩ | q
    · exact ⟨_, _, rfl, .inl (.inr ⟨o, hw.fz _ _ q⟩), r⟩
    · exact ⟨_, _, rfl, .inr q, r⟩
  | @ref a n q =>
    unfold seqL at e
    simp only at e
    split at e
    · rename_i l' e'
      cases e
      obtain ⟨a', o, h1, h2, h3⟩ := hw.get e'
      rw [q] at h1
      cases h1
      cases h3 with
      | lst r => exact ⟨_, _, rfl, .inl (.inl h2), r⟩
    · cases e
  | _ => cases e
theorem catL_ok (hw : HW K w H h) {v : V} {d : D} {l : List D} (r : RV K w v d) (e : catL h d = some l) : ∃ a vs, v = .ref a ∧ H a = some (.lst vs) ∧ RVs K w vs l := by
  cases r with
  | lst q r => cases e; exact ⟨_, _, rfl, hw.fz _ _ q, r⟩
  | @ref a n q =>
    unfold catL at e
    simp only at e
    split at e
    · rename_i l' e'
      cases e
      obtain ⟨a', o, h1, h2, h3⟩ := hw.get e'
      rw [q] at h1
      cases h1
      cases h3 with
      | lst r => exact ⟨_, _, rfl, h2, r⟩
    · cases e
  | _ => cases e
theorem seqT_ok (hw : HW K w H h) {v : V} {d : D} {l : List D} (r : RV K w v d) (e : seqT d = some l) : ∃ a vs, v = .ref a ∧ SqT K H a vs ∧ RVs K w vs l := by
  cases r with
  | tup q r =>
    cases e
    rcases q with q | q
    · exact ⟨_, _, rfl, .inl (.inl (hw.fz _ _ q)), r⟩
    · exact ⟨_, _, rfl, .inr q, r⟩
  | _ => cases e

/-! ### the state grows -/
def Wd.add (w : Wd) (p : Addr) (o : HO) : Wd := ⟨fun a u => w.fz a u ∨ (a = p ∧ u = o), w.at_, w.rs⟩
def Wd.push (w : Wd) (p : Addr) : Wd := ⟨w.fz, w.at_ ++ [p], w.rs⟩
theorem Wd.le_add {p : Addr} {o : HO} : w.le (w.add p o) := ⟨fun _ _ h => .inl h, List.prefix_refl _, fun _ _ h => h⟩
theorem Wd.le_push {p : Addr} : w.le (w.push p) := ⟨fun _ _ h => h, ⟨[p], rfl⟩, fun _ _ h => h⟩
theorem HW.there (hw : HW K w H h) {p : Addr} (hp : p ∈ w.at_) : ∃ o, H p = some o := by
  obtain ⟨n, hn, e⟩ := List.getElem_of_mem hp
  have hh : n < h.length := by rw [← hw.len]; exact hn
  obtain ⟨o, h1, _⟩ := hw.ats n p h[n] (by rw [List.getElem?_eq_getElem hn, e]) (List.getElem?_eq_getElem hh)
  exact ⟨o, h1⟩
theorem HW.free (hw : HW K w H h) {p : Addr} (hp : H p = none) : p ∉ w.at_ ∧ (∀ o, ¬ w.fz p o) ∧ ∀ o, ¬ w.rs p o := by
  refine ⟨fun hm => ?_, fun o q => ?_, fun o q => ?_⟩
  · obtain ⟨o, h1⟩ := hw.there hm
    rw [hp] at h1; cases h1
  · have := hw.fz p o q
    rw [hp] at this; cases this
  · have := (hw.rs p o q).1
    rw [hp] at this; cases this
theorem HW.add (hw : HW K w H h) {p : Addr} {o : HO} (hp : H p = none) : HW K (w.add p o) (upd H p o) h := by
  obtain ⟨f1, f2, f3⟩ := hw.free hp
  refine ⟨fun a u q => ?_, hw.len, fun n a x e1 e2 => ?_, hw.nd, fun a u hm q => ?_, fun a u q => ?_, hw.sm.imp fun _ z => z.imp fun _ z => .inl z⟩
  · rcases q with q | ⟨rfl, rfl⟩
    · have hq := hw.fz a u q
      rw [upd_ne (ne_of_none hq hp)]; exact hq
    · exact upd_same
  · obtain ⟨u, h1, h2⟩ := hw.ats n a x e1 e2
    exact ⟨u, by rw [upd_ne (ne_of_none h1 hp)]; exact h1, h2.mono Wd.le_add⟩
  · rcases q with q | ⟨rfl, rfl⟩
    · exact hw.sep a u hm q
    · exact f1 hm
  · obtain ⟨q1, q2, q3⟩ := hw.rs a u q
    refine ⟨by rw [upd_ne (ne_of_none q1 hp)]; exact q1, q2, fun x z => ?_⟩
    rcases z with z | ⟨rfl, rfl⟩
    · exact q3 x z
    · exact f3 u q
theorem HW.push (hw : HW K w H h) {p : Addr} {o : HO} {x : LO} (hp : H p = none) (r : RO (K := K) w o x) : HW K (w.push p) (upd H p o) (h ++ [x]) := by
  obtain ⟨f1, f2, f3⟩ := hw.free hp
  refine ⟨fun a u q => ?_, by simp [Wd.push, hw.len], fun n a y e1 e2 => ?_, ?_, fun a u hm q => ?_, fun a u q => ?_, hw.sm⟩
  · have hq := hw.fz a u q
    rw [upd_ne (ne_of_none hq hp)]; exact hq
  · by_cases hn : n < h.length
    · have e1' : w.at_[n]? = some a := by
        have : (w.at_ ++ [p])[n]? = some a := e1
        rwa [List.getElem?_append_left (by rw [hw.len]; exact hn)] at this
      rw [List.getElem?_append_left hn] at e2
      obtain ⟨u, h1, h2⟩ := hw.ats n a y e1' e2
      exact ⟨u, by rw [upd_ne (ne_of_none h1 hp)]; exact h1, h2.mono Wd.le_push⟩
    · have hn2 : n = h.length := by
        have := (List.getElem?_eq_some_iff.mp e2).1
        simp at this
        omega
      have e1' : (w.at_ ++ [p])[n]? = some a := e1
      rw [hn2, ← hw.len, List.getElem?_append_right (Nat.le_refl _)] at e1'
      simp at e1'
      rw [hn2, List.getElem?_append_right (Nat.le_refl _)] at e2
      simp at e2
      subst e1' e2
      exact ⟨o, upd_same, r.mono Wd.le_push⟩
  · show (w.at_ ++ [p]).Nodup
    rw [List.nodup_append]
    refine ⟨hw.nd, by simp, fun a ha b hb => ?_⟩
    simp at hb
    subst hb
    exact fun e => f1 (e ▸ ha)
  · have hm' : a ∈ w.at_ ++ [p] := hm
    rcases List.mem_append.mp hm' with hm | hm
    · exact hw.sep a u hm q
    · simp at hm
      subst hm
      exact f2 u q
  · obtain ⟨q1, q2, q3⟩ := hw.rs a u q
    refine ⟨by rw [upd_ne (ne_of_none q1 hp)]; exact q1, fun hm => ?_, q3⟩
    have hm' : a ∈ w.at_ ++ [p] := hm
    rcases List.mem_append.mp hm' with hm | hm
    · exact q2 hm
    · simp at hm
      subst hm
      exact f3 u q
theorem HW.set (hw : HW K w H h) {n : Nat} {a : Addr} {o : HO} {x : LO} (e : w.at_[n]? = some a) (hn : n < h.length) (r : RO (K := K) w o x) : HW K w (upd H a o) (h.set n x) := by
  have hma := List.mem_of_getElem? e
  refine ⟨fun b u q => ?_, by simp [hw.len], fun m b y e1 e2 => ?_, hw.nd, hw.sep, fun b u q => ?_, hw.sm⟩
  · have ne : b ≠ a := by
      rintro rfl
      exact hw.sep b u hma q
    rw [upd_ne ne]
    exact hw.fz b u q
  · by_cases hm : n = m
    · subst hm
      rw [List.getElem?_set_self hn] at e2
      cases e2
      rw [e] at e1
      cases e1
      exact ⟨o, upd_same, r⟩
    · rw [List.getElem?_set_ne hm] at e2
      obtain ⟨u, h1, h2⟩ := hw.ats m b y e1 e2
      have ne : b ≠ a := by
        rintro rfl
        exact hm (nd_ix hw.nd e e1)
      exact ⟨u, by rw [upd_ne ne]; exact h1, h2⟩
  · obtain ⟨q1, q2, q3⟩ := hw.rs b u q
    have ne : b ≠ a := by
      rintro rfl
      exact q2 hma
    exact ⟨by rw [upd_ne ne]; exact q1, q2, q3⟩
/-- an object reserved, and let go -/
def Wd.res (w : Wd) (p : Addr) (o : HO) : Wd := ⟨w.fz, w.at_, fun a u => w.rs a u ∨ (a = p ∧ u = o)⟩
def Wd.unres (w : Wd) (p : Addr) : Wd := ⟨w.fz, w.at_, fun a u => w.rs a u ∧ a ≠ p⟩
theorem Wd.le_res {p : Addr} {o : HO} : w.le (w.res p o) := ⟨fun _ _ h => h, List.prefix_refl _, fun _ _ h => .inl h⟩
theorem Wd.le_unres {w' : Wd} {p : Addr} (l : w.le w') (hp : ∀ o, ¬ w.rs p o) : w.le (w'.unres p) := ⟨l.1, l.2.1, fun a o h => ⟨l.2.2 a o h, fun e => hp o (e ▸ h)⟩⟩
mutual
theorem RV.eqv {w' : Wd} (e1 : w.fz = w'.fz) (e2 : w.at_ = w'.at_) : ∀ {v : V} {d : D}, RV K w v d → RV K w' v d
  | _, _, .non => .non
  | _, _, .bl b => .bl b
  | _, _, .int b => .int b
  | _, _, .str b => .str b
  | _, _, .tup h r => .tup (e1 ▸ h) (RVs.eqv e1 e2 r)
  | _, _, .lst h r => .lst (e1 ▸ h) (RVs.eqv e1 e2 r)
  | _, _, .kst h r => .kst (e1 ▸ h) (RVs.eqv e1 e2 r)
  | _, _, .dct h r => .dct (e1 ▸ h) (RKs.eqv e1 e2 r)
  | _, _, .ref h => .ref (e2 ▸ h)
  | _, _, .st v => .st v
theorem RVs.eqv {w' : Wd} (e1 : w.fz = w'.fz) (e2 : w.at_ = w'.at_) : ∀ {v : List V} {d : List D}, RVs K w v d → RVs K w' v d
  | _, _, .nil => .nil
  | _, _, .cons h r => .cons (RV.eqv e1 e2 h) (RVs.eqv e1 e2 r)
theorem RKs.eqv {w' : Wd} (e1 : w.fz = w'.fz) (e2 : w.at_ = w'.at_) : ∀ {v : List (Key × V)} {d : List (Key × D)}, RKs K w v d → RKs K w' v d
  | _, _, .nil => .nil
  | _, _, .cons h r => .cons (RV.eqv e1 e2 h) (RKs.eqv e1 e2 r)
end
theorem RO.eqv {w' : Wd} (e1 : w.fz = w'.fz) (e2 : w.at_ = w'.at_) {o : HO} {x : LO} (r : RO (K := K) w o x) : RO (K := K) w' o x := by
  cases r with
  | lst r => exact .lst (r.eqv e1 e2)
  | dct r => exact .dct (r.eqv e1 e2)
theorem HW.res (hw : HW K w H h) {p : Addr} {o : HO} (hp : H p = none) : HW K (w.res p o) (upd H p o) h := by
  obtain ⟨f1, f2, f3⟩ := hw.free hp
  refine ⟨fun a u q => ?_, hw.len, fun n a x e1 e2 => ?_, hw.nd, hw.sep, fun a u q => ?_, hw.sm⟩
  · have hq := hw.fz a u q
    rw [upd_ne (ne_of_none hq hp)]; exact hq
  · obtain ⟨u, h1, h2⟩ := hw.ats n a x e1 e2
    exact ⟨u, by rw [upd_ne (ne_of_none h1 hp)]; exact h1, h2.eqv (w := w) (w' := w.res p o) rfl rfl⟩
  · rcases q with q | ⟨rfl, rfl⟩
    · obtain ⟨q1, q2, q3⟩ := hw.rs a u q
      exact ⟨by rw [upd_ne (ne_of_none q1 hp)]; exact q1, q2, q3⟩
    · exact ⟨upd_same, f1, f2⟩
/-- what is reserved changes -/
theorem HW.reset (hw : HW K w H h) {p : Addr} {o : HO} (hp : ∃ u, w.rs p u) : HW K ((w.unres p).res p o) (upd H p o) h := by
  obtain ⟨u0, hp⟩ := hp
  obtain ⟨p1, p2, p3⟩ := hw.rs p u0 hp
  refine ⟨fun a u q => ?_, hw.len, fun n a x e1 e2 => ?_, hw.nd, hw.sep, fun a u q => ?_, hw.sm⟩
  · have ne : a ≠ p := fun e => p3 u (e ▸ q)
    rw [upd_ne ne]; exact hw.fz a u q
  · obtain ⟨u, h1, h2⟩ := hw.ats n a x e1 e2
    have ne : a ≠ p := fun e => p2 (e ▸ List.mem_of_getElem? e1)
    exact ⟨u, by rw [upd_ne ne]; exact h1, h2.eqv (w := w) (w' := (w.unres p).res p o) rfl rfl⟩
  · rcases q with ⟨q, ne⟩ | ⟨rfl, rfl⟩
    · obtain ⟨q1, q2, q3⟩ := hw.rs a u q
      exact ⟨by rw [upd_ne ne]; exact q1, q2, q3⟩
    · exact ⟨upd_same, p2, p3⟩
/-- what was reserved is frozen; or it is one of those that change -/
theorem HW.frz (hw : HW K w H h) {p : Addr} {o : HO} (hp : w.rs p o) : HW K ((w.unres p).add p o) H h := by
  obtain ⟨p1, p2, p3⟩ := hw.rs p o hp
  refine ⟨fun a u q => ?_, hw.len, fun n a x e1 e2 => ?_, hw.nd, fun a u hm q => ?_, fun a u q => ?_, hw.sm.imp fun _ z => z.imp fun _ z => .inl z⟩
  · rcases q with q | ⟨rfl, rfl⟩
    · exact hw.fz a u q
    · exact p1
  · obtain ⟨u, h1, h2⟩ := hw.ats n a x e1 e2
    exact ⟨u, h1, (h2.eqv (w := w) (w' := w.unres p) rfl rfl).mono Wd.le_add⟩
  · rcases q with q | ⟨rfl, rfl⟩
    · exact hw.sep a u hm q
    · exact p2 hm
  · obtain ⟨q, ne⟩ := q
    obtain ⟨q1, q2, q3⟩ := hw.rs a u q
    refine ⟨q1, q2, fun x z => ?_⟩
    rcases z with z | ⟨rfl, rfl⟩
    · exact q3 x z
    · exact ne rfl
theorem HW.own (hw : HW K w H h) {p : Addr} {o : HO} {x : LO} (hp : w.rs p o) (r : RO (K := K) w o x) : HW K ((w.unres p).push p) H (h ++ [x]) := by
  obtain ⟨p1, p2, p3⟩ := hw.rs p o hp
  have r' : RO (K := K) ((w.unres p).push p) o x := (r.eqv (w := w) (w' := w.unres p) rfl rfl).mono Wd.le_push
  refine ⟨fun a u q => hw.fz a u q, by simp [Wd.push, Wd.unres, hw.len], fun n a y e1 e2 => ?_, ?_, fun a u hm q => ?_, fun a u q => ?_, hw.sm⟩
  · by_cases hn : n < h.length
    · have e1' : w.at_[n]? = some a := by
        have : (w.at_ ++ [p])[n]? = some a := e1
        rwa [List.getElem?_append_left (by rw [hw.len]; exact hn)] at this
      rw [List.getElem?_append_left hn] at e2
      obtain ⟨u, h1, h2⟩ := hw.ats n a y e1' e2
      exact ⟨u, h1, (h2.eqv (w := w) (w' := w.unres p) rfl rfl).mono Wd.le_push⟩
    · have hn2 : n = h.length := by
        have := (List.getElem?_eq_some_iff.mp e2).1
        simp at this
        omega
      have e1' : (w.at_ ++ [p])[n]? = some a := e1
      rw [hn2, ← hw.len, List.getElem?_append_right (Nat.le_refl _)] at e1'
      simp at e1'
      rw [hn2, List.getElem?_append_right (Nat.le_refl _)] at e2
      simp at e2
      subst e1' e2
      exact ⟨o, p1, r'⟩
  · show (w.at_ ++ [p]).Nodup
    rw [List.nodup_append]
    refine ⟨hw.nd, by simp, fun a ha b hb => ?_⟩
    simp at hb
    subst hb
    exact fun e => p2 (e ▸ ha)
  · have hm' : a ∈ w.at_ ++ [p] := hm
    rcases List.mem_append.mp hm' with hm | hm
    · exact hw.sep a u hm q
    · simp at hm
      subst hm
      exact p3 u q
  · obtain ⟨q, ne⟩ := q
    obtain ⟨q1, q2, q3⟩ := hw.rs a u q
    refine ⟨q1, fun hm => ?_, q3⟩
    have hm' : a ∈ w.at_ ++ [p] := hm
    rcases List.mem_append.mp hm' with hm | hm
    · exact q2 hm
    · simp at hm
      exact ne hm
/-! what follows a new object -/
theorem Pv.tup {Q : VK} {ds : List D} {vs : List V} {p : Addr} (q : Pv K w Q (.tup ds) h) (hw : HW K w H h) (r : RVs K w vs ds) (hp : H p = none) : Q (.ref p) (upd H p (.tup vs)) :=
  q _ _ _ Wd.le_add (.tup (.inl (.inr ⟨rfl, rfl⟩)) (r.mono Wd.le_add)) (hw.add hp)
theorem Pv.lst {Q : VK} {ds : List D} {vs : List V} {p : Addr} (q : Pv K w Q (.lst ds) h) (hw : HW K w H h) (r : RVs K w vs ds) (hp : H p = none) : Q (.ref p) (upd H p (.lst vs)) :=
  q _ _ _ Wd.le_add (.lst (.inr ⟨rfl, rfl⟩) (r.mono Wd.le_add)) (hw.add hp)
theorem Pv.new {Q : VK} {ds : List D} {vs : List V} {p : Addr} (q : Pv K w Q (.ref h.length) (h ++ [.lst ds])) (hw : HW K w H h) (r : RVs K w vs ds) (hp : H p = none) : Q (.ref p) (upd H p (.lst vs)) :=
  q _ _ _ Wd.le_push (.ref (by show (w.at_ ++ [p])[h.length]? = some p; rw [← hw.len]; simp)) (hw.push hp (.lst r))
theorem Pv.here {Q : VK} {d : D} {v : V} (q : Pv K w Q d h) (hw : HW K w H h) (r : RV K w v d) : Q v H := q w v H (.refl w) r hw
end

/-! ### operators: by the two values -/
abbrev O2 := LH → D → D → Option D
def rO (K : PySem.W.Frag) (g : O2) : R2 := fun x y H Q => ∃ w h dx dy d, RV K w x dx ∧ RV K w y dy ∧ HW K w H h ∧ g h dx dy = some d ∧ Pv K w Q d h
def OD (X : Cx) (f : Value → Value → Sem Value) (g : O2) : Prop := OpR X f (rO X.K g)
def mOp (g : O2) (a b : EM) : EM := fun s h => (a s h).bind fun x h1 => (b s h1).bind fun y h2 => match g h2 x y with
  | some d => .ok d h2
  | none => .no
section
variable {X : Cx} {W : WX} {a b c : Expr} {ma mb mc : EM} {pos : Pos}
theorem te_op {K : PySem.W.Frag} {g : O2} {σ : St} {H : Hp} {Q : VK} (q : TE_ K W (mOp g ma mb) σ H Q) : tOp (rO K g) (TE_ K W ma) (TE_ K W mb) σ H Q := by
  obtain ⟨w, s, h, rs, hw, q⟩ := q
  refine ⟨w, s, h, rs, hw, WpE.bind (G := WpE K w Q _) q (fun _ _ z => z) (fun z => z) fun x h1 w1 v H1 l1 rx hw1 q1 => ?_⟩
  refine ⟨w1, s, h1, rs.mono l1, hw1, WpE.bind (G := WpE K w Q _) q1 (fun _ _ z => Px.mono l1 z) (fun z => z) fun y h2 w2 u H2 l2 ry hw2 q2 => ?_⟩
  split at q2
  · rename_i d e
    exact ⟨w2, h2, x, y, d, rx.mono l2, ry, hw2, e, fun w3 z H3 l3 => q2 w3 z H3 ((l1.trans l2).trans l3)⟩
  · exact q2.elim
theorem d_op {op : Operator} {g : O2} (ho : OD X (binaryOp op) g) (ha : DE X W a ma) (hb : DE X W b mb) : DE X W (.BinOp a op b pos) (mOp g ma mb) := PE.imp (pe_op ho ha hb) fun _ _ _ q => te_op q
theorem d_cmp {op : CmpOp} {g : O2} (ho : OD X (compareOp op) g) (ha : DE X W a ma) (hb : DE X W b mb) (hm : behindInMarks op b = false) : DE X W (.Compare a [op] [b] pos) (mOp g ma mb) := PE.imp (pe_cmpR ho ha hb hm) fun _ _ _ q => te_op q

/-! ### tests -/
def toB (r : R D) : R Bool := match r with
  | .ok (.bl k) h => .ok k h
  | .ok _ _ => .no
  | .ex x h => .ex x h
  | .no => .no
def mTest (m : EM) : BM := fun s h => toB (m s h)
theorem wpb_toB {K : PySem.W.Frag} {w : Wd} {Q : Bool → Hp → Prop} {E : XK} {r : R D} (q : WpB K w Q E (toB r)) : WpE K w (fun v H => ∃ k, v = .bl k ∧ Q k H) E r := by
  unfold toB at q
  split at q
  · rename_i k h
    intro w' v H' l rv hw
    cases rv with
    | bl k => exact ⟨k, rfl, q w' H' l hw⟩
  · exact q.elim
  · exact q
  · exact q.elim
theorem te_test {K : PySem.W.Frag} {m : EM} {σ : St} {H : Hp} {Q : Bool → Hp → Prop} (q : TB_ K W (mTest m) σ H Q) : tTest (TE_ K W m) σ H Q := by
  obtain ⟨w, s, h, rs, hw, q⟩ := q
  exact ⟨w, s, h, rs, hw, wpb_toB q⟩
theorem dt_cmp {op : CmpOp} {g : O2} (ho : OD X (compareOp op) g) (ha : DE X W a ma) (hb : DE X W b mb) (hm : behindInMarks op b = false) : DT X W (.Compare a [op] [b] pos) (mTest (mOp g ma mb)) := PT.imp (pt_cmpR ho ha hb hm) fun σ H Q q => by
  obtain ⟨w, s, h, rs, hw, q⟩ := te_test q
  exact te_op ⟨w, s, h, rs, hw, q⟩
/-- an expression whose value is a truth, as a test -/
theorem dt_val {e : Expr} {m : EM} (he : DE X W e m) (hp : ∀ whole, isTrue e X.env whole = (do let v ← whole; standAt e.pos; holding [v] (truthy v)) := by intro _; rfl) : DT X W e (mTest m) := PT.imp (pt_val he hp) fun σ H Q q => te_test q
def mNotT (m : BM) : BM := fun s h => (m s h).bind fun k h => .ok (!k) h
theorem dt_not {m : BM} (ha : DT X W a m) : DT X W (.UnaryOp .Not a pos) (mNotT m) := PT.imp (pt_not ha) fun σ H Q ⟨w, s, h, rs, hw, q⟩ =>
  ⟨w, s, h, rs, hw, WpB.bind (G := WpB X.K w Q _) q (fun _ _ z => z) (fun z => z) fun k h1 w1 H1 l hw1 q1 => q1 w1 H1 l hw1⟩
def mAndT (m n : BM) : BM := fun s h => (m s h).bind fun k h1 => if k = true then n s h1 else .ok false h1
def mOrT (m n : BM) : BM := fun s h => (m s h).bind fun k h1 => if k = true then .ok true h1 else n s h1
variable {rest : List Expr} {m n : BM}
theorem dw_and1 (ha : DT X W a m) : DW X W (.BoolOp .And [a] pos) m := pw_and1 ha
theorem dw_or1 (ha : DT X W a m) : DW X W (.BoolOp .Or [a] pos) m := pw_or1 ha
theorem dw_and (ha : DT X W a m) (hb : DW X W (.BoolOp .And (b :: rest) pos) n) : DW X W (.BoolOp .And (a :: b :: rest) pos) (mAndT m n) := PW.imp (pw_and ha hb) fun σ H Q ⟨w, s, h, rs, hw, q⟩ =>
  ⟨w, s, h, rs, hw, WpB.bind (G := WpB X.K w Q _) q (fun _ _ z => z) (fun z => z) fun k h1 w1 H1 l hw1 q1 => by
    cases k with
    | true => exact iteT ⟨w1, s, h1, rs.mono l, hw1, WpB.mono l q1⟩
    | false => exact iteF (q1 w1 H1 l hw1)⟩
theorem dw_or (ha : DT X W a m) (hb : DW X W (.BoolOp .Or (b :: rest) pos) n) : DW X W (.BoolOp .Or (a :: b :: rest) pos) (mOrT m n) := PW.imp (pw_or ha hb) fun σ H Q ⟨w, s, h, rs, hw, q⟩ =>
  ⟨w, s, h, rs, hw, WpB.bind (G := WpB X.K w Q _) q (fun _ _ z => z) (fun z => z) fun k h1 w1 H1 l hw1 q1 => by
    cases k with
    | true => exact iteT (q1 w1 H1 l hw1)
    | false => exact iteF ⟨w1, s, h1, rs.mono l, hw1, WpB.mono l q1⟩⟩
theorem dt_w {e : Expr} (h : DW X W e m) : DT X W e m := PW.pt h
/-! .. as values -/
def mAndV (m n : EM) : EM := fun s h => (m s h).bind fun k h1 => match k with
  | .bl true => n s h1
  | .bl false => .ok (.bl false) h1
  | _ => .no
def mOrV (m n : EM) : EM := fun s h => (m s h).bind fun k h1 => match k with
  | .bl true => .ok (.bl true) h1
  | .bl false => n s h1
  | _ => .no
theorem d_one {op} {m : EM} (h : DE X W a m) : DE X W (.BoolOp op [a] pos) m := pe_one h
theorem d_and (ha : DE X W a ma) (hb : DE X W (.BoolOp .And (b :: rest) pos) mb) : DE X W (.BoolOp .And (a :: b :: rest) pos) (mAndV ma mb) := PE.imp (pe_and ha hb) fun σ H Q ⟨w, s, h, rs, hw, q⟩ =>
  ⟨w, s, h, rs, hw, WpE.bind (G := WpE X.K w Q _) q (fun _ _ z => z) (fun z => z) fun k h1 w1 v H1 l rv hw1 q1 => by
    split at q1
    · cases rv
      exact ⟨true, rfl, iteT ⟨w1, s, h1, rs.mono l, hw1, WpE.mono l q1⟩⟩
    · cases rv
      exact ⟨false, rfl, iteF (q1 w1 _ H1 l (.bl false) hw1)⟩
    · exact q1.elim⟩
theorem d_or (ha : DE X W a ma) (hb : DE X W (.BoolOp .Or (b :: rest) pos) mb) : DE X W (.BoolOp .Or (a :: b :: rest) pos) (mOrV ma mb) := PE.imp (pe_or ha hb) fun σ H Q ⟨w, s, h, rs, hw, q⟩ =>
  ⟨w, s, h, rs, hw, WpE.bind (G := WpE X.K w Q _) q (fun _ _ z => z) (fun z => z) fun k h1 w1 v H1 l rv hw1 q1 => by
    split at q1
    · cases rv
      exact ⟨true, rfl, iteT (q1 w1 _ H1 l (.bl true) hw1)⟩
    · cases rv
      exact ⟨false, rfl, iteF ⟨w1, s, h1, rs.mono l, hw1, WpE.mono l q1⟩⟩
    · exact q1.elim⟩
def mNotV (m : EM) : EM := fun s h => (m s h).bind fun k h1 => match k with
  | .bl k => .ok (.bl (!k)) h1
  | _ => .no
theorem d_not (ha : DE X W a ma) : DE X W (.UnaryOp .Not a pos) (mNotV ma) := PE.imp (pe_not ha) fun σ H Q ⟨w, s, h, rs, hw, q⟩ =>
  ⟨w, s, h, rs, hw, WpE.bind (G := WpE X.K w Q _) q (fun _ _ z => z) (fun z => z) fun k h1 w1 v H1 l rv hw1 q1 => by
    split at q1
    · cases rv
      exact ⟨_, rfl, q1 w1 _ H1 l (.bl _) hw1⟩
    · exact q1.elim⟩
def mIf (c : BM) (a b : EM) : EM := fun s h => (c s h).bind fun k h1 => if k = true then a s h1 else b s h1
theorem d_if {c : Expr} (hc : DT X W c m) (ha : DE X W a ma) (hb : DE X W b mb) : DE X W (.IfExp c a b pos) (mIf m ma mb) := PE.imp (pe_ifExp hc ha hb) fun σ H Q ⟨w, s, h, rs, hw, q⟩ =>
  ⟨w, s, h, rs, hw, WpB.bind (G := WpE X.K w Q _) q (fun _ _ z => z) (fun z => z) fun k h1 w1 H1 l hw1 q1 => by
    cases k with
    | true => exact iteT ⟨w1, s, h1, rs.mono l, hw1, WpE.mono l q1⟩
    | false => exact iteF ⟨w1, s, h1, rs.mono l, hw1, WpE.mono l q1⟩⟩
/-- a < b < c -/
def mChain (g g' : O2) (a b c : EM) : EM := fun s h => (a s h).bind fun x h1 => (b s h1).bind fun y h2 => match g h2 x y with
  | some (.bl true) => (c s h2).bind fun z h3 => match g' h3 y z with
    | some d => .ok d h3
    | none => .no
  | some (.bl false) => .ok (.bl false) h2
  | _ => .no
theorem te_chain {K : PySem.W.Frag} {g g' : O2} {σ : St} {H : Hp} {Q : VK} (q : TE_ K W (mChain g g' ma mb mc) σ H Q) : tChain (rO K g) (rO K g') (TE_ K W ma) (TE_ K W mb) (TE_ K W mc) σ H Q := by
  obtain ⟨w, s, h, rs, hw, q⟩ := q
  refine ⟨w, s, h, rs, hw, WpE.bind (G := WpE K w Q _) q (fun _ _ z => z) (fun z => z) fun x h1 w1 v H1 l1 rx hw1 q1 => ?_⟩
  refine ⟨w1, s, h1, rs.mono l1, hw1, WpE.bind (G := WpE K w Q _) q1 (fun _ _ z => Px.mono l1 z) (fun z => z) fun y h2 w2 u H2 l2 ry hw2 q2 => ?_⟩
  split at q2
  · rename_i e
    refine ⟨w2, h2, x, y, .bl true, rx.mono l2, ry, hw2, e, fun w3 z H3 l3 rz hw3 => ?_⟩
    cases rz
    refine ⟨true, rfl, iteT ⟨w3, s, h2, rs.mono ((l1.trans l2).trans l3), hw3, WpE.bind (G := WpE K w Q _) q2 (fun _ _ z => Px.mono ((l1.trans l2).trans l3) z) (fun z => z) fun z h4 w4 t H4 l4 rt hw4 q4 => ?_⟩⟩
    split at q4
    · rename_i d e'
      exact ⟨w4, h4, y, z, d, ry.mono (l3.trans l4), rt, hw4, e', fun w5 z5 H5 l5 => q4 w5 z5 H5 ((((l1.trans l2).trans l3).trans l4).trans l5)⟩
    · exact q4.elim
  · rename_i e
    refine ⟨w2, h2, x, y, .bl false, rx.mono l2, ry, hw2, e, fun w3 z H3 l3 rz hw3 => ?_⟩
    cases rz
    exact ⟨false, rfl, iteF (q2 w3 _ H3 ((l1.trans l2).trans l3) (.bl false) hw3)⟩
  · exact q2.elim
theorem d_chain {op op' : CmpOp} {g g' : O2} (ho : OD X (compareOp op) g) (ho' : OD X (compareOp op') g') (ha : DE X W a ma) (hb : DE X W b mb) (hc : DE X W c mc) (hm : lastMarks [op, op'] [b, c] = false := by with_unfolding_all rfl) :
    DE X W (.Compare a [op, op'] [b, c] pos) (mChain g g' ma mb mc) := PE.imp (pe_chain ho ho' ha hb hc hm) fun _ _ _ q => te_chain q
theorem dt_chain {op op' : CmpOp} {g g' : O2} (ho : OD X (compareOp op) g) (ho' : OD X (compareOp op') g') (ha : DE X W a ma) (hb : DE X W b mb) (hc : DE X W c mc) (hm : lastMarks [op, op'] [b, c] = false := by with_unfolding_all rfl) :
    DT X W (.Compare a [op, op'] [b, c] pos) (mTest (mChain g g' ma mb mc)) := PT.imp (pt_chain ho ho' ha hb hc hm) fun σ H Q q => by
  obtain ⟨w, s, h, rs, hw, q⟩ := te_test q
  exact te_chain ⟨w, s, h, rs, hw, q⟩
/-! ### argument lists, displays -/
def aNil : AM := fun _ h => .ok [] h
def aCons (m : EM) (r : AM) : AM := fun s h => (m s h).bind fun x h1 => (r s h1).bind fun xs h2 => .ok (x :: xs) h2
variable {es : List Expr} {e : Expr} {me : EM} {mr : AM}
theorem da_nil : DA X W [] aNil := PA.imp pa_nil fun σ H Q ⟨w, s, h, rs, hw, q⟩ => q w [] H (.refl w) .nil hw
theorem da_cons (ha : DE X W e me) (hr : DA X W es mr) (hs : starEach (e :: es) X.env = (false, eval e X.env) :: starEach es X.env := by rfl) : DA X W (e :: es) (aCons me mr) := PA.imp (pa_cons ha hr hs) fun σ H Q ⟨w, s, h, rs, hw, q⟩ =>
  ⟨w, s, h, rs, hw, WpE.bind (G := WpA X.K w Q _) q (fun _ _ z => z) (fun z => z) fun x h1 w1 v H1 l1 rv hw1 q1 =>
    ⟨w1, s, h1, rs.mono l1, hw1, WpA.bind (G := WpA X.K w Q _) q1 (fun _ _ z => Px.mono l1 z) (fun z => z) fun y h2 w2 u H2 l2 ru hw2 q2 => q2 w2 _ H2 (l1.trans l2) (.cons (rv.mono l2) ru) hw2⟩⟩
def small (n : Nat) : Bool := decide (n ≤ sizeLine)
def mTup (m : AM) : EM := fun s h => (m s h).bind fun l h1 => if small l.length = true then .ok (.tup l) h1 else .no
/-- a list that is never changed; a new one that may be -/
def mLst (m : AM) : EM := fun s h => (m s h).bind fun l h1 => if small l.length = true then .ok (.lst l) h1 else .no
def mNew (m : AM) : EM := fun s h => (m s h).bind fun l h1 => if small l.length = true then .ok (.ref h1.length) (h1 ++ [.lst l]) else .no
theorem small_le {n : Nat} (e : small n = true) : n ≤ sizeLine := of_decide_eq_true e
theorem d_tup {x1} {m : AM} (ha : DA X W es m) : DE X W (.Tuple es x1 pos) (mTup m) := PE.imp (pe_tup ha) fun σ H Q ⟨w, s, h, rs, hw, q⟩ =>
  ⟨w, s, h, rs, hw, WpA.bind (G := WpE X.K w Q _) q (fun _ _ z => z) (fun z => z) fun l h1 w1 v H1 l1 rv hw1 q1 => by
    split at q1
    · rename_i e
      exact ⟨by rw [rv.length]; exact small_le e, fun p hp => Pv.tup (fun w3 z H3 l3 => q1 w3 z H3 (l1.trans l3)) hw1 rv hp⟩
    · exact q1.elim⟩
theorem d_lst {m : AM} (ha : DA X W es m) : DE X W (.List es pos) (mLst m) := PE.imp (pe_lst ha) fun σ H Q ⟨w, s, h, rs, hw, q⟩ =>
  ⟨w, s, h, rs, hw, WpA.bind (G := WpE X.K w Q _) q (fun _ _ z => z) (fun z => z) fun l h1 w1 v H1 l1 rv hw1 q1 => by
    split at q1
    · rename_i e
      exact ⟨by rw [rv.length]; exact small_le e, fun p hp => Pv.lst (fun w3 z H3 l3 => q1 w3 z H3 (l1.trans l3)) hw1 rv hp⟩
    · exact q1.elim⟩
theorem d_new {m : AM} (ha : DA X W es m) : DE X W (.List es pos) (mNew m) := PE.imp (pe_lst ha) fun σ H Q ⟨w, s, h, rs, hw, q⟩ =>
  ⟨w, s, h, rs, hw, WpA.bind (G := WpE X.K w Q _) q (fun _ _ z => z) (fun z => z) fun l h1 w1 v H1 l1 rv hw1 q1 => by
    split at q1
    · rename_i e
      exact ⟨by rw [rv.length]; exact small_le e, fun p hp => Pv.new (fun w3 z H3 l3 => q1 w3 z H3 (l1.trans l3)) hw1 rv hp⟩
    · exact q1.elim⟩
end
end DN
namespace DN
open PySem L2

/-! ### data as plain data -/
mutual
def pyG (g : Nat → Option PyData) : D → Option PyData
  | .non => some .none
  | .bl b => some (.bool b)
  | .int i => some (.int i)
  | .str s => some (.str s)
  | .tup l => (pyGs g l).map .tuple
  | .lst l => (pyGs g l).map .list
  | .kst l => (pyGs g l).map .list
  | .dct _ => none
  | .ref n => g n
  | .st _ => none
def pyGs (g : Nat → Option PyData) : List D → Option (List PyData)
  | [] => some []
  | d :: ds => (pyG g d).bind fun p => (pyGs g ds).map (p :: ·)
end
def pyN : Nat → LH → Nat → Option PyData
  | 0, _, _ => none
  | n + 1, h, k => match h[k]? with
    | some (.lst l) => (pyGs (pyN n h) l).map .list
    | _ => none
def py (h : LH) (d : D) : Option PyData := pyG (pyN 6 h) d
section
variable {K : PySem.W.Frag} {w : Wd} {H : Hp} {h : LH}
mutual
theorem pyG_ok {g : Nat → Option PyData} (hw : HW K w H h) (hg : ∀ n a p, w.at_[n]? = some a → g n = some p → Dp K H (.ref a) p) : ∀ (d : D) (v : V) (p : PyData), RV K w v d → pyG g d = some p → Dp K H v p
  | .non, _, _, .non, e => by cases e; exact .non
  | .bl _, _, _, .bl _, e => by cases e; exact .bl _
  | .int _, _, _, .int _, e => by cases e; exact .int _
  | .str _, _, _, .str _, e => by cases e; exact .str _
  | .tup l, _, _, .tup q r, e => by
    simp only [pyG, Option.map_eq_some_iff] at e
    obtain ⟨ps, e1, rfl⟩ := e
    exact .tup (q.elim (fun z => .inl (.inl (hw.fz _ _ z))) .inr) (pyGs_ok hw hg l _ _ r e1)
  | .lst l, _, _, .lst q r, e => by
    simp only [pyG, Option.map_eq_some_iff] at e
    obtain ⟨ps, e1, rfl⟩ := e
    exact .lst (.inl (.inl (hw.fz _ _ q))) (pyGs_ok hw hg l _ _ r e1)
  | .kst l, _, _, .kst q r, e => by
    simp only [pyG, Option.map_eq_some_iff] at e
    obtain ⟨ps, e1, rfl⟩ := e
    refine .lst ?_ (pyGs_ok hw hg l _ _ r e1)
    rcases q with ⟨o, q⟩ | q
    · exact .inl (.inr ⟨o, hw.fz _ _ q⟩)
    · exact .inr q
  | .ref n, _, _, .ref q, e => hg _ _ _ q (by simpa only [pyG] using e)
theorem pyGs_ok {g : Nat → Option PyData} (hw : HW K w H h) (hg : ∀ n a p, w.at_[n]? = some a → g n = some p → Dp K H (.ref a) p) : ∀ (d : List D) (v : List V) (p : List PyData), RVs K w v d → pyGs g d = some p → DpAll K H v p
  | [], _, _, .nil, e => by cases e; exact .nil
  | d :: ds, _, _, .cons r rs, e => by
    simp only [pyGs, Option.bind_eq_some_iff, Option.map_eq_some_iff] at e
    obtain ⟨p, e1, ps, e2, rfl⟩ := e
    exact .cons (pyG_ok hw hg d _ _ r e1) (pyGs_ok hw hg ds _ _ rs e2)
end
theorem pyN_ok (hw : HW K w H h) : ∀ (m n : Nat) (a : Addr) (p : PyData), w.at_[n]? = some a → pyN m h n = some p → Dp K H (.ref a) p
  | 0, _, _, _, _, e => by cases e
  | m + 1, n, a, p, q, e => by
    unfold pyN at e
    split at e
    · rename_i l e'
      simp only [Option.map_eq_some_iff] at e
      obtain ⟨ps, e1, rfl⟩ := e
      obtain ⟨a', o, h1, h2, h3⟩ := hw.get e'
      rw [q] at h1
      cases h1
      cases h3 with
      | lst r => exact .lst (.inl (.inl h2)) (pyGs_ok hw (pyN_ok hw m) l _ _ r e1)
    · cases e
theorem py_ok (hw : HW K w H h) {d : D} {v : V} {p : PyData} (r : RV K w v d) (e : py h d = some p) : Dp K H v p := pyG_ok hw (pyN_ok hw 6) d v p r e
end

/-! ### arithmetic -/
def oAdd : O2 := fun h x y => match x, y with
  | .int i, .int j => some (.int (i + j))
  | .str i, .str j => if small (i.length + j.length) = true then some (.str (i ++ j)) else none
  | .tup i, .tup j => if small (i.length + j.length) = true then some (.tup (i ++ j)) else none
  | x, y => (catL h x).bind fun i => (catL h y).bind fun j => if small (i.length + j.length) = true then some (.lst (i ++ j)) else none
def oSub : O2 := fun _ x y => match x, y with
  | .int i, .int j => some (.int (i - j))
  | _, _ => none
/-- a text times an int -/
def sRep (x : Str) (j : Int) : Str := if j < 1 then Str.empty else if (j == 1 || x.length == 0) = true then x else ⟨(List.replicate j.toNat x.cps).foldl (· ++ ·) #[]⟩
/-- a * n: ints, texts, lists and tuples -/
def oMul : O2 := fun h x y => match x, y with
  | .int i, .int j => if decide (i.natAbs.log2 + j.natAbs.log2 < 1000000) = true then some (.int (i * j)) else none
  | .tup i, .int j => if decide (i ≠ [] ∧ 2 ≤ j ∧ j ≤ 1000 ∧ i.length ≤ 1000) = true then some (.tup (List.replicate j.toNat i).flatten) else none
  | .str x, .int j => if decide (-1000000 ≤ j ∧ j ≤ 1000000 ∧ x.length ≤ 1000000 ∧ x.length * j.toNat ≤ sizeLine ∧ (sRep x j).length ≤ sizeLine) = true then some (.str (sRep x j)) else none
  | x, .int j => (catL h x).bind fun i => if decide (-(2 ^ 63) ≤ j ∧ j < 2 ^ 63 ∧ i.length * j.toNat ≤ sizeLine) = true then some (.lst (List.replicate j.toNat i).flatten) else none
  | _, _ => none
def oDiv : O2 := fun _ x y => match x, y with
  | .int i, .int j => if decide (0 < j ∧ j.natAbs.log2 < 9000) = true then some (.int (i / j)) else none
  | _, _ => none
def oMod : O2 := fun _ x y => match x, y with
  | .int i, .int j => if decide (0 < j) = true then some (.int (i % j)) else none
  | _, _ => none
def oPow : O2 := fun _ x y => match x, y with
  | .int i, .int j => if decide (0 ≤ j ∧ j ≤ 1000000 ∧ i.natAbs < 2 ^ 64) = true then some (.int (i ^ j.toNat)) else none
  | _, _ => none
def oCmpI (p : Int → Int → Bool) (q : List Nat → List Nat → Bool) : O2 := fun _ x y => match x, y with
  | .int i, .int j => some (.bl (p i j))
  | .str i, .str j => some (.bl (q i.cps.toList j.cps.toList))
  | _, _ => none
def oLt : O2 := oCmpI (fun i j => decide (i < j)) (fun i j => decide (i < j))
def oLe : O2 := oCmpI (fun i j => decide (i ≤ j)) (fun i j => !decide (j < i))
def oGt : O2 := oCmpI (fun i j => decide (j < i)) (fun i j => decide (j < i))
def oGe : O2 := oCmpI (fun i j => decide (j ≤ i)) (fun i j => !decide (i < j))
def oEq : O2 := fun h x y => match x, y with
  | .str a, .str b => some (.bl (a == b))
  | .tup l, .tup [] => some (.bl (l.isEmpty))
  | .lst l, .lst [] => some (.bl (l.isEmpty))
  | .kst l, .lst [] => some (.bl (l.isEmpty))
  | .ref n, .lst [] => (seqL h (.ref n)).map fun l => .bl (l.isEmpty)
  | x, y => (py h x).bind fun p => (py h y).bind fun q => if (SeqAt.shaped p && SeqAt.shaped q) = true then some (.bl (PyData.eqv p q)) else none
def oNe : O2 := fun h x y => match x, y with
  | .str a, .str b => some (.bl (!(a == b)))
  | .tup l, .tup [] => some (.bl (!l.isEmpty))
  | .lst l, .lst [] => some (.bl (!l.isEmpty))
  | .kst l, .lst [] => some (.bl (!l.isEmpty))
  | .ref n, .lst [] => (seqL h (.ref n)).map fun l => .bl (!l.isEmpty)
  | x, y => (py h x).bind fun p => (py h y).bind fun q => if (SeqAt.shaped p && SeqAt.shaped q) = true then some (.bl (!PyData.eqv p q)) else none
/-- in: a sign in a text; a text in a text; data in a list -/
def isIn (h : LH) (x y : D) : Option Bool := match x, y with
  | .str i, .str j => if decide (i.cps.size = 1) = true then some (decide (i.cps.getD 0 0 ∈ j.cps.toList)) else some (!(Builtin.Str.occurrences j i 0 j.length 1).isEmpty)
  | x, .tup l => (flatOf x).bind fun a => (flatsOf l).map fun b => inV a b
  | x, y => (py h x).bind fun p => (py h y).bind fun q => match q with
    | .list ds => if (SeqAt.shaped p && SeqAt.shaped (.list ds)) = true then some (ds.any fun z => PyData.eqv z p) else none
    | _ => none
where
  flatOf : D → Option V
    | .non => some .non
    | .bl b => some (.bl b)
    | .int i => some (.int i)
    | .str s => some (.str s)
    | _ => none
  flatsOf : List D → Option (List V)
    | [] => some []
    | d :: ds => (flatOf d).bind fun v => (flatsOf ds).map (v :: ·)
def oIn : O2 := fun h x y => (isIn h x y).map .bl
def oNotIn : O2 := fun h x y => (isIn h x y).map fun b => .bl (!b)
def oIs : O2 := fun _ x y => match x, y with
  | x, .non => match x with
    | .non => some (.bl true)
    | .st _ => none
    | _ => some (.bl false)
  | .bl a, .bl b => some (.bl (decide (a = b)))
  | _, _ => none
def oIsNot : O2 := fun h x y => match oIs h x y with
  | some (.bl b) => some (.bl (!b))
  | _ => none

section
variable {X : Cx}
theorem rep_ok {K : PySem.W.Frag} {w : Wd} {vs : List V} {ds : List D} (r : RVs K w vs ds) : ∀ n : Nat, RVs K w (List.replicate n vs).flatten (List.replicate n ds).flatten
  | 0 => .nil
  | n + 1 => by
    rw [List.replicate_succ, List.replicate_succ, List.flatten_cons, List.flatten_cons]
    exact r.append (rep_ok r n)
theorem rvs_nil {K : PySem.W.Frag} {w : Wd} {vs : List V} {ds : List D} (r : RVs K w vs ds) : vs = [] ↔ ds = [] := by
  cases r <;> simp
theorem od_add : OD X (binaryOp .Add) oAdd := by
  intro pins s σ H x y v u Q I rx ry ⟨w, h, dx, dy, d, r1, r2, hw, e, q⟩
  unfold oAdd at e
  split at e
  · cases r1; cases r2; cases e
    exact op_add pins s σ H _ _ v u Q I rx ry ⟨_, _, rfl, rfl, Pv.here q hw (.int _)⟩
  · cases r1; cases r2
    split at e
    · rename_i z
      cases e
      exact op_add_str pins s σ H _ _ v u Q I rx ry ⟨_, _, rfl, rfl, small_le z, Pv.here q hw (.str _)⟩
    · cases e
  · rename_i i j
    split at e
    · rename_i z
      cases e
      obtain ⟨a, vs, rfl, s1, q1⟩ := seqT_ok hw r1 (l := i) rfl
      obtain ⟨b, us, rfl, s2, q2⟩ := seqT_ok hw r2 (l := j) rfl
      refine op_catA pins s σ H _ _ v u Q I rx ry ⟨a, b, vs, us, rfl, rfl, s1, s2, by rw [q1.length, q2.length]; exact small_le z, fun e0 => ?_, fun _ e0 => ?_, fun _ _ p hp => Pv.tup q hw (q1.append q2) hp⟩
      · have e1 := (rvs_nil q1).mp e0
        subst e1
        exact Pv.here q hw r2
      · have e1 := (rvs_nil q2).mp e0
        subst e1
        rw [List.append_nil] at q
        exact Pv.here q hw r1
    · cases e
  · simp only [Option.bind_eq_some_iff] at e
    obtain ⟨i, e1, j, e2, e3⟩ := e
    split at e3
    · rename_i z
      cases e3
      obtain ⟨a, vs, rfl, s1, q1⟩ := catL_ok hw r1 e1
      obtain ⟨b, us, rfl, s2, q2⟩ := catL_ok hw r2 e2
      exact op_cat pins s σ H _ _ v u Q I rx ry ⟨a, b, vs, us, rfl, rfl, s1, s2, by rw [q1.length, q2.length]; exact small_le z, fun p hp => Pv.lst q hw (q1.append q2) hp⟩
    · cases e3
theorem od_sub : OD X (binaryOp .Sub) oSub := by
  intro pins s σ H x y v u Q I rx ry ⟨w, h, dx, dy, d, r1, r2, hw, e, q⟩
  unfold oSub at e
  split at e
  · cases r1; cases r2; cases e
    exact op_sub pins s σ H _ _ v u Q I rx ry ⟨_, _, rfl, rfl, Pv.here q hw (.int _)⟩
  · cases e
theorem op_mul_str {X : Cx} : OpR X (binaryOp .Mult) (fun x y H Q => ∃ (i : Str) (j : Int), x = .str i ∧ y = .int j ∧ -1000000 ≤ j ∧ j ≤ 1000000 ∧ i.length ≤ 1000000 ∧ i.length * j.toNat ≤ sizeLine ∧ (sRep i j).length ≤ sizeLine ∧ Q (.str (sRep i j)) H) := by
  intro pins s σ H x y v u Q I rx ry h
  obtain ⟨i, j, rfl, rfl, z1, z2, z3, z4, z5, q⟩ := h
  obtain ⟨t, rfl⟩ := rx
  obtain ⟨t', rfl⟩ := ry
  refine PySem.P.mul_str (by rw [decide_eq_false (by omega), decide_eq_false (by omega)]; rfl) (fun h1 h2 => ?_) (fun _ _ => ?_) ?_
  · have hj : 0 < j := by omega
    have h3 : (1000000 : Int) ≤ (2 ^ 63 - 1) / j := by
      rw [Int.le_ediv_iff_mul_le hj]
      omega
    omega
  · unfold Builtin.Str.tooLong
    exact decide_eq_false (by omega)
  · unfold sRep at z5 q
    split
    · rename_i c
      rw [if_pos c] at q
      exact ⟨by decide, .str _, H, I.tok _, ⟨_, rfl⟩, q⟩
    · rename_i c
      rw [if_neg c] at q z5
      split
      · rename_i c2
        rw [if_pos c2] at q
        exact ⟨.str _, H, I, ⟨_, rfl⟩, q⟩
      · rename_i c2
        rw [if_neg c2] at q z5
        exact ⟨z5, .str _, H, I.tok _, ⟨_, rfl⟩, q⟩
theorem od_mul : OD X (binaryOp .Mult) oMul := by
  intro pins s σ H x y v u Q I rx ry ⟨w, h, dx, dy, d, r1, r2, hw, e, q⟩
  unfold oMul at e
  split at e
  · cases r1; cases r2
    split at e
    · rename_i z
      cases e
      have z := of_decide_eq_true z
      exact op_mulW pins s σ H _ _ v u Q I rx ry ⟨_, _, rfl, rfl, z, Pv.here q hw (.int _)⟩
    · cases e
  · rename_i i j
    cases r2
    split at e
    · rename_i z
      cases e
      obtain ⟨z1, z2, z3, z4⟩ := of_decide_eq_true z
      obtain ⟨a, vs, rfl, s1, q1⟩ := seqT_ok hw r1 (l := i) rfl
      exact op_repT pins s σ H _ _ v u Q I rx ry ⟨a, j, vs, rfl, rfl, s1, fun e0 => z1 ((rvs_nil q1).mp e0), z2, z3, by rw [q1.length]; exact z4, fun p hp => Pv.tup q hw (rep_ok q1 _) hp⟩
    · cases e
  · rename_i x j
    cases r1; cases r2
    split at e
    · rename_i z
      cases e
      obtain ⟨z1, z2, z3, z4, z5⟩ := of_decide_eq_true z
      exact op_mul_str pins s σ H _ _ v u Q I rx ry ⟨_, _, rfl, rfl, z1, z2, z3, z4, z5, Pv.here q hw (.str _)⟩
    · cases e
  · rename_i j hx hy hz
    cases r2
    simp only [Option.bind_eq_some_iff] at e
    obtain ⟨i, e1, e3⟩ := e
    split at e3
    · rename_i z
      cases e3
      obtain ⟨z1, z2, z3⟩ := of_decide_eq_true z
      obtain ⟨a, vs, rfl, s1, q1⟩ := catL_ok hw r1 e1
      exact op_rep pins s σ H _ _ v u Q I rx ry ⟨a, j, vs, rfl, rfl, s1, z1, z2, by rw [q1.length]; exact z3, fun p hp => Pv.lst q hw (rep_ok q1 _) hp⟩
    · cases e3
  · cases e
theorem od_div : OD X (binaryOp .FloorDiv) oDiv := by
  intro pins s σ H x y v u Q I rx ry ⟨w, h, dx, dy, d, r1, r2, hw, e, q⟩
  unfold oDiv at e
  split at e
  · cases r1; cases r2
    split at e
    · rename_i z
      cases e
      have z := of_decide_eq_true z
      exact op_fdivW pins s σ H _ _ v u Q I rx ry ⟨_, _, rfl, rfl, z, Pv.here q hw (.int _)⟩
    · cases e
  · cases e
theorem od_mod : OD X (binaryOp .Mod) oMod := by
  intro pins s σ H x y v u Q I rx ry ⟨w, h, dx, dy, d, r1, r2, hw, e, q⟩
  unfold oMod at e
  split at e
  · cases r1; cases r2
    split at e
    · rename_i z
      cases e
      exact op_mod pins s σ H _ _ v u Q I rx ry ⟨_, _, rfl, rfl, of_decide_eq_true z, Pv.here q hw (.int _)⟩
    · cases e
  · cases e
theorem od_pow : OD X (binaryOp .Pow) oPow := by
  intro pins s σ H x y v u Q I rx ry ⟨w, h, dx, dy, d, r1, r2, hw, e, q⟩
  unfold oPow at e
  split at e
  · cases r1; cases r2
    split at e
    · rename_i z
      cases e
      have z := of_decide_eq_true z
      exact op_pow pins s σ H _ _ v u Q I rx ry ⟨_, _, rfl, rfl, z, Pv.here q hw (.int _)⟩
    · cases e
  · cases e
theorem od_cmpI {op : CmpOp} {p : Int → Int → Bool} {q : List Nat → List Nat → Bool} (h1 : OpR X (compareOp op) (rI0 fun i j => .bl (p i j)))
    (h2 : OpR X (compareOp op) (fun x y H Q => ∃ i j, x = .str i ∧ y = .str j ∧ Q (.bl (q i.cps.toList j.cps.toList)) H)) : OD X (compareOp op) (oCmpI p q) := by
  intro pins s σ H x y v u Q I rx ry ⟨w, h, dx, dy, d, r1, r2, hw, e, q⟩
  unfold oCmpI at e
  split at e
  · cases r1; cases r2; cases e
    exact h1 pins s σ H _ _ v u Q I rx ry ⟨_, _, rfl, rfl, Pv.here q hw (.bl _)⟩
  · cases r1; cases r2; cases e
    exact h2 pins s σ H _ _ v u Q I rx ry ⟨_, _, rfl, rfl, Pv.here q hw (.bl _)⟩
  · cases e
theorem od_lt : OD X (compareOp .Lt) oLt := od_cmpI op_lt op_lt_str
theorem od_le : OD X (compareOp .LtE) oLe := od_cmpI op_le op_le_str
theorem od_gt : OD X (compareOp .Gt) oGt := od_cmpI op_gt op_gt_str
theorem od_ge : OD X (compareOp .GtE) oGe := od_cmpI op_ge op_ge_str
theorem rvs_emp {K : PySem.W.Frag} {w : Wd} {vs : List V} {ds : List D} (r : RVs K w vs ds) : ds.isEmpty = vs.isEmpty := by cases r <;> rfl
theorem plainL_is {h : Heap} {a : Addr} {its : Array Value} (p : PlainL h a its) : h.IsList a its := by
  obtain ⟨o, n, e, hc, hd, hs⟩ := p
  exact ⟨o, e, hc, n, hs⟩
theorem tup_is {h : Heap} {a : Addr} {its : Array Value} (p : PyProof.Rows.IsTup h a its) : h.IsTuple a its := p
section
variable {pins : List (Addr × Obj)} {σ : L2.St} {H : Hp} {s : Shared} {a b : Addr} {vs : List V} {Q : VK}
theorem vals_nil {us : List Value} (r : Vals [] us) : us = [] := by cases r; rfl
theorem vals_emp {vs : List V} {us : List Value} (r : Vals vs us) : ((List.range (min us.toArray.size (#[] : Array Value).size)).all (fun _ => true) && us.toArray.size == (#[] : Array Value).size) = vs.isEmpty := by cases r <;> simp
theorem eEq_t0 (I : Inv X pins σ H s) (hu : X.A.units + 64 < cLine) (h1 : SqT X.K H a vs) (h2 : SqT X.K H b []) (q : Q (.bl vs.isEmpty) H) : wpAny (model X.prog X.w) X.A (compareOp .Eq (.ref a) (.ref b)) (EP X pins σ Q) X.xe s := by
  obtain ⟨us, r1, p1, _⟩ := I.tuple h1
  obtain ⟨ws, r2, p2, _⟩ := I.tuple h2
  cases vals_nil r2
  refine SeqAt.eq_tupleAt (items2 := #[]) (e := fun _ => true) (tup_is p1) (tup_is p2) (by omega) (fun j j1 j2 => absurd j2 (Nat.not_lt_zero j)) ?_
  rw [vals_emp r1]
  exact fin_bl I q rfl
theorem eNe_t0 (I : Inv X pins σ H s) (hu : X.A.units + 64 < cLine) (h1 : SqT X.K H a vs) (h2 : SqT X.K H b []) (q : Q (.bl (!vs.isEmpty)) H) : wpAny (model X.prog X.w) X.A (compareOp .NotEq (.ref a) (.ref b)) (EP X pins σ Q) X.xe s := by
  obtain ⟨us, r1, p1, _⟩ := I.tuple h1
  obtain ⟨ws, r2, p2, _⟩ := I.tuple h2
  cases vals_nil r2
  have z := SeqAt.RcNeAt.tuples (A := X.A) (items2 := #[]) (e := fun _ => true) (tup_is p1) (tup_is p2) (by omega) (fun j j1 j2 => absurd j2 (Nat.not_lt_zero j))
  refine z _ _ _ _ ?_
  rw [vals_emp r1]
  exact fin_bl I q rfl
theorem eEq_l0 (I : Inv X pins σ H s) (hu : X.A.units + 64 < cLine) (h1 : SqL X.K H a vs) (h2 : SqL X.K H b []) (q : Q (.bl vs.isEmpty) H) : wpAny (model X.prog X.w) X.A (compareOp .Eq (.ref a) (.ref b)) (EP X pins σ Q) X.xe s := by
  obtain ⟨us, r1, p1, _⟩ := I.list h1
  obtain ⟨ws, r2, p2, _⟩ := I.list h2
  cases vals_nil r2
  cases vs with
  | nil =>
    cases vals_nil r1
    refine SeqAt.eq_listAt (items2 := #[]) (e := fun _ => true) (plainL_is p1) (plainL_is p2) rfl (by omega) (fun j j1 j2 => absurd j2 (Nat.not_lt_zero j)) ?_
    exact fin_bl I q rfl
  | cons v vs =>
    refine SeqAt.eq_list_lengthsAt (plainL_is p1) (plainL_is p2) ?_ (by omega) (fin_bl I q rfl)
    cases r1
    simp
theorem eNe_l0 (I : Inv X pins σ H s) (hu : X.A.units + 64 < cLine) (h1 : SqL X.K H a vs) (h2 : SqL X.K H b []) (q : Q (.bl (!vs.isEmpty)) H) : wpAny (model X.prog X.w) X.A (compareOp .NotEq (.ref a) (.ref b)) (EP X pins σ Q) X.xe s := by
  obtain ⟨us, r1, p1, _⟩ := I.list h1
  obtain ⟨ws, r2, p2, _⟩ := I.list h2
  cases vals_nil r2
  cases vs with
  | nil =>
    cases vals_nil r1
    have z := SeqAt.RcNeAt.lists (A := X.A) (items2 := #[]) (e := fun _ => true) (plainL_is p1) (plainL_is p2) rfl (by omega) (fun j j1 j2 => absurd j2 (Nat.not_lt_zero j))
    exact z _ _ _ _ (fin_bl I q rfl)
  | cons v vs =>
    have z := SeqAt.RcNeAt.lists_lengths (A := X.A) (plainL_is p1) (plainL_is p2) (by cases r1; simp) (by omega)
    exact z _ _ _ _ (fin_bl I q rfl)
end
theorem od_eq (hu : X.A.units + 64 < cLine) : OD X (compareOp .Eq) oEq := by
  intro pins s σ H x y v u Q I rx ry ⟨w, h, dx, dy, d, r1, r2, hw, e, q⟩
  unfold oEq at e
  split at e
  · rename_i a b
    cases e
    cases r1; cases r2
    exact op_eq pins s σ H _ _ v u Q I rx ry ⟨rfl, by rw [dec_str]; exact Pv.here q hw (.bl _)⟩
  · rename_i l
    cases e
    obtain ⟨a, vs, rfl, s1, q1⟩ := seqT_ok hw r1 (l := l) rfl
    obtain ⟨b, us, rfl, s2, q2⟩ := seqT_ok hw r2 (l := []) rfl
    cases q2
    cases rx; cases ry
    exact eEq_t0 I hu s1 s2 (by rw [← rvs_emp q1]; exact Pv.here q hw (.bl _))
  · rename_i l
    cases e
    obtain ⟨a, vs, rfl, s1, q1⟩ := seqL_ok hw r1 (l := l) rfl
    obtain ⟨b, us, rfl, s2, q2⟩ := seqL_ok hw r2 (l := []) rfl
    cases q2
    cases rx; cases ry
    exact eEq_l0 I hu s1 s2 (by rw [← rvs_emp q1]; exact Pv.here q hw (.bl _))
  · rename_i l
    cases e
    obtain ⟨a, vs, rfl, s1, q1⟩ := seqL_ok hw r1 (l := l) rfl
    obtain ⟨b, us, rfl, s2, q2⟩ := seqL_ok hw r2 (l := []) rfl
    cases q2
    cases rx; cases ry
    exact eEq_l0 I hu s1 s2 (by rw [← rvs_emp q1]; exact Pv.here q hw (.bl _))
  · rename_i n
    simp only [Option.map_eq_some_iff] at e
    obtain ⟨l, e1, rfl⟩ := e
    obtain ⟨a, vs, rfl, s1, q1⟩ := seqL_ok hw r1 e1
    obtain ⟨b, us, rfl, s2, q2⟩ := seqL_ok hw r2 (l := []) rfl
    cases q2
    cases rx; cases ry
    exact eEq_l0 I hu s1 s2 (by rw [← rvs_emp q1]; exact Pv.here q hw (.bl _))
  · simp only [Option.bind_eq_some_iff] at e
    obtain ⟨i, e1, j, e2, e3⟩ := e
    split at e3
    · rename_i z
      cases e3
      rw [Bool.and_eq_true] at z
      exact op_eqD hu pins s σ H _ _ v u Q I rx ry ⟨i, j, py_ok hw r1 e1, py_ok hw r2 e2, z.1, z.2, Pv.here q hw (.bl _)⟩
    · cases e3
theorem od_ne (hu : X.A.units + 64 < cLine) : OD X (compareOp .NotEq) oNe := by
  intro pins s σ H x y v u Q I rx ry ⟨w, h, dx, dy, d, r1, r2, hw, e, q⟩
  unfold oNe at e
  split at e
  · rename_i a b
    cases e
    cases r1; cases r2
    exact op_ne pins s σ H _ _ v u Q I rx ry ⟨rfl, by rw [dec_str]; exact Pv.here q hw (.bl _)⟩
  · rename_i l
    cases e
    obtain ⟨a, vs, rfl, s1, q1⟩ := seqT_ok hw r1 (l := l) rfl
    obtain ⟨b, us, rfl, s2, q2⟩ := seqT_ok hw r2 (l := []) rfl
    cases q2
    cases rx; cases ry
    exact eNe_t0 I hu s1 s2 (by rw [← rvs_emp q1]; exact Pv.here q hw (.bl _))
  · rename_i l
    cases e
    obtain ⟨a, vs, rfl, s1, q1⟩ := seqL_ok hw r1 (l := l) rfl
    obtain ⟨b, us, rfl, s2, q2⟩ := seqL_ok hw r2 (l := []) rfl
    cases q2
    cases rx; cases ry
    exact eNe_l0 I hu s1 s2 (by rw [← rvs_emp q1]; exact Pv.here q hw (.bl _))
  · rename_i l
    cases e
    obtain ⟨a, vs, rfl, s1, q1⟩ := seqL_ok hw r1 (l := l) rfl
    obtain ⟨b, us, rfl, s2, q2⟩ := seqL_ok hw r2 (l := []) rfl
    cases q2
    cases rx; cases ry
    exact eNe_l0 I hu s1 s2 (by rw [← rvs_emp q1]; exact Pv.here q hw (.bl _))
  · rename_i n
    simp only [Option.map_eq_some_iff] at e
    obtain ⟨l, e1, rfl⟩ := e
    obtain ⟨a, vs, rfl, s1, q1⟩ := seqL_ok hw r1 e1
    obtain ⟨b, us, rfl, s2, q2⟩ := seqL_ok hw r2 (l := []) rfl
    cases q2
    cases rx; cases ry
    exact eNe_l0 I hu s1 s2 (by rw [← rvs_emp q1]; exact Pv.here q hw (.bl _))
  · simp only [Option.bind_eq_some_iff] at e
    obtain ⟨i, e1, j, e2, e3⟩ := e
    split at e3
    · rename_i z
      cases e3
      rw [Bool.and_eq_true] at z
      exact op_neD hu pins s σ H _ _ v u Q I rx ry ⟨i, j, py_ok hw r1 e1, py_ok hw r2 e2, z.1, z.2, Pv.here q hw (.bl _)⟩
    · cases e3
theorem flatOf_ok {K : PySem.W.Frag} {w : Wd} {x : V} {d : D} {v : V} (r : RV K w x d) (e : isIn.flatOf d = some v) : x = v ∧ flatV x = true := by
  cases r <;> (unfold isIn.flatOf at e; cases e) <;> exact ⟨rfl, rfl⟩
theorem flatsOf_ok {K : PySem.W.Frag} {w : Wd} : ∀ {xs : List V} {ds : List D} {vs : List V}, RVs K w xs ds → isIn.flatsOf ds = some vs → xs = vs ∧ xs.all flatV = true
  | _, _, _, .nil, e => by cases e; exact ⟨rfl, rfl⟩
  | _, _, _, .cons r rs, e => by
    simp only [isIn.flatsOf, Option.bind_eq_some_iff, Option.map_eq_some_iff] at e
    obtain ⟨v, e1, vs, e2, rfl⟩ := e
    obtain ⟨a, b⟩ := flatOf_ok r e1
    obtain ⟨c, d⟩ := flatsOf_ok rs e2
    refine ⟨by rw [a, c], ?_⟩
    rw [List.all_cons, b, d]; rfl
theorem one_sign {i : Str} (e : i.cps.size = 1) : i = ⟨#[i.cps.getD 0 0]⟩ := by
  obtain ⟨c⟩ := i
  have e' : c.size = 1 := e
  congr 1
  apply Array.ext
  · simp [e']
  · intro k h1 h2
    have : k = 0 := by omega
    subst this
    simp [Array.getD, h1]
theorem od_in (hu : X.A.units + 65 < cLine) : OD X (compareOp .In) oIn := by
  intro pins s σ H x y v u Q I rx ry ⟨w, h, dx, dy, d, r1, r2, hw, e, q⟩
  unfold oIn at e
  simp only [Option.map_eq_some_iff] at e
  obtain ⟨b, e, rfl⟩ := e
  unfold isIn at e
  split at e
  · rename_i i j
    cases r1; cases r2
    split at e
    · rename_i z
      cases e
      have o := one_sign (of_decide_eq_true z)
      refine op_in_sign pins s σ H _ _ v u Q I rx ry ⟨i.cps.getD 0 0, j, by rw [← o], rfl, Pv.here q hw (.bl _)⟩
    · cases e
      exact op_in_str pins s σ H _ _ v u Q I rx ry ⟨i, j, rfl, rfl, Pv.here q hw (.bl _)⟩
  · simp only [Option.bind_eq_some_iff, Option.map_eq_some_iff] at e
    obtain ⟨a, e1, vs, e2, rfl⟩ := e
    obtain ⟨p, us, rfl, s1, q1⟩ := seqT_ok hw r2 rfl
    obtain ⟨c1, c2⟩ := flatOf_ok r1 e1
    obtain ⟨c3, c4⟩ := flatsOf_ok q1 e2
    subst c1 c3
    exact op_in_seq pins s σ H _ _ v u Q I rx ry ⟨p, us, rfl, .inr s1, c2, c4, Pv.here q hw (.bl _)⟩
  · simp only [Option.bind_eq_some_iff] at e
    obtain ⟨p, e1, p2, e2, e3⟩ := e
    split at e3
    · rename_i ds
      split at e3
      · rename_i z
        cases e3
        rw [Bool.and_eq_true] at z
        exact op_inD hu pins s σ H _ _ v u Q I rx ry ⟨p, ds, py_ok hw r1 e1, py_ok hw r2 e2, z.1, z.2, Pv.here q hw (.bl _)⟩
      · cases e3
    · cases e3
theorem od_notIn (hu : X.A.units + 65 < cLine) : OD X (compareOp .NotIn) oNotIn := by
  intro pins s σ H x y v u Q I rx ry ⟨w, h, dx, dy, d, r1, r2, hw, e, q⟩
  unfold oNotIn at e
  simp only [Option.map_eq_some_iff] at e
  obtain ⟨b, e, rfl⟩ := e
  unfold isIn at e
  split at e
  · rename_i i j
    cases r1; cases r2
    split at e
    · rename_i z
      cases e
      have o := one_sign (of_decide_eq_true z)
      refine op_notIn_sign pins s σ H _ _ v u Q I rx ry ⟨i.cps.getD 0 0, j, by rw [← o], rfl, Pv.here q hw (.bl _)⟩
    · cases e
      exact L2.op_notIn_str pins s σ H _ _ v u Q I rx ry ⟨i, j, rfl, rfl, Pv.here q hw (.bl _)⟩
  · simp only [Option.bind_eq_some_iff, Option.map_eq_some_iff] at e
    obtain ⟨a, e1, vs, e2, rfl⟩ := e
    obtain ⟨p, us, rfl, s1, q1⟩ := seqT_ok hw r2 rfl
    obtain ⟨c1, c2⟩ := flatOf_ok r1 e1
    obtain ⟨c3, c4⟩ := flatsOf_ok q1 e2
    subst c1 c3
    exact op_notIn_seq pins s σ H _ _ v u Q I rx ry ⟨p, us, rfl, .inr s1, c2, c4, Pv.here q hw (.bl _)⟩
  · simp only [Option.bind_eq_some_iff] at e
    obtain ⟨p, e1, p2, e2, e3⟩ := e
    split at e3
    · rename_i ds
      split at e3
      · rename_i z
        cases e3
        rw [Bool.and_eq_true] at z
        exact op_notInD hu pins s σ H _ _ v u Q I rx ry ⟨p, ds, py_ok hw r1 e1, py_ok hw r2 e2, z.1, z.2, Pv.here q hw (.bl _)⟩
      · cases e3
    · cases e3
theorem is_none_rv {K : PySem.W.Frag} {w : Wd} {x : V} {d : D} {b : Bool} (r : RV K w x d) (e : (match d with
    | .non => some (D.bl true)
    | .st _ => none
    | _ => some (.bl false)) = some (.bl b)) : decide (x = V.non) = b := by
  cases r <;> (simp at e; try subst e) <;> simp
theorem od_is : OD X (compareOp .Is) oIs := by
  intro pins s σ H x y v u Q I rx ry ⟨w, h, dx, dy, d, r1, r2, hw, e, q⟩
  unfold oIs at e
  split at e
  · cases r2
    have hb : ∃ b, d = .bl b := by
      split at e <;> cases e <;> exact ⟨_, rfl⟩
    obtain ⟨b, rfl⟩ := hb
    have e' := is_none_rv r1 e
    refine op_isN pins s σ H _ _ v u Q I rx ry ⟨rfl, ?_⟩
    rw [e']
    exact Pv.here q hw (.bl _)
  · cases r1; cases r2; cases e
    exact op_isBl pins s σ H _ _ v u Q I rx ry ⟨_, _, rfl, rfl, Pv.here q hw (.bl _)⟩
  · cases e
theorem od_isNot : OD X (compareOp .IsNot) oIsNot := by
  intro pins s σ H x y v u Q I rx ry ⟨w, h, dx, dy, d, r1, r2, hw, e, q⟩
  unfold oIsNot at e
  split at e
  · rename_i b e0
    cases e
    unfold oIs at e0
    split at e0
    · cases r2
      have e' := is_none_rv r1 e0
      refine op_notN pins s σ H _ _ v u Q I rx ry ⟨rfl, ?_⟩
      rw [e']
      exact Pv.here q hw (.bl _)
    · cases r1; cases r2; cases e0
      exact op_notBl pins s σ H _ _ v u Q I rx ry ⟨_, _, rfl, rfl, Pv.here q hw (.bl _)⟩
    · cases e0
  · cases e
end
end DN
namespace DN
open PySem L2

/-! ### repr -/
def pyKey : Key → PyData
  | .inl i => .int i
  | .inr s => .str s
mutual
/-- data without changing parts -/
def pyF : D → Option PyData
  | .non => some .none
  | .bl b => some (.bool b)
  | .int i => some (.int i)
  | .str s => some (.str s)
  | .tup l => (pyFs l).map .tuple
  | .lst l => (pyFs l).map .list
  | .dct l => (pyFk l).map .dict
  | _ => none
def pyFs : List D → Option (List PyData)
  | [] => some []
  | d :: ds => (pyF d).bind fun p => (pyFs ds).map (p :: ·)
def pyFk : List (Key × D) → Option (List (PyData × PyData))
  | [] => some []
  | (k, d) :: r => (pyF d).bind fun p => (pyFk r).map ((pyKey k, p) :: ·)
end
/-- data that may be shown -/
def pyR (h : LH) (d : D) : Option PyData := match py h d with
  | some p => some p
  | none => pyF d

section
variable {X : Cx} {w : Wd} {H : Hp} {h : LH} {pins : List (Addr × Obj)} {σ : St} {s : Shared}
theorem key_reads (g : Heap) {k : Key} {u : Value} (e : (mixKind X.prog X.w).is k u = true) : Reads g u (pyKey k) [] := by
  rw [mixKind_is] at e
  rcases keyIs_shape e with ⟨i, t, rfl, rfl⟩ | ⟨x, t, rfl, rfl⟩
  · exact .int _ _
  · exact .str _ _
theorem keys_read (g : Heap) : ∀ {es : List DictEntry} {kvs : List (Key × Value)} {vs : List (Key × V)} {ps : List (PyData × PyData)} {ds : List (Key × D)},
    Pairs (mixKind X.prog X.w) es kvs → KV vs kvs → RKs X.K w vs ds → pyFk ds = some ps → ReadsAll g (es.map (·.key)) (ps.map (·.1)) []
  | es, kvs, vs, ps, [], hp, hk, hr, e => by
    cases hr
    cases hk
    cases hp
    cases e
    exact .nil
  | es, kvs, vs, ps, (k, d) :: ds, hp, hk, hr, e => by
    cases hr with
    | cons q qs =>
      cases hk with
      | cons k1 k2 =>
        cases hp with
        | cons h1 h2 r =>
          simp only [pyFk, Option.bind_eq_some_iff, Option.map_eq_some_iff] at e
          obtain ⟨p, e1, ps, e2, rfl⟩ := e
          obtain ⟨k11, k12⟩ := k1
          dsimp only at k11 k12
          rw [← k11] at h1
          exact ReadsAll.cons (as := []) (key_reads g h1) (keys_read g r k2 qs e2)
theorem vals_of : ∀ {es : List DictEntry} {kvs : List (Key × Value)}, Pairs (mixKind X.prog X.w) es kvs → es.map (·.val) = kvs.map (·.2)
  | _, _, .nil => rfl
  | _, _, .cons h1 h2 r => by simp [h2, vals_of r]
theorem kv_vals : ∀ {kvs : List (Key × Value)} {vs : List (Key × V)}, KV vs kvs → Vals (vs.map (·.2)) (kvs.map (·.2))
  | _, _, .nil => .nil
  | _, _, .cons h r => .cons h.2 (kv_vals r)
theorem HW.ne_sm (hw : HW X.K w H h) {a : Addr} {o : HO} (e : H a = some o) (hn : ∀ u x, o ≠ .frz u x) : a ≠ sysModules := by
  rintro rfl
  obtain ⟨u, x, z⟩ := hw.sm
  have := hw.fz _ _ z
  rw [e] at this
  exact hn u x (Option.some.inj this)
mutual
theorem pyF_reads (I : Inv X pins σ H s) (hw : HW X.K w H h) : ∀ (d : D) (v : V) (u : Value) (p : PyData), RV X.K w v d → RelV v u → pyF d = some p → ∃ as, Reads s.heap u p as ∧ sysModules ∉ as
  | .non, v, u, p, r, ru, e => by cases r; cases e; cases ru; exact ⟨[], .none, by simp⟩
  | .bl b, v, u, p, r, ru, e => by cases r; cases e; cases ru; exact ⟨[], .bool _, by simp⟩
  | .int i, v, u, p, r, ru, e => by cases r; cases e; obtain ⟨t, rfl⟩ := ru; exact ⟨[], .int _ _, by simp⟩
  | .str x, v, u, p, r, ru, e => by cases r; cases e; obtain ⟨t, rfl⟩ := ru; exact ⟨[], .str _ _, by simp⟩
  | .tup l, v, u, p, r, ru, e => by
    cases r with
    | tup q r =>
      simp only [pyF, Option.map_eq_some_iff] at e
      obtain ⟨ps, e1, rfl⟩ := e
      cases ru
      obtain ⟨its, rv, ⟨o, ho, hc, n, hd⟩, _⟩ := I.tuple (q.elim (fun z => Or.inl (Or.inl (hw.fz _ _ z))) Or.inr : SqT X.K H _ _)
      obtain ⟨as, a1, a2⟩ := pyFs_reads I hw l _ _ _ r rv e1
      exact ⟨as, Reads.tuple ho hc hd a1, a2⟩
  | .lst l, v, u, p, r, ru, e => by
    cases r with
    | lst q r =>
      simp only [pyF, Option.map_eq_some_iff] at e
      obtain ⟨ps, e1, rfl⟩ := e
      cases ru
      obtain ⟨its, rv, ⟨o, n, ho, hc, _, hd⟩, _⟩ := I.list (Or.inl (Or.inl (hw.fz _ _ q)) : SqL X.K H _ _)
      obtain ⟨as, a1, a2⟩ := pyFs_reads I hw l _ _ _ r rv e1
      refine ⟨_, Reads.list ho hc hd a1, ?_⟩
      have := hw.ne_sm (hw.fz _ _ q) (fun _ _ z => by cases z)
      simp [a2]
      exact fun z => this z.symm
  | .dct l, v, u, p, r, ru, e => by
    cases r with
    | dct q r =>
      simp only [pyF, Option.map_eq_some_iff] at e
      obtain ⟨ps, e1, rfl⟩ := e
      cases ru
      obtain ⟨_, sm, kvs, kv, o, es, ep, h1, h2, h3, _, h5, _⟩ := I.hok _ _ (hw.fz _ _ q)
      obtain ⟨as, a1, a2⟩ := pyFk_reads I hw l _ _ _ r (kv_vals kv) e1
      have b1 := keys_read (X := X) s.heap h5 kv r e1
      rw [← vals_of h5] at a1
      refine ⟨_, Reads.dict h1 h2.1 h3 b1 a1, ?_⟩
      simp [a2]
      exact fun e => by rw [← e] at sm; simp at sm
  | .kst l, v, u, p, r, ru, e => by simp [pyF] at e
  | .ref l, v, u, p, r, ru, e => by simp [pyF] at e
  | .st l, v, u, p, r, ru, e => by simp [pyF] at e
theorem pyFs_reads (I : Inv X pins σ H s) (hw : HW X.K w H h) : ∀ (ds : List D) (vs : List V) (us : List Value) (ps : List PyData), RVs X.K w vs ds → Vals vs us → pyFs ds = some ps → ∃ as, ReadsAll s.heap us ps as ∧ sysModules ∉ as
  | [], _, _, _, hr, hv, e => by
    cases hr
    cases hv
    cases e
    exact ⟨[], .nil, by simp⟩
  | d :: ds, _, _, _, hr, hv, e => by
    cases hr with
    | cons r rs =>
      cases hv with
      | cons ru rus =>
        simp only [pyFs, Option.bind_eq_some_iff, Option.map_eq_some_iff] at e
        obtain ⟨p, e1, ps, e2, rfl⟩ := e
        obtain ⟨bs, b1, b2⟩ := pyFs_reads I hw ds _ _ _ rs rus e2
        obtain ⟨as, a1, a2⟩ := pyF_reads I hw d _ _ _ r ru e1
        exact ⟨as ++ bs, .cons a1 b1, by simp [a2, b2]⟩
theorem pyFk_reads (I : Inv X pins σ H s) (hw : HW X.K w H h) : ∀ (ds : List (Key × D)) (vs : List (Key × V)) (us : List Value) (ps : List (PyData × PyData)), RKs X.K w vs ds → Vals (vs.map (·.2)) us → pyFk ds = some ps → ∃ as, ReadsAll s.heap us (ps.map (·.2)) as ∧ sysModules ∉ as
  | [], _, _, _, hr, hv, e => by
    cases hr
    cases hv
    cases e
    exact ⟨[], .nil, by simp⟩
  | (k, d) :: ds, _, _, _, hr, hv, e => by
    cases hr with
    | cons r rs =>
      cases hv with
      | cons ru rus =>
        simp only [pyFk, Option.bind_eq_some_iff, Option.map_eq_some_iff] at e
        obtain ⟨p, e1, ps, e2, rfl⟩ := e
        obtain ⟨bs, b1, b2⟩ := pyFk_reads I hw ds _ _ _ rs rus e2
        obtain ⟨as, a1, a2⟩ := pyF_reads I hw d _ _ _ r ru e1
        exact ⟨as ++ bs, .cons a1 b1, by simp [a2, b2]⟩
end
mutual
theorem py_nodict {g : Nat → Option PyData} (hg : ∀ n p, g n = some p → p.hasDict = false) : ∀ {d : D} {p : PyData}, pyG g d = some p → p.hasDict = false
  | .non, _, e => by simp [pyG] at e; subst e; rfl
  | .bl _, _, e => by simp [pyG] at e; subst e; rfl
  | .int _, _, e => by simp [pyG] at e; subst e; rfl
  | .str _, _, e => by simp [pyG] at e; subst e; rfl
  | .tup l, _, e => by
    simp only [pyG, Option.map_eq_some_iff] at e
    obtain ⟨ps, e1, rfl⟩ := e
    simp only [PyData.hasDict, pys_nodict hg e1]
  | .lst l, _, e => by
    simp only [pyG, Option.map_eq_some_iff] at e
    obtain ⟨ps, e1, rfl⟩ := e
    simp only [PyData.hasDict, pys_nodict hg e1]
  | .kst l, _, e => by
    simp only [pyG, Option.map_eq_some_iff] at e
    obtain ⟨ps, e1, rfl⟩ := e
    simp only [PyData.hasDict, pys_nodict hg e1]
  | .dct _, _, e => by simp [pyG] at e
  | .ref n, _, e => hg n _ (by simpa only [pyG] using e)
  | .st _, _, e => by simp [pyG] at e
theorem pys_nodict {g : Nat → Option PyData} (hg : ∀ n p, g n = some p → p.hasDict = false) : ∀ {d : List D} {p : List PyData}, pyGs g d = some p → PyData.hasDictAll p = false
  | [], _, e => by simp [pyGs] at e; subst e; rfl
  | d :: ds, _, e => by
    simp only [pyGs, Option.bind_eq_some_iff, Option.map_eq_some_iff] at e
    obtain ⟨p, e1, ps, e2, rfl⟩ := e
    simp only [PyData.hasDictAll, py_nodict hg e1, pys_nodict hg e2, Bool.or_self]
end
theorem pyN_nodict (h : LH) : ∀ (m n : Nat) (p : PyData), pyN m h n = some p → p.hasDict = false
  | 0, _, _, e => by cases e
  | m + 1, n, p, e => by
    unfold pyN at e
    split at e
    · simp only [Option.map_eq_some_iff] at e
      obtain ⟨ps, e1, rfl⟩ := e
      simp only [PyData.hasDict, pys_nodict (pyN_nodict h m) e1]
    · cases e
theorem py_reads (I : Inv X pins σ H s) (hw : HW X.K w H h) {d : D} {v : V} {u : Value} {p : PyData} (r : RV X.K w v d) (ru : RelV v u) (e : py h d = some p) : ∃ as, Reads s.heap u p as ∧ (p.hasDict = true → sysModules ∉ as) := by
  obtain ⟨as, z⟩ := Dp.reads I p v u (py_ok hw r e) ru
  exact ⟨as, z, PyData.noDict_hsm (py_nodict (pyN_nodict h 6) e)⟩
theorem pyR_reads (I : Inv X pins σ H s) (hw : HW X.K w H h) {d : D} {v : V} {u : Value} {p : PyData} (r : RV X.K w v d) (ru : RelV v u) (e : pyR h d = some p) : ∃ as, Reads s.heap u p as ∧ (p.hasDict = true → sysModules ∉ as) := by
  unfold pyR at e
  split at e
  · rename_i p' e'
    cases e
    exact py_reads I hw r ru e'
  · obtain ⟨as, a, b⟩ := pyF_reads I hw _ _ _ _ r ru e
    exact ⟨as, a, fun _ => b⟩
/-- what repr shows -/
def showD (h : LH) (d : D) : Option Str := (pyR h d).bind fun p => if (p.showable && decide (p.depth ≤ 600) && small p.shown.length) = true then some p.shown else none

/-! ### builtin functions by their arguments -/
abbrev OC := LH → List D → Option D
def rC (K : PySem.W.Frag) (g : OC) : List V → Hp → VK → Prop := fun vs H Q => ∃ w h ds d, RVs K w vs ds ∧ HW K w H h ∧ g h ds = some d ∧ Pv K w Q d h
def OCD (X : Cx) (f : Value) (g : OC) : Prop := CallR X f (rC X.K g)
def mCall (g : OC) (m : AM) : EM := fun s h => (m s h).bind fun l h1 => match g h1 l with
  | some d => .ok d h1
  | none => .no
theorem te_call {K : PySem.W.Frag} {W : WX} {g : OC} {m : AM} {σ : St} {H : Hp} {Q : VK} (q : TE_ K W (mCall g m) σ H Q) : tCB (rC K g) (TA_ K W m) σ H Q := by
  obtain ⟨w, s, h, rs, hw, q⟩ := q
  refine ⟨w, s, h, rs, hw, WpA.bind (G := WpE K w Q _) q (fun _ _ z => z) (fun z => z) fun x h1 w1 v H1 l1 rx hw1 q1 => ?_⟩
  split at q1
  · rename_i d e
    exact ⟨w1, h1, x, d, rx, hw1, e, fun w3 z H3 l3 => q1 w3 z H3 (l1.trans l3)⟩
  · exact q1.elim
section
variable {W : WX} {x : Str} {p pos : Pos} {e : Expr} {es : List Expr} {m : AM} {id T : String} {g : OC}
theorem d_callB (hc : OCD X (.builtin id) g) (hg : Gl X x) (hm : X.mg x = none) (hv : bootBuiltins x = some (.builtin id)) (ha : DA X W (e :: es) m) (hn : x ≠ "__name__" := by decide) (hdb : (x == ("__debug__" : Str)) = false := by decide)
    (he : starEach (e :: es) X.env = (false, eval e X.env) :: starEach es X.env := by rfl) (hpl : (backTo pos (starEach es X.env)).any (·.1) = false := by rfl) : DE X W (.Call (.Name x p) (e :: es) [] pos) (mCall g m) :=
  PE.imp (pe_callB hc hg hm hv ha hn hdb he hpl) fun _ _ _ q => te_call q
theorem d_callTy (hc : OCD X (.type T) g) (hg : Gl X x) (hm : X.mg x = none) (hv : bootBuiltins x = some (.type T)) (ha : DA X W (e :: es) m) (hn : x ≠ "__name__" := by decide) (hdb : (x == ("__debug__" : Str)) = false := by decide)
    (he : starEach (e :: es) X.env = (false, eval e X.env) :: starEach es X.env := by rfl) (hpl : (backTo pos (starEach es X.env)).any (·.1) = false := by rfl) : DE X W (.Call (.Name x p) (e :: es) [] pos) (mCall g m) :=
  PE.imp (pe_callTy hc hg hm hv ha hn hdb he hpl) fun _ _ _ q => te_call q
end
theorem rv1 {K : PySem.W.Frag} {vs : List V} {d : D} (r : RVs K w vs [d]) : ∃ v, vs = [v] ∧ RV K w v d := by
  cases r with
  | cons r rs => cases rs; exact ⟨_, rfl, r⟩
theorem rv2 {K : PySem.W.Frag} {vs : List V} {d e : D} (r : RVs K w vs [d, e]) : ∃ v u, vs = [v, u] ∧ RV K w v d ∧ RV K w u e := by
  cases r with
  | cons r rs =>
    obtain ⟨u, rfl, q⟩ := rv1 rs
    exact ⟨_, _, rfl, r, q⟩
/-- repr(x) -/
def cRepr : OC := fun h ds => match ds with
  | [d] => (showD h d).map .str
  | _ => none
theorem oc_repr (hu : X.A.units + 700 < cLine) (hg : X.A.guards = some []) : OCD X (.builtin "repr") cRepr := by
  intro pins s σ H vs us Q I r ⟨w, h, ds, d, rd, hw, e, q⟩
  unfold cRepr at e
  split at e
  · rename_i d0
    obtain ⟨v, rfl, rv⟩ := rv1 rd
    obtain ⟨u, rfl, ru⟩ := vals1 r
    simp only [Option.map_eq_some_iff, showD, Option.bind_eq_some_iff] at e
    obtain ⟨t, ⟨p, e1, e2⟩, rfl⟩ := e
    split at e2
    · rename_i z
      cases e2
      simp only [Bool.and_eq_true, decide_eq_true_eq] at z
      obtain ⟨⟨z1, z2⟩, z3⟩ := z
      have z3 := small_le z3
      obtain ⟨as, rd, sm⟩ := pyR_reads I hw rv ru e1
      have fin := Pv.here q hw (.str p.shown)
      cases rd with
      | none => exact PySem.P.repr_of_none ⟨.str _, H, I.tok _, ⟨_, rfl⟩, by simpa only [PyData.shown] using fin⟩
      | bool b => exact PySem.P.repr_of_bool ⟨.str _, H, I.tok _, ⟨_, rfl⟩, by simpa only [PyData.shown] using fin⟩
      | int i t => exact PySem.P.repr_of_int (by simpa [PyData.showable] using z1) ⟨.str _, H, I.tok _, ⟨_, rfl⟩, by simpa only [PyData.shown] using fin⟩
      | str x t => exact PySem.P.repr_of_str ⟨.str _, H, I.tok _, ⟨_, rfl⟩, by simpa only [PyData.shown] using fin⟩ (by simpa only [PyData.shown] using z3)
      | list a b c k => exact repr_of_reads' (.list a b c k) z1 sm hg (by omega) (fun _ _ e => e) (fun h' u tk hk => ⟨.str _, H, I.kept hk, ⟨_, rfl⟩, fin⟩) z3
      | tuple a b c k => exact repr_of_reads' (.tuple a b c k) z1 sm hg (by omega) (fun _ _ e => e) (fun h' u tk hk => ⟨.str _, H, I.kept hk, ⟨_, rfl⟩, fin⟩) z3
      | dict a b c k l => exact repr_of_reads' (.dict a b c k l) z1 sm hg (by omega) (fun _ _ e => e) (fun h' u tk hk => ⟨.str _, H, I.kept hk, ⟨_, rfl⟩, fin⟩) z3
    · cases e2
  · cases e
end
end DN
namespace DN
open PySem L2

theorem RVs.toVals {K : PySem.W.Frag} {w : Wd} {f : D → Option V} (hf : ∀ d v x, RV K w x d → f d = some v → x = v) : ∀ {vs : List V} {ds : List D} {ys : List V}, RVs K w vs ds → ds.mapM f = some ys → vs = ys
  | vs, [], ys, h, e => by
    cases h
    simp at e
    exact e.symm ▸ rfl
  | vs, d :: ds, ys, h, e => by
    cases h with
    | cons r rs =>
      simp only [List.mapM_cons, Option.bind_eq_bind, Option.bind_eq_some_iff] at e
      obtain ⟨y, e1, zs, e2, e3⟩ := e
      cases e3
      rw [hf _ _ _ r e1, RVs.toVals hf rs e2]

/-! ### a[i] -/
def oIx : O2 := fun h x y => match y with
  | .int i => match x with
    | .str z => if small z.length = true then (atI z.cps.toList i).map fun c => .str ⟨#[c]⟩ else none
    | .tup l => atI l i
    | x => (seqL h x).bind fun l => atI l i
  | _ => none
theorem atI_rv {K : PySem.W.Frag} {w : Wd} {vs : List V} {ds : List D} {i : Int} {d : D} (r : RVs K w vs ds) (e : atI ds i = some d) : ∃ v, atI vs i = some v ∧ RV K w v d := by
  unfold atI at e ⊢
  rw [r.length]
  simp only [Option.bind_eq_some_iff] at e
  obtain ⟨j, e1, e2⟩ := e
  obtain ⟨v, h1, h2⟩ := r.get e2
  exact ⟨v, by rw [e1]; exact h1, h2⟩
section
variable {X : Cx} {W : WX}
theorem ix_d : IxR X (rO X.K oIx) := by
  intro value slice pins s σ H x y v u Q I rx ry ⟨w, h, dx, dy, d, r1, r2, hw, e, q⟩ hs
  unfold oIx at e
  split at e
  · cases r2
    rename_i i
    split at e
    · cases r1
      split at e
      · rename_i z
        simp only [Option.map_eq_some_iff] at e
        obtain ⟨c, e1, rfl⟩ := e
        exact ix_str value slice pins s σ H _ _ v u Q I rx ry ⟨_, i, c, rfl, rfl, small_le z, e1, Pv.here q hw (.str _)⟩ hs
      · cases e
    · obtain ⟨a, vs, rfl, s1, q1⟩ := seqT_ok hw r1 rfl
      obtain ⟨z, z1, z2⟩ := atI_rv q1 e
      exact ix_tup value slice pins s σ H _ _ v u Q I rx ry ⟨a, vs, i, z, rfl, rfl, s1, z1, Pv.here q hw z2⟩ hs
    · simp only [Option.bind_eq_some_iff] at e
      obtain ⟨l, e1, e2⟩ := e
      obtain ⟨a, vs, rfl, s1, q1⟩ := seqL_ok hw r1 e1
      obtain ⟨z, z1, z2⟩ := atI_rv q1 e2
      exact ix_list value slice pins s σ H _ _ v u Q I rx ry ⟨a, vs, i, z, rfl, rfl, s1, z1, Pv.here q hw z2⟩ hs
  · cases e
variable {a b e : Expr} {ma mb me : EM} {pos p2 : Pos}
theorem d_ix (ha : DE X W a ma) (hb : DE X W b mb) (hs : PlainIx b := by exact fun _ _ => rfl) : DE X W (.Subscript a b pos) (mOp oIx ma mb) := PE.imp (pe_ix ix_d ha hb hs) fun _ _ _ q => te_op q

/-! ### a[lo:hi] -/
abbrev OM := Sg → LH → R (Option Int)
def WpO (K : PySem.W.Frag) (w : Wd) (Q : Option Int → Hp → Prop) (W : XK) : R (Option Int) → Prop
  | .ok d h => ∀ w' H', w.le w' → HW K w' H' h → Q d H'
  | .ex x h => Px K w W x h
  | .no => False
def TO_ (K : PySem.W.Frag) (W : WX) (m : OM) : TO := fun σ H Q => ∃ w s h, RS K w σ s ∧ HW K w H h ∧ WpO K w Q (fun c d H => W c d σ H) (m s h)
def DO (X : Cx) (W : WX) (e : Option Expr) (m : OM) : Prop := ∀ σ H Q, TO_ X.K W m σ H Q → ∃ t, PO X e t ∧ t σ H Q
def oNo : OM := fun _ h => .ok none h
def oPart (m : EM) : OM := fun s h => (m s h).bind fun d h1 => match d with
  | .int i => .ok (some i) h1
  | _ => .no
theorem po_imp {o : Option Expr} {t t' : TO} (h : PO X o t) (k : ∀ σ H Q, t' σ H Q → t σ H Q) : PO X o t' := ⟨fun pins s σ H Q I q => h.run pins s σ H Q I (k σ H Q q)⟩
theorem do_no : PO X none (TO_ X.K W oNo) := po_imp po_none fun σ H Q ⟨w, s, h, rs, hw, q⟩ => q w H (.refl w) hw
theorem do_some (ha : DE X W e me) : PO X (some e) (TO_ X.K W (oPart me)) := po_imp (po_some ha) fun σ H Q ⟨w, s, h, rs, hw, q⟩ =>
  ⟨w, s, h, rs, hw, WpE.bind (G := WpO X.K w Q _) q (fun _ _ z => z) (fun z => z) fun x h1 w1 v H1 l1 rx hw1 q1 => by
    split at q1
    · cases rx
      exact ⟨_, rfl, q1 w1 H1 l1 hw1⟩
    · exact q1.elim⟩
def cut {α : Type} (xs : List α) (lo hi : Option Int) : List α := (xs.drop (HT.sIx xs.length 0 lo)).take (HT.sIx xs.length xs.length hi - HT.sIx xs.length 0 lo)
def oCut (h : LH) (d : D) (lo hi : Option Int) : Option D := match d with
  | .str z => if small z.length = true then some (.str (cutS z lo hi)) else none
  | .tup l => some (.tup (cut l lo hi))
  | d => (seqL h d).map fun l => .lst (cut l lo hi)
def mSl (m : EM) (lo hi : OM) : EM := fun s h => (m s h).bind fun d h1 => (lo s h1).bind fun l h2 => (hi s h2).bind fun u h3 => match oCut h3 d l u with
  | some d => .ok d h3
  | none => .no
def rSl (K : PySem.W.Frag) : V → Option Int → Option Int → Hp → VK → Prop := fun x lo hi H Q => ∃ w h dx d, RV K w x dx ∧ HW K w H h ∧ oCut h dx lo hi = some d ∧ Pv K w Q d h
theorem cut_rv {K : PySem.W.Frag} {w : Wd} {vs : List V} {ds : List D} {lo hi : Option Int} (r : RVs K w vs ds) : RVs K w (cutV vs lo hi) (cut ds lo hi) := by
  unfold cutV cut
  rw [r.length]
  exact (r.drop _).take _
theorem sl_d : SlR X (rSl X.K) := by
  intro pins s σ H x v vl vu lo hi sl Q I rx hs pl pu ⟨w, h, dx, d, r1, hw, e, q⟩
  unfold oCut at e
  split at e
  · cases r1
    split at e
    · rename_i z
      cases e
      exact sl_str pins s σ H _ v vl vu lo hi sl Q I rx hs pl pu ⟨_, rfl, small_le z, Pv.here q hw (.str _)⟩
    · cases e
  · rename_i l0
    cases e
    obtain ⟨a, vs, rfl, s1, q1⟩ := seqT_ok hw r1 rfl
    refine sl_tupA pins s σ H _ v vl vu lo hi sl Q I rx hs pl pu ⟨a, vs, rfl, s1, fun ⟨z1, z2⟩ => ?_, fun _ p hp => Pv.tup q hw (cut_rv q1) hp⟩
    have : cut l0 lo hi = l0 := by
      unfold cut
      rw [q1.length] at z1 z2
      rw [z1, z2, List.drop_zero, Nat.sub_zero, List.take_length]
    rw [this] at q
    exact Pv.here q hw r1
  · simp only [Option.map_eq_some_iff] at e
    obtain ⟨l, e1, rfl⟩ := e
    obtain ⟨a, vs, rfl, s1, q1⟩ := seqL_ok hw r1 e1
    exact sl_list pins s σ H _ v vl vu lo hi sl Q I rx hs pl pu ⟨a, vs, rfl, s1, fun p hp => Pv.lst q hw (cut_rv q1) hp⟩
theorem WpO.bind {α : Type} {K : PySem.W.Frag} {w : Wd} {Q : Option Int → Hp → Prop} {W : XK} {r : R (Option Int)} {f : Option Int → LH → R α} {G : R α → Prop}
    (h : G (r.bind f)) (hx : ∀ x h, G (.ex x h) → Px K w W x h) (hn : ¬ G .no)
    (k : ∀ d h1 w1 H1, w.le w1 → HW K w1 H1 h1 → G (f d h1) → Q d H1) : WpO K w Q W r := by
  cases r with
  | ok d h1 => exact fun w1 H1 l hw => k d h1 w1 H1 l hw h
  | ex x h1 => exact hx x h1 h
  | no => exact (hn h).elim
theorem d_slice {lo hi : Option Expr} {ml mh : OM} (he : DE X W e me) (hl : PO X lo (TO_ X.K W ml)) (hu : PO X hi (TO_ X.K W mh)) : DE X W (.Subscript e (.Slice lo hi none p2) pos) (mSl me ml mh) :=
  PE.imp (pe_slice sl_d he hl hu) fun σ H Q ⟨w, s, h, rs, hw, q⟩ =>
    ⟨w, s, h, rs, hw, WpE.bind (G := WpE X.K w Q _) q (fun _ _ z => z) (fun z => z) fun x h1 w1 v H1 l1 rx hw1 q1 =>
      ⟨w1, s, h1, rs.mono l1, hw1, WpO.bind (G := WpE X.K w Q _) q1 (fun _ _ z => Px.mono l1 z) (fun z => z) fun lo h2 w2 H2 l2 hw2 q2 =>
        ⟨w2, s, h2, rs.mono (l1.trans l2), hw2, WpO.bind (G := WpE X.K w Q _) q2 (fun _ _ z => Px.mono (l1.trans l2) z) (fun z => z) fun hi h3 w3 H3 l3 hw3 q3 => by
          split at q3
          · rename_i d e
            exact ⟨w3, h3, x, d, rx.mono (l2.trans l3), hw3, e, fun w4 z H4 l4 => q3 w4 z H4 (((l1.trans l2).trans l3).trans l4)⟩
          · exact q3.elim⟩⟩⟩
/-- xs[::-1] of a list: frozen, or new -/
def mRev (m : EM) : EM := fun s h => (m s h).bind fun d h1 => match seqL h1 d with
  | some l => .ok (.lst l.reverse) h1
  | none => .no
def mRevN (m : EM) : EM := fun s h => (m s h).bind fun d h1 => match seqL h1 d with
  | some l => .ok (.ref h1.length) (h1 ++ [.lst l.reverse])
  | none => .no
variable {k : Nat} {p1 p3 : Pos}
theorem d_rev (he : DE X W e me) : DE X W (.Subscript e (.Slice none none (some (.UnaryOp .USub (.Constant (.int 1) k p1) p2)) p3) pos) (mRev me) := PE.imp (pe_revL he) fun σ H Q ⟨w, s, h, rs, hw, q⟩ =>
  ⟨w, s, h, rs, hw, WpE.bind (G := WpE X.K w Q _) q (fun _ _ z => z) (fun z => z) fun x h1 w1 v H1 l1 rx hw1 q1 => by
    split at q1
    · rename_i l e
      obtain ⟨a, vs, rfl, s1, r1⟩ := seqL_ok hw1 rx e
      exact ⟨a, vs, rfl, s1, fun p hp => Pv.lst (fun w3 z H3 l3 => q1 w3 z H3 (l1.trans l3)) hw1 r1.reverse hp⟩
    · exact q1.elim⟩
theorem d_revN (he : DE X W e me) : DE X W (.Subscript e (.Slice none none (some (.UnaryOp .USub (.Constant (.int 1) k p1) p2)) p3) pos) (mRevN me) := PE.imp (pe_revL he) fun σ H Q ⟨w, s, h, rs, hw, q⟩ =>
  ⟨w, s, h, rs, hw, WpE.bind (G := WpE X.K w Q _) q (fun _ _ z => z) (fun z => z) fun x h1 w1 v H1 l1 rx hw1 q1 => by
    split at q1
    · rename_i l e
      obtain ⟨a, vs, rfl, s1, r1⟩ := seqL_ok hw1 rx e
      exact ⟨a, vs, rfl, s1, fun p hp => Pv.new (fun w3 z H3 l3 => q1 w3 z H3 (l1.trans l3)) hw1 r1.reverse hp⟩
    · exact q1.elim⟩

/-! ### builtin functions -/
def tyD (h : LH) : D → Option String
  | .non => some "NoneType"
  | .bl _ => some "bool"
  | .int _ => some "int"
  | .str _ => some "str"
  | .tup _ => some "tuple"
  | .lst _ => some "list"
  | .kst _ => some "list"
  | .dct _ => some "dict"
  | .ref n => match h[n]? with
    | some (.lst _) => some "list"
    | some (.dct _) => some "dict"
    | none => none
  | .st _ => none
def allTys : List String := ["NoneType", "bool", "int", "str", "tuple", "list", "dict"]
def askTys : List String := ["bool", "int", "str", "tuple", "list", "dict"]
def subTy (a b : String) : Bool := a == b || (a == "bool" && b == "int")
theorem kit_all : ∀ a ∈ allTys, ∀ b ∈ askTys, kitB a b = some (subTy a b) := by decide +kernel
theorem tyD_in {h : LH} {d : D} {t : String} (e : tyD h d = some t) : t ∈ allTys := by
  unfold tyD at e
  split at e <;> first
    | (cases e; decide)
    | cases e
    | (split at e <;> first | (cases e; decide) | cases e)
theorem tyD_ok {K : PySem.W.Frag} {w : Wd} {H : Hp} {h : LH} (hw : HW K w H h) {v : V} {d : D} {t : String} (r : RV K w v d) (e : tyD h d = some t) : TyX K H v (.type t) := by
  cases r with
  | non => cases e; exact .base .non
  | bl b => cases e; exact .base (.bl b)
  | int b => cases e; exact .base (.int b)
  | str b => cases e; exact .base (.str b)
  | tup q r =>
    cases e
    rcases q with q | ⟨o, its, n, h1, h2, _⟩
    · exact .base (.tup (hw.fz _ _ q))
    · exact .kTuple h1 h2
  | lst q r => cases e; exact .base (.lst (hw.fz _ _ q))
  | kst q r =>
    cases e
    rcases q with ⟨o, q⟩ | ⟨o, its, n, h1, h2, _⟩
    · exact .base (.frz (hw.fz _ _ q))
    · exact .kList h1 h2
  | dct q r => cases e; exact .base (.dK (hw.fz _ _ q))
  | @ref a n q =>
    unfold tyD at e
    simp only at e
    split at e
    · rename_i l e'
      cases e
      obtain ⟨a', o, h1, h2, h3⟩ := hw.get e'
      rw [q] at h1
      cases h1
      cases h3 with
      | lst r => exact .base (.lst h2)
    · rename_i l e'
      cases e
      obtain ⟨a', o, h1, h2, h3⟩ := hw.get e'
      rw [q] at h1
      cases h1
      cases h3 with
      | dct r => exact .base (.dK h2)
    · cases e
  | st v => cases e
/-- isinstance(x, T), T a built-in class -/
def cIsi : OC := fun h ds => match ds with
  | [d, .st (.ty b)] => (tyD h d).bind fun a => if askTys.contains b = true then some (.bl (subTy a b)) else none
  | _ => none
theorem oc_isi : OCD X (.builtin "isinstance") cIsi := by
  intro pins s σ H vs us Q I r ⟨w, h, ds, d, rd, hw, e, q⟩
  unfold cIsi at e
  split at e
  · rename_i d0 b
    obtain ⟨v, c, rfl, rv, rc⟩ := rv2 rd
    simp only [Option.bind_eq_some_iff] at e
    obtain ⟨t, e1, e2⟩ := e
    split at e2
    · rename_i z
      cases e2
      have hc : c = .ty b := by
        cases rc
        rfl
      subst hc
      exact call_isi pins s σ H _ us Q I r ⟨v, .ty b, .type t, .type b, _, rfl, .ty b, tyD_ok hw rv e1, kit_ty (kit_all t (tyD_in e1) b (by simpa using z)), Pv.here q hw (.bl _)⟩
    · cases e2
  · cases e
def lenD (h : LH) : D → Option Nat
  | .str z => if small z.length = true then some z.length else none
  | .tup l => some l.length
  | d => (seqL h d).map List.length
def cLen : OC := fun h ds => match ds with
  | [d] => (lenD h d).map fun (n : Nat) => D.int (n : Int)
  | _ => none
theorem oc_len : OCD X (.builtin "len") cLen := by
  intro pins s σ H vs us Q I r ⟨w, h, ds, d, rd, hw, e, q⟩
  unfold cLen at e
  split at e
  · obtain ⟨v, rfl, rv⟩ := rv1 rd
    simp only [Option.map_eq_some_iff] at e
    obtain ⟨n, e1, rfl⟩ := e
    refine call_len pins s σ H _ us Q I r ⟨v, n, rfl, ?_, Pv.here q hw (.int _)⟩
    unfold lenD at e1
    split at e1
    · cases rv
      split at e1
      · rename_i z
        cases e1
        exact ⟨small_le z, rfl⟩
      · cases e1
    · cases e1
      obtain ⟨a, vs, rfl, s1, r1⟩ := seqT_ok hw rv rfl
      exact .inr ⟨vs, s1, r1.length.symm⟩
    · simp only [Option.map_eq_some_iff] at e1
      obtain ⟨l, e1, rfl⟩ := e1
      obtain ⟨a, vs, rfl, s1, r1⟩ := seqL_ok hw rv e1
      exact .inl ⟨vs, s1, r1.length.symm⟩
  · cases e
def asB : D → Option Bool
  | .bl b => some b
  | _ => none
def asI : D → Option Int
  | .int b => some b
  | _ => none
def asS : D → Option Str
  | .str b => some b
  | _ => none
theorem bls_ok {K : PySem.W.Frag} {w : Wd} : ∀ {vs : List V} {ds : List D} {bs : List Bool}, RVs K w vs ds → ds.mapM asB = some bs → vs = bs.map V.bl
  | vs, [], ys, h, e => by cases h; simp at e; subst e; rfl
  | vs, d :: ds, ys, h, e => by
    cases h with
    | cons r rs =>
      simp only [List.mapM_cons, Option.bind_eq_bind, Option.bind_eq_some_iff] at e
      obtain ⟨y, e1, zs, e2, e3⟩ := e
      cases e3
      rw [bls_ok rs e2]
      cases d <;> cases e1
      cases r
      rfl
theorem ints_ok {K : PySem.W.Frag} {w : Wd} : ∀ {vs : List V} {ds : List D} {bs : List Int}, RVs K w vs ds → ds.mapM asI = some bs → vs = bs.map V.int
  | vs, [], ys, h, e => by cases h; simp at e; subst e; rfl
  | vs, d :: ds, ys, h, e => by
    cases h with
    | cons r rs =>
      simp only [List.mapM_cons, Option.bind_eq_bind, Option.bind_eq_some_iff] at e
      obtain ⟨y, e1, zs, e2, e3⟩ := e
      cases e3
      rw [ints_ok rs e2]
      cases d <;> cases e1
      cases r
      rfl
theorem strs_ok {K : PySem.W.Frag} {w : Wd} : ∀ {vs : List V} {ds : List D} {bs : List Str}, RVs K w vs ds → ds.mapM asS = some bs → vs = bs.map V.str
  | vs, [], ys, h, e => by cases h; simp at e; subst e; rfl
  | vs, d :: ds, ys, h, e => by
    cases h with
    | cons r rs =>
      simp only [List.mapM_cons, Option.bind_eq_bind, Option.bind_eq_some_iff] at e
      obtain ⟨y, e1, zs, e2, e3⟩ := e
      cases e3
      rw [strs_ok rs e2]
      cases d <;> cases e1
      cases r
      rfl
theorem ints_rv {K : PySem.W.Frag} {w : Wd} : ∀ ns : List Int, RVs K w (ns.map V.int) (ns.map D.int)
  | [] => .nil
  | n :: ns => .cons (.int n) (ints_rv ns)
theorem strs_rv {K : PySem.W.Frag} {w : Wd} : ∀ ns : List Str, RVs K w (ns.map V.str) (ns.map D.str)
  | [] => .nil
  | n :: ns => .cons (.str n) (strs_rv ns)
def cAll : OC := fun h ds => match ds with
  | [d] => (seqL h d).bind fun l => (l.mapM asB).map fun bs => .bl (bs.all id)
  | _ => none
theorem oc_all (hc : X.calm = true) : OCD X (.builtin "all") cAll := by
  intro pins s σ H vs us Q I r ⟨w, h, ds, d, rd, hw, e, q⟩
  unfold cAll at e
  split at e
  · obtain ⟨v, rfl, rv⟩ := rv1 rd
    simp only [Option.bind_eq_some_iff, Option.map_eq_some_iff] at e
    obtain ⟨l, e1, bs, e2, rfl⟩ := e
    obtain ⟨a, vs, rfl, s1, r1⟩ := seqL_ok hw rv e1
    rw [bls_ok r1 e2] at s1
    exact cr_all hc pins s σ H _ us Q I r ⟨a, bs, rfl, s1, Pv.here q hw (.bl _)⟩
  · cases e
def cAny : OC := fun h ds => match ds with
  | [d] => (seqL h d).bind fun l => (l.mapM asB).map fun bs => .bl (bs.any id)
  | _ => none
theorem oc_any (hc : X.calm = true) : OCD X (.builtin "any") cAny := by
  intro pins s σ H vs us Q I r ⟨w, h, ds, d, rd, hw, e, q⟩
  unfold cAny at e
  split at e
  · obtain ⟨v, rfl, rv⟩ := rv1 rd
    simp only [Option.bind_eq_some_iff, Option.map_eq_some_iff] at e
    obtain ⟨l, e1, bs, e2, rfl⟩ := e
    obtain ⟨a, vs, rfl, s1, r1⟩ := seqL_ok hw rv e1
    rw [bls_ok r1 e2] at s1
    exact cr_any hc pins s σ H _ us Q I r ⟨a, bs, rfl, s1, Pv.here q hw (.bl _)⟩
  · cases e
def cSum : OC := fun h ds => match ds with
  | [d] => (seqL h d).bind fun l => (l.mapM asI).map fun bs => .int bs.sum
  | _ => none
theorem oc_sum (hc : X.calm = true) : OCD X (.builtin "sum") cSum := by
  intro pins s σ H vs us Q I r ⟨w, h, ds, d, rd, hw, e, q⟩
  unfold cSum at e
  split at e
  · obtain ⟨v, rfl, rv⟩ := rv1 rd
    simp only [Option.bind_eq_some_iff, Option.map_eq_some_iff] at e
    obtain ⟨l, e1, bs, e2, rfl⟩ := e
    obtain ⟨a, vs, rfl, s1, r1⟩ := seqL_ok hw rv e1
    rw [ints_ok r1 e2] at s1
    exact cr_sum hc pins s σ H _ us Q I r ⟨a, bs, rfl, s1, Pv.here q hw (.int _)⟩
  · cases e
/-- list(xs), tuple(xs) of a list or a tuple -/
def cList : OC := fun h ds => match ds with
  | [.tup l] => some (.lst l)
  | [d] => (seqL h d).map .lst
  | _ => none
def cTuple : OC := fun h ds => match ds with
  | [.tup l] => some (.tup l)
  | [d] => (seqL h d).map .tup
  | _ => none
theorem oc_list : OCD X (.type "list") cList := by
  intro pins s σ H vs us Q I r ⟨w, h, ds, d, rd, hw, e, q⟩
  unfold cList at e
  split at e
  · obtain ⟨v, rfl, rv⟩ := rv1 rd
    cases e
    obtain ⟨a, vs, rfl, s1, r1⟩ := seqT_ok hw rv rfl
    exact call_list_of pins s σ H _ us Q I r ⟨a, vs, rfl, .inr s1, fun p hp => Pv.lst q hw r1 hp⟩
  · obtain ⟨v, rfl, rv⟩ := rv1 rd
    simp only [Option.map_eq_some_iff] at e
    obtain ⟨l, e1, rfl⟩ := e
    obtain ⟨a, vs, rfl, s1, r1⟩ := seqL_ok hw rv e1
    exact call_list_of pins s σ H _ us Q I r ⟨a, vs, rfl, .inl s1, fun p hp => Pv.lst q hw r1 hp⟩
  · cases e
theorem oc_tuple : OCD X (.type "tuple") cTuple := by
  intro pins s σ H vs us Q I r ⟨w, h, ds, d, rd, hw, e, q⟩
  unfold cTuple at e
  split at e
  · obtain ⟨v, rfl, rv⟩ := rv1 rd
    cases e
    obtain ⟨a, vs, rfl, s1, r1⟩ := seqT_ok hw rv rfl
    exact call_tuple_of pins s σ H _ us Q I r ⟨a, vs, rfl, .inr ⟨s1, Pv.here q hw rv⟩⟩
  · obtain ⟨v, rfl, rv⟩ := rv1 rd
    simp only [Option.map_eq_some_iff] at e
    obtain ⟨l, e1, rfl⟩ := e
    obtain ⟨a, vs, rfl, s1, r1⟩ := seqL_ok hw rv e1
    exact call_tuple_of pins s σ H _ us Q I r ⟨a, vs, rfl, .inl ⟨s1, fun p hp => Pv.tup q hw r1 hp⟩⟩
  · cases e
def cOrd : OC := fun _ ds => match ds with
  | [.str z] => if decide (z.length = 1) = true then some (.int (z.cps.getD 0 0 : Nat)) else none
  | _ => none
theorem oc_ord : OCD X (.builtin "ord") cOrd := by
  intro pins s σ H vs us Q I r ⟨w, h, ds, d, rd, hw, e, q⟩
  unfold cOrd at e
  split at e
  · obtain ⟨v, rfl, rv⟩ := rv1 rd
    cases rv
    split at e
    · rename_i z
      cases e
      exact call_ord pins s σ H _ us Q I r ⟨_, rfl, of_decide_eq_true z, Pv.here q hw (.int _)⟩
    · cases e
  · cases e
def cAbs : OC := fun _ ds => match ds with
  | [.int i] => some (.int (if i < 0 then -i else i))
  | _ => none
theorem oc_abs : OCD X (.builtin "abs") cAbs := by
  intro pins s σ H vs us Q I r ⟨w, h, ds, d, rd, hw, e, q⟩
  unfold cAbs at e
  split at e
  · obtain ⟨v, rfl, rv⟩ := rv1 rd
    cases rv
    cases e
    exact call_abs pins s σ H _ us Q I r ⟨_, rfl, Pv.here q hw (.int _)⟩
  · cases e
/-- int(n), int(flag), int(text) -/
def cInt : OC := fun _ ds => match ds with
  | [.int i] => some (.int i)
  | [.bl k] => some (.int (if k then 1 else 0))
  | [.str z] => if decide (z.length ≤ 640) = true then (PySem.intText? z).map .int else none
  | _ => none
theorem oc_int : OCD X (.type "int") cInt := by
  intro pins s σ H vs us Q I r ⟨w, h, ds, d, rd, hw, e, q⟩
  unfold cInt at e
  split at e
  · obtain ⟨v, rfl, rv⟩ := rv1 rd
    cases rv
    cases e
    exact call_int1 pins s σ H _ us Q I r (.inl ⟨_, rfl, Pv.here q hw (.int _)⟩)
  · obtain ⟨v, rfl, rv⟩ := rv1 rd
    cases rv
    cases e
    exact call_int1 pins s σ H _ us Q I r (.inr ⟨_, rfl, Pv.here q hw (.int _)⟩)
  · obtain ⟨v, rfl, rv⟩ := rv1 rd
    cases rv
    split at e
    · rename_i z
      simp only [Option.map_eq_some_iff] at e
      obtain ⟨n, e1, rfl⟩ := e
      exact call_int_str pins s σ H _ us Q I r ⟨_, n, rfl, e1, of_decide_eq_true z, Pv.here q hw (.int _)⟩
    · cases e
  · cases e
/-- str(n) -/
def cStr : OC := fun _ ds => match ds with
  | [.int i] => if decide (i.natAbs.log2 < 1920) = true then some (.str (toString i)) else none
  | _ => none
theorem oc_str : OCD X (.type "str") cStr := by
  intro pins s σ H vs us Q I r ⟨w, h, ds, d, rd, hw, e, q⟩
  unfold cStr at e
  split at e
  · obtain ⟨v, rfl, rv⟩ := rv1 rd
    cases rv
    split at e
    · rename_i z
      cases e
      exact call_str_int pins s σ H _ us Q I r ⟨_, rfl, of_decide_eq_true z, Pv.here q hw (.str _)⟩
    · cases e
  · cases e

/-! ### methods of built-in types: by the receiver and the arguments; the state may change -/
abbrev OMt := LH → D → List D → Option (D × LH)
def rM (K : PySem.W.Frag) (T : String) (g : OMt) : V → List V → Hp → VK → Prop := fun x vs H Q => ∃ w h dx ds d h', RV K w x dx ∧ RVs K w vs ds ∧ HW K w H h ∧ g h dx ds = some (d, h') ∧ Pv K w Q d h'
def mMeth (T : String) (g : OMt) (m : EM) (a : AM) : EM := fun s h => (m s h).bind fun x h1 => if decide (tyD h1 x = some T) = true then (a s h1).bind fun l h2 => match g h2 x l with
  | some (d, h3) => .ok d h3
  | none => .no
  else .no
theorem tyV_ok {K : PySem.W.Frag} {w : Wd} {H : Hp} {h : LH} (hw : HW K w H h) {v : V} {d : D} {T : String} (hT : T = "str" ∨ T = "list" ∨ T = "dict") (r : RV K w v d) (e : tyD h d = some T) : tyV K T v H := by
  have nt : T ≠ "tuple" ∧ T ≠ "int" ∧ T ≠ "bool" ∧ T ≠ "NoneType" := by rcases hT with rfl | rfl | rfl <;> decide
  cases r with
  | non => cases e; exact (nt.2.2.2 rfl).elim
  | bl b => cases e; exact (nt.2.2.1 rfl).elim
  | int b => cases e; exact (nt.2.1 rfl).elim
  | str b => cases e; rfl
  | tup q r => cases e; exact (nt.1 rfl).elim
  | lst q r => cases e; exact .inl ⟨rfl, _, .inl (.inl (hw.fz _ _ q))⟩
  | kst q r =>
    cases e
    rcases q with ⟨o, q⟩ | q
    · exact .inl ⟨rfl, _, .inl (.inr ⟨o, hw.fz _ _ q⟩)⟩
    · exact .inl ⟨rfl, _, .inr q⟩
  | dct q r => cases e; exact .inr (.inr (.inl ⟨rfl, .inl ⟨_, hw.fz _ _ q⟩⟩))
  | @ref a n q =>
    unfold tyD at e
    simp only at e
    split at e
    · rename_i l e'
      cases e
      obtain ⟨a', o, h1, h2, h3⟩ := hw.get e'
      rw [q] at h1
      cases h1
      cases h3 with
      | lst r => exact .inl ⟨rfl, _, .inl (.inl h2)⟩
    · rename_i l e'
      cases e
      obtain ⟨a', o, h1, h2, h3⟩ := hw.get e'
      rw [q] at h1
      cases h1
      cases h3 with
      | dct r => exact .inr (.inr (.inl ⟨rfl, .inl ⟨_, h2⟩⟩))
    · cases e
  | st v => cases e
theorem te_meth {T : String} {g : OMt} {a : AM} (hT : T = "str" ∨ T = "list" ∨ T = "dict") {σ : St} {H : Hp} {Q : VK} (q : TE_ X.K W (mMeth T g me a) σ H Q) : tBM X.K T (rM X.K T g) (TE_ X.K W me) (TA_ X.K W a) σ H Q := by
  obtain ⟨w, s, h, rs, hw, q⟩ := q
  refine ⟨w, s, h, rs, hw, WpE.bind (G := WpE X.K w Q _) q (fun _ _ z => z) (fun z => z) fun x h1 w1 v H1 l1 rx hw1 q1 => ?_⟩
  split at q1
  · rename_i e0
    refine ⟨tyV_ok hw1 hT rx (of_decide_eq_true e0), w1, s, h1, rs.mono l1, hw1, WpA.bind (G := WpE X.K w Q _) q1 (fun _ _ z => Px.mono l1 z) (fun z => z) fun l h2 w2 vs H2 l2 rl hw2 q2 => ?_⟩
    split at q2
    · rename_i d h3 e
      exact ⟨w2, h2, x, l, d, h3, rx.mono l2, rl, hw2, e, fun w3 z H3 l3 => q2 w3 z H3 ((l1.trans l2).trans l3)⟩
    · exact q2.elim
  · exact q1.elim
theorem te_meth0 {T : String} {g : OMt} (hT : T = "str" ∨ T = "list" ∨ T = "dict") {σ : St} {H : Hp} {Q : VK} (q : TE_ X.K W (mMeth T g me aNil) σ H Q) : tBM0 X.K T (rM X.K T g) (TE_ X.K W me) σ H Q := by
  obtain ⟨w, s, h, rs, hw, q⟩ := q
  refine ⟨w, s, h, rs, hw, WpE.bind (G := WpE X.K w Q _) q (fun _ _ z => z) (fun z => z) fun x h1 w1 v H1 l1 rx hw1 q1 => ?_⟩
  split at q1
  · rename_i e0
    refine ⟨tyV_ok hw1 hT rx (of_decide_eq_true e0), ?_⟩
    simp only [aNil, R.bind_ok] at q1
    split at q1
    · rename_i d h3 e
      exact ⟨w1, h1, x, [], d, h3, rx, .nil, hw1, e, fun w3 z H3 l3 => q1 w3 z H3 (l1.trans l3)⟩
    · exact q1.elim
  · exact q1.elim
variable {o : Expr} {es : List Expr} {mo : EM} {a' : AM} {name : Str} {apos cpos : Pos} {T id : String} {g : OMt}
theorem d_meth0 (pa : PlainAttrs T) (slot : Slot T name id) (hty : typeOf (.builtin id) = pure (.type "method_descriptor")) (hm : MtR X id (rM X.K T g)) (hT : T = "str" ∨ T = "list" ∨ T = "dict") (ho : DE X W o mo)
    (hbase : attributeBase o name X.env (eval o X.env) = eval o X.env := by rfl) (hline : (apos.endLine == cpos.line) = true := by rfl) : DE X W (.Call (.Attribute o name apos) [] [] cpos) (mMeth T g mo aNil) :=
  PE.imp (pe_bm0 pa slot hty hm ho hbase hline) fun _ _ _ q => te_meth0 hT q
theorem d_meth (pa : PlainAttrs T) (slot : Slot T name id) (hty : typeOf (.builtin id) = pure (.type "method_descriptor")) (hm : MtR X id (rM X.K T g)) (hT : T = "str" ∨ T = "list" ∨ T = "dict") (ho : DE X W o mo) (ha : DA X W (e :: es) a')
    (hbase : attributeBase o name X.env (eval o X.env) = eval o X.env := by rfl)
    (hfew : ((backTo cpos (starEach (e :: es) X.env)).all (fun x => !x.1) && (backToKw cpos (keywordEach [] X.env)).all (fun x => x.1.isSome)
      && decide ((e :: es).length + ([] : List Keyword).length + (if ([] : List Keyword).isEmpty then 0 else 1) < 30)) = true := by rfl)
    (hline : (apos.endLine == cpos.line) = true := by rfl) (hs : starEach (e :: es) X.env = (false, eval e X.env) :: starEach es X.env := by rfl) (hplain : (backTo cpos (starEach es X.env)).any (·.1) = false := by rfl) :
    DE X W (.Call (.Attribute o name apos) (e :: es) [] cpos) (mMeth T g mo a') := PE.imp (pe_bm pa slot hty hm ho ha hbase hfew hline hs hplain) fun _ _ _ q => te_meth hT q

theorem refL_ok {K : PySem.W.Frag} {w : Wd} {H : Hp} {h : LH} (hw : HW K w H h) {v : V} {n : Nat} {l : List D} (r : RV K w v (.ref n)) (e : h[n]? = some (.lst l)) : ∃ a vs, v = .ref a ∧ w.at_[n]? = some a ∧ H a = some (.lst vs) ∧ RVs K w vs l := by
  cases r with
  | @ref a n q =>
    obtain ⟨a', o, h1, h2, h3⟩ := hw.get e
    rw [q] at h1
    cases h1
    cases h3 with
    | lst r => exact ⟨_, _, rfl, q, h2, r⟩
theorem Pv.set {K : PySem.W.Frag} {w : Wd} {H : Hp} {h : LH} {Q : VK} {n : Nat} {a : Addr} {d : D} {v : V} {vs : List V} {l l0 : List D} (q : Pv K w Q d (h.set n (.lst l))) (hw : HW K w H h) (ea : w.at_[n]? = some a) (e0 : h[n]? = some (.lst l0)) (r : RVs K w vs l) (rv : RV K w v d) : Q v (upd H a (.lst vs)) :=
  q _ _ _ (.refl w) rv (hw.set ea (List.getElem?_eq_some_iff.mp e0).1 (.lst r))
/-- xs.append(e), xs.pop(), xs.extend(ys) -/
def gAppend : OMt := fun h x ds => match x, ds with
  | .ref n, [d] => match h[n]? with
    | some (.lst l) => if decide (l.length < sizeLine) = true then some (.non, h.set n (.lst (l ++ [d]))) else none
    | _ => none
  | _, _ => none
def gPop : OMt := fun h x ds => match x, ds with
  | .ref n, [] => match h[n]? with
    | some (.lst l) => l[l.length - 1]?.map fun d => (d, h.set n (.lst l.dropLast))
    | _ => none
  | _, _ => none
def gExtend : OMt := fun h x ds => match x, ds with
  | .ref n, [d] => match h[n]? with
    | some (.lst l) => (catL h d).bind fun k => if small (l.length + k.length) = true then some (.non, h.set n (.lst (l ++ k))) else none
    | _ => none
  | _, _ => none
theorem mt_gAppend : MtR X "list.append" (rM X.K "list" gAppend) := by
  intro pins s σ H x xs v us Q I rx rxs ⟨w, h, dx, ds, d, h', r1, r2, hw, e, q⟩
  unfold gAppend at e
  split at e
  · split at e
    · rename_i n y _ l e0
      split at e
      · rename_i z
        cases e
        obtain ⟨a, vs, rfl, ea, s1, q1⟩ := refL_ok hw r1 e0
        obtain ⟨u, rfl, ru⟩ := rv1 r2
        exact mt_append pins s σ H _ _ v us Q I rx rxs ⟨a, vs, u, rfl, rfl, s1, by rw [q1.length]; exact of_decide_eq_true z, Pv.set q hw ea e0 (q1.append (.cons ru .nil)) .non⟩
      · cases e
    · cases e
  · cases e
theorem RVs.dropLast {K : PySem.W.Frag} {w : Wd} {v : List V} {d : List D} (r : RVs K w v d) : RVs K w v.dropLast d.dropLast := by
  rw [List.dropLast_eq_take, List.dropLast_eq_take, r.length]
  exact r.take _
theorem mt_gPop : MtR X "list.pop" (rM X.K "list" gPop) := by
  intro pins s σ H x xs v us Q I rx rxs ⟨w, h, dx, ds, d, h', r1, r2, hw, e, q⟩
  unfold gPop at e
  split at e
  · split at e
    · rename_i n _ l e0
      simp only [Option.map_eq_some_iff, Prod.mk.injEq] at e
      obtain ⟨y, e1, rfl, rfl⟩ := e
      obtain ⟨a, vs, rfl, ea, s1, q1⟩ := refL_ok hw r1 e0
      cases r2
      obtain ⟨z, z1, z2⟩ := q1.get e1
      exact mt_pop pins s σ H _ _ v us Q I rx rxs ⟨a, vs, z, rfl, rfl, s1, by rw [q1.length]; exact z1, Pv.set q hw ea e0 q1.dropLast z2⟩
    · cases e
  · cases e
theorem mt_gExtend : MtR X "list.extend" (rM X.K "list" gExtend) := by
  intro pins s σ H x xs v us Q I rx rxs ⟨w, h, dx, ds, d, h', r1, r2, hw, e, q⟩
  unfold gExtend at e
  split at e
  · split at e
    · rename_i n y _ l e0
      simp only [Option.bind_eq_some_iff] at e
      obtain ⟨k, e1, e2⟩ := e
      split at e2
      · rename_i z
        cases e2
        obtain ⟨a, vs, rfl, ea, s1, q1⟩ := refL_ok hw r1 e0
        obtain ⟨u, rfl, ru⟩ := rv1 r2
        obtain ⟨b, us', rfl, s2, q2⟩ := catL_ok hw ru e1
        exact mt_extend pins s σ H _ _ v us Q I rx rxs ⟨a, b, vs, us', rfl, rfl, s1, s2, by rw [q1.length, q2.length]; exact small_le z, Pv.set q hw ea e0 (q1.append q2) .non⟩
      · cases e2
    · cases e
  · cases e
/-- s.find(t), s.join(ts) .. -/
def gFind : OMt := fun h x ds => match x, ds with
  | .str a, [.str b] => some (.int (Txt.find a b), h)
  | _, _ => none
def gCount : OMt := fun h x ds => match x, ds with
  | .str a, [.str b] => some (.int (Txt.count a b), h)
  | _, _ => none
def gIsdigit : OMt := fun h x ds => match x, ds with
  | .str a, [] => some (.bl (Txt.isdigit a), h)
  | _, _ => none
def strsOf (h : LH) : D → Option (List Str)
  | .tup l => l.mapM asS
  | d => (seqL h d).bind fun l => l.mapM asS
def gJoin : OMt := fun h x ds => match x, ds with
  | .str a, [d] => (strsOf h d).bind fun ys => if decide ((ys.map (·.length)).sum + ys.length * a.length ≤ 16777216) = true then some (.str (Txt.join a ys), h) else none
  | _, _ => none
def gSplit : OMt := fun h x ds => match x, ds with
  | .str a, [.str b] => if decide ((b.length == 0) = false ∧ a.length + 2 ≤ sizeLine) = true then some (.lst ((Txt.split a b).map .str), h) else none
  | _, _ => none
theorem mt_gFind : MtR X "str.find" (rM X.K "str" gFind) := by
  intro pins s σ H x xs v us Q I rx rxs ⟨w, h, dx, ds, d, h', r1, r2, hw, e, q⟩
  unfold gFind at e
  split at e
  · cases e
    cases r1
    obtain ⟨u, rfl, ru⟩ := rv1 r2
    cases ru
    exact mt_find pins s σ H _ _ v us Q I rx rxs ⟨_, _, rfl, rfl, Pv.here q hw (.int _)⟩
  · cases e
theorem mt_gCount : MtR X "str.count" (rM X.K "str" gCount) := by
  intro pins s σ H x xs v us Q I rx rxs ⟨w, h, dx, ds, d, h', r1, r2, hw, e, q⟩
  unfold gCount at e
  split at e
  · cases e
    cases r1
    obtain ⟨u, rfl, ru⟩ := rv1 r2
    cases ru
    exact mt_count pins s σ H _ _ v us Q I rx rxs ⟨_, _, rfl, rfl, Pv.here q hw (.int _)⟩
  · cases e
theorem mt_gIsdigit : MtR X "str.isdigit" (rM X.K "str" gIsdigit) := by
  intro pins s σ H x xs v us Q I rx rxs ⟨w, h, dx, ds, d, h', r1, r2, hw, e, q⟩
  unfold gIsdigit at e
  split at e
  · cases e
    cases r1
    cases r2
    exact mt_isdigit pins s σ H _ _ v us Q I rx rxs ⟨_, rfl, rfl, trivial, Pv.here q hw (.bl _)⟩
  · cases e
theorem mt_gJoin : MtR X "str.join" (rM X.K "str" gJoin) := by
  intro pins s σ H x xs v us Q I rx rxs ⟨w, h, dx, ds, d, h', r1, r2, hw, e, q⟩
  unfold gJoin at e
  split at e
  · cases r1
    obtain ⟨u, rfl, ru⟩ := rv1 r2
    simp only [Option.bind_eq_some_iff] at e
    obtain ⟨ys, e1, e2⟩ := e
    split at e2
    · rename_i z
      cases e2
      unfold strsOf at e1
      split at e1
      · obtain ⟨a, vs, rfl, s1, q1⟩ := seqT_ok hw ru rfl
        rw [strs_ok q1 e1] at s1
        exact mt_join pins s σ H _ _ v us Q I rx rxs ⟨_, a, ys, rfl, rfl, .inr s1, of_decide_eq_true z, Pv.here q hw (.str _)⟩
      · simp only [Option.bind_eq_some_iff] at e1
        obtain ⟨l, e3, e4⟩ := e1
        obtain ⟨a, vs, rfl, s1, q1⟩ := seqL_ok hw ru e3
        rw [strs_ok q1 e4] at s1
        exact mt_join pins s σ H _ _ v us Q I rx rxs ⟨_, a, ys, rfl, rfl, .inl s1, of_decide_eq_true z, Pv.here q hw (.str _)⟩
    · cases e2
  · cases e
theorem mt_gSplit : MtR X "str.split" (rM X.K "str" gSplit) := by
  intro pins s σ H x xs v us Q I rx rxs ⟨w, h, dx, ds, d, h', r1, r2, hw, e, q⟩
  unfold gSplit at e
  split at e
  · cases r1
    obtain ⟨u, rfl, ru⟩ := rv1 r2
    cases ru
    split at e
    · rename_i z
      cases e
      obtain ⟨z1, z2⟩ := of_decide_eq_true z
      exact mt_split pins s σ H _ _ v us Q I rx rxs ⟨_, _, rfl, rfl, z1, z2, fun p hp => Pv.lst q hw (strs_rv _) hp⟩
    · cases e
  · cases e
end
end DN
namespace DN
open PySem L2

inductive RQ where
  | nx (s : Sg) (h : LH) | rt (d : D) (h : LH) | bk (s : Sg) (h : LH) | ct (s : Sg) (h : LH) | ex (x : EX) (s : Sg) (h : LH) | no
abbrev SM := Sg → LH → RQ
def RQ.then (r : RQ) (f : SM) : RQ := match r with
  | .nx s h => f s h
  | r => r
@[simp] theorem RQ.then_nx (s : Sg) (h : LH) (f : SM) : (RQ.nx s h).then f = f s h := rfl
@[simp] theorem RQ.then_rt (d : D) (h : LH) (f : SM) : (RQ.rt d h).then f = .rt d h := rfl
@[simp] theorem RQ.then_bk (s : Sg) (h : LH) (f : SM) : (RQ.bk s h).then f = .bk s h := rfl
@[simp] theorem RQ.then_ct (s : Sg) (h : LH) (f : SM) : (RQ.ct s h).then f = .ct s h := rfl
@[simp] theorem RQ.then_ex (x : EX) (s : Sg) (h : LH) (f : SM) : (RQ.ex x s h).then f = .ex x s h := rfl
@[simp] theorem RQ.then_no (f : SM) : RQ.no.then f = .no := rfl
/-- an expression, then .. -/
def R.q {α : Type} (r : R α) (s : Sg) (f : α → LH → RQ) : RQ := match r with
  | .ok a h => f a h
  | .ex x h => .ex x s h
  | .no => .no
@[simp] theorem R.q_ok {α : Type} (a : α) (h : LH) (s : Sg) (f : α → LH → RQ) : (R.ok a h).q s f = f a h := rfl
@[simp] theorem R.q_ex {α : Type} (x : EX) (h : LH) (s : Sg) (f : α → LH → RQ) : (R.ex x h : R α).q s f = .ex x s h := rfl
@[simp] theorem R.q_no {α : Type} (s : Sg) (f : α → LH → RQ) : (R.no : R α).q s f = .no := rfl

section
variable (K : PySem.W.Frag)
def WpS (w : Wd) (D : Ends) (W : WX) : RQ → Prop
  | .nx s h => ∀ w' σ' H', w.le w' → RS K w' σ' s → HW K w' H' h → D.nx σ' H'
  | .rt d h => ∀ w' v H', w.le w' → RV K w' v d → HW K w' H' h → D.rt v H'
  | .bk s h => ∀ w' σ' H', w.le w' → RS K w' σ' s → HW K w' H' h → D.bk σ' H'
  | .ct s h => ∀ w' σ' H', w.le w' → RS K w' σ' s → HW K w' H' h → D.ct σ' H'
  | .ex x s h => ∀ w' c dd σ' H', w.le w' → RS K w' σ' s → RX K w' H' c dd x → HW K w' H' h → W c dd σ' H'
  | .no => False
def TS_ (W : WX) (m : SM) : TS := fun D σ H => ∃ w s h, RS K w σ s ∧ HW K w H h ∧ WpS K w D W (m s h)
end
def DS (X : Cx) (W : WX) (st : Stmt) (m : SM) : Prop := PS X st (TS_ X.K W m)
def DSs (X : Cx) (W : WX) (st : List Stmt) (m : SM) : Prop := PSs X st (TS_ X.K W m)
theorem PS.imp {X : Cx} {e : Stmt} {t t' : TS} (h : PS X e t) (k : ∀ D σ H, t' D σ H → t D σ H) : PS X e t' := ⟨fun pins s σ H D I q => h.run pins s σ H D I (k D σ H q)⟩
theorem PSs.imp {X : Cx} {e : List Stmt} {t t' : TS} (h : PSs X e t) (k : ∀ D σ H, t' D σ H → t D σ H) : PSs X e t' := ⟨fun pins s σ H D I q => h.run pins s σ H D I (k D σ H q)⟩

section
variable {K : PySem.W.Frag} {w w' : Wd} {W : WX}
theorem WpS.mono {D : Ends} {r : RQ} (l : w.le w') (p : WpS K w D W r) : WpS K w' D W r := by
  cases r with
  | nx s h => exact fun v σ H k r q => p v σ H (l.trans k) r q
  | rt s h => exact fun v σ H k r q => p v σ H (l.trans k) r q
  | bk s h => exact fun v σ H k r q => p v σ H (l.trans k) r q
  | ct s h => exact fun v σ H k r q => p v σ H (l.trans k) r q
  | ex x s h => exact fun v c d σ H k r a q => p v c d σ H (l.trans k) r a q
  | no => exact p
/-- a statement, then the rest -/
theorem WpS.then {D : Ends} {r : RQ} {f : SM} (p : WpS K w D W (r.then f)) : WpS K w { D with nx := TS_ K W f D } W r := by
  cases r with
  | nx s h => exact fun v σ H k r q => ⟨v, s, h, r, q, WpS.mono k p⟩
  | rt s h => exact p
  | bk s h => exact p
  | ct s h => exact p
  | ex x s h => exact p
  | no => exact p
/-- an expression's value, then .. -/
theorem WpS.q {D : Ends} {Q : VK} {r : R DN.D} {s : Sg} {σ : St} {f : DN.D → LH → RQ} (rs : RS K w σ s) (p : WpS K w D W (r.q s f))
    (k : ∀ d h1 w1 v H1, w.le w1 → RV K w1 v d → HW K w1 H1 h1 → WpS K w1 D W (f d h1) → Q v H1) : WpE K w Q (fun c d H => W c d σ H) r := by
  cases r with
  | ok d h1 => exact fun w1 v H1 l rv hw => k d h1 w1 v H1 l rv hw (WpS.mono l p)
  | ex x h1 => exact fun v c d H l a q => p v c d σ H l (rs.mono l) a q
  | no => exact p
theorem WpS.qB {D : Ends} {Q : Bool → Hp → Prop} {r : R Bool} {s : Sg} {σ : St} {f : Bool → LH → RQ} (rs : RS K w σ s) (p : WpS K w D W (r.q s f))
    (k : ∀ d h1 w1 H1, w.le w1 → HW K w1 H1 h1 → WpS K w1 D W (f d h1) → Q d H1) : WpB K w Q (fun c d H => W c d σ H) r := by
  cases r with
  | ok d h1 => exact fun w1 H1 l hw => k d h1 w1 H1 l hw (WpS.mono l p)
  | ex x h1 => exact fun v c d H l a q => p v c d σ H l (rs.mono l) a q
  | no => exact p
theorem WpS.qA {D : Ends} {Q : List V → Hp → Prop} {r : R (List DN.D)} {s : Sg} {σ : St} {f : List DN.D → LH → RQ} (rs : RS K w σ s) (p : WpS K w D W (r.q s f))
    (k : ∀ d h1 w1 v H1, w.le w1 → RVs K w1 v d → HW K w1 H1 h1 → WpS K w1 D W (f d h1) → Q v H1) : WpA K w Q (fun c d H => W c d σ H) r := by
  cases r with
  | ok d h1 => exact fun w1 v H1 l rv hw => k d h1 w1 v H1 l rv hw (WpS.mono l p)
  | ex x h1 => exact fun v c d H l a q => p v c d σ H l (rs.mono l) a q
  | no => exact p
end

section
variable {X : Cx} {W : WX} {st : Stmt} {rest : List Stmt} {m n : SM} {e : Expr} {me : EM} {pos : Pos}
def sNil : SM := fun s h => .nx s h
def sSeq (m n : SM) : SM := fun s h => (m s h).then n
theorem ds_nil : DSs X W [] sNil := PSs.imp pss_nil fun D σ H ⟨w, s, h, rs, hw, q⟩ => q w σ H (.refl w) rs hw
theorem ds_cons (h1 : DS X W st m) (h2 : DSs X W rest n) : DSs X W (st :: rest) (sSeq m n) := PSs.imp (pss_cons h1 h2) fun D σ H ⟨w, s, h, rs, hw, q⟩ => ⟨w, s, h, rs, hw, WpS.then q⟩
theorem ds_one (h1 : DS X W st m) : DSs X W [st] m := pss_one h1
theorem ds_pass : DS X W (.Pass pos) sNil := PS.imp ps_pass fun D σ H ⟨w, s, h, rs, hw, q⟩ => q w σ H (.refl w) rs hw
def sBreak : SM := fun s h => .bk s h
def sCont : SM := fun s h => .ct s h
theorem ds_break : DS X W (.Break pos) sBreak := PS.imp ps_break fun D σ H ⟨w, s, h, rs, hw, q⟩ => q w σ H (.refl w) rs hw
theorem ds_continue : DS X W (.Continue pos) sCont := PS.imp ps_continue fun D σ H ⟨w, s, h, rs, hw, q⟩ => q w σ H (.refl w) rs hw
theorem ds_doc {x j pos pos'} : DS X W (.Expr (.Constant (.str x) j pos) pos') sNil := PS.imp ps_doc fun D σ H ⟨w, s, h, rs, hw, q⟩ => q w σ H (.refl w) rs hw
def sExpr (m : EM) : SM := fun s h => (m s h).q s fun _ h1 => .nx s h1
theorem ds_expr (he : DE X W e me) (hs : swapsWith e none pos.line X.env = pure false := by rfl) : DS X W (.Expr e pos) (sExpr me) := PS.imp (ps_expr he hs) fun D σ H ⟨w, s, h, rs, hw, q⟩ =>
  ⟨w, s, h, rs, hw, WpS.q rs q fun d h1 w1 v H1 l rv hw1 q1 => q1 w1 σ H1 (.refl w1) (rs.mono l) hw1⟩
def sRet (m : EM) : SM := fun s h => (m s h).q s fun d h1 => .rt d h1
theorem ds_ret (he : DE X W e me) : DS X W (.Return (some e) pos) (sRet me) := PS.imp (ps_ret he) fun D σ H ⟨w, s, h, rs, hw, q⟩ =>
  ⟨w, s, h, rs, hw, WpS.q rs q fun d h1 w1 v H1 l rv hw1 q1 => q1 w1 v H1 (.refl w1) rv hw1⟩
def sRetN : SM := fun s h => .rt .non h
theorem ds_retN : DS X W (.Return none pos) sRetN := PS.imp ps_retN fun D σ H ⟨w, s, h, rs, hw, q⟩ => q w .non H (.refl w) .non hw
def sIf (c : BM) (a b : SM) : SM := fun s h => (c s h).q s fun k h1 => if k = true then a s h1 else b s h1
theorem ds_if {c : Expr} {a b : List Stmt} {mc : BM} (hc : DT X W c mc) (ha : DSs X W a m) (hb : DSs X W b n) : DS X W (.If c a b pos) (sIf mc m n) := PS.imp (ps_if hc ha hb) fun D σ H ⟨w, s, h, rs, hw, q⟩ =>
  ⟨w, s, h, rs, hw, WpS.qB rs q fun k h1 w1 H1 l hw1 q1 => by
    cases k with
    | true => exact iteT ⟨w1, s, h1, rs.mono l, hw1, q1⟩
    | false => exact iteF ⟨w1, s, h1, rs.mono l, hw1, q1⟩⟩

/-! ### targets -/
abbrev GM := D → Sg → LH → Option (Sg × LH)
/-- what a target does; vs: the slots that it may store -/
def TG_ (K : PySem.W.Frag) (vs : List Nat) (g : GM) : TG := fun v σ H Q => ∃ w d s h s' h', RV K w v d ∧ RS K w σ s ∧ HW K w H h ∧ g d s h = some (s', h') ∧
  ∀ w' σ' H', w.le w' → RS K w' σ' s' → HW K w' H' h' → wipe σ' vs = wipe σ vs → Q σ' H'
def DG (X : Cx) (vs : List Nat) (t : Expr) (g : GM) : Prop := PG X t (TG_ X.K vs g)
theorem PG.imp {X : Cx} {e : Expr} {t t' : TG} (h : PG X e t) (k : ∀ v σ H Q, t' v σ H Q → t v σ H Q) : PG X e t' := ⟨fun pins s σ H v u Q I r q => h.run pins s σ H v u Q I r (k v σ H Q q)⟩
theorem wipe_set_out {i : Nat} {x : Option V} : ∀ {vs : List Nat} {σ : St}, i ∉ vs → wipe (σ.set i x) vs = (wipe σ vs).set i x
  | [], _, _ => rfl
  | v :: vs, σ, h => by
    simp only [List.mem_cons, not_or] at h
    unfold wipe
    rw [wipe_set_out h.2, List.set_comm _ _ h.1]
theorem wipe_set_in {i : Nat} {x : Option V} : ∀ {vs : List Nat} {σ : St}, i ∈ vs → wipe (σ.set i x) vs = wipe σ vs
  | v :: vs, σ, h => by
    unfold wipe
    by_cases hv : i ∈ vs
    · rw [wipe_set_in hv]
    · rcases List.mem_cons.mp h with rfl | h
      · rw [wipe_set_out hv, List.set_set]
      · exact (hv h).elim
def gNm (i : Nat) : GM := fun d s h => some (s.set i (some d), h)
theorem dg_name {vs : List Nat} {i : Nat} {x : Str} (hN : X.N.Nodup) (hi : X.N[i]? = some x) (hx : Loc X.env.scope x) (hf : X.fn x = true ∨ X.env.scope.names.lookup x = some .local := by first | exact .inl rfl | exact .inr rfl | assumption) (hv : i ∈ vs) : DG X vs (.Name x pos) (gNm i) :=
  PG.imp (pg_name hN hi hx hf) fun v σ H Q ⟨w, d, s, h, s', h', rv, rs, hw, e, q⟩ => by
    cases e
    exact q w _ H (.refl w) (rs.set rv) hw (wipe_set_in hv)
abbrev GMs := List D → Sg → LH → Option (Sg × LH)
def TGs_ (K : PySem.W.Frag) (vs : List Nat) (g : GMs) : TGs := fun v σ H Q => ∃ w d s h s' h', RVs K w v d ∧ RS K w σ s ∧ HW K w H h ∧ g d s h = some (s', h') ∧
  ∀ w' σ' H', w.le w' → RS K w' σ' s' → HW K w' H' h' → wipe σ' vs = wipe σ vs → Q σ' H'
def DGs (X : Cx) (vs : List Nat) (t : List Expr) (g : GMs) : Prop := PGs X t (TGs_ X.K vs g)
theorem PGs.imp {X : Cx} {e : List Expr} {t t' : TGs} (h : PGs X e t) (k : ∀ v σ H Q, t' v σ H Q → t v σ H Q) : PGs X e t' := ⟨fun pins s σ H v u Q I r q => h.run pins s σ H v u Q I r (k v σ H Q q)⟩
def gNl : GMs := fun d s h => match d with
  | [] => some (s, h)
  | _ => none
def gCn (g : GM) (gs : GMs) : GMs := fun d s h => match d with
  | x :: xs => (g x s h).bind fun p => gs xs p.1 p.2
  | _ => none
theorem dgs_nil {vs : List Nat} : DGs X vs [] gNl := PGs.imp pgs_nil fun v σ H Q ⟨w, d, s, h, s', h', rv, rs, hw, e, q⟩ => by
  unfold gNl at e
  split at e
  · cases e
    cases rv
    exact ⟨rfl, q w σ H (.refl w) rs hw rfl⟩
  · cases e
theorem dgs_cons {vs : List Nat} {t : Expr} {ts : List Expr} {g : GM} {gs : GMs} (h1 : DG X vs t g) (h2 : DGs X vs ts gs) (hs : (assignEach (t :: ts) X.env).map (·.2) = assign t X.env :: (assignEach ts X.env).map (·.2) := by rfl) : DGs X vs (t :: ts) (gCn g gs) :=
  PGs.imp (pgs_cons h1 h2 hs) fun v σ H Q ⟨w, d, s, h, s', h', rv, rs, hw, e, q⟩ => by
    unfold gCn at e
    split at e
    · simp only [Option.bind_eq_some_iff] at e
      obtain ⟨⟨s1, h1⟩, e1, e2⟩ := e
      cases rv with
      | cons r rr =>
        exact ⟨_, _, rfl, w, _, s, h, s1, h1, r, rs, hw, e1, fun w1 σ1 H1 l1 rs1 hw1 k1 => ⟨w1, _, s1, h1, s', h', rr.mono l1, rs1, hw1, e2, fun w2 σ2 H2 l2 rs2 hw2 k2 => q w2 σ2 H2 (l1.trans l2) rs2 hw2 (k2.trans k1)⟩⟩
    · cases e
/-- (a, b, ..) = a tuple -/
def gTp (n : Nat) (gs : GMs) : GM := fun d s h => match d with
  | .tup l => if decide (l.length = n) = true then gs l s h else none
  | _ => none
theorem dg_tup {vs : List Nat} {ts : List Expr} {k n : Nat} {gs : GMs} (hc : X.calm = true) (h : DGs X vs ts gs) (hn : (assignEach ts X.env).length = n := by rfl) (hst : (assignEach ts X.env).findIdx? (·.1) = none := by rfl) : DG X vs (.Tuple ts k pos) (gTp n gs) :=
  PG.imp (pg_tup hc h hn hst) fun v σ H Q ⟨w, d, s, h, s', h', rv, rs, hw, e, q⟩ => by
    unfold gTp at e
    split at e
    · split at e
      · rename_i z
        obtain ⟨a, us, rfl, s1, q1⟩ := seqT_ok hw rv rfl
        exact ⟨a, us, rfl, s1, q1.length.trans (of_decide_eq_true z), w, _, s, h, s', h', q1, rs, hw, e, q⟩
      · cases e
    · cases e
/-- o[i] = .. of a list that may change -/
def gSb (o i : EM) : GM := fun d s h => match o s h with
  | .ok (.ref n) h1 => match i s h1 with
    | .ok (.int k) h2 => match h2[n]? with
      | some (.lst l) => (ixN l.length k).map fun j => (s, h2.set n (.lst (l.set j d)))
      | _ => none
    | _ => none
  | _ => none
theorem dg_sub {vs : List Nat} {o i : Expr} {mo mi : EM} (ho : DE X W o mo) (hi : DE X W i mi)
    (ha : ∀ v, assign (.Subscript o i pos) X.env v = (do
      let ov ← holding [v] (eval o X.env)
      let iv ← holding [v, ov] (eval i X.env)
      standAt pos
      holding [v, ov, iv] (setItem ov iv v)
      release [v, ov, iv] []) := by intro _; rfl) : DG X vs (.Subscript o i pos) (gSb mo mi) :=
  PG.imp (pg_sub ho hi set_list ha) fun v σ H Q ⟨w, d, s, h, s', h', rv, rs, hw, e, q⟩ => by
    unfold gSb at e
    split at e
    · rename_i n h1 e1
      split at e
      · rename_i k h2 e2
        split at e
        · rename_i l e3
          simp only [Option.map_eq_some_iff, Prod.mk.injEq] at e
          obtain ⟨j, e4, rfl, rfl⟩ := e
          refine ⟨w, s, h, rs, hw, ?_⟩
          rw [e1]
          refine fun w1 x H1 l1 rx hw1 => ⟨w1, s, h1, rs.mono l1, hw1, ?_⟩
          rw [e2]
          refine fun w2 y H2 l2 ry hw2 => ?_
          cases ry
          obtain ⟨a, us, rfl, ea, s1, q1⟩ := refL_ok hw2 (rx.mono l2) e3
          exact ⟨a, us, k, j, rfl, rfl, s1, by rw [q1.length]; exact e4, q w2 σ _ (l1.trans l2) (rs.mono (l1.trans l2)) (hw2.set ea (List.getElem?_eq_some_iff.mp e3).1 (.lst (q1.set ((rv.mono (l1.trans l2))) j))) rfl⟩
        · cases e
      · cases e
    · cases e
def sAsg (m : EM) (g : GM) : SM := fun s h => (m s h).q s fun d h1 => match g d s h1 with
  | some (s', h') => .nx s' h'
  | none => .no
theorem ds_asg {tg : Expr} {g : GM} {vs : List Nat} (he : DE X W e me) (hg : DG X vs tg g) (hs : swapsWithSole [tg] e pos.line X.env = pure false := by rfl) (hw : swappedStores [tg] e X.env = pure none := by rfl)
    (h1 : (assignEach [tg] X.env).map (·.2) = [assign tg X.env] := by rfl) : DS X W (.Assign [tg] e pos) (sAsg me g) := PS.imp (ps_asg he hg hs hw h1) fun D σ H ⟨w, s, h, rs, hw, q⟩ =>
  ⟨w, s, h, rs, hw, WpS.q rs q fun d h1 w1 v H1 l rv hw1 q1 => by
    split at q1
    · rename_i s' h' e
      exact ⟨w1, d, s, h1, s', h', rv, rs.mono l, hw1, e, fun w2 σ2 H2 l2 rs2 hw2 _ => q1 w2 σ2 H2 l2 rs2 hw2⟩
    · exact q1.elim⟩
def sSet (i : Nat) (m : EM) : SM := fun s h => (m s h).q s fun d h1 => .nx (s.set i (some d)) h1
theorem ds_set {i : Nat} {x : Str} {pos' : Pos} (hN : X.N.Nodup) (hi : X.N[i]? = some x) (hx : Loc X.env.scope x) (he : DE X W e me) (hs : swapsWith e (some (.Name x pos')) pos.line X.env = pure false := by rfl) (hf : X.fn x = true ∨ X.env.scope.names.lookup x = some .local := by first | exact .inl rfl | exact .inr rfl | assumption) :
    DS X W (.Assign [.Name x pos'] e pos) (sSet i me) := PS.imp (ps_set hN hi hx he hs hf) fun D σ H ⟨w, s, h, rs, hw, q⟩ =>
  ⟨w, s, h, rs, hw, WpS.q rs q fun d h1 w1 v H1 l rv hw1 q1 => q1 w1 _ H1 (.refl w1) ((rs.mono l).set rv) hw1⟩
/-- a, b = x, y; a, b, c = x, y, z -/
def sPar (i j : Nat) (m : AM) : SM := fun s h => (m s h).q s fun l h1 => match l with
  | [x, y] => .nx ((s.set i (some x)).set j (some y)) h1
  | _ => .no
theorem ds_par {i j : Nat} {x y : Str} {a b : Expr} {ma : AM} {px py pt : Pos} {kt k2 pt2} (hc : X.calm = true) (hN : X.N.Nodup) (hi : X.N[i]? = some x) (hj : X.N[j]? = some y) (hij : i ≠ j)
    (hx : X.env.scope.names.lookup x = some .local) (hy : X.env.scope.names.lookup y = some .local) (ha : DA X W [a, b] ma)
    (hw : swappedStores [.Tuple [.Name x px, .Name y py] kt pt] (.Tuple [a, b] k2 pt2) X.env = pure (some [x, y]))
    (hs : swapsWithSole [.Tuple [.Name x px, .Name y py] kt pt] (.Tuple [a, b] k2 pt2) pos.line X.env = pure false := by rfl) :
    DS X W (.Assign [.Tuple [.Name x px, .Name y py] kt pt] (.Tuple [a, b] k2 pt2) pos) (sPar i j ma) := PS.imp (ps_par hc hN hi hj hij hx hy ha hw hs) fun D σ H ⟨w, s, h, rs, hw, q⟩ =>
  ⟨w, s, h, rs, hw, WpS.qA rs q fun l h1 w1 v H1 l1 rv hw1 q1 => by
    split at q1
    · obtain ⟨x, y, rfl, r1, r2⟩ := rv2 rv
      exact ⟨x, y, rfl, q1 w1 _ H1 (.refl w1) (((rs.mono l1).set r1).set r2) hw1⟩
    · exact q1.elim⟩
/-- x op= e -/
def sAug (i : Nat) (g : O2) (m : EM) : SM := fun s h => match s[i]? with
  | some (some x) => (m s h).q s fun y h1 => match g h1 x y with
    | some d => .nx (s.set i (some d)) h1
    | none => .no
  | _ => .no
def IPD (X : Cx) (op : Operator) (g : O2) : Prop := PIp X op (rO X.K g)
theorem ds_aug {i : Nat} {x : Str} {op : Operator} {g : O2} {pos' : Pos} (hN : X.N.Nodup) (hi : X.N[i]? = some x) (hx : Loc X.env.scope x) (he : DE X W e me) (ho : IPD X op g) (hf : X.fn x = true ∨ X.env.scope.names.lookup x = some .local := by first | exact .inl rfl | exact .inr rfl | assumption) :
    DS X W (.AugAssign (.Name x pos') op e pos) (sAug i g me) := PS.imp (ps_aug hN hi hx he ho hf) fun D σ H ⟨w, s, h, rs, hw, q⟩ => by
  unfold sAug at q
  split at q
  · rename_i x0 e0
    obtain ⟨u, h1, h2⟩ := rs.2 i x0 e0
    refine ⟨u, h1, w, s, h, rs, hw, WpS.q rs q fun d h1 w1 v H1 l rv hw1 q1 => ?_⟩
    split at q1
    · rename_i d' e'
      exact ⟨w1, h1, x0, d, d', h2.mono l, rv, hw1, e', fun w2 z H2 l2 rz hw2 => q1 w2 _ H2 l2 ((rs.mono (l.trans l2)).set rz) hw2⟩
    · exact q1.elim
  · exact q.elim
def oAddI : O2 := fun _ x y => match x, y with
  | .int i, .int j => some (.int (i + j))
  | _, _ => none
theorem ipd_add : IPD X .Add oAddI := by
  intro pins s σ H x y v u Q I rx ry ⟨w, h, dx, dy, d, r1, r2, hw, e, q⟩
  unfold oAddI at e
  split at e
  · cases r1; cases r2; cases e
    exact ip_add pins s σ H _ _ v u Q I rx ry ⟨_, _, rfl, rfl, Pv.here q hw (.int _)⟩
  · cases e
theorem ipd_sub : IPD X .Sub oSub := by
  intro pins s σ H x y v u Q I rx ry ⟨w, h, dx, dy, d, r1, r2, hw, e, q⟩
  unfold oSub at e
  split at e
  · cases r1; cases r2; cases e
    exact ip_sub pins s σ H _ _ v u Q I rx ry ⟨_, _, rfl, rfl, Pv.here q hw (.int _)⟩
  · cases e

/-! ### while -/
def whileM : Nat → BM → SM → SM
  | 0, _, _ => fun _ _ => .no
  | n + 1, t, b => fun s h => (t s h).q s fun k h1 => if k = true then (match b s h1 with
    | .nx s' h' => whileM n t b s' h'
    | .ct s' h' => whileM n t b s' h'
    | .bk s' h' => .nx s' h'
    | r => r) else .nx s h1
theorem te_while {K : PySem.W.Frag} {t : BM} {b : SM} {D : Ends} {σ : St} {H : Hp} (n : Nat) (q : TS_ K W (whileM n t b) D σ H) : tWhile (TB_ K W t) (TS_ K W b) D σ H := by
  refine ⟨fun m σ H => TS_ K W (whileM m t b) D σ H, ⟨n, q⟩, ?_⟩
  rintro m σ H ⟨w, s, h, rs, hw, q⟩
  cases m with
  | zero => exact False.elim q
  | succ m =>
    refine ⟨w, s, h, rs, hw, WpS.qB rs q fun k h1 w1 H1 l hw1 q1 => ?_⟩
    cases k with
    | true =>
      refine iteT ⟨TS_ K W (whileM m t b) D, fun σ' H' z => ⟨m, Nat.lt_succ_self m, z⟩, w1, s, h1, rs.mono l, hw1, ?_⟩
      rw [if_pos rfl] at q1
      revert q1
      cases b s h1 with
      | nx s' h' => exact fun q1 w2 σ2 H2 l2 rs2 hw2 => ⟨w2, s', h', rs2, hw2, WpS.mono l2 q1⟩
      | ct s' h' => exact fun q1 w2 σ2 H2 l2 rs2 hw2 => ⟨w2, s', h', rs2, hw2, WpS.mono l2 q1⟩
      | bk s' h' => exact fun q1 => q1
      | rt d h' => exact fun q1 => q1
      | ex x s' h' => exact fun q1 => q1
      | no => exact fun q1 => q1
    | false => exact iteF (q1 w1 σ H1 (.refl w1) (rs.mono l) hw1)
theorem ds_while {c : Expr} {body : List Stmt} {mc : BM} (n : Nat) (hp : PassesOwn (model X.prog X.w) X.A X.env X.xe) (hc : DT X W c mc) (hb : DSs X W body m) : DS X W (.While c body [] pos) (whileM n mc m) := PS.imp (ps_while hp hc hb) fun D σ H q => te_while n q

end
end DN
namespace DN
open PySem L2

/-! ### what is walked: a stream of items; none: not known -/
abbrev Strm := LH → Nat → Option (Option D)
abbrev IM := Sg → LH → R Strm
def ItOk (K : PySem.W.Frag) (w : Wd) (J : It) (f : Strm) : Prop := ∀ (i : Nat) (w1 : Wd) (H1 : Hp) (h1 : LH), w.le w1 → HW K w1 H1 h1 →
  (∀ d, f h1 i = some (some d) → J.go i H1 ∧ ∀ x H2, J.yld i H1 x H2 → ∃ w2, w1.le w2 ∧ HW K w2 H2 h1 ∧ RV K w2 x d) ∧ (f h1 i = some none → J.stop i H1)
def WpI (K : PySem.W.Frag) (w : Wd) (Q : It → Hp → Prop) (W : XK) : R Strm → Prop
  | .ok f h => ∀ w' H' J, w.le w' → HW K w' H' h → ItOk K w' J f → Q J H'
  | .ex x h => Px K w W x h
  | .no => False
def TI_ (K : PySem.W.Frag) (W : WX) (m : IM) : TI := fun σ H R => ∃ w s h, RS K w σ s ∧ HW K w H h ∧ WpI K w R (fun c d H => W c d σ H) (m s h)
def DI (X : Cx) (W : WX) (tg it : Expr) (m : IM) : Prop := PI X tg it (TI_ X.K W m)
theorem PI.imp {X : Cx} {a b : Expr} {t t' : TI} (h : PI X a b t) (k : ∀ σ H R, t' σ H R → t σ H R) : PI X a b t' := ⟨fun pins s σ H R I q => h.run pins s σ H R I (k σ H R q)⟩
/-- of a fixed list of items; of a list that may change -/
def fixS (l : List D) : Strm := fun _ i => some l[i]?
def refS (n : Nat) : Strm := fun h i => match h[n]? with
  | some (.lst l) => some l[i]?
  | _ => none
section
variable {K : PySem.W.Frag} {w w1 : Wd}
theorem ItOk.of_fix {J : It} {l : List D} (h : ∀ (i : Nat) (w1 : Wd) (H1 : Hp) (h1 : LH), w.le w1 → HW K w1 H1 h1 → (∀ d, l[i]? = some d → J.go i H1 ∧ ∀ x H2, J.yld i H1 x H2 → ∃ w2, w1.le w2 ∧ HW K w2 H2 h1 ∧ RV K w2 x d) ∧ (l.length ≤ i → J.stop i H1)) : ItOk K w J (fixS l) := fun i w1 H1 h1 l1 hw1 =>
  ⟨fun d e => (h i w1 H1 h1 l1 hw1).1 d (Option.some.inj e), fun e => (h i w1 H1 h1 l1 hw1).2 (List.getElem?_eq_none_iff.mp (Option.some.inj e))⟩
theorem fix_itl {a : Addr} {vs : List V} {l : List D} (hS : ∀ w1 H1 h1, w.le w1 → HW K w1 H1 h1 → SqL K H1 a vs) (r : RVs K w vs l) : ItOk K w (Itl K a) (fixS l) := ItOk.of_fix fun i w1 H1 h1 l1 hw1 => by
  refine ⟨fun d e => ?_, fun e => ⟨vs, hS w1 H1 h1 l1 hw1, by rw [r.length]; exact e⟩⟩
  obtain ⟨v, e1, rv⟩ := r.get e
  refine ⟨⟨vs, v, hS w1 H1 h1 l1 hw1, e1⟩, fun x H2 ⟨e2, e3⟩ => ?_⟩
  subst e2
  have ex := e3 vs (hS w1 H2 h1 l1 hw1)
  rw [e1] at ex
  cases ex
  exact ⟨w1, .refl w1, hw1, rv.mono l1⟩
theorem fix_itt {a : Addr} {vs : List V} {l : List D} (hS : ∀ w1 H1 h1, w.le w1 → HW K w1 H1 h1 → SqT K H1 a vs) (r : RVs K w vs l) : ItOk K w (Itt K a) (fixS l) := ItOk.of_fix fun i w1 H1 h1 l1 hw1 => by
  refine ⟨fun d e => ?_, fun e => ⟨vs, hS w1 H1 h1 l1 hw1, by rw [r.length]; exact e⟩⟩
  obtain ⟨v, e1, rv⟩ := r.get e
  refine ⟨⟨vs, v, hS w1 H1 h1 l1 hw1, e1⟩, fun x H2 ⟨e2, e3⟩ => ?_⟩
  subst e2
  have ex := e3 vs (hS w1 H2 h1 l1 hw1)
  rw [e1] at ex
  cases ex
  exact ⟨w1, .refl w1, hw1, rv.mono l1⟩
theorem at_mono {n : Nat} {a : Addr} (l : w.le w1) (e : w.at_[n]? = some a) : w1.at_[n]? = some a := by
  obtain ⟨t, q⟩ := l.2.1
  rw [← q, List.getElem?_append_left (List.getElem?_eq_some_iff.mp e).1]; exact e
theorem ref_itl {a : Addr} {n : Nat} (ea : w.at_[n]? = some a) : ItOk K w (Itl K a) (refS n) := by
  intro i w1 H1 h1 l1 hw1
  have key : ∀ o, refS n h1 i = some o → ∃ l vs, h1[n]? = some (.lst l) ∧ H1 a = some (.lst vs) ∧ RVs K w1 vs l ∧ o = l[i]? := fun o e => by
    unfold refS at e
    split at e
    · rename_i l el
      cases e
      obtain ⟨u, h2, h3⟩ := hw1.ats n a _ (at_mono l1 ea) el
      cases h3 with
      | lst r => exact ⟨l, _, el, h2, r, rfl⟩
    · cases e
  refine ⟨fun d e => ?_, fun e => ?_⟩
  · obtain ⟨l, vs, el, h2, r, e1⟩ := key _ e
    obtain ⟨v, e1, rv⟩ := r.get e1.symm
    refine ⟨⟨vs, v, .inl (.inl h2), e1⟩, fun x H2 ⟨e2, e3⟩ => ?_⟩
    subst e2
    have ex := e3 _ (.inl (.inl h2))
    rw [e1] at ex
    cases ex
    exact ⟨w1, .refl w1, hw1, rv⟩
  · obtain ⟨l, vs, el, h2, r, e1⟩ := key _ e
    exact ⟨vs, .inl (.inl h2), by rw [r.length]; exact List.getElem?_eq_none_iff.mp e1.symm⟩
theorem rng_it {lo : Int} {n : Nat} : ItOk K w (Itr lo n) (fixS ((List.range n).map fun (k : Nat) => D.int (lo + (k : Int)))) := ItOk.of_fix fun i w1 H1 h1 l1 hw1 => by
  refine ⟨fun d e => ?_, fun e => show n ≤ i by simpa using e⟩
  rw [List.getElem?_map] at e
  simp only [Option.map_eq_some_iff] at e
  obtain ⟨k, e1, rfl⟩ := e
  obtain ⟨hi, e1⟩ := List.getElem?_eq_some_iff.mp e1
  simp at hi e1
  subst e1
  refine ⟨hi, fun x H2 ⟨e2, e3⟩ => ?_⟩
  subst e2 e3
  exact ⟨w1, .refl w1, hw1, .int _⟩
def signs (z : Str) : List D := z.cps.toList.map fun c => .str ⟨#[c]⟩
theorem str_it {z : Str} : ItOk K w (Its z) (fixS (signs z)) := ItOk.of_fix fun i w1 H1 h1 l1 hw1 => by
  refine ⟨fun d e => ?_, fun e => show z.cps.size ≤ i by simpa [signs] using e⟩
  unfold signs at e
  rw [List.getElem?_map] at e
  simp only [Option.map_eq_some_iff] at e
  obtain ⟨c, e1, rfl⟩ := e
  have hi : i < z.cps.size := by simpa using (List.getElem?_eq_some_iff.mp e1).1
  refine ⟨hi, fun x H2 ⟨e2, c', e3, e4⟩ => ?_⟩
  subst e2 e4
  have : c' = c := by
    rw [Array.getElem?_toList] at e1
    rw [e1] at e3
    exact (Option.some.inj e3).symm
  subst this
  exact ⟨w1, .refl w1, hw1, .str _⟩
end
section
variable {X : Cx} {W : WX} {tg e : Expr} {me : EM}
/-- for x in a list; in a tuple; in a text -/
def iVal (m : EM) : IM := fun s h => (m s h).bind fun d h1 => match d with
  | .lst l => .ok (fixS l) h1
  | .kst l => .ok (fixS l) h1
  | .ref n => match h1[n]? with
    | some (.lst _) => .ok (refS n) h1
    | _ => .no
  | _ => .no
def iTupV (m : EM) : IM := fun s h => (m s h).bind fun d h1 => match d with
  | .tup l => .ok (fixS l) h1
  | _ => .no
def iStrV (m : EM) : IM := fun s h => (m s h).bind fun d h1 => match d with
  | .str z => .ok (fixS (signs z)) h1
  | _ => .no
theorem di_val (he : DE X W e me) : DI X W tg e (iVal me) := PI.imp (pi_list he) fun σ H R ⟨w, s, h, rs, hw, q⟩ =>
  ⟨w, s, h, rs, hw, WpE.bind (G := WpI X.K w R _) q (fun _ _ z => z) (fun z => z) fun d h1 w1 v H1 l rv hw1 q1 => by
    cases rv with
    | lst z r => exact ⟨_, rfl, ⟨_, .inl (.inl (hw1.fz _ _ z))⟩, q1 w1 H1 _ l hw1 (fix_itl (fun w2 H2 h2 l2 hw2 => .inl (.inl (hw2.fz _ _ (l2.1 _ _ z)))) r)⟩
    | @kst a vs ds z r =>
      refine ⟨a, rfl, ⟨vs, ?_⟩, q1 w1 H1 _ l hw1 (fix_itl (vs := vs) (fun w2 H2 h2 l2 hw2 => ?_) r)⟩
      · rcases z with ⟨o, z⟩ | z
        · exact .inl (.inr ⟨o, hw1.fz _ _ z⟩)
        · exact .inr z
      · rcases z with ⟨o, z⟩ | z
        · exact .inl (.inr ⟨o, hw2.fz _ _ (l2.1 _ _ z)⟩)
        · exact .inr z
    | @ref a n z =>
      dsimp only at q1
      split at q1
      · rename_i l0 e0
        obtain ⟨o, z1, z2⟩ := hw1.ats n a _ z e0
        cases z2 with
        | lst r => exact ⟨a, rfl, ⟨_, .inl (.inl z1)⟩, q1 w1 H1 _ l hw1 (ref_itl z)⟩
      · exact q1.elim
    | _ => exact q1.elim⟩
theorem di_tup (he : DE X W e me) : DI X W tg e (iTupV me) := PI.imp (pi_tup he) fun σ H R ⟨w, s, h, rs, hw, q⟩ =>
  ⟨w, s, h, rs, hw, WpE.bind (G := WpI X.K w R _) q (fun _ _ z => z) (fun z => z) fun d h1 w1 v H1 l rv hw1 q1 => by
    cases rv with
    | tup z r =>
      have hS : ∀ w2 H2 h2, w1.le w2 → HW X.K w2 H2 h2 → SqT X.K H2 _ _ := fun w2 H2 h2 l2 hw2 => z.elim (fun z => .inl (.inl (hw2.fz _ _ (l2.1 _ _ z)))) .inr
      exact ⟨_, rfl, ⟨_, hS w1 H1 h1 (.refl w1) hw1⟩, q1 w1 H1 _ l hw1 (fix_itt hS r)⟩
    | _ => exact q1.elim⟩
theorem di_str (he : DE X W e me) : DI X W tg e (iStrV me) := PI.imp (pi_str he) fun σ H R ⟨w, s, h, rs, hw, q⟩ =>
  ⟨w, s, h, rs, hw, WpE.bind (G := WpI X.K w R _) q (fun _ _ z => z) (fun z => z) fun d h1 w1 v H1 l rv hw1 q1 => by
    cases rv with
    | str z => exact ⟨_, rfl, q1 w1 H1 _ l hw1 str_it⟩
    | _ => exact q1.elim⟩
/-- range(n), range(a, b) -/
def rngL (lo : Int) (n : Nat) : List D := (List.range n).map fun (k : Nat) => D.int (lo + (k : Int))
def inRng (j : Int) : Bool := decide (-(2 ^ 62) ≤ j ∧ j < 2 ^ 62)
def iRng1 (m : AM) : IM := fun s h => (m s h).bind fun l h1 => match l with
  | [.int j] => if inRng j = true then .ok (fixS (rngL 0 j.toNat)) h1 else .no
  | _ => .no
def iRng2 (m : AM) : IM := fun s h => (m s h).bind fun l h1 => match l with
  | [.int i, .int j] => if (inRng i && inRng j) = true then .ok (fixS (rngL i (j - i).toNat)) h1 else .no
  | _ => .no
theorem di_rng1 {a : Expr} {ma : AM} {p pos : Pos} (hg : Gl X "range") (hm : X.mg "range" = none) (ha : DA X W [a] ma) (hs : starEach [a] X.env = [(false, eval a X.env)] := by rfl) : DI X W tg (.Call (.Name "range" p) [a] [] pos) (iRng1 ma) :=
  PI.imp (pi_range1 hg hm ha hs) fun σ H R ⟨w, s, h, rs, hw, q⟩ => ⟨w, s, h, rs, hw, WpA.bind (G := WpI X.K w R _) q (fun _ _ z => z) (fun z => z) fun l h1 w1 v H1 l1 rv hw1 q1 => by
    split at q1
    · obtain ⟨u, rfl, ru⟩ := rv1 rv
      cases ru
      split at q1
      · rename_i z
        obtain ⟨z1, z2⟩ := of_decide_eq_true z
        exact ⟨_, rfl, z1, z2, q1 w1 H1 _ l1 hw1 rng_it⟩
      · exact q1.elim
    · exact q1.elim⟩
theorem di_rng2 {a b : Expr} {ma : AM} {p pos : Pos} (hg : Gl X "range") (hm : X.mg "range" = none) (ha : DA X W [a, b] ma) (hs : starEach [a, b] X.env = [(false, eval a X.env), (false, eval b X.env)] := by rfl) (hs2 : starEach [b] X.env = [(false, eval b X.env)] := by rfl) :
    DI X W tg (.Call (.Name "range" p) [a, b] [] pos) (iRng2 ma) :=
  PI.imp (pi_range2 hg hm ha hs hs2) fun σ H R ⟨w, s, h, rs, hw, q⟩ => ⟨w, s, h, rs, hw, WpA.bind (G := WpI X.K w R _) q (fun _ _ z => z) (fun z => z) fun l h1 w1 v H1 l1 rv hw1 q1 => by
    split at q1
    · obtain ⟨u, u2, rfl, ru, ru2⟩ := rv2 rv
      cases ru
      cases ru2
      split at q1
      · rename_i z
        rw [Bool.and_eq_true] at z
        obtain ⟨z1, z2⟩ := of_decide_eq_true z.1
        obtain ⟨z3, z4⟩ := of_decide_eq_true z.2
        exact ⟨_, _, rfl, ⟨z1, z2, z3, z4⟩, q1 w1 H1 _ l1 hw1 rng_it⟩
      · exact q1.elim
    · exact q1.elim⟩
/-- enumerate(xs), zip(xs, ys) of lists: pairs are new tuples -/
def enumL (l : List D) : List D := (List.range l.length).map fun i => .tup [.int (i : Nat), l.getD i .non]
def zipL : List D → List D → List D
  | x :: xs, y :: ys => .tup [x, y] :: zipL xs ys
  | _, _ => []
def listOf (h : LH) : D → Option (List D)
  | .lst l => some l
  | .kst l => some l
  | _ => none
theorem listOf_ok {K : PySem.W.Frag} {w : Wd} {v : V} {d : D} {l : List D} {h : LH} (r : RV K w v d) (e : listOf h d = some l) : ∃ a vs, v = .ref a ∧ RVs K w vs l ∧ ∀ w1 H1 h1, w.le w1 → HW K w1 H1 h1 → SqL K H1 a vs := by
  cases r with
  | lst z r => cases e; exact ⟨_, _, rfl, r, fun w2 H2 h2 l2 hw2 => .inl (.inl (hw2.fz _ _ (l2.1 _ _ z)))⟩
  | @kst a vs ds z r =>
    cases e
    refine ⟨a, vs, rfl, r, fun w2 H2 h2 l2 hw2 => ?_⟩
    rcases z with ⟨o, z⟩ | z
    · exact .inl (.inr ⟨o, hw2.fz _ _ (l2.1 _ _ z)⟩)
    · exact .inr z
  | _ => cases e
def iEnumM (m : AM) : IM := fun s h => (m s h).bind fun l h1 => match l with
  | [d] => match listOf h1 d with
    | some l => .ok (fixS (enumL l)) h1
    | none => .no
  | _ => .no
theorem enum_it {K : PySem.W.Frag} {w : Wd} {a : Addr} {vs : List V} {l : List D} (hS : ∀ w1 H1 h1, w.le w1 → HW K w1 H1 h1 → SqL K H1 a vs) (r : RVs K w vs l) : ItOk K w (Ite K a) (fixS (enumL l)) := ItOk.of_fix fun i w1 H1 h1 l1 hw1 => by
  refine ⟨fun d e => ?_, fun e => ⟨vs, hS w1 H1 h1 l1 hw1, by rw [r.length]; simpa [enumL] using e⟩⟩
  unfold enumL at e
  rw [List.getElem?_map] at e
  simp only [Option.map_eq_some_iff] at e
  obtain ⟨k, e1, rfl⟩ := e
  obtain ⟨hi, e1⟩ := List.getElem?_eq_some_iff.mp e1
  simp at hi e1
  subst e1
  obtain ⟨v, e2, rv⟩ := r.get (List.getElem?_eq_getElem hi)
  refine ⟨⟨vs, v, hS w1 H1 h1 l1 hw1, e2⟩, fun x H2 ⟨T, y, e3, e4, e5, e6⟩ => ?_⟩
  subst e3 e5
  have ey := e6 vs (hS w1 H1 h1 l1 hw1)
  rw [e2] at ey
  cases ey
  refine ⟨_, Wd.le_add, hw1.add e4, .tup (.inl (.inr ⟨rfl, rfl⟩)) (.cons (.int _) (.cons ?_ .nil))⟩
  rw [List.getD_eq_getElem?_getD, List.getElem?_eq_getElem hi]
  exact (rv.mono l1).mono Wd.le_add
theorem di_enum {e : Expr} {ma : AM} {p pos tpos : Pos} {elts : List Expr} {kk : Nat} (hg : Gl X "enumerate") (hm : X.mg "enumerate" = none) (ha : DA X W [e] ma) (hs : starEach [e] X.env = [(false, eval e X.env)] := by rfl) :
    DI X W (.Tuple elts kk tpos) (.Call (.Name "enumerate" p) [e] [] pos) (iEnumM ma) := PI.imp (pi_enum hg hm ha hs) fun σ H R ⟨w, s, h, rs, hw, q⟩ =>
  ⟨w, s, h, rs, hw, WpA.bind (G := WpI X.K w R _) q (fun _ _ z => z) (fun z => z) fun l h1 w1 v H1 l1 rv hw1 q1 => by
    split at q1
    · obtain ⟨u, rfl, ru⟩ := rv1 rv
      split at q1
      · rename_i l0 e0
        obtain ⟨a, vs, rfl, r, hS⟩ := listOf_ok ru e0
        exact ⟨a, vs, rfl, hS w1 H1 h1 (.refl w1) hw1, q1 w1 H1 _ l1 hw1 (enum_it hS r)⟩
      · exact q1.elim
    · exact q1.elim⟩
theorem zipL_get : ∀ {xs ys : List D} {i : Nat} {d : D}, (zipL xs ys)[i]? = some d → ∃ x y, xs[i]? = some x ∧ ys[i]? = some y ∧ d = .tup [x, y]
  | [], _, _, _, e => by simp [zipL] at e
  | _ :: _, [], _, _, e => by simp [zipL] at e
  | x :: xs, y :: ys, 0, d, e => by
    simp [zipL] at e
    exact ⟨x, y, rfl, rfl, e.symm⟩
  | x :: xs, y :: ys, i + 1, d, e => by
    simp [zipL] at e
    simpa using zipL_get e
theorem zipL_len : ∀ (xs ys : List D), (zipL xs ys).length = min xs.length ys.length
  | [], _ => by simp [zipL]
  | _ :: _, [] => by simp [zipL]
  | x :: xs, y :: ys => by simp [zipL, zipL_len xs ys]
def iZipM (m : AM) : IM := fun s h => (m s h).bind fun l h1 => match l with
  | [x, y] => match listOf h1 x, listOf h1 y with
    | some xs, some ys => .ok (fixS (zipL xs ys)) h1
    | _, _ => .no
  | _ => .no
theorem zip_it {K : PySem.W.Frag} {w : Wd} {a b : Addr} {vs us : List V} {xs ys : List D} (hS : ∀ w1 H1 h1, w.le w1 → HW K w1 H1 h1 → SqL K H1 a vs) (hT : ∀ w1 H1 h1, w.le w1 → HW K w1 H1 h1 → SqL K H1 b us) (r : RVs K w vs xs) (r' : RVs K w us ys) : ItOk K w (Itz K a b) (fixS (zipL xs ys)) := ItOk.of_fix fun i w1 H1 h1 l1 hw1 => by
  refine ⟨fun d e => ?_, fun e => ⟨vs, us, hS w1 H1 h1 l1 hw1, hT w1 H1 h1 l1 hw1, ?_⟩⟩
  · obtain ⟨x, y, e1, e2, rfl⟩ := zipL_get e
    obtain ⟨v, z1, z2⟩ := r.get e1
    obtain ⟨u, y1, y2⟩ := r'.get e2
    refine ⟨⟨vs, us, v, u, hS w1 H1 h1 l1 hw1, hT w1 H1 h1 l1 hw1, z1, y1⟩, fun x H2 ⟨T, p, q, e3, e4, e5, e6, e7⟩ => ?_⟩
    subst e3 e5
    have ey := e6 vs (hS w1 H1 h1 l1 hw1)
    rw [z1] at ey
    cases ey
    have ey := e7 us (hT w1 H1 h1 l1 hw1)
    rw [y1] at ey
    cases ey
    exact ⟨_, Wd.le_add, hw1.add e4, .tup (.inl (.inr ⟨rfl, rfl⟩)) (.cons ((z2.mono l1).mono Wd.le_add) (.cons ((y2.mono l1).mono Wd.le_add) .nil))⟩
  · rw [zipL_len] at e
    rw [r.length, r'.length]
    omega
theorem di_zip {e e2 : Expr} {ma : AM} {p pos tpos : Pos} {elts : List Expr} {kk : Nat} (hg : Gl X "zip") (hm : X.mg "zip" = none) (ha : DA X W [e, e2] ma)
    (hs : starEach [e, e2] X.env = (false, eval e X.env) :: starEach [e2] X.env := by rfl) (hpl : (backTo pos (starEach [e2] X.env)).any (·.1) = false := by rfl) :
    DI X W (.Tuple elts kk tpos) (.Call (.Name "zip" p) [e, e2] [] pos) (iZipM ma) := PI.imp (pi_zip hg hm ha hs hpl) fun σ H R ⟨w, s, h, rs, hw, q⟩ =>
  ⟨w, s, h, rs, hw, WpA.bind (G := WpI X.K w R _) q (fun _ _ z => z) (fun z => z) fun l h1 w1 v H1 l1 rv hw1 q1 => by
    split at q1
    · obtain ⟨u, u2, rfl, ru, ru2⟩ := rv2 rv
      split at q1
      · rename_i xs ys e1 e2
        obtain ⟨a, vs, rfl, r, hS⟩ := listOf_ok ru e1
        obtain ⟨b, us, rfl, r2, hT⟩ := listOf_ok ru2 e2
        exact ⟨a, b, vs, us, rfl, hS w1 H1 h1 (.refl w1) hw1, hT w1 H1 h1 (.refl w1) hw1, q1 w1 H1 _ l1 hw1 (zip_it hS hT r r2)⟩
      · exact q1.elim
    · exact q1.elim⟩

/-! ### for -/
def forS : Nat → Strm → Nat → GM → SM → SM
  | 0, _, _, _, _ => fun _ _ => .no
  | n + 1, f, i, g, b => fun s h => match f h i with
    | none => .no
    | some none => .nx s h
    | some (some d) => match g d s h with
      | none => .no
      | some (s1, h1) => match b s1 h1 with
        | .nx s' h' => forS n f (i + 1) g b s' h'
        | .ct s' h' => forS n f (i + 1) g b s' h'
        | .bk s' h' => .nx s' h'
        | r => r
def forL (g : GM) (b : SM) : List D → SM
  | [] => fun s h => .nx s h
  | d :: ds => fun s h => match g d s h with
    | none => .no
    | some (s1, h1) => match b s1 h1 with
      | .nx s' h' => forL g b ds s' h'
      | .ct s' h' => forL g b ds s' h'
      | .bk s' h' => .nx s' h'
      | r => r
theorem forS_fix (g : GM) (b : SM) (l : List D) : ∀ (n i : Nat), l.length - i < n → forS n (fixS l) i g b = forL g b (l.drop i)
  | 0, i, h => by omega
  | n + 1, i, h => by
    funext s h0
    unfold forS
    cases e : l[i]? with
    | none =>
      have e' := List.getElem?_eq_none_iff.mp e
      rw [List.drop_eq_nil_of_le e']
      simp only [fixS, e, forL]
    | some d =>
      have hi := (List.getElem?_eq_some_iff.mp e).1
      rw [List.drop_eq_getElem_cons hi]
      have ed : l[i] = d := (List.getElem?_eq_some_iff.mp e).2
      simp only [fixS, e, ed, forL]
      rw [forS_fix g b l n (i + 1) (by omega)]
def sFor (n : Nat) (im : IM) (g : GM) (b : SM) : SM := fun s h => (im s h).q s fun f h1 => forS n f 0 g b s h1
theorem te_for {vs : List Nat} {im : IM} {g : GM} {b : SM} {D : Ends} {σ : St} {H : Hp} (n : Nat) (q : TS_ X.K W (sFor n im g b) D σ H) : tFor (TI_ X.K W im) (TG_ X.K vs g) (TS_ X.K W b) D σ H := by
  obtain ⟨w, s, h, rs, hw, q⟩ := q
  refine ⟨w, s, h, rs, hw, ?_⟩
  unfold sFor at q
  revert q
  cases im s h with
  | ex x h1 => exact fun q v c d H' l a q' => q v c d σ H' l (rs.mono l) a q'
  | no => exact fun q => q
  | ok f h1 =>
    intro q w1 H1 J l1 hw1 it
    refine ⟨fun i m σ' H' => ∃ w2 s2 h2, w1.le w2 ∧ RS X.K w2 σ' s2 ∧ HW X.K w2 H' h2 ∧ WpS X.K w2 D W (forS m f i g b s2 h2), ⟨n, w1, s, h1, .refl w1, rs.mono l1, hw1, WpS.mono l1 q⟩, ?_⟩
    rintro i m σ2 H2 ⟨w2, s2, h2, l2, rs2, hw2, q2⟩
    cases m with
    | zero => exact False.elim q2
    | succ m =>
      unfold forS at q2
      obtain ⟨it1, it2⟩ := it i w2 H2 h2 l2 hw2
      split at q2
      · exact q2.elim
      · rename_i e
        exact .inl ⟨it2 e, q2 w2 σ2 H2 (.refl w2) rs2 hw2⟩
      · rename_i d e
        obtain ⟨go, yl⟩ := it1 d e
        refine .inr ⟨go, fun σ' H' => ∃ w3 s3 h3, w1.le w3 ∧ RS X.K w3 σ' s3 ∧ HW X.K w3 H' h3 ∧ WpS X.K w3 D W (forS m f (i + 1) g b s3 h3), fun σ' H' z => ⟨m, Nat.lt_succ_self m, z⟩, fun x H3 y3 => ?_⟩
        obtain ⟨w3, l3, hw3, rv⟩ := yl x H3 y3
        split at q2
        · exact q2.elim
        · rename_i s4 h4 e4
          refine ⟨w3, d, s2, h2, s4, h4, rv, rs2.mono l3, hw3, e4, fun w5 σ5 H5 l5 rs5 hw5 _ => ⟨w5, s4, h4, rs5, hw5, ?_⟩⟩
          have l25 := l3.trans l5
          revert q2
          cases b s4 h4 with
          | nx s' h' => exact fun q1 w6 σ6 H6 l6 rs6 hw6 => ⟨w6, s', h', (l2.trans l25).trans l6, rs6, hw6, WpS.mono (l25.trans l6) q1⟩
          | ct s' h' => exact fun q1 w6 σ6 H6 l6 rs6 hw6 => ⟨w6, s', h', (l2.trans l25).trans l6, rs6, hw6, WpS.mono (l25.trans l6) q1⟩
          | bk s' h' => exact fun q1 => WpS.mono l25 q1
          | rt d h' => exact fun q1 => WpS.mono l25 q1
          | ex x s' h' => exact fun q1 => WpS.mono l25 q1
          | no => exact fun q1 => q1
theorem ds_for {iter : Expr} {body : List Stmt} {vs : List Nat} {im : IM} {g : GM} {b : SM} {pos : Pos} (n : Nat) (hp : PassesOwn (model X.prog X.w) X.A X.env X.xe) (hc : X.calm = true) (hi : DI X W tg iter im) (hg : DG X vs tg g) (hb : DSs X W body b)
    (hs : ∀ x, foldedSetIterable iter X.env x = pure x := by intro _; rfl) : DS X W (.For tg iter body [] pos) (sFor n im g b) := PS.imp (ps_for hp hc hi hg hb hs) fun D σ H q => te_for n q

/-! ### list comprehensions -/
def wipeS (s : Sg) : List Nat → Sg
  | [] => s
  | v :: vs => (wipeS s vs).set v none
theorem RS.wipe {K : PySem.W.Frag} {w : Wd} {σ : St} {s : Sg} (r : RS K w σ s) : ∀ vs : List Nat, RS K w (wipe σ vs) (wipeS s vs)
  | [] => r
  | v :: vs => by
    have ih := RS.wipe r vs
    unfold L2.wipe wipeS
    refine ⟨by simp [ih.1], fun i d e => ?_⟩
    by_cases hj : v = i
    · subst hj
      by_cases hl : v < (wipeS s vs).length
      · rw [List.getElem?_set_self hl] at e; cases e
      · rw [List.getElem?_eq_none (by simpa using hl)] at e; cases e
    · rw [List.getElem?_set_ne hj] at e
      rw [List.getElem?_set_ne hj]
      exact ih.2 i d e
theorem wipe_idem (σ : St) : ∀ vs : List Nat, wipe (wipe σ vs) vs = wipe σ vs := by
  intro vs
  have key : ∀ (us vs : List Nat) (σ : St), (∀ u ∈ vs, u ∈ us) → wipe (wipe σ vs) us = wipe σ us := by
    intro us vs
    induction vs with
    | nil => intro σ _; rfl
    | cons v vs ih =>
      intro σ hs
      show wipe ((wipe σ vs).set v none) us = wipe σ us
      rw [wipe_set_in (hs v List.mem_cons_self), ih σ fun u hu => hs u (List.mem_cons_of_mem _ hu)]
  exact key vs vs σ fun _ h => h
/-- nothing may be raised -/
def R.bindN {α β : Type} (r : R α) (f : α → LH → R β) : R β := match r with
  | .ok a h => f a h
  | _ => .no
@[simp] theorem R.bindN_ok {α β : Type} (a : α) (h : LH) (f : α → LH → R β) : (R.ok a h).bindN f = f a h := rfl
/-- the turns over a stream: what was made so far -/
def lcS (vs : List Nat) (g : GM) (t : BM) (e : EM) (s : Sg) : Nat → Strm → Nat → List D → LH → R (List D)
  | 0, _, _, _, _ => .no
  | n + 1, f, i, acc, h => match f h i with
    | none => .no
    | some none => .ok acc h
    | some (some d) => match g d (wipeS s vs) h with
      | none => .no
      | some (s1, h1) => (t s1 h1).bindN fun k h2 => if k = true then ((e s1 h2).bindN fun y h3 => if decide (acc.length < sizeLine) = true then lcS vs g t e s n f (i + 1) (acc ++ [y]) h3 else .no)
        else lcS vs g t e s n f (i + 1) acc h2
def lcL (vs : List Nat) (g : GM) (t : BM) (e : EM) (s : Sg) : List D → List D → LH → R (List D)
  | [], acc, h => .ok acc h
  | d :: ds, acc, h => match g d (wipeS s vs) h with
    | none => .no
    | some (s1, h1) => (t s1 h1).bindN fun k h2 => if k = true then ((e s1 h2).bindN fun y h3 => if decide (acc.length < sizeLine) = true then lcL vs g t e s ds (acc ++ [y]) h3 else .no)
      else lcL vs g t e s ds acc h2
theorem lcS_fix (vs : List Nat) (g : GM) (t : BM) (e : EM) (s : Sg) (l : List D) : ∀ (n i : Nat), l.length - i < n → lcS vs g t e s n (fixS l) i = lcL vs g t e s (l.drop i)
  | 0, i, h => by omega
  | n + 1, i, h => by
    funext acc h0
    unfold lcS
    cases q : l[i]? with
    | none =>
      have q' := List.getElem?_eq_none_iff.mp q
      rw [List.drop_eq_nil_of_le q']
      simp only [fixS, q, lcL]
    | some d =>
      have hi := (List.getElem?_eq_some_iff.mp q).1
      rw [List.drop_eq_getElem_cons hi]
      have ed : l[i] = d := (List.getElem?_eq_some_iff.mp q).2
      simp only [fixS, q, ed, lcL]
      rw [lcS_fix vs g t e s l n (i + 1) (by omega)]
def mLcG (fin : List D → LH → R D) (n : Nat) (vs : List Nat) (im : IM) (g : GM) (t : BM) (e : EM) : EM := fun s h => (im s h).bind fun f h1 => (lcS vs g t e s n f 0 [] h1).bindN fin
def mLc : Nat → List Nat → IM → GM → BM → EM → EM := mLcG fun l h => .ok (.lst l) h
/-- .. a new list that may change -/
def mLcN : Nat → List Nat → IM → GM → BM → EM → EM := mLcG fun l h => .ok (.ref h.length) (h ++ [.lst l])
/-- what a finished list may be -/
def FinOk (K : PySem.W.Frag) (fin : List D → LH → R D) : Prop := ∀ (w w1 : Wd) (H : Hp) (h : LH) (p : Addr) (us : List V) (l : List D) (Q : VK) (E : XK), w.le w1 → (∀ o, ¬ w.rs p o) → w1.rs p (.lst us) → RVs K w1 us l → HW K w1 H h → WpE K w Q E (fin l h) → Q (.ref p) H
theorem fin_lst {K : PySem.W.Frag} : FinOk K fun l h => .ok (.lst l) h := fun w w1 H h p us l Q E l1 np rp rv hw q =>
  q _ _ _ ((Wd.le_unres l1 np).trans Wd.le_add) (.lst (.inr ⟨rfl, rfl⟩) ((rv.eqv (w := w1) (w' := w1.unres p) rfl rfl).mono Wd.le_add)) (hw.frz rp)
theorem fin_new {K : PySem.W.Frag} : FinOk K fun l h => .ok (.ref h.length) (h ++ [.lst l]) := fun w w1 H h p us l Q E l1 np rp rv hw q =>
  q _ _ _ ((Wd.le_unres l1 np).trans Wd.le_push) (.ref (by show (w1.at_ ++ [p])[h.length]? = some p; rw [← hw.len]; simp)) (hw.own rp (.lst rv))
/-- nothing is raised in a comprehension -/
abbrev WX0 : WX := fun _ _ _ _ => False
def WpN (K : PySem.W.Frag) (w : Wd) (Q : VK) (E : XK) (fin : List D → LH → R D) (r : R (List D)) : Prop := WpE K w Q E (r.bindN fin)
theorem te_lc {fin : List D → LH → R D} (hf : FinOk X.K fin) {vs : List Nat} {im : IM} {g : GM} {t : BM} {e : EM} {σ : St} {H : Hp} {Q : VK} (n : Nat) (q : TE_ X.K W (mLcG fin n vs im g t e) σ H Q) :
    tLc (TI_ X.K W im) (TG_ X.K vs g) (TB_ X.K WX0 t) (TE_ X.K WX0 e) vs σ H Q := by
  obtain ⟨w, s, h, rs, hw, q⟩ := q
  refine ⟨w, s, h, rs, hw, ?_⟩
  unfold mLcG at q
  revert q
  cases im s h with
  | ex x h1 => exact fun q => q
  | no => exact fun q => q
  | ok f h1 =>
    intro q w1 H1 J l1 hw1 it D nD
    have f1 := hw1.free nD
    refine ⟨fun i m H' => ∃ w2 h2 us acc, w1.le w2 ∧ w2.rs D (.lst us) ∧ RVs X.K w2 us acc ∧ HW X.K w2 H' h2 ∧ WpE X.K w Q _ ((lcS vs g t e s m f i acc h2).bindN fin),
      ⟨n, w1.res D (.lst []), h1, [], [], Wd.le_res, .inr ⟨rfl, rfl⟩, .nil, hw1.res nD, q⟩, ?_⟩
    rintro i m H2 ⟨w2, h2, us, acc, l2, rD, rv, hw2, q2⟩
    cases m with
    | zero => exact False.elim q2
    | succ m =>
      unfold lcS at q2
      obtain ⟨it1, it2⟩ := it i w2 H2 h2 l2 hw2
      split at q2
      · exact q2.elim
      · rename_i e1
        exact .inl ⟨it2 e1, hf w w2 H2 h2 D us acc Q _ (l1.trans l2) (fun o z => f1.2.2 o (l1.2.2 _ _ z)) rD rv hw2 q2⟩
      · rename_i d e1
        obtain ⟨go, yl⟩ := it1 d e1
        refine .inr ⟨go, fun H' => ∃ w3 h3 us acc, w1.le w3 ∧ w3.rs D (.lst us) ∧ RVs X.K w3 us acc ∧ HW X.K w3 H' h3 ∧ WpE X.K w Q _ ((lcS vs g t e s m f (i + 1) acc h3).bindN fin), fun H' z => ⟨m, Nat.lt_succ_self m, z⟩, fun x H3 y3 => ?_⟩
        obtain ⟨w3, l3, hw3, rd⟩ := yl x H3 y3
        split at q2
        · exact q2.elim
        · rename_i s4 h4 e4
          refine ⟨w3, d, wipeS s vs, h2, s4, h4, rd, (rs.mono ((l1.trans l2).trans l3)).wipe vs, hw3, e4, fun w5 σ5 H5 l5 rs5 hw5 k5 => ⟨k5.trans (wipe_idem σ vs), w5, s4, h4, rs5, hw5, ?_⟩⟩
          revert q2
          cases t s4 h4 with
          | ex x h' => exact fun q2 => q2.elim
          | no => exact fun q2 => q2.elim
          | ok k h6 =>
            rw [R.bindN_ok]
            intro q2 w6 H6 l6 hw6
            have l26 := (l3.trans l5).trans l6
            cases k with
            | false =>
              rw [if_neg Bool.false_ne_true] at q2
              exact iteF ⟨w6, h6, us, acc, l2.trans l26, l26.2.2 _ _ rD, rv.mono l26, hw6, q2⟩
            | true =>
              rw [if_pos rfl] at q2
              refine iteT ⟨w6, s4, h6, rs5.mono l6, hw6, ?_⟩
              revert q2
              cases e s4 h6 with
              | ex x h' => exact fun q2 => q2.elim
              | no => exact fun q2 => q2.elim
              | ok y h7 =>
                rw [R.bindN_ok]
                intro q2 w7 v7 H7 l7 r7 hw7
                split at q2
                · rename_i z
                  have l27 := l26.trans l7
                  have rD7 := l27.2.2 _ _ rD
                  refine ⟨us, (hw7.rs _ _ rD7).1, by rw [rv.length]; exact of_decide_eq_true z, (w7.unres D).res D (.lst (us ++ [v7])), h7, us ++ [v7], acc ++ [y], ?_, .inr ⟨rfl, rfl⟩, ?_, hw7.reset ⟨_, rD7⟩, q2⟩
                  · exact (Wd.le_unres (l2.trans l27) f1.2.2).trans Wd.le_res
                  · exact ((rv.mono l27).append (.cons r7 .nil)).eqv (w := w7) (w' := (w7.unres D).res D (.lst (us ++ [v7]))) rfl rfl
                · exact q2.elim
section
variable {elt iter : Expr} {ifs : List Expr} {scope : Scope} {own : List (Str × Nat)} {pos spos : Pos} {im : IM} {g : GM} {t : BM} {el : EM} {fin : List D → LH → R D}
def DTs (X : Cx) (W : WX) (es : List Expr) (m : BM) : Prop := PTs X es (TB_ X.K W m)
def bYes : BM := fun _ h => .ok true h
theorem dts_nil {X : Cx} {W : WX} : DTs X W [] bYes := ⟨fun pins s σ H Q I ⟨w, s', h, rs, hw, q⟩ => pts_nil.run pins s σ H Q I (q w H (.refl w) hw)⟩
theorem dts_one {X : Cx} {W : WX} {c : Expr} {m : BM} (h : DT X W c m) : DTs X W [c] m := pts_one h
theorem d_lc (hf : FinOk X.K fin) (n : Nat) (hc : X.calm = true) (hN : X.N.Nodup) (hi : DI X W tg iter im) (ok : BlkOk X.N X.env.scope scope own)
    (hg : ∀ (s : Shared) (H : Hp) (C : Addr) (cl : List (Str × Addr)) (fp : List Addr), DG (X.blk s H scope (compEnvC scope cl C X.env) fp) (own.map (·.2)) tg g) (ht : ∀ (s : Shared) (H : Hp) (C : Addr) (cl : List (Str × Addr)) (fp : List Addr), DTs (X.blk s H scope (compEnvC scope cl C X.env) fp) WX0 ifs t)
    (he : ∀ (s : Shared) (H : Hp) (C : Addr) (cl : List (Str × Addr)) (fp : List Addr), DE (X.blk s H scope (compEnvC scope cl C X.env) fp) WX0 elt el) (hs : ∀ x, foldedSetIterable iter X.env x = pure x := by intro _; rfl) :
    DE X W (.ListComp elt [⟨tg, iter, ifs, 0⟩] scope pos) (mLcG fin n (own.map (·.2)) im g t el) := PE.imp (pe_lc (g := TG_ X.K (own.map fun (p : Str × Nat) => p.2) g) (tt := TB_ X.K WX0 t) (te := TE_ X.K WX0 el) hc hN hi ok hg ht he hs) fun σ H Q q => te_lc hf n q
theorem ds_setLc {i : Nat} {y : Str} {py : Pos} (hf : FinOk X.K fin) (n : Nat) (hc : X.calm = true) (hN : X.N.Nodup) (hy : X.N[i]? = some y) (hyl : X.env.scope.names.lookup y = some .local)
    (hsw : swapsWith (.ListComp elt [⟨tg, iter, ifs, 0⟩] scope pos) (some (.Name y py)) spos.line X.env = pure true) (hi : DI X W tg iter im) (ok : BlkOk X.N X.env.scope scope own)
    (hg : ∀ (s : Shared) (H : Hp) (C : Addr) (cl : List (Str × Addr)) (fp : List Addr), DG (X.blk s H scope (compEnvC scope cl C X.env) fp) (own.map (·.2)) tg g) (ht : ∀ (s : Shared) (H : Hp) (C : Addr) (cl : List (Str × Addr)) (fp : List Addr), DTs (X.blk s H scope (compEnvC scope cl C X.env) fp) WX0 ifs t)
    (he : ∀ (s : Shared) (H : Hp) (C : Addr) (cl : List (Str × Addr)) (fp : List Addr), DE (X.blk s H scope (compEnvC scope cl C X.env) fp) WX0 elt el) (hs : ∀ x, foldedSetIterable iter X.env x = pure x := by intro _; rfl) :
    DS X W (.Assign [.Name y py] (.ListComp elt [⟨tg, iter, ifs, 0⟩] scope pos) spos) (sSet i (mLcG fin n (own.map (·.2)) im g t el)) := PS.imp (ps_setLc (g := TG_ X.K (own.map fun (p : Str × Nat) => p.2) g) (tt := TB_ X.K WX0 t) (te := TE_ X.K WX0 el) hc hN hy hyl hsw hi ok hg ht he hs) fun D σ H ⟨w, s, h, rs, hw, q⟩ =>
  te_lc hf n ⟨w, s, h, rs, hw, WpS.q rs q fun d h1 w1 v H1 l rv hw1 q1 => q1 w1 _ H1 (.refl w1) ((rs.mono l).set rv) hw1⟩
end
end
end DN
namespace DN
open PySem PySem.Spec PyProof.Rows L2

/-! ### defs: what a call gives, by the arguments and the state -/
abbrev FM := List D → LH → R D
/-- room for k calls; no repr goes on -/
structure Rm (k : Nat) (A : Around) : Prop where
  room : Room k A
  gd : A.guards = some []
  sl : A.units + 16 * k + 1000 < cLine
theorem Rm.mono {j k : Nat} {A : Around} (r : Rm k A) (h : j ≤ k) : Rm j A := ⟨r.room.mono h, r.gd, by have := r.sl; omega⟩
theorem Rm.u700 {k : Nat} {A : Around} (r : Rm k A) : A.units + 700 < cLine := by have := r.sl; omega
theorem Rm.deeper {k : Nat} {A : Around} (r : Rm (k + 1) A) (env : Env) : Rm k (A.deeper env) := ⟨r.room.deeper env, r.gd, by have := r.sl; show A.units + 3 + 16 * k + 1000 < cLine; omega⟩
theorem Rm.u65 {k : Nat} {A : Around} (r : Rm k A) : A.units + 65 < cLine := by have := r.room.un; omega
theorem Rm.u64 {k : Nat} {A : Around} (r : Rm k A) : A.units + 64 < cLine := by have := r.room.un; omega
structure FnG (P : Program) (w : World) (K : PySem.W.Frag) (mg : Str → Option Value) (base : Heap) (k : Nat) (f : Addr) (fd : FuncData) (ps : List Str) (m : FM) : Prop where
  run : ∀ (A : Around) (outer : List Env) (s : Shared) (H : Hp) (args : Args) (us : List Value) (vs : List V) (Q : VK) (E : XK) (v : Wd) (ds : List D) (h : LH), Rm k A → Env0 P w K mg base A outer s H →
    BindsTo s fd args (ps.zip us) → Vals vs us → RVs K v vs ds → HW K v H h → ds.length = ps.length → WpE K v Q E (m ds h) → codeAny (model P w) A (.call (.ref f) args) (CR (L2.CX P w) outer P w H s Q E) s
section
variable {P : Program} {w : World} {K : PySem.W.Frag} {mg : Str → Option Value} {base : Heap} {k : Nat} {f : Addr} {fd : FuncData} {ps : List Str} {m m' : FM}
theorem FnG.mono {j : Nat} (F : FnG P w K mg base j f fd ps m) (h : j ≤ k) : FnG P w K mg base k f fd ps m := ⟨fun A o s H a us vs Q E v ds h' r => F.run A o s H a us vs Q E v ds h' (r.mono h)⟩
/-- another way to say what it gives -/
theorem FnG.imp (F : FnG P w K mg base k f fd ps m) (h : ∀ (v : Wd) (Q : VK) (E : XK) (H : Hp) (ds : List D) (s : LH), HW K v H s → ds.length = ps.length → WpE K v Q E (m' ds s) → WpE K v Q E (m ds s)) : FnG P w K mg base k f fd ps m' :=
  ⟨fun A o s H a us vs Q E v ds h' r e b q1 q2 q3 q4 q5 => F.run A o s H a us vs Q E v ds h' r e b q1 q2 q3 q4 (h v Q E H ds h' q3 q4 q5)⟩
theorem FnG.eq (F : FnG P w K mg base k f fd ps m) (h : ∀ ds s, m' ds s ≠ .no → m ds s = m' ds s) : FnG P w K mg base k f fd ps m' := F.imp fun v Q E H ds s _ _ q => by
  by_cases e : m' ds s = .no
  · rw [e] at q; exact q.elim
  · rw [h ds s e]; exact q

def fin_ (r : RQ) : R D := match r with
  | .rt d h => .ok d h
  | .nx _ h => .ok .non h
  | .ex x _ h => .ex x h
  | _ => .no
def fnM (n : Nat) (m : SM) : FM := fun ds h => fin_ (m (ds.map some ++ List.replicate (n - ds.length) none) h)
theorem start_rs {v : Wd} {N : List Str} {vs : List V} {ds : List D} (r : RVs K v vs ds) : RS K v (L2.start N vs) (ds.map some ++ List.replicate (N.length - ds.length) none) := by
  unfold L2.start
  rw [r.length]
  refine ⟨by simp [r.length], fun i d e => ?_⟩
  by_cases hi : i < ds.length
  · rw [List.getElem?_append_left (by simpa using hi), List.getElem?_map] at e
    cases q : ds[i]? with
    | none => rw [q] at e; cases e
    | some x =>
      rw [q] at e
      cases e
      obtain ⟨u, h1, h2⟩ := r.get q
      exact ⟨u, by rw [List.getElem?_append_left (by simpa [r.length] using hi), List.getElem?_map, h1]; rfl, h2⟩
  · rw [List.getElem?_append_right (by simpa using hi), List.getElem?_replicate] at e
    split at e <;> cases e
/-- a def by its body -/
theorem fnG_of {x qual : Str} {st : Stmt} {N : List Str} {sm : SM} (F : Fun K x qual st f fd) (S : FnScope N ps (defScope st))
    (hbody : ∀ (cdv : Value) (A : Around) (outer : List Env) (s : Shared) (H : Hp) (E : XK), Rm k (A.deeper (envOfC qual (defScope st) s.heap.objs.size f cdv)) →
      DSs (cxOf (L2.CX P w) P w K mg base N qual (defScope st) f cdv A outer s H E) (fun c d _ H => E c d H) (defBody st) sm) : FnG P w K mg base (k + 1) f fd ps (fnM N.length sm) := by
  obtain ⟨oc, od, kV, doc, pm, an, cdv, ct, osl, efd, lk, hcd⟩ := F.ex
  subst efd
  refine ⟨fun A outer s H args us vs Q E v ds h hr e0 hb rv rd hw hl q => ?_⟩
  have hl' : vs.length = ps.length := rd.length.trans hl
  have inK : K.In s.heap := e0.mod.kin.keeps fun b o e => (e0.bs b o e).1
  have kinds : ∀ y ∈ ps.zip us, (defScope st).names.lookup y.1 = some .local ∨ ((defScope st).names.lookup y.1 = some .cell ∧ ((cellsFrom (s.heap.objs.size + 1) (defScope st).names []).lookup y.1).isSome = true) := by
    rintro ⟨n, u⟩ hy
    cases S.par n (List.of_mem_zip hy).1 with
    | inl z => exact .inl z
    | inr z => exact .inr ⟨z, PySem.W.cellsFrom_some _ _ _ (.inl z)⟩
  refine codeAny_call_function hr.room.depth (inK _ _ lk) rfl S.co S.gen rfl (PySem.W.codeRec_of inK hcd) (hb _ _ _ _ (wpAny_newFunctionEnv_cells S.kind kinds ?_))
  intro env he s1 x1
  cases he
  refine ⟨(e0.mod.nolimit.keeps fun b o e => (e0.bs b o e).1).keeps x1.toInCall.keep, codeAny_func ?_⟩
  have start_ : Inv (cxOf (L2.CX P w) P w K mg base N qual (defScope st) f cdv A outer s H E) [] (L2.start N vs) H s1 := inv_start S hr.room.hd e0 hl' rv x1
  have body := hbody cdv A outer s H E (hr.deeper _)
  refine wpAny_mono (body.run [] s1 (L2.start N vs) H { nx := fun _ H' => Q .non H', rt := Q } start_ ⟨v, _, h, start_rs rd, hw, ?_⟩) ?_ (fun e s' hs => hs)
  · unfold fnM fin_ at q
    revert q
    cases sm (ds.map some ++ List.replicate (N.length - ds.length) none) h with
    | nx s' h' => exact fun q w' σ' H' l rs hw' => q w' .non H' l .non hw'
    | rt d h' => exact fun q => q
    | ex x s' h' => exact fun q w' c dd σ' H' l rs rx hw' => q w' c dd H' l rx hw'
    | bk s' h' => exact fun q => q.elim
    | ct s' h' => exact fun q => q.elim
    | no => exact fun q => q.elim
  · intro fl s' hs
    cases fl with
    | ret u =>
      obtain ⟨v', σ', H', J, r', q'⟩ := hs
      exact ⟨v', H', J.os, J.bare, J.base, J.hok, r', q'⟩
    | next =>
      obtain ⟨σ', H', J, q'⟩ := hs
      exact ⟨.non, H', J.os, J.bare, J.base, J.hok, rfl, q'⟩
    | brk =>
      obtain ⟨_, _, _, z⟩ := hs
      exact False.elim z
    | cont =>
      obtain ⟨_, _, _, z⟩ := hs
      exact False.elim z

/-! what a def leaves of its own state: nothing, its value frozen -/
mutual
/-- no reference from n on -/
def below (n : Nat) : D → Bool
  | .tup l => belows n l
  | .lst l => belows n l
  | .kst l => belows n l
  | .dct l => belowk n l
  | .ref k => decide (k < n)
  | _ => true
def belows (n : Nat) : List D → Bool
  | [] => true
  | d :: ds => below n d && belows n ds
def belowk (n : Nat) : List (Key × D) → Bool
  | [] => true
  | (_, d) :: ds => below n d && belowk n ds
end
/-- the value, a new list frozen -/
def frzD (n : Nat) (h : LH) (d : D) : Option D := match d with
  | .ref k => if decide (k < n) = true then some (.ref k) else match h[k]? with
    | some (.lst l) => if belows n l = true then some (.lst l) else none
    | some (.dct l) => if belowk n l = true then some (.dct l) else none
    | none => none
  | d => if below n d = true then some d else none
open Classical in
noncomputable def gcM (m : FM) : FM := fun ds h => match m ds h with
  | .ok d h' => if h'.take h.length = h then (match frzD h.length h' d with
    | some d' => .ok d' h
    | none => .no) else .no
  | .ex x h' => .ex x h'
  | .no => .no
end
section
variable {K : PySem.W.Frag} {w : Wd} {n : Nat}
def Wd.cutW (w : Wd) (n : Nat) : Wd := ⟨w.fz, w.at_.take n, w.rs⟩
mutual
theorem RV.cutW : ∀ {v : V} {d : D}, RV K w v d → below n d = true → RV K (w.cutW n) v d
  | _, _, .non, _ => .non
  | _, _, .bl b, _ => .bl b
  | _, _, .int b, _ => .int b
  | _, _, .str b, _ => .str b
  | _, _, .tup h r, e => .tup h (RVs.cutW r (by simpa only [below] using e))
  | _, _, .lst h r, e => .lst h (RVs.cutW r (by simpa only [below] using e))
  | _, _, .kst h r, e => .kst h (RVs.cutW r (by simpa only [below] using e))
  | _, _, .dct h r, e => .dct h (RKs.cutW r (by simpa only [below] using e))
  | _, _, .ref (n := k) h, e => .ref (by
      have e' : k < n := by simpa only [below, decide_eq_true_eq] using e
      show (w.at_.take n)[k]? = _
      rw [List.getElem?_take_of_lt e']
      exact h)
  | _, _, .st v, _ => .st v
theorem RVs.cutW : ∀ {v : List V} {d : List D}, RVs K w v d → belows n d = true → RVs K (w.cutW n) v d
  | _, _, .nil, _ => .nil
  | _, _, .cons h r, e => by
    simp only [belows, Bool.and_eq_true] at e
    exact .cons (RV.cutW h e.1) (RVs.cutW r e.2)
theorem RKs.cutW : ∀ {v : List (Key × V)} {d : List (Key × D)}, RKs K w v d → belowk n d = true → RKs K (w.cutW n) v d
  | _, _, .nil, _ => .nil
  | _, _, .cons h r, e => by
    simp only [belowk, Bool.and_eq_true] at e
    exact .cons (RV.cutW h e.1) (RKs.cutW r e.2)
end
mutual
theorem RV.lows : ∀ {v : V} {d : D}, RV K w v d → below w.at_.length d = true
  | _, _, .non => rfl
  | _, _, .bl b => rfl
  | _, _, .int b => rfl
  | _, _, .str b => rfl
  | _, _, .tup h r => by simpa only [DN.below] using RVs.lows r
  | _, _, .lst h r => by simpa only [DN.below] using RVs.lows r
  | _, _, .kst h r => by simpa only [DN.below] using RVs.lows r
  | _, _, .dct h r => by simpa only [DN.below] using RKs.lows r
  | _, _, .ref h => by simpa only [DN.below, decide_eq_true_eq] using (List.getElem?_eq_some_iff.mp h).1
  | _, _, .st v => rfl
theorem RVs.lows : ∀ {v : List V} {d : List D}, RVs K w v d → belows w.at_.length d = true
  | _, _, .nil => rfl
  | _, _, .cons h r => by simp only [belows, RV.lows h, RVs.lows r, Bool.and_self]
theorem RKs.lows : ∀ {v : List (Key × V)} {d : List (Key × D)}, RKs K w v d → belowk w.at_.length d = true
  | _, _, .nil => rfl
  | _, _, .cons h r => by simp only [belowk, RV.lows h, RKs.lows r, Bool.and_self]
end
/-- back to the state ahead: what was made since is no longer known -/
theorem HW.cutW {w0 : Wd} {H0 H : Hp} {h h' : LH} (hw0 : HW K w0 H0 h) (l : w0.le w) (hw : HW K w H h') (e : h'.take h.length = h) : HW K (w.cutW h.length) H h ∧ w0.le (w.cutW h.length) := by
  have hle : h.length ≤ h'.length := by
    have := congrArg List.length e
    rw [List.length_take] at this
    omega
  have eat : w.at_.take h.length = w0.at_ := by
    obtain ⟨t, q⟩ := l.2.1
    rw [← q, ← hw0.len]
    simp
  refine ⟨⟨fun a o q => hw.fz a o q, ?_, fun m a p e1 e2 => ?_, ?_, fun a o hm => hw.sep a o (List.mem_of_mem_take hm), fun a o q => ?_, hw.sm⟩, l.1, ?_, l.2.2⟩
  · show (w.at_.take h.length).length = h.length
    rw [eat, hw0.len]
  · -- the old objects stand as ahead: the state of then tells how
    have e1' : (w.at_.take h.length)[m]? = some a := e1
    have hm : m < h.length := (List.getElem?_eq_some_iff.mp e2).1
    have e3 : h'[m]? = some p := by
      rw [← e, List.getElem?_take_of_lt hm] at e2
      exact e2
    rw [List.getElem?_take_of_lt hm] at e1'
    obtain ⟨o, h1, h2⟩ := hw.ats m a p e1' e3
    refine ⟨o, h1, ?_⟩
    -- its parts were known ahead, so they lie below
    obtain ⟨a0, o0, _, _, r0⟩ := hw0.get e2
    cases r0 with
    | lst r0 =>
      cases h2 with
      | lst r => exact .lst (r.cutW (by rw [← hw0.len]; exact r0.lows))
    | dct r0 =>
      cases h2 with
      | dct r => exact .dct (r.cutW (by rw [← hw0.len]; exact r0.lows))
  · show (w.at_.take h.length).Nodup
    exact hw.nd.sublist (List.take_sublist _ _)
  · obtain ⟨q1, q2, q3⟩ := hw.rs a o q
    exact ⟨q1, fun z => q2 (List.mem_of_mem_take z), q3⟩
  · show w0.at_ <+: w.at_.take h.length
    rw [eat]
    exact List.prefix_refl _
end
section
variable {P : Program} {w : World} {K : PySem.W.Frag} {mg : Str → Option Value} {base : Heap} {k : Nat} {f : Addr} {fd : FuncData} {ps : List Str} {m m' : FM}
theorem frzD_ok {v : Wd} {w1 : Wd} {H0 H1 : Hp} {h h1 : LH} {u : V} {d d' : D} {Q : VK} (hw0 : HW K v H0 h) (l : v.le w1) (hw : HW K w1 H1 h1) (e : h1.take h.length = h) (r : RV K w1 u d) (e2 : frzD h.length h1 d = some d') (q : Pv K v Q d' h) : Q u H1 := by
  obtain ⟨hc, lc⟩ := hw0.cutW l hw e
  have plain : ∀ d, below h.length d = true → RV K w1 u d → Pv K v Q d h → Q u H1 := fun d b r q => q _ u H1 lc (r.cutW b) hc
  cases r with
  | @ref a n z =>
    unfold frzD at e2
    dsimp only at e2
    split at e2
    · rename_i z0
      cases e2
      exact plain _ (by simpa only [below] using z0) (.ref z) q
    · rename_i z0
      have nin : a ∉ w1.at_.take h.length := fun hm => by
        obtain ⟨i, hi, ei⟩ := List.getElem_of_mem hm
        have hi' : i < h.length := by
          have := hi
          rw [List.length_take] at this
          omega
        rw [List.getElem_take] at ei
        have hlt : i < w1.at_.length := by
          rw [List.length_take] at hi
          omega
        have : i = n := nd_ix hw.nd (by rw [List.getElem?_eq_getElem hlt]; exact congrArg some ei) z
        subst this
        exact z0 (decide_eq_true hi')
      have nfz : ∀ o, ¬ w1.fz a o := fun o => hw.sep a o (List.mem_of_getElem? z)
      have nrs : ∀ o, ¬ w1.rs a o := fun o q => (hw.rs a o q).2.1 (List.mem_of_getElem? z)
      -- the object becomes one of the frozen
      have frz : ∀ o, H1 a = some o → HW K ((w1.cutW h.length).add a o) H1 h := fun o ho =>
        ⟨fun b u z => z.elim (fun z => hc.fz b u z) fun ⟨e1, e2⟩ => by rw [e1, e2]; exact ho, hc.len, fun i b p e1 e2 => let ⟨u, h1, h2⟩ := hc.ats i b p e1 e2; ⟨u, h1, h2.mono Wd.le_add⟩, hc.nd,
          fun b u hm z => z.elim (fun z => hc.sep b u hm z) fun ⟨e1, _⟩ => nin (e1 ▸ hm), fun b u z => let ⟨q1, q2, q3⟩ := hc.rs b u z; ⟨q1, q2, fun x y => y.elim (q3 x) fun ⟨e1, _⟩ => nrs u (e1 ▸ z)⟩, hc.sm.imp fun _ z => z.imp fun _ z => .inl z⟩
      split at e2
      · rename_i l0 e0
        split at e2
        · rename_i zb
          cases e2
          obtain ⟨o, h2, h3⟩ := hw.ats n a _ z e0
          cases h3 with
          | lst r => exact q _ _ _ (lc.trans Wd.le_add) (.lst (.inr ⟨rfl, rfl⟩) ((r.cutW zb).mono Wd.le_add)) (frz _ h2)
        · cases e2
      · rename_i l0 e0
        split at e2
        · rename_i zb
          cases e2
          obtain ⟨o, h2, h3⟩ := hw.ats n a _ z e0
          cases h3 with
          | dct r => exact q _ _ _ (lc.trans Wd.le_add) (.dct (.inr ⟨rfl, rfl⟩) ((r.cutW zb).mono Wd.le_add)) (frz _ h2)
        · cases e2
      · cases e2
  | non => cases e2; exact plain _ rfl .non q
  | bl b => cases e2; exact plain _ rfl (.bl b) q
  | int b => cases e2; exact plain _ rfl (.int b) q
  | str b => cases e2; exact plain _ rfl (.str b) q
  | st b =>
    have e3 : some (D.st u) = some d' := e2
    cases e3
    exact plain _ rfl (.st _) q
  | tup a b =>
    unfold frzD at e2
    dsimp only at e2
    split at e2
    · rename_i z
      cases e2
      exact plain _ z (.tup a b) q
    · cases e2
  | lst a b =>
    unfold frzD at e2
    dsimp only at e2
    split at e2
    · rename_i z
      cases e2
      exact plain _ z (.lst a b) q
    · cases e2
  | kst a b =>
    unfold frzD at e2
    dsimp only at e2
    split at e2
    · rename_i z
      cases e2
      exact plain _ z (.kst a b) q
    · cases e2
  | dct a b =>
    unfold frzD at e2
    dsimp only at e2
    split at e2
    · rename_i z
      cases e2
      exact plain _ z (.dct a b) q
    · cases e2
theorem FnG.gc (F : FnG P w K mg base k f fd ps m) : FnG P w K mg base k f fd ps (gcM m) := F.imp fun v Q E H ds h hw hl q => by
  unfold gcM at q
  revert q
  cases m ds h with
  | ex x h1 => exact fun q => q
  | no => exact fun q => q
  | ok d h1 =>
    intro q w1 u H1 l rv hw1
    dsimp only at q
    split at q
    · rename_i e
      split at q
      · rename_i d' e2
        exact frzD_ok hw l hw1 e rv e2 q
      · exact q.elim
    · exact q.elim
end
/-! ### calls of defs -/
def mFn (n : Nat) (m : FM) (dvs : List D) (a : AM) : EM := fun s h => (a s h).bind fun l h1 => if decide ((l ++ dvs).length = n) = true then m (l ++ dvs) h1 else .no
section
variable {X : Cx} {W : WX} {k : Nat} {f : Addr} {fd : FuncData} {ps : List Str} {m : FM} {x : Str} {p pos : Pos} {e : Expr} {es : List Expr} {a : AM} {dvs : List D} {dvv : List V} {ds : List Value}
theorem run_fg {pins : List (Addr × Obj)} {σ : L2.St} {H : Hp} {s : Shared} {Q : VK} {us all : List Value} {kw : List (Str × Value)} {vs : List V} {w : Wd} {l : List D} {h : LH} (F : FnG X.prog X.w X.K X.mg X.base k f fd ps m) (hr : Rm k X.A) (tk : Takes X W)
    (I : Inv X pins σ H s) (hb : BindsTo s fd ⟨us, kw⟩ (ps.zip all)) (r : Vals vs all) (rd : RVs X.K w vs l) (hw : HW X.K w H h) (hl : l.length = ps.length) (q : WpE X.K w Q (fun c d H => W c d σ H) (m l h)) :
    wpAny (model X.prog X.w) X.A (call (.ref f) us kw) (EP X pins σ Q) X.xe s := by
  have run := F.run X.A X.stack s H ⟨us, kw⟩ all vs Q (fun c d H => W c d σ H) w l h hr I.env0 hb r rd hw hl q
  refine wpAny_call (codeAny_mono run ?_)
  intro res s2 hres
  cases res with
  | error err => exact tk err s2 (XE.of_call I (fun c d H' z => z) hres)
  | ok fl =>
    cases fl with
    | ret u => exact I.after hres
    | next => exact False.elim hres
    | brk => exact False.elim hres
    | cont => exact False.elim hres
/-- f(e, ..), defaults behind -/
theorem d_call (F : FnG X.prog X.w X.K X.mg X.base k f fd ps m) (hr : Rm k X.A) (tk : Takes X W) (hg : Gl X x) (hm : X.mg x = some (.ref f)) (hk : PySem.W.keepIn X.K (.ref f) = true) (hb : Binds X.K fd ps ds) (hd : Vals dvv ds) (hv : ∀ w, RVs X.K w dvv dvs)
    (ha : DA X W (e :: es) a) (hdb : (x == ("__debug__" : Str)) = false := by decide) (he : starEach (e :: es) X.env = (false, eval e X.env) :: starEach es X.env := by rfl) (hpl : (backTo pos (starEach es X.env)).any (·.1) = false := by rfl) :
    DE X W (.Call (.Name x p) (e :: es) [] pos) (mFn ps.length m dvs a) := ⟨fun pins s σ H Q I ⟨w, sg, h, rs, hw, q⟩ => by
  refine wpAny_Call_Name_kw (ld_glob I hg hm ?_ hdb)
  refine PySem.W.callWith_K (h₀ := X.base) I.ok.mod.kin hk (thn (ha.run pos pins s σ H (fun vs H1 => ∃ w1 l h1, RVs X.K w1 vs l ∧ HW X.K w1 H1 h1 ∧ (l ++ dvs).length = ps.length ∧ WpE X.K w1 Q (fun c d H => W c d σ H) (m (l ++ dvs) h1)) I
    ⟨w, sg, h, rs, hw, WpA.bind (G := WpE X.K w Q _) q (fun _ _ z => z) (fun z => z) fun l h1 w1 vs H1 l1 rv hw1 q1 => ?_⟩) ?_) he hpl
  · split at q1
    · rename_i z
      exact ⟨w1, l, h1, rv, hw1, of_decide_eq_true z, WpE.mono l1 q1⟩
    · exact q1.elim
  · rintro us s1 ⟨vs, H1, I1, r, w1, l, h1, rv, hw1, hl, q1⟩
    refine ⟨I1.kIn, run_fg F hr tk I1 (hb s1 us I1.kIn ?_) (r.append hd) (rv.append (hv w1)) hw1 hl q1⟩
    rw [← (r.append hd).length, (rv.append (hv w1)).length, hl]⟩
theorem d_call0 (F : FnG X.prog X.w X.K X.mg X.base k f fd ps m) (hr : Rm k X.A) (tk : Takes X W) (hg : Gl X x) (hm : X.mg x = some (.ref f)) (hk : PySem.W.keepIn X.K (.ref f) = true) (hb : Binds X.K fd ps ds) (hd : Vals dvv ds) (hv : ∀ w, RVs X.K w dvv dvs)
    (hdb : (x == ("__debug__" : Str)) = false := by decide) : DE X W (.Call (.Name x p) [] [] pos) (mFn ps.length m dvs aNil) := ⟨fun pins s σ H Q I ⟨w, sg, h, rs, hw, q⟩ => by
  refine wpAny_Call_Name_kw (ld_glob I hg hm ?_ hdb)
  unfold mFn aNil at q
  rw [R.bind_ok] at q
  split at q
  · rename_i z
    have hl : ([] ++ dvs).length = ps.length := of_decide_eq_true z
    refine PySem.W.callWith_K0 I.kIn hk (run_fg (us := []) F hr tk I (hb s [] I.kIn ?_) (Vals.append .nil hd) (RVs.append .nil (hv w)) hw hl q)
    rw [← (Vals.append .nil hd).length, (RVs.append .nil (hv w)).length, hl]
  · exact q.elim⟩

/-! .. with keywords: each parameter is the j-th positional one, the j-th keyword's, or a default -/
inductive Src where
  | pos (j : Nat) | kw (j : Nat) | df (j : Nat)
def pick {α : Type} (l z d : List α) : List Src → List α
  | [] => []
  | .pos j :: r => l[j]?.toList ++ pick l z d r
  | .kw j :: r => z[j]?.toList ++ pick l z d r
  | .df j :: r => d[j]?.toList ++ pick l z d r
theorem rv_opt {K : PySem.W.Frag} {w : Wd} {vs : List V} {ds : List D} (r : RVs K w vs ds) (j : Nat) : RVs K w vs[j]?.toList ds[j]?.toList := by
  cases e : ds[j]? with
  | none =>
    have : vs[j]? = none := by
      rw [List.getElem?_eq_none_iff] at e ⊢
      rw [r.length]; exact e
    rw [this]
    exact .nil
  | some d =>
    obtain ⟨v, e1, e2⟩ := r.get e
    rw [e1]
    exact .cons e2 .nil
theorem vals_opt {vs : List V} {us : List Value} (r : Vals vs us) (j : Nat) : Vals vs[j]?.toList us[j]?.toList := by
  cases e : vs[j]? with
  | none => rw [r.none_of e]; exact .nil
  | some v =>
    obtain ⟨u, e1, e2⟩ := r.get e
    rw [e1]
    exact .cons e2 .nil
theorem pick_rv {K : PySem.W.Frag} {w : Wd} {l z d : List V} {l' z' d' : List D} (r : RVs K w l l') (q : RVs K w z z') (t : RVs K w d d') : ∀ ix : List Src, RVs K w (pick l z d ix) (pick l' z' d' ix)
  | [] => .nil
  | .pos j :: ix => (rv_opt r j).append (pick_rv r q t ix)
  | .kw j :: ix => (rv_opt q j).append (pick_rv r q t ix)
  | .df j :: ix => (rv_opt t j).append (pick_rv r q t ix)
theorem pick_vals {l z d : List V} {l' z' d' : List Value} (r : Vals l l') (q : Vals z z') (t : Vals d d') : ∀ ix : List Src, Vals (pick l z d ix) (pick l' z' d' ix)
  | [] => .nil
  | .pos j :: ix => (vals_opt r j).append (pick_vals r q t ix)
  | .kw j :: ix => (vals_opt q j).append (pick_vals r q t ix)
  | .df j :: ix => (vals_opt t j).append (pick_vals r q t ix)
/-- how a call with na positional values and the keywords ks binds -/
def BindsK (K : PySem.W.Frag) (fd : FuncData) (ps ks : List Str) (na : Nat) (ds : List Value) (ix : List Src) : Prop :=
  ∀ (s : Shared) (us ws : List Value), K.In s.heap → us.length = na → ws.length = ks.length → BindsTo s fd ⟨us, ks.zip ws⟩ (ps.zip (pick us ws ds ix))
def DK (X : Cx) (W : WX) (ks : List Keyword) (m : AM) : Prop := PK X ks (TA_ X.K W m)
theorem PK.imp {X : Cx} {e : List Keyword} {t t' : TA} (h : PK X e t) (k : ∀ σ H Q, t' σ H Q → t σ H Q) : PK X e t' := ⟨fun pos pins s σ H Q I q => h.run pos pins s σ H Q I (k σ H Q q)⟩
theorem dk_nil : DK X W [] aNil := PK.imp pk_nil fun σ H Q ⟨w, s, h, rs, hw, q⟩ => q w [] H (.refl w) .nil hw
theorem dk_cons {nm : Option Str} {kpos : Pos} {kws : List Keyword} {me : EM} {mr : AM} (ha : DE X W e me) (hr : DK X W kws mr) : DK X W (⟨nm, e, kpos⟩ :: kws) (aCons me mr) := PK.imp (pk_cons ha hr) fun σ H Q ⟨w, s, h, rs, hw, q⟩ =>
  ⟨w, s, h, rs, hw, WpE.bind (G := WpA X.K w Q _) q (fun _ _ z => z) (fun z => z) fun x h1 w1 v H1 l1 rv hw1 q1 =>
    ⟨w1, s, h1, rs.mono l1, hw1, WpA.bind (G := WpA X.K w Q _) q1 (fun _ _ z => Px.mono l1 z) (fun z => z) fun y h2 w2 u H2 l2 ru hw2 q2 => q2 w2 _ H2 (l1.trans l2) (.cons (rv.mono l2) ru) hw2⟩⟩
def mFnK (n na nk : Nat) (ix : List Src) (m : FM) (dvs : List D) (a z : AM) : EM := fun s h => (a s h).bind fun l h1 => (z s h1).bind fun y h2 =>
  if decide ((pick l y dvs ix).length = n ∧ l.length = na ∧ y.length = nk) = true then m (pick l y dvs ix) h2 else .no
/-- f(e, .., k = v, ..) -/
theorem d_callK {ks : List Str} {na : Nat} {ix : List Src} {kws : List Keyword} {z : AM} (F : FnG X.prog X.w X.K X.mg X.base k f fd ps m) (hr : Rm k X.A) (tk : Takes X W) (hg : Gl X x) (hm : X.mg x = some (.ref f)) (hk : PySem.W.keepIn X.K (.ref f) = true)
    (hb : BindsK X.K fd ps ks na ds ix) (hd : Vals dvv ds) (hv : ∀ w, RVs X.K w dvv dvs)
    (ha : DA X W (e :: es) a) (hkw : DK X W kws z) (hall : (backToKw pos (keywordEach kws X.env)).all (·.1.isSome) = true := by rfl) (hks : (backToKw pos (keywordEach kws X.env)).filterMap (·.1) = ks := by rfl)
    (hdb : (x == ("__debug__" : Str)) = false := by decide) (he : starEach (e :: es) X.env = (false, eval e X.env) :: starEach es X.env := by rfl)
    (hpl : ((backTo pos (starEach (e :: es) X.env)).any (·.1) || (backToKw pos (keywordEach kws X.env)).any (·.1.isNone)) = false := by rfl) :
    DE X W (.Call (.Name x p) (e :: es) kws pos) (mFnK ps.length na ks.length ix m dvs a z) := ⟨fun pins s σ H Q I ⟨w, sg, h, rs, hw, q⟩ => by
  refine wpAny_Call_Name_kw (ld_glob I hg hm ?_ hdb)
  refine PySem.W.callWith_KW (h₀ := X.base) I.ok.mod.kin hk hall (thn (ha.run pos pins s σ H (fun vs H1 => ∃ w1 l h1, RVs X.K w1 vs l ∧ RS X.K w1 σ sg ∧ HW X.K w1 H1 h1 ∧ WpE X.K w1 Q (fun c d H => W c d σ H) ((z sg h1).bind fun y h2 =>
    if decide ((pick l y dvs ix).length = ps.length ∧ l.length = na ∧ y.length = ks.length) = true then m (pick l y dvs ix) h2 else .no)) I
    ⟨w, sg, h, rs, hw, WpA.bind (G := WpE X.K w Q _) q (fun _ _ z => z) (fun z => z) fun l h1 w1 vs H1 l1 rv hw1 q1 => ⟨w1, l, h1, rv, rs.mono l1, hw1, WpE.mono l1 q1⟩⟩) ?_) hpl he
  rintro us s1 ⟨vs, H1, I1, r, w1, l, h1, rv, rs1, hw1, q1⟩
  refine thn (hkw.run pos pins s1 σ H1 (fun zs H2 => ∃ w2 y h2, w1.le w2 ∧ RVs X.K w2 zs y ∧ HW X.K w2 H2 h2 ∧ ((pick l y dvs ix).length = ps.length ∧ l.length = na ∧ y.length = ks.length) ∧ WpE X.K w2 Q (fun c d H => W c d σ H) (m (pick l y dvs ix) h2)) I1
    ⟨w1, sg, h1, rs1, hw1, WpA.bind (G := WpE X.K w1 Q _) q1 (fun _ _ z => z) (fun z => z) fun y h2 w2 zs H2 l2 rz hw2 q2 => ?_⟩) ?_
  · split at q2
    · rename_i z0
      exact ⟨w2, y, h2, l2, rz, hw2, of_decide_eq_true z0, WpE.mono l2 q2⟩
    · exact q2.elim
  · rintro ws s2 ⟨zs, H2, I2, rws, w2, y, h2, l2, rz, hw2, ⟨n1, n2, n3⟩, q2⟩
    refine ⟨I2.kIn, ?_⟩
    rw [hks]
    refine run_fg F hr tk I2 (hb s2 us ws I2.kIn ?_ ?_) (pick_vals r rws hd ix) (pick_rv (rv.mono l2) rz (hv w2) ix) hw2 n1 q2
    · rw [← r.length, rv.length, n2]
    · rw [← rws.length, rz.length, n3]⟩
end

/-! ### defs by their names -/
/-- the def st of the module, called x, keeps m -/
structure CalP (P : Program) (w : World) (K : PySem.W.Frag) (mg : Str → Option Value) (base : Heap) (k : Nat) (x : Str) (st : Stmt) (ps : List Str) (m : FM) : Prop where
  ex : ∃ f fd, Fun K x x st f fd ∧ mg x = some (.ref f) ∧ FnG P w K mg base k f fd ps m
structure DefAt (K : PySem.W.Frag) (mg : Str → Option Value) (x : Str) (st : Stmt) : Prop where
  ex : ∃ f fd, Fun K x x st f fd ∧ mg x = some (.ref f)
theorem defAt_mk {K : PySem.W.Frag} {h : Heap} {mg : Str → Option Value} {x : Str} {st : Stmt} {f : Addr} {oc : Value} {od an : Option Addr} {osl : Array (Option Value)} {kV doc pm cdv ct : Value} (X : K.In h) (G : h.Ns mainGlobals mg)
    (a : PySem.W.nsIn K mainGlobals x = some (some (.ref f))) (l : K.lookup f = some ⟨oc, od, .func (PySem.W.fnOf x x (defArgs st) (defBody st) (defScope st) .none kV doc pm an cdv ct), osl⟩) (c : PySem.W.codeIn K cdv x = true) (k : PySem.W.keepIn K (.ref f) = true) : DefAt K mg x st :=
  ⟨f, _, fun_mk l c k, PySem.W.mg_of X G a⟩
section
variable {P : Program} {w : World} {K : PySem.W.Frag} {mg : Str → Option Value} {base : Heap} {k : Nat} {x : Str} {st : Stmt} {ps N : List Str} {m m' : FM} {sm : SM}
theorem DefAt.cal (T : DefAt K mg x st) (S : FnScope N ps (defScope st)) {m : FM} (hbody : ∀ (f : Addr) (cdv : Value) (A : Around) (outer : List Env) (s : Shared) (H : Hp) (E : XK), Rm k (A.deeper (envOfC x (defScope st) s.heap.objs.size f cdv)) →
      DSs (cxOf (L2.CX P w) P w K mg base N x (defScope st) f cdv A outer s H E) (fun c d _ H => E c d H) (defBody st) sm) : CalP P w K mg base (k + 1) x st ps (fnM N.length sm) := by
  obtain ⟨f, fd, F, g⟩ := T.ex
  exact ⟨f, fd, F, g, fnG_of F S (hbody f)⟩
theorem DefAt.none (T : DefAt K mg x st) : CalP P w K mg base k x st ps (fun _ _ => .no) := by
  obtain ⟨f, fd, F, g⟩ := T.ex
  exact ⟨f, fd, F, g, ⟨fun _ _ _ _ _ _ _ _ _ _ _ _ _ _ _ _ _ _ _ q => q.elim⟩⟩
theorem CalP.mono {j : Nat} (C : CalP P w K mg base j x st ps m) (h : j ≤ k) : CalP P w K mg base k x st ps m := by
  obtain ⟨f, fd, F, g, r⟩ := C.ex
  exact ⟨f, fd, F, g, r.mono h⟩
theorem CalP.imp (C : CalP P w K mg base k x st ps m) (h : ∀ (v : Wd) (Q : VK) (E : XK) (H : Hp) (ds : List D) (s : LH), HW K v H s → ds.length = ps.length → WpE K v Q E (m' ds s) → WpE K v Q E (m ds s)) : CalP P w K mg base k x st ps m' := by
  obtain ⟨f, fd, F, g, r⟩ := C.ex
  exact ⟨f, fd, F, g, r.imp h⟩
theorem CalP.eq (C : CalP P w K mg base k x st ps m) (h : ∀ ds s, ds.length = ps.length → m' ds s ≠ .no → m ds s = m' ds s) : CalP P w K mg base k x st ps m' := C.imp fun v Q E H ds s _ hl q => by
  by_cases e : m' ds s = .no
  · rw [e] at q; exact q.elim
  · rw [h ds s hl e]; exact q
theorem CalP.gc (C : CalP P w K mg base k x st ps m) : CalP P w K mg base k x st ps (gcM m) := by
  obtain ⟨f, fd, F, g, r⟩ := C.ex
  exact ⟨f, fd, F, g, r.gc⟩
end
section
variable {X : Cx} {W : WX} {k : Nat} {st : Stmt} {ps : List Str} {m : FM} {x : Str} {p pos : Pos} {e : Expr} {es : List Expr} {a : AM}
theorem d_c1 (C : CalP X.prog X.w X.K X.mg X.base k x st ps m) (hr : Rm k X.A) (tk : Takes X W) (hg : Gl X x)
    (hb : ∀ (kV doc pm : Value) (an : Option Addr) (cdv ct : Value) (us : List Value), us.length = ps.length → bindArgs (PySem.W.fnOf x x (defArgs st) (defBody st) (defScope st) .none kV doc pm an cdv ct) ⟨us, []⟩ = pure (ps.zip us))
    (ha : DA X W (e :: es) a) (hdb : (x == ("__debug__" : Str)) = false := by decide) (he : starEach (e :: es) X.env = (false, eval e X.env) :: starEach es X.env := by rfl) (hpl : (backTo pos (starEach es X.env)).any (·.1) = false := by rfl) :
    DE X W (.Call (.Name x p) (e :: es) [] pos) (mFn ps.length m [] a) := by
  obtain ⟨f, fd, F, g, r⟩ := C.ex
  exact d_call (dvv := []) (ds := []) r hr tk hg g F.kp (F.binds hb) .nil (fun _ => .nil) ha hdb he hpl
theorem d_c0 (C : CalP X.prog X.w X.K X.mg X.base k x st ps m) (hr : Rm k X.A) (tk : Takes X W) (hg : Gl X x)
    (hb : ∀ (kV doc pm : Value) (an : Option Addr) (cdv ct : Value) (us : List Value), us.length = ps.length → bindArgs (PySem.W.fnOf x x (defArgs st) (defBody st) (defScope st) .none kV doc pm an cdv ct) ⟨us, []⟩ = pure (ps.zip us))
    (hdb : (x == ("__debug__" : Str)) = false := by decide) : DE X W (.Call (.Name x p) [] [] pos) (mFn ps.length m [] aNil) := by
  obtain ⟨f, fd, F, g, r⟩ := C.ex
  exact d_call0 (dvv := []) (ds := []) r hr tk hg g F.kp (F.binds hb) .nil (fun _ => .nil) hdb
/-- f(k = v, ..) with keywords alone, or behind positional values -/
theorem d_ck {ks : List Str} {na : Nat} {ix : List Src} {kws : List Keyword} {z : AM} (C : CalP X.prog X.w X.K X.mg X.base k x st ps m) (hr : Rm k X.A) (tk : Takes X W) (hg : Gl X x)
    (hb : ∀ (kV doc pm : Value) (an : Option Addr) (cdv ct : Value) (us ws : List Value), us.length = na → ws.length = ks.length → bindArgs (PySem.W.fnOf x x (defArgs st) (defBody st) (defScope st) .none kV doc pm an cdv ct) ⟨us, ks.zip ws⟩ = pure (ps.zip (pick us ws [] ix)))
    (ha : DA X W (e :: es) a) (hkw : DK X W kws z) (hall : (backToKw pos (keywordEach kws X.env)).all (·.1.isSome) = true := by rfl) (hks : (backToKw pos (keywordEach kws X.env)).filterMap (·.1) = ks := by rfl)
    (hdb : (x == ("__debug__" : Str)) = false := by decide) (he : starEach (e :: es) X.env = (false, eval e X.env) :: starEach es X.env := by rfl)
    (hpl : ((backTo pos (starEach (e :: es) X.env)).any (·.1) || (backToKw pos (keywordEach kws X.env)).any (·.1.isNone)) = false := by rfl) :
    DE X W (.Call (.Name x p) (e :: es) kws pos) (mFnK ps.length na ks.length ix m [] a z) := by
  obtain ⟨f, fd, F, g, r⟩ := C.ex
  refine d_callK (dvv := []) (ds := []) r hr tk hg g F.kp (fun s us ws _ h1 h2 => ?_) .nil (fun _ => .nil) ha hkw hall hks hdb he hpl
  obtain ⟨oc, od, kV, doc, pm, an, cdv, ct, osl, rfl, lk, hcd⟩ := F.ex
  exact .of_eq (hb kV doc pm an cdv ct us ws h1 h2)
/-- f(k = v, ..) -/
theorem d_ck0 {ks : List Str} {ix : List Src} {kw : Keyword} {kws : List Keyword} {z : AM} (C : CalP X.prog X.w X.K X.mg X.base k x st ps m) (hr : Rm k X.A) (tk : Takes X W) (hg : Gl X x)
    (hb : ∀ (kV doc pm : Value) (an : Option Addr) (cdv ct : Value) (ws : List Value), ws.length = ks.length → bindArgs (PySem.W.fnOf x x (defArgs st) (defBody st) (defScope st) .none kV doc pm an cdv ct) ⟨[], ks.zip ws⟩ = pure (ps.zip (pick [] ws [] ix)))
    (hkw : DK X W (kw :: kws) z) (hall : (backToKw pos (keywordEach (kw :: kws) X.env)).all (·.1.isSome) = true := by rfl) (hks : (backToKw pos (keywordEach (kw :: kws) X.env)).filterMap (·.1) = ks := by rfl)
    (hdb : (x == ("__debug__" : Str)) = false := by decide)
    (hpl : ((backTo pos (starEach [] X.env)).any (·.1) || (backToKw pos (keywordEach (kw :: kws) X.env)).any (·.1.isNone)) = false := by rfl) :
    DE X W (.Call (.Name x p) [] (kw :: kws) pos) (mFnK ps.length 0 ks.length ix m [] aNil z) := ⟨fun pins s σ H Q I ⟨w, sg, h, rs, hw, q⟩ => by
  obtain ⟨f, fd, F, g, r⟩ := C.ex
  refine wpAny_Call_Name_kw (ld_glob I hg g ?_ hdb)
  unfold mFnK aNil at q
  rw [R.bind_ok] at q
  refine PySem.W.callWith_KW0 (h₀ := X.base) I.ok.mod.kin F.kp hall (thn (hkw.run pos pins s σ H (fun zs H2 => ∃ w2 y h2, w.le w2 ∧ RVs X.K w2 zs y ∧ HW X.K w2 H2 h2 ∧ ((pick [] y [] ix).length = ps.length ∧ y.length = ks.length) ∧ WpE X.K w2 Q (fun c d H => W c d σ H) (m (pick [] y [] ix) h2)) I
    ⟨w, sg, h, rs, hw, WpA.bind (G := WpE X.K w Q _) q (fun _ _ z => z) (fun z => z) fun y h2 w2 zs H2 l2 rz hw2 q2 => ?_⟩) ?_) hpl
  · split at q2
    · rename_i z0
      obtain ⟨z1, _, z3⟩ := of_decide_eq_true z0
      exact ⟨w2, y, h2, l2, rz, hw2, ⟨z1, z3⟩, WpE.mono l2 q2⟩
    · exact q2.elim
  · rintro ws s2 ⟨zs, H2, I2, rws, w2, y, h2, l2, rz, hw2, ⟨n1, n3⟩, q2⟩
    refine ⟨I2.kIn, ?_⟩
    rw [hks]
    refine run_fg r hr tk I2 ?_ (pick_vals .nil rws .nil ix) (pick_rv .nil rz .nil ix) hw2 n1 q2
    obtain ⟨oc, od, kV, doc, pm, an, cdv, ct, osl, rfl, lk, hcd⟩ := F.ex
    exact .of_eq (hb kV doc pm an cdv ct ws (by rw [← rws.length, rz.length, n3]))⟩
end

/-! ### the law's own call -/
section
variable {P : Program} {w : World} {K : PySem.W.Frag} {mg mb : Str → Option Value} {k : Nat} {fa a : Addr} {fd : FuncData} {x : Str} {m : FM} {s₁ : Shared} {vs : List Value} {ns : List Int}
/-- the heap of which nothing but the script is known -/
theorem head_at {H : Hp} (inK : K.In s₁.heap) (ng : s₁.heap.Ns mainGlobals mg) (nb : s₁.heap.Ns builtinsNs mb) (bb : ∀ x : Str, x ≠ "__name__" → mb x = bootBuiltins x) (nl : s₁.heap.NoLimit) (gens : s₁.gens = #[])
    (ho : ∃ o, s₁.heap.get? a = some o ∧ ∀ es ep, o.data ≠ .dict es ep) (room : Rm k callerA) (F : ∀ base : Heap, K.In base → base.Ns mainGlobals mg → FnG P w K mg base k fa fd [x] m) (hbind : ∀ (s : Shared) (u : Value), BindsTo s fd ⟨[u], []⟩ [(x, u)])
    (only : ∀ b o, H b = some o → (b = a ∨ b = sysModules) ∧ ∃ ob u, o = .frz ob u) (hsm : ∃ o u, H sysModules = some (.frz o u)) (okH : HOk P w H s₁.heap) (freeK : ∀ b, H b ≠ none → K.lookup b = none) (rd : RV K ⟨fun b o => H b = some o, [], fun _ _ => False⟩ (.ref a) (.kst (ns.map .int)))
    (hm : ∃ h', m [.kst (ns.map .int)] [] = .ok (.bl true) h') :
    codeAny (model P w) callerA (.call (.ref fa) ⟨[.ref a], []⟩) (fun r s' => r = .ok (.ret (.bool true)) ∧ OldK s₁.heap s'.heap ∧ s'.os = s₁.os ∧ AllBare s'.gens) s₁ := by
  obtain ⟨h', em⟩ := hm
  have noDict : ∀ {b : Addr} {o : Obj} {es : Array DictEntry} {ep : Nat}, b ≠ sysModules → s₁.heap.get? b = some o → o.data = .dict es ep → H b = none := by
    intro b o es ep hb e d
    cases q : H b with
    | none => rfl
    | some u =>
      obtain ⟨rfl | h1, _⟩ := only b u q
      · obtain ⟨o', e', nd⟩ := ho
        rw [e] at e'
        cases e'
        exact (nd es ep d).elim
      · exact (hb h1).elim
  have keepNs : ∀ {b : Addr} {mm : Str → Option Value}, b ≠ sysModules → s₁.heap.Ns b mm → (hidT s₁.heap H).Ns b mm := by
    rintro b mm hb ⟨o, es, ep, e, d, r⟩
    exact ⟨o, es, ep, hidT_get e (noDict hb e d), d, r⟩
  have n1 : mainGlobals ≠ sysModules := by decide
  have n2 : builtinsNs ≠ sysModules := by decide
  have n3 : cStatics ≠ sysModules := by decide
  have inB : K.In (hidT s₁.heap H) := fun b o e => hidT_get (inK b o e) (by
    cases q : H b with
    | none => rfl
    | some u =>
      rw [freeK b (by rw [q]; simp)] at e
      cases e)
  have md : Mod K mg (hidT s₁.heap H) := ⟨inB, keepNs n1 ng, ⟨mb, keepNs n2 nb, bb⟩, let ⟨mc, h1, h2⟩ := nl; ⟨mc, keepNs n3 h1, h2⟩⟩
  have e0 : Env0 P w K mg (hidT s₁.heap H) callerA [] s₁ H := ⟨rfl, md, fun b o e => of_hidT e, Nat.le_of_eq (hidT_size _ _), trivial, fun b hb => (nomatch hb), okH, .of_eq gens⟩
  have hw : HW K ⟨fun b o => H b = some o, [], fun _ _ => False⟩ H [] := ⟨fun _ _ e => e, rfl, fun n b p e => (by simp at e), List.nodup_nil, fun _ _ h => (nomatch h), fun _ _ h => h.elim, hsm⟩
  refine codeAny_mono ((F _ inB (keepNs n1 ng)).run callerA [] s₁ H ⟨[.ref a], []⟩ [.ref a] [.ref a] (fun v _ => v = .bl true) (fun _ _ _ => False) _ _ [] room e0 (hbind s₁ (.ref a)) (.cons rfl .nil) (.cons rd .nil) hw rfl ?_) ?_
  · rw [em]
    intro w' v H' _ rv _
    cases rv
    rfl
  · intro r s' hres
    cases r with
    | error e =>
      obtain ⟨_, _, _, _, _, _, _, _, _, _, _, _, z⟩ := hres
      exact z.elim
    | ok fl =>
      cases fl with
      | next => exact False.elim hres
      | brk => exact False.elim hres
      | cont => exact False.elim hres
      | ret u =>
        obtain ⟨v, H', os, bare, un, okH', r', q⟩ := hres
        have q' : v = .bl true := q
        subst q'
        obtain rfl : u = Value.bool true := r'
        refine ⟨rfl, OldK.of_keep fun b o e => ?_, os, bare⟩
        cases q : H b with
        | none => exact un.keep b o e q (fun z => nomatch z) (by simp)
        | some z =>
          obtain ⟨_, ob, xs, rfl⟩ := only b z q
          have q2 := un.frzs b ob _ q
          obtain ⟨e1, _⟩ := okH b _ q
          obtain ⟨e2, _⟩ := okH' b _ q2
          rw [e] at e1
          cases e1
          exact e2
theorem head_call (inK : K.In s₁.heap) (ng : s₁.heap.Ns mainGlobals mg) (nb : s₁.heap.Ns builtinsNs mb) (bb : ∀ x : Str, x ≠ "__name__" → mb x = bootBuiltins x) (nl : s₁.heap.NoLimit) (gens : s₁.gens = #[])
    (nm : ∃ mm, s₁.heap.Ns sysModules mm) (km : K.lookup sysModules = none)
    (ha : s₁.heap.get? a = some { cls := .type "list", data := .seq vs.toArray }) (hi : IntsAre vs ns) (hl : ns.length ≤ sizeLine) (room : Rm k callerA)
    (F : ∀ base : Heap, K.In base → base.Ns mainGlobals mg → FnG P w K mg base k fa fd [x] m) (hbind : ∀ (s : Shared) (u : Value), BindsTo s fd ⟨[u], []⟩ [(x, u)]) (hm : ∃ h', m [.kst (ns.map .int)] [] = .ok (.bl true) h') :
    codeAny (model P w) callerA (.call (.ref fa) ⟨[.ref a], []⟩) (fun r s' => r = .ok (.ret (.bool true)) ∧ OldK s₁.heap s'.heap ∧ s'.os = s₁.os ∧ AllBare s'.gens) s₁ := by
  have rv := vals_ints hi
  have ho : ∃ o, s₁.heap.get? a = some o ∧ ∀ es ep, o.data ≠ .dict es ep := ⟨_, ha, fun _ _ z => nomatch z⟩
  obtain ⟨mm, om, es, ep, em, dm, _⟩ := nm
  have na : a ≠ sysModules := by
    rintro rfl
    rw [ha] at em
    cases em
    cases dm
  cases hk : K.lookup a with
  | some o =>
    have e := inK a o hk
    rw [ha] at e
    cases e
    have at_ : ∀ b o, (fun b => if b = sysModules then some (HO.frz om (.own 0)) else none : Hp) b = some o → b = sysModules ∧ o = .frz om (.own 0) := fun b o z => by
      dsimp only at z
      split at z
      · rename_i e
        cases z
        exact ⟨e, rfl⟩
      · cases z
    refine head_at (H := fun b => if b = sysModules then some (HO.frz om (.own 0)) else none) inK ng nb bb nl gens ho room F hbind (fun b o z => ?_) ⟨om, .own 0, if_pos rfl⟩ (fun b o z => ?_) (fun b z => ?_) (.kst (vs := ns.map V.int) (.inr ⟨_, vs.toArray, _, hk, rfl, rfl, rfl, ?_, by simpa using rv⟩) (ints_rv ns)) hm
    · obtain ⟨e1, e2⟩ := at_ b o z
      exact ⟨.inr e1, _, _, e2⟩
    · obtain ⟨e1, e2⟩ := at_ b o z
      subst e1 e2
      exact ⟨em, om, em⟩
    · cases q : (fun b => if b = sysModules then some (HO.frz om (.own 0)) else none : Hp) b with
      | none => exact (z q).elim
      | some o => rw [(at_ b o q).1]; exact km
    · rw [List.size_toArray, hi.length]
      exact hl
  | none =>
    have at_ : ∀ b o, (fun b => if b = a then some (HO.frz { cls := .type "list", data := .seq vs.toArray } (.lst (ns.map V.int))) else if b = sysModules then some (HO.frz om (.own 0)) else none : Hp) b = some o →
        (b = a ∧ o = .frz { cls := .type "list", data := .seq vs.toArray } (.lst (ns.map V.int))) ∨ (b = sysModules ∧ o = .frz om (.own 0)) := fun b o z => by
      dsimp only at z
      split at z
      · rename_i e
        cases z
        exact .inl ⟨e, rfl⟩
      · split at z
        · rename_i e
          cases z
          exact .inr ⟨e, rfl⟩
        · cases z
    refine head_at (H := fun b => if b = a then some (HO.frz { cls := .type "list", data := .seq vs.toArray } (.lst (ns.map V.int))) else if b = sysModules then some (HO.frz om (.own 0)) else none) inK ng nb bb nl gens ho room F hbind (fun b o z => ?_) ⟨om, .own 0, ?_⟩ (fun b o z => ?_) (fun b z => ?_)
      (.kst (vs := ns.map V.int) (.inl ⟨_, if_pos rfl⟩) (ints_rv ns)) hm
    · rcases at_ b o z with ⟨e1, e2⟩ | ⟨e1, e2⟩
      · exact ⟨.inl e1, _, _, e2⟩
      · exact ⟨.inr e1, _, _, e2⟩
    · exact (if_neg fun z => na z.symm).trans (if_pos rfl)
    · rcases at_ b o z with ⟨e1, e2⟩ | ⟨e1, e2⟩
      · subst e1 e2
        exact ⟨ha, by rw [List.length_map]; exact hl, vs, _, rv, ha⟩
      · subst e1 e2
        exact ⟨em, om, em⟩
    · cases q : (fun b => if b = a then some (HO.frz { cls := .type "list", data := .seq vs.toArray } (.lst (ns.map V.int))) else if b = sysModules then some (HO.frz om (.own 0)) else none : Hp) b with
      | none => exact (z q).elim
      | some o =>
        rcases at_ b o q with ⟨e1, _⟩ | ⟨e1, _⟩
        · rw [e1]; exact hk
        · rw [e1]; exact km
/-- what the law's head asks, of a law whose call gives True -/
theorem walk_g {l : PySem.W.OpenLaw} {n k : Nat} {q : Program} {loose : List Str} {XP : (Str → Option Value) → Heap → Prop} {YP : World → Heap → Prop} {d : DefRec} {K : Params → PySem.W.Frag} {x : Str} {m : FM}
    (hn : l.most = some n) (hn2 : n ≤ sizeLine) (hdf : d.params.defaults = []) (hr : Rm k callerA)
    (hY : ∀ (w : World) (h : Heap), YP w h → (K w.params).In h) (hi : importsNone q = true) (km : ∀ w : World, (K w.params).lookup sysModules = none)
    (F : ∀ (w : World) (mg : Str → Option Value) (fa : Addr) (h : Heap), (K w.params).In h → h.Ns mainGlobals mg → mg d.name = some (.ref fa) →
      ∃ fd : FuncData, (∀ (s : Shared) (u : Value), BindsTo s fd ⟨[u], []⟩ [(x, u)]) ∧
        ∀ base : Heap, (K w.params).In base → base.Ns mainGlobals mg → FnG l.prog w (K w.params) mg base k fa fd [x] m)
    (hm : ∀ ns : List Int, ns.length ≤ n → ∃ h', m [.kst (ns.map .int)] [] = .ok (.bl true) h') :
    PySem.W.WalkO q loose XP YP l.row.toRowW d [] (fun f vs => PySem.call f vs) := by
  refine Att.attach_call hn hdf ?_
  intro w s₀ s₁ mg mb fa o pm cd doc a vs ns G Y ho hd hcd hmg hobj hints hlen hg
  have inK := hY w _ Y
  obtain ⟨fd, hb, hF⟩ := F w mg fa _ inK G.T.g hmg
  have nm : ∃ mm, s₁.heap.Ns sysModules mm := let ⟨mm, z, _⟩ := (G.T.seer hi).mods; ⟨mm, z⟩
  exact head_call inK G.T.g G.T.b G.T.builtins G.T.nolimit hg nm (km w) hobj hints (Nat.le_trans hlen hn2) hr hF hb (hm ns hlen)
end
end DN
namespace DN
open PySem PySem.Spec PyProof.Rows L2
section
variable {X : Cx} {W : WX} {pos : Pos} {x : Str} {e : Expr}
theorem d_ty (n : String) (hg : Gl X x) (hm : X.mg x = none) (hv : bootBuiltins x = some (.type n)) (hn : x ≠ "__name__" := by decide) (hd : (x == ("__debug__" : Str)) = false := by decide) :
    DE X W (.Name x pos) (mC (.st (.ty n))) := d_c (pe_bltn (v := .ty n) hg hm hv rfl hn hd) fun _ _ => .st _
theorem d_glob {d : D} {v : V} (hg : Gl X x) (h : ∃ u, X.mg x = some u ∧ RelV v u) (hd : (x == ("__debug__" : Str)) = false := by decide) (r : ∀ K w, RV K w v d := by first | exact fun _ _ => .int _ | exact fun _ _ => .str _ | exact fun _ _ => .bl _ | exact fun _ _ => .non) :
    DE X W (.Name x pos) (mC d) := by
  obtain ⟨u, h1, h2⟩ := h
  exact d_c (pe_glob hg h1 h2 hd) r
def mNeg (m : EM) : EM := fun s h => (m s h).bind fun x h1 => match x with
  | .int i => .ok (.int (-i)) h1
  | _ => .no
theorem d_neg {m : EM} (h : DE X W e m) : DE X W (.UnaryOp .USub e pos) (mNeg m) := PE.imp (pe_un un_neg h) fun σ H Q ⟨w, s, h, rs, hw, q⟩ =>
  ⟨w, s, h, rs, hw, WpE.bind (G := WpE X.K w Q _) q (fun _ _ z => z) (fun z => z) fun k h1 w1 v H1 l rv hw1 q1 => by
    split at q1
    · cases rv
      exact ⟨_, rfl, q1 w1 _ H1 l (.int _) hw1⟩
    · exact q1.elim⟩
/-- a, b, c = x, y, z -/
def sPar3 (i j k : Nat) (m : AM) : SM := fun s h => (m s h).q s fun l h1 => match l with
  | [x, y, z] => .nx (((s.set i (some x)).set j (some y)).set k (some z)) h1
  | _ => .no
theorem rv3 {K : PySem.W.Frag} {w : Wd} {v : List V} {a b c : D} (r : RVs K w v [a, b, c]) : ∃ x y z, v = [x, y, z] ∧ RV K w x a ∧ RV K w y b ∧ RV K w z c := by
  cases r with
  | cons p q => cases q with
    | cons p' q' => cases q' with
      | cons p'' q'' => cases q''; exact ⟨_, _, _, rfl, p, p', p''⟩
theorem ds_par3 {i j l : Nat} {x y z : Str} {a b c : Expr} {ma : AM} {px py pz pt : Pos} {kt k2 pt2} (hc : X.calm = true) (hN : X.N.Nodup) (hi : X.N[i]? = some x) (hj : X.N[j]? = some y) (hl : X.N[l]? = some z) (hij : i ≠ j) (hil : i ≠ l) (hjl : j ≠ l)
    (hx : X.env.scope.names.lookup x = some .local) (hy : X.env.scope.names.lookup y = some .local) (hz : X.env.scope.names.lookup z = some .local) (ha : DA X W [a, b, c] ma)
    (hw : swappedStores [.Tuple [.Name x px, .Name y py, .Name z pz] kt pt] (.Tuple [a, b, c] k2 pt2) X.env = pure (some [x, y, z]))
    (hs : swapsWithSole [.Tuple [.Name x px, .Name y py, .Name z pz] kt pt] (.Tuple [a, b, c] k2 pt2) pos.line X.env = pure false := by rfl) :
    DS X W (.Assign [.Tuple [.Name x px, .Name y py, .Name z pz] kt pt] (.Tuple [a, b, c] k2 pt2) pos) (sPar3 i j l ma) := PS.imp (ps_par3 hc hN hi hj hl hij hil hjl hx hy hz ha hw hs) fun D σ H ⟨w, s, h, rs, hw, q⟩ =>
  ⟨w, s, h, rs, hw, WpS.qA rs q fun l h1 w1 v H1 l1 rv hw1 q1 => by
    split at q1
    · obtain ⟨x, y, z, rfl, r1, r2, r3⟩ := rv3 rv
      exact ⟨x, y, z, rfl, q1 w1 _ H1 (.refl w1) ((((rs.mono l1).set r1).set r2).set r3) hw1⟩
    · exact q1.elim⟩
/-! ### dict displays (never changed) -/
def mDNew : EM := fun _ h => .ok (.dct []) h
theorem d_dnew : DE X W (.Dict [] [] pos) mDNew := PE.imp pe_dnewK fun σ H Q ⟨w, s, h, rs, hw, q⟩ p hp => q _ _ _ Wd.le_add (.dct (.inr ⟨rfl, rfl⟩) .nil) (hw.add hp)
def key : D → Option Key
  | .int i => some (.inl i)
  | .str x => some (.inr x)
  | _ => none
theorem key_v {K : PySem.W.Frag} {w : Wd} {v : V} {d : D} {k : Key} (r : RV K w v d) (e : key d = some k) : v = kV k := by
  cases r <;> first | (cases e; rfl) | cases e
abbrev PM := Sg → LH → R (List (Key × D))
def WpP (K : PySem.W.Frag) (w : Wd) (Q : List (V × V) → Hp → Prop) (W : XK) : R (List (Key × D)) → Prop
  | .ok l h => ∀ w' vs H', w.le w' → RKs K w' vs l → HW K w' H' h → Q (vs.map fun kv => (kV kv.1, kv.2)) H'
  | .ex x h => Px K w W x h
  | .no => False
def DP (X : Cx) (W : WX) (pos : Pos) (keys : List (Option Expr)) (values : List Expr) (m : PM) : Prop :=
  ∃ trs, PPs X pos keys values trs ∧ ∀ (w : Wd) (s : Sg) (h : LH) (σ : L2.St) (H : Hp) (Q : List (V × V) → Hp → Prop), RS X.K w σ s → HW X.K w H h → WpP X.K w Q (fun c d H => W c d σ H) (m s h) → tPairs trs σ H Q
def dNil : PM := fun _ h => .ok [] h
def dCons (a b : EM) (r : PM) : PM := fun s h => (a s h).bind fun x h1 => match key x with
  | none => .no
  | some k => (b s h1).bind fun y h2 => (r s h2).bind fun l h3 => .ok ((k, y) :: l) h3
theorem dp_nil : DP X W pos [] [] dNil := ⟨[], pps_nil, fun w s h σ H Q rs hw q => q w [] H (.refl w) .nil hw⟩
theorem WpP.mono {K : PySem.W.Frag} {w w' : Wd} {Q : List (V × V) → Hp → Prop} {W : XK} {r : R (List (Key × D))} (l : w.le w') (p : WpP K w Q W r) : WpP K w' Q W r := by
  cases r with
  | ok d h => exact fun v c H k r q => p v c H (l.trans k) r q
  | ex x h => exact Px.mono l p
  | no => exact p
theorem dp_cons {k v : Expr} {ks : List (Option Expr)} {vs : List Expr} {mk mv : EM} {mr : PM} (hk : DE X W k mk) (hv : DE X W v mv) (hr : DP X W pos ks vs mr) : DP X W pos (some k :: ks) (v :: vs) (dCons mk mv mr) := by
  obtain ⟨trs, p, f⟩ := hr
  refine ⟨_, pps_cons hk hv p, fun w s h σ H Q rs hw q => ?_⟩
  refine ⟨w, s, h, rs, hw, WpE.bind (G := WpP X.K w Q _) q (fun _ _ z => z) (fun z => z) fun x h1 w1 v1 H1 l1 rv hw1 q1 => ?_⟩
  split at q1
  · exact q1.elim
  · rename_i kk ek
    have := key_v rv ek
    subst this
    refine ⟨w1, s, h1, rs.mono l1, hw1, WpE.bind (G := WpP X.K w Q _) q1 (fun _ _ z => Px.mono l1 z) (fun z => z) fun y h2 w2 v2 H2 l2 rv2 hw2 q2 => ?_⟩
    refine f w2 s h2 σ H2 _ (rs.mono (l1.trans l2)) hw2 ?_
    cases er : mr s h2 with
    | ok l h3 =>
      rw [er] at q2
      exact fun w3 vs3 H3 l3 r3 hw3 => q2 w3 ((kk, v2) :: vs3) H3 ((l1.trans l2).trans l3) (.cons (rv2.mono l3) r3) hw3
    | ex x h3 => rw [er] at q2; exact Px.mono (l1.trans l2) q2
    | no => rw [er] at q2; exact q2.elim
def mDct (m : PM) : EM := fun s h => (m s h).bind fun l h1 => if decide ((l.map (·.1)).Nodup ∧ l.length ≤ 15) = true then .ok (.dct l) h1 else .no
theorem any_fst {α : Type} (k : Key) : ∀ l : List (Key × α), (l.any fun kv => decide (kv.1 = k)) = true ↔ k ∈ l.map (·.1)
  | [] => by simp
  | p :: r => by
    rw [List.any_cons, Bool.or_eq_true, any_fst k r, List.map_cons, List.mem_cons, decide_eq_true_iff]
    exact or_congr ⟨fun e => e.symm, fun e => e.symm⟩ Iff.rfl
theorem mergeK_nd : ∀ (more kvs : List (Key × V)), ((kvs ++ more).map (·.1)).Nodup → mergeK kvs more = kvs ++ more
  | [], kvs, _ => by simp [mergeK]
  | p :: r, kvs, h => by
    have h1 : p.1 ∉ kvs.map (·.1) := by
      rw [List.map_append, List.nodup_append] at h
      exact fun m => h.2.2 _ m _ (by simp) rfl
    have e : putK kvs p.1 p.2 = kvs ++ [p] := by
      unfold putK
      rw [if_neg (fun z => h1 ((any_fst _ _).mp z))]
    show mergeK (putK kvs p.1 p.2) r = _
    rw [e, mergeK_nd r (kvs ++ [p]) (by simpa using h)]
    simp
theorem rks_fst {K : PySem.W.Frag} {w : Wd} : ∀ {vs : List (Key × V)} {l : List (Key × D)}, RKs K w vs l → vs.map (·.1) = l.map (·.1)
  | _, _, .nil => rfl
  | _, _, .cons _ r => by simp [rks_fst r]
theorem d_dct {keys : List (Option Expr)} {values : List Expr} {m : PM} (h : DP X W pos keys values m) (hall : keys.all (·.isSome) = true) (hl : keys.length = values.length) (h0 : keys ≠ []) (h15 : keys.length ≤ 15) : DE X W (.Dict keys values pos) (mDct m) := by
  obtain ⟨trs, p, f⟩ := h
  refine PE.imp (pe_disp p hall hl h0 h15) fun σ H Q ⟨w, s, h, rs, hw, q⟩ a ha => ?_
  obtain ⟨f1, f2, f3⟩ := hw.free ha
  refine f (w.res a (.dK [])) s h σ _ _ (rs.mono Wd.le_res) (hw.res ha) ?_
  unfold mDct at q
  cases er : m s h with
  | ok l h1 =>
    rw [er, R.bind_ok] at q
    split at q
    · rename_i z
      obtain ⟨z1, z2⟩ := of_decide_eq_true z
      intro w2 vs H2 l2 rk hw2
      have hres : w2.rs a (.dK []) := l2.2.2 _ _ (.inr ⟨rfl, rfl⟩)
      have ef := rks_fst rk
      have el : vs.length = l.length := by
        have := congrArg List.length ef
        simpa using this
      refine ⟨(hw2.rs _ _ hres).1, vs, rfl, by omega, ?_⟩
      rw [mergeK_nd vs [] (by rw [List.nil_append, ef]; exact z1), List.nil_append]
      have hw3 := (hw2.reset (o := .dK vs) ⟨_, hres⟩).frz (.inr ⟨rfl, rfl⟩)
      have lx : w.le (((w2.unres a).res a (.dK vs)).unres a) := Wd.le_unres ((Wd.le_unres (Wd.le_res.trans l2) f3).trans Wd.le_res) f3
      exact q _ _ _ (lx.trans Wd.le_add) (.dct (.inr ⟨rfl, rfl⟩) ((rk.eqv (w := w2) (w' := ((w2.unres a).res a (.dK vs)).unres a) rfl rfl).mono Wd.le_add)) hw3
    · exact q.elim
  | ex x h1 => rw [er] at q; exact Px.mono Wd.le_res q
  | no => rw [er] at q; exact q.elim
end
end DN
namespace DN
open PySem PySem.Spec PyProof.Rows L2
theorem law_of {P : Program} {w : World} {K : PySem.W.Frag} {mg : Str → Option Value} {k : Nat} {y x : Str} {st : Stmt} {m : FM} {fa : Addr} (T : DefAt K mg y st) (hfa : mg y = some (.ref fa))
    (hb : ∀ (kV doc pm : Value) (an : Option Addr) (cdv ct : Value) (u : Value), bindArgs (PySem.W.fnOf y y (defArgs st) (defBody st) (defScope st) .none kV doc pm an cdv ct) ⟨[u], []⟩ = pure [(x, u)])
    (C : ∀ base, CalP P w K mg base k y st [x] m) :
    ∃ fd : FuncData, (∀ (s : Shared) (u : Value), BindsTo s fd ⟨[u], []⟩ [(x, u)]) ∧ ∀ base : Heap, K.In base → base.Ns mainGlobals mg → FnG P w K mg base k fa fd [x] m := by
  obtain ⟨f, fd, F, g⟩ := T.ex
  obtain rfl : f = fa := by
    rw [hfa] at g
    cases g
    rfl
  obtain ⟨oc, od, kV, doc, pm, an, cdv, ct, osl, e, lk, hcd⟩ := F.ex
  refine ⟨fd, fun s u => by rw [e]; exact .of_eq (hb kV doc pm an cdv ct u), fun base _ _ => ?_⟩
  obtain ⟨f', fd', F', g', r⟩ := (C base).ex
  obtain rfl : f' = f := by
    rw [hfa] at g'
    cases g'
    rfl
  obtain ⟨oc', od', kV', doc', pm', an', cdv', ct', osl', e', lk', hcd'⟩ := F'.ex
  have : fd' = fd := by
    rw [lk] at lk'
    cases lk'
    rfl
  exact this ▸ r
end DN
namespace DN
open PySem PySem.Spec PyProof.Rows L2
/-! ### max(.., default=d) -/
section
variable {P0 : Program} {w : World} {B : Around} {G : Result → Shared → Prop} {it : Addr} {fp wr : List Addr} {n : Nat} {P : Nat → Value → Prop} {St : Nat → Heap → Prop} {d : Value}
/-- what was seen so far -/
def Best (P : Nat → Value → Prop) (bt : Nat → Nat → Bool) (j : Nat) (vs : Array Value) : Prop := (j = 0 ∧ vs = #[]) ∨ ∃ i b, j = i + 1 ∧ vs = #[b, b] ∧ P (argBest bt i) b
theorem max_nm : (toString "max" ++ toString ".loop" : String) = "max.loop" := by decide
theorem mx_loop (W : Walks P0 w B.in1 it fp wr n P St) (bt : Nat → Nat → Bool) (hc : CmpOf P0 w B.in1 .Gt P bt) (z : Addr) (hz : z ∉ fp) :
    ∀ (k j : Nat) (t : Shared) (vs : Array Value) (c : Nat), n - j = k → j ≤ n → St j t.heap → Best P bt j vs → t.heap.get? z = some { cls := .type "list", dict := none, data := .seq vs c, slots := #[] } →
    (n = 0 → ∀ g tk, (∀ b o, b ∉ wr → b ≠ z → t.heap.get? b = some o → g.get? b = some o) → G (.ok (.ret d)) { t with heap := g, toks := tk }) →
    (∀ i, n = i + 1 → ∀ v g tk, P (argBest bt i) v → (∀ b o, b ∉ wr → b ≠ z → t.heap.get? b = some o → g.get? b = some o) → G (.ok (.ret v)) { t with heap := g, toks := tk }) →
    codeAny (model P0 w) B (.builtin "max.loop" ⟨[.ref it, .none, .ref z], [("default", d)]⟩) G t := by
  have zw : z ∉ wr := fun m => hz (W.sub _ m)
  intro k
  induction k with
  | zero =>
    intro j t vs c hk hj hst hb hs h0 h1
    obtain rfl : j = n := by omega
    refine codeAny_builtin F.entry_max_loop ?_
    rw [Around.under_plainId F.plain_max_loop _]
    refine wpAny_bind (M := model P0 w) (m := seqItems? (.ref z)) (wpAny_seqItems hs rfl ?_)
    refine wpAny_bind (M := model P0 w) (m := tryCatch (pyNext (.ref it)) _) (wpAny_tryCatch (W.done t _ _ hst fun g tk keep => ?_))
    have hs2 := keep z _ zw hs
    rcases hb with ⟨rfl, rfl⟩ | ⟨i, b, rfl, rfl, pb⟩
    · refine wpAny_bind (M := model P0 w) (m := rule _) (wpAny_rule (wpAny_pure ?_))
      exact h0 rfl g tk fun b o nb _ e => keep b o nb e
    · refine wpAny_bind (M := model P0 w) (m := updateSeq z (fun _ => #[])) ?_
      refine wpAny_updateSeq hs2 rfl (wpAny_bind (wpAny_letGo (wpAny_pure ?_)))
      exact h1 i rfl b _ tk pb fun a o na nz e => (Heap.get?_update_other _ _ (Ne.symm nz)).trans (keep a o na e)
  | succ k ih =>
    intro j t vs c hk hj hst hb hs h0 h1
    have hlt : j < n := by omega
    refine codeAny_builtin F.entry_max_loop ?_
    rw [Around.under_plainId F.plain_max_loop _]
    refine wpAny_bind (M := model P0 w) (m := seqItems? (.ref z)) (wpAny_seqItems hs rfl ?_)
    refine wpAny_bind (M := model P0 w) (m := tryCatch (pyNext (.ref it)) _) (wpAny_tryCatch (W.item j t _ _ hlt hst fun v g tk pv hst' keep => ?_))
    have hs2 := keep z _ zw hs
    rcases hb with ⟨rfl, rfl⟩ | ⟨i, b, rfl, rfl, pb⟩
    · refine wpAny_bind (M := model P0 w) (m := updateSeq z (fun _ => #[v, v])) ?_
      refine wpAny_updateSeq hs2 rfl ?_
      rw [max_nm]
      refine wpAny_pure ⟨plainId_quiet F.plain_max_loop _, ih 1 _ #[v, v] _ (by omega) hlt (W.frame _ _ _ hst' fun a ha o e => ?_) (.inr ⟨0, v, rfl, rfl, pv⟩) (Heap.get?_update_self _ hs2 rfl) (fun e0 => absurd e0 (by omega)) fun i ei v' g2 tk2 pv' keep2 => ?_⟩
      · exact (Heap.get?_update_other _ _ (fun e1 : z = a => hz (by rw [e1]; exact ha))).trans e
      · exact h1 i ei v' g2 tk2 pv' fun a o na nz e => keep2 a o na nz ((Heap.get?_update_other _ _ (Ne.symm nz)).trans (keep a o na e))
    · refine wpAny_bind (M := model P0 w) (m := tryCatch (holding [v, v] (richCompare .Gt v b >>= _)) _) ?_
      refine wpAny_tryCatch (wpAny_holding (wpAny_bind (hc (i + 1) (argBest bt i) v b _ _ _ pv pb ?_)))
      refine wpAny_bind (wpAny_holding (wpAny_truthy_bool (wpAny_bind (wpAny_letGo (wpAny_pure ?_)))))
      cases hbt : bt (i + 1) (argBest bt i) with
      | true =>
        simp only [if_true]
        refine wpAny_bind (wpAny_updateSeq hs2 rfl (wpAny_bind (wpAny_letGo ?_)))
        rw [max_nm]
        refine wpAny_pure ⟨plainId_quiet F.plain_max_loop _, ih (i + 2) _ #[v, v] _ (by omega) hlt (W.frame _ _ _ hst' fun a ha o e => ?_) (.inr ⟨i + 1, v, rfl, rfl, ?_⟩) (Heap.get?_update_self _ hs2 rfl) (fun e0 => absurd e0 (by omega)) fun i' ei v' g2 tk2 pv' keep2 => ?_⟩
        · exact (Heap.get?_update_other _ _ (fun e1 : z = a => hz (by rw [e1]; exact ha))).trans e
        · simp only [argBest, hbt, if_true]; exact pv
        · exact h1 i' ei v' g2 tk2 pv' fun a o na nz e => keep2 a o na nz ((Heap.get?_update_other _ _ (Ne.symm nz)).trans (keep a o na e))
      | false =>
        simp only [Bool.false_eq_true, if_false]
        refine wpAny_bind (wpAny_letGo ?_)
        rw [max_nm]
        refine wpAny_pure ⟨plainId_quiet F.plain_max_loop _, ih (i + 2) _ #[b, b] c (by omega) hlt hst' (.inr ⟨i + 1, b, rfl, rfl, ?_⟩) hs2 (fun e0 => absurd e0 (by omega)) fun i' ei v' g2 tk2 pv' keep2 => ?_⟩
        · simp only [argBest, hbt, Bool.false_eq_true, if_false]; exact pb
        · exact h1 i' ei v' g2 tk2 pv' fun a o na nz e => keep2 a o na nz (keep a o na e)
end
theorem args_maxD (a d : Value) : argsOk "max" ⟨[a], [("default", d)]⟩ := by unfold argsOk; kernel_rfl
theorem call_tree_kw {P0 : Program} {w : World} {A : Around} {E : Value → Shared → Prop} {s : Shared} {id : String} {b : Builtin} {args : List Value} {kw : List (Str × Value)} {Q : Value → Shared → Prop} (hk : builtinKind id = none) (hp : plainId id = true)
    (hb : entryFor table id = some b) (ha : argsOk id ⟨args, kw⟩)
    (hc : wpAny (model P0 w) A.in1 (b ⟨args, kw⟩) (fun fin t => match fin with
      | .done f => (match (Except.ok f : Result) with | .ok (.ret v) => Q v t | .ok _ => False | .error e => E e t)
      | .again c => c.quiet = true ∧ codeAny (model P0 w) A c (fun r t => match r with | .ok (.ret v) => Q v t | .ok _ => False | .error e => E e t) t) E s) :
    wpAny (model P0 w) A (call (.builtin id) args kw) Q E s := by
  refine wpAny_call (codeAny_call_builtin hp hb ?_)
  simp only [checkBuiltinCall, hk]
  cases sg : Manifest.signature? id with
  | none => exact wpAny_pure hc
  | some sig =>
    simp only [argsOk, sg] at ha
    have e : Bind.checkArgs id sig ⟨args, kw⟩ = pure () := ha
    show wpAny _ A.in1 (Bind.checkArgs id sig ⟨args, kw⟩) _ _ s
    rw [e]
    exact wpAny_pure hc
theorem max_dflt {P0 : Program} {w : World} {A : Around} {E : Value → Shared → Prop} {s : Shared} {l : Addr} {its : List Value} {ns : List Int} {d : Value} {Q : Value → Shared → Prop} (hh : A.handled = none) (hl : s.heap.IsList l its.toArray) (hi : IntsAre its ns)
    (q0 : ns = [] → ∀ g tk, (∀ b o, s.heap.get? b = some o → g.get? b = some o) → Q d { s with heap := g, toks := tk })
    (q1 : ∀ g tk M t, (∀ b o, s.heap.get? b = some o → g.get? b = some o) → M ∈ ns → (∀ a, a ∈ ns → a ≤ M) → Q (.int M t) { s with heap := g, toks := tk }) : wpAny (model P0 w) A (call (.builtin "max") [.ref l] [("default", d)]) Q E s := by
  obtain ⟨xs, e⟩ := hi.allInts.items
  have hn : numsOf (intItems xs).toList = ns := by rw [← e]; exact hi.numsOf
  rw [nums_intItems] at hn
  subst hn
  rw [e] at hl
  refine call_tree_kw F.kind_max F.plain_max F.entry_max (args_maxD _ _) ?_
  show wpAny _ A.in1 (Builtin.Builtins.bindParams "max" ["key", "default"] 0 ⟨[], [("default", d)]⟩ >>= _) _ _ s
  refine wpAny_bind (wpAny_of_eq (show Builtin.Builtins.bindParams "max" ["key", "default"] 0 ⟨[], [("default", d)]⟩ = pure [none, some d] from rfl) ?_)
  refine wpAny_bind (wpAny_pure ?_)
  refine wpAny_bind (iter_intList hl fun s₂ es st hfp hlI => ?_)
  subst es
  refine wpAny_bind (wpAny_newObj_type ?_)
  have W := Walks.list (prog := P0) (w := w) (A := A.in1) hh s.heap.objs.size l hlI (intItems xs)
  have hSf : (s.heap.push { cls := .type "list_iterator", data := .fields #[.ref l, .int 0 0] }).objs.size ∉ [s.heap.objs.size, l] := fun hm => Nat.lt_irrefl _ (hfp _ hm)
  have sz : (intItems xs).size = xs.size := by simp [intItems]
  rw [max_nm]
  refine wpAny_pure ⟨plainId_quiet F.plain_max_loop _, mx_loop W (fun i j => decide (numAt xs i > numAt xs j)) (CmpOf.ints_gt (numAt xs) (fun _ _ => intItems_at)) _ hSf _ 0 _ #[] 0 rfl (Nat.zero_le _)
    (W.frame _ _ _ st fun b _ o e => Heap.get?_push_of_some _ e) (.inl ⟨rfl, rfl⟩) (Heap.get?_push_size _ rfl) (fun n0 g tk keep => ?_) fun i ei v g tk hP keep => ?_⟩
  · refine q0 ?_ g tk (old_kept (l := l) fun b o nb e => ?_)
    · rw [sz] at n0
      have : xs.toList = [] := List.eq_nil_of_length_eq_zero (by simpa using n0)
      rw [this]; rfl
    · exact keep b o nb (Nat.ne_of_lt (Heap.lt_size e)) (Heap.get?_push_of_some _ e)
  · have hP' : (intItems xs)[argBest (fun i j => decide (numAt xs i > numAt xs j)) i]? = some v := by simpa [intItems] using hP
    obtain ⟨t, rfl⟩ := intItems_at hP'
    obtain ⟨h1, h2⟩ := argBest_gt (numAt xs) i
    rw [sz] at ei
    refine q1 g tk _ t (old_kept (l := l) fun b o nb e => keep b o nb (Nat.ne_of_lt (Heap.lt_size e)) (Heap.get?_push_of_some _ e)) ?_ fun a ha => ?_
    · rw [numAt_eq]; exact PySem.getD_mem (by rw [List.length_map, Array.length_toList]; omega)
    · obtain ⟨j, hj, rfl⟩ := mem_getD ha
      rw [List.length_map, Array.length_toList] at hj
      rw [← numAt_eq]; exact h2 j (by omega)
/-! a built-in function with keywords -/
abbrev OK := LH → List D → List D → Option D
def rK (K : PySem.W.Frag) (g : OK) : List V → List V → Hp → VK → Prop := fun vs zs H Q => ∃ w h ds es d, RVs K w vs ds ∧ RVs K w zs es ∧ HW K w H h ∧ g h ds es = some d ∧ Pv K w Q d h
def OKD (X : Cx) (f : Value) (ks : List Str) (g : OK) : Prop := CallRK X f ks (rK X.K g)
def mCallK (g : OK) (m z : AM) : EM := fun s h => (m s h).bind fun l h1 => (z s h1).bind fun y h2 => match g h2 l y with
  | some d => .ok d h2
  | none => .no
def cMaxD : OK := fun h ds es => match ds, es with
  | [d], [z] => (seqL h d).bind fun l => (l.mapM asI).map fun ns => match ns.max? with
    | some m => .int m
    | none => z
  | _, _ => none
section
variable {X : Cx} {W : WX} {x : Str} {p pos : Pos} {e : Expr} {es : List Expr} {kws : List Keyword} {id : String} {ks : List Str} {g : OK} {a z : AM}
theorem d_callBK (hc : OKD X (.builtin id) ks g) (hg : Gl X x) (hm : X.mg x = none) (hv : bootBuiltins x = some (.builtin id)) (ha : DA X W (e :: es) a) (hk : DK X W kws z) (hn : x ≠ "__name__" := by decide) (hdb : (x == ("__debug__" : Str)) = false := by decide)
    (he : backTo pos (starEach (e :: es) X.env) = (false, eval e X.env) :: backTo pos (starEach es X.env) := by rfl) (hpl : (backTo pos (starEach (e :: es) X.env)).any (·.1) = false := by rfl)
    (hall : (backToKw pos (keywordEach kws X.env)).all (·.1.isSome) = true := by rfl) (hnone : (backToKw pos (keywordEach kws X.env)).any (·.1.isNone) = false := by rfl) (hks : (backToKw pos (keywordEach kws X.env)).filterMap (·.1) = ks := by rfl) :
    DE X W (.Call (.Name x p) (e :: es) kws pos) (mCallK g a z) := PE.imp (pe_callBK hc hg hm hv ha hk hn hdb he hpl hall hnone hks) fun σ H Q ⟨w, s, h, rs, hw, q⟩ =>
  ⟨w, s, h, rs, hw, WpA.bind (G := WpE X.K w Q _) q (fun _ _ z => z) (fun z => z) fun l h1 w1 v H1 l1 rv hw1 q1 =>
    ⟨w1, s, h1, rs.mono l1, hw1, WpA.bind (G := WpE X.K w Q _) q1 (fun _ _ z => Px.mono l1 z) (fun z => z) fun y h2 w2 u H2 l2 ru hw2 q2 => by
      split at q2
      · rename_i d ed
        exact ⟨w2, h2, _, _, d, rv.mono l2, ru, hw2, ed, fun w3 x3 H3 l3 => q2 w3 x3 H3 ((l1.trans l2).trans l3)⟩
      · exact q2.elim⟩⟩
theorem asI_vals {K : PySem.W.Frag} {w : Wd} : ∀ {ds : List D} {vs : List V} {ns : List Int}, RVs K w vs ds → ds.mapM asI = some ns → vs = ns.map V.int
  | [], _, ns, r, e => by
    cases r
    have : ns = [] := by simpa using e.symm
    subst this
    rfl
  | d :: ds, _, ns, r, e => by
    cases r with
    | cons r rs =>
      simp only [List.mapM_cons, Option.bind_eq_bind, Option.bind_eq_some_iff] at e
      obtain ⟨y, e1, zs, e2, e3⟩ := e
      cases e3
      cases r <;> cases e1
      rw [asI_vals rs e2]
      rfl
theorem oc_maxD (hcalm : X.calm = true) : OKD X (.builtin "max") ["default"] cMaxD := by
  intro pins s σ H vs zs us ws Q I r rz ⟨w, h, ds, es, d, rd, re, hw, e, q⟩
  unfold cMaxD at e
  split at e
  · rename_i d0 z0
    simp only [Option.bind_eq_some_iff, Option.map_eq_some_iff] at e
    obtain ⟨l, e1, ns, e2, rfl⟩ := e
    obtain ⟨v, rfl, rv⟩ := rv1 rd
    obtain ⟨zv, rfl, rzv⟩ := rv1 re
    obtain ⟨u, rfl, ru⟩ := vals1 rz
    obtain ⟨a, vs', rfl, s1, q1⟩ := seqL_ok hw rv e1
    obtain rfl := asI_vals q1 e2
    obtain ⟨its, rr, hl, _⟩ := I.list s1
    rw [Vals.ref1 r]
    refine max_dflt (I.ok.hd hcalm) hl.isList rr.ints (fun e0 g tk keep => ?_) fun g tk M t keep hM hmx => ?_
    · subst e0
      exact ⟨zv, H, I.kept keep, ru, Pv.here q hw rzv⟩
    · have hm : ns.max? = some M := by
        rw [List.max?_eq_some_iff]
        exact ⟨hM, fun b hb => hmx b hb⟩
      rw [hm] at q
      exact ⟨.int M, H, I.kept keep, ⟨_, rfl⟩, Pv.here q hw (.int M)⟩
  · cases e
end
/-! ### tuples that the top names -/
theorem stT_mk {K : PySem.W.Frag} {a : Addr} {od : Option Addr} {its : Array Value} {n : Nat} {sl : Array (Option Value)} {vs : List V} (l : K.lookup a = some ⟨.type "tuple", od, .seq its n, sl⟩) (hz : its.size ≤ sizeLine) (r : Vals vs its.toList) : StT K a vs :=
  ⟨_, its, n, l, rfl, rfl, hz, r⟩
theorem d_gtup {X : Cx} {W : WX} {x : Str} {pos : Pos} {vs : List V} {ds : List D} (hg : Gl X x) (h : ∃ a, X.mg x = some (.ref a) ∧ StT X.K a vs) (r : ∀ K w, RVs K w vs ds) (hd : (x == ("__debug__" : Str)) = false := by decide) : DE X W (.Name x pos) (mC (.tup ds)) := by
  obtain ⟨a, h1, h2⟩ := h
  exact PE.imp (pe_glob (v := .ref a) hg h1 rfl hd) fun σ H Q ⟨w, s, h, rs, hw, q⟩ => q w _ H (.refl w) (.tup (.inr h2) (r _ _)) hw
/-! ### a + b, a new list that may change -/
def mCatN (a b : EM) : EM := fun s h => (a s h).bind fun x h1 => (b s h1).bind fun y h2 => match catL h2 x, catL h2 y with
  | some i, some j => if small (i.length + j.length) = true then .ok (.ref h2.length) (h2 ++ [.lst (i ++ j)]) else .no
  | _, _ => .no
theorem d_catN {X : Cx} {W : WX} {a b : Expr} {ma mb : EM} {pos : Pos} (ha : DE X W a ma) (hb : DE X W b mb) : DE X W (.BinOp a .Add b pos) (mCatN ma mb) := PE.imp (pe_op op_cat ha hb) fun σ H Q ⟨w, s, h, rs, hw, q⟩ =>
  ⟨w, s, h, rs, hw, WpE.bind (G := WpE X.K w Q _) q (fun _ _ z => z) (fun z => z) fun x h1 w1 v H1 l1 rx hw1 q1 =>
    ⟨w1, s, h1, rs.mono l1, hw1, WpE.bind (G := WpE X.K w Q _) q1 (fun _ _ z => Px.mono l1 z) (fun z => z) fun y h2 w2 u H2 l2 ry hw2 q2 => by
      split at q2
      · rename_i i j e1 e2
        split at q2
        · rename_i z
          obtain ⟨p, vs, rfl, s1, q1⟩ := catL_ok hw2 (rx.mono l2) e1
          obtain ⟨p2, us, rfl, s2, q3⟩ := catL_ok hw2 ry e2
          exact ⟨p, p2, vs, us, rfl, rfl, s1, s2, by rw [q1.length, q3.length]; exact small_le z, fun p hp => Pv.new (fun w3 z H3 l3 => q2 w3 z H3 ((l1.trans l2).trans l3)) hw2 (q1.append q3) hp⟩
        · exact q2.elim
      · exact q2.elim⟩⟩
end DN
namespace DN
open PySem PySem.Spec PyProof.Rows L2
/-! ### f-strings -/
section
variable {X : Cx} {W : WX} {pos : Pos}
def mFmt (m : EM) : EM := fun s h => (m s h).bind fun d h1 => match d with
  | .str y => if small y.length = true then .ok (.str y) h1 else .no
  | .int i => if decide (i.natAbs.log2 < 1920) = true then .ok (.str (toString i)) h1 else .no
  | _ => .no
theorem d_fmt {e : Expr} {m : EM} (h : DE X W e m) : DE X W (.FormattedValue e (-1) none pos) (mFmt m) := PE.imp (pe_fmt h) fun σ H Q ⟨w, s, h, rs, hw, q⟩ =>
  ⟨w, s, h, rs, hw, WpE.bind (G := WpE X.K w Q _) q (fun _ _ z => z) (fun z => z) fun d h1 w1 v H1 l rv hw1 q1 => by
    split at q1
    · cases rv
      split at q1
      · rename_i z
        exact .inl ⟨_, rfl, small_le z, q1 w1 _ H1 l (.str _) hw1⟩
      · exact q1.elim
    · cases rv
      split at q1
      · rename_i z
        exact .inr ⟨_, rfl, of_decide_eq_true z, q1 w1 _ H1 l (.str _) hw1⟩
      · exact q1.elim
    · exact q1.elim⟩
abbrev JM := Str → Sg → LH → R Str
def WpJ (K : PySem.W.Frag) (w : Wd) (Q : Str → Hp → Prop) (W : XK) : R Str → Prop
  | .ok y h => ∀ w' H', w.le w' → HW K w' H' h → Q y H'
  | .ex x h => Px K w W x h
  | .no => False
theorem WpJ.mono {K : PySem.W.Frag} {w w' : Wd} {Q : Str → Hp → Prop} {W : XK} {r : R Str} (l : w.le w') (p : WpJ K w Q W r) : WpJ K w' Q W r := by
  cases r with
  | ok d h => exact fun v H k q => p v H (l.trans k) q
  | ex x h => exact Px.mono l p
  | no => exact p
def DJ (X : Cx) (W : WX) (es : List Expr) (m : JM) : Prop :=
  ∃ ts, PJ X es ts ∧ ∀ (acc : Str) (w : Wd) (s : Sg) (h : LH) (σ : L2.St) (H : Hp) (Q : Str → Hp → Prop), RS X.K w σ s → HW X.K w H h → WpJ X.K w Q (fun c d H => W c d σ H) (m acc s h) → tJs ts acc σ H Q
def jNil : JM := fun acc _ h => .ok acc h
def jCons (m : EM) (r : JM) : JM := fun acc s h => (m s h).bind fun d h1 => match d with
  | .str y => if small (acc ++ y).length = true then r (acc ++ y) s h1 else .no
  | _ => .no
theorem dj_nil : DJ X W [] jNil := ⟨[], .nil, fun acc w s h σ H Q rs hw q => q w H (.refl w) hw⟩
theorem dj_cons {e : Expr} {es : List Expr} {m : EM} {r : JM} (h : DE X W e m) (hr : DJ X W es r) : DJ X W (e :: es) (jCons m r) := by
  obtain ⟨ts, p, f⟩ := hr
  refine ⟨_, .cons h p, fun acc w s h σ H Q rs hw q => ?_⟩
  refine ⟨w, s, h, rs, hw, WpE.bind (G := WpJ X.K w Q _) q (fun _ _ z => z) (fun z => z) fun d h1 w1 v H1 l rv hw1 q1 => ?_⟩
  split at q1
  · cases rv
    split at q1
    · rename_i z
      exact ⟨_, rfl, small_le z, f _ w1 s h1 σ H1 Q (rs.mono l) hw1 (WpJ.mono l q1)⟩
    · exact q1.elim
  · exact q1.elim
def mJn (r : JM) : EM := fun s h => (r Str.empty s h).bind fun y h1 => .ok (.str y) h1
theorem d_joined {v1 v2 : Expr} {rest : List Expr} {r : JM} (h : DJ X W (v1 :: v2 :: rest) r) : DE X W (.JoinedStr (v1 :: v2 :: rest) pos) (mJn r) := by
  obtain ⟨ts, p, f⟩ := h
  refine PE.imp (pe_joined p) fun σ H Q ⟨w, s, h, rs, hw, q⟩ => f Str.empty w s h σ H _ rs hw ?_
  unfold mJn at q
  cases er : r Str.empty s h with
  | ok y h1 =>
    rw [er] at q
    exact fun w1 H1 l hw1 => q w1 _ H1 l (.str _) hw1
  | ex x h1 => rw [er] at q; exact q
  | no => rw [er] at q; exact q.elim
end
/-! ### what stands under a key -/
def look1 (l : List (Key × D)) (k : Key) : Option D := (l.find? fun kv => decide (kv.1 = k)).map (·.2)
theorem look1_ok {K : PySem.W.Frag} {w : Wd} (k : Key) : ∀ {vs : List (Key × V)} {l : List (Key × D)}, RKs K w vs l → (∀ d, look1 l k = some d → ∃ v, valV vs k = some v ∧ RV K w v d) ∧ (look1 l k = none → valV vs k = none)
  | _, _, .nil => ⟨fun d e => by simp [look1] at e, fun _ => rfl⟩
  | _, _, .cons (k := k0) h r => by
    obtain ⟨a, b⟩ := look1_ok k r
    by_cases e : k0 = k
    · subst e
      refine ⟨fun d hd => ?_, fun hn => ?_⟩
      · simp [look1] at hd
        subst hd
        exact ⟨_, valV_pos rfl, h⟩
      · simp [look1] at hn
    · refine ⟨fun d hd => ?_, fun hn => ?_⟩
      · rw [valV_neg (p := (k0, _)) e]
        exact a d (by simpa [look1, e] using hd)
      · rw [valV_neg (p := (k0, _)) e]
        exact b (by simpa [look1, e] using hn)
section
variable {X : Cx} {W : WX} {pos : Pos} {o i : Expr} {mo mi : EM}
def mDg (o i : EM) : EM := fun s h => (o s h).bind fun d h1 => (i s h1).bind fun y h2 => match d, key y with
  | .dct l, some k => match look1 l k with
    | some v => .ok v h2
    | none => .no
  | _, _ => .no
theorem d_dget (hu : X.A.units + 65 < cLine) (ho : DE X W o mo) (hi : DE X W i mi) (hs : NoSl i := by intro _ _; rfl) : DE X W (.Subscript o i pos) (mDg mo mi) := PE.imp (pe_dget (by omega) ho hi hs) fun σ H Q ⟨w, s, h, rs, hw, q⟩ =>
  ⟨w, s, h, rs, hw, WpE.bind (G := WpE X.K w Q _) q (fun _ _ z => z) (fun z => z) fun d h1 w1 v H1 l1 rv hw1 q1 =>
    ⟨w1, s, h1, rs.mono l1, hw1, WpE.bind (G := WpE X.K w Q _) q1 (fun _ _ z => Px.mono l1 z) (fun z => z) fun y h2 w2 u H2 l2 ry hw2 q2 => by
      split at q2
      · rename_i l k ek
        split at q2
        · rename_i dv ev
          have hk := key_v ry ek
          subst hk
          cases rv with
          | dct fz r =>
            obtain ⟨x, hx, rx⟩ := (look1_ok k r).1 dv ev
            refine ⟨_, x, rfl, ?_, q2 w2 x H2 (l1.trans l2) (rx.mono l2) hw2⟩
            rw [← hx]
            exact DGet.k (hw2.fz _ _ (l2.1 _ _ fz))
        · exact q2.elim
      · exact q2.elim⟩⟩
/-! a dict that the top names -/
def StK (P : Program) (w : World) (K : PySem.W.Frag) (a : Addr) (vs : List (Key × V)) : Prop := ∃ (es : Array DictEntry) (ep : Nat) (us : List (Key × Value)), K.lookup a = some ⟨.type "dict", none, .dict es ep, #[]⟩ ∧ KV vs us ∧
  KeysOf (mixKind P w) es ∧ Pairs (mixKind P w) es.toList us ∧ (us.map (·.1)).Nodup ∧ (a == sysModules) = false
theorem kd_of {pins : List (Addr × Obj)} {σ : L2.St} {H : Hp} {s : Shared} {a : Addr} {vs : List (Key × V)} (I : Inv X pins σ H s) (k : StK X.prog X.w X.K a vs) : ∃ us, KV vs us ∧ s.heap.DictOf (mixKind X.prog X.w) a us := by
  obtain ⟨es, ep, us, h1, h2, h3, h4, h5, _⟩ := k
  exact ⟨us, h2, _, es, ep, I.kIn a _ h1, ⟨rfl, rfl, rfl⟩, rfl, h3, h4, h5⟩
/-- entries seen -/
inductive Ents (P : Program) (w : World) : List DictEntry → List (Key × V) → Prop where
  | nil : Ents P w [] []
  | cons {e : DictEntry} {es : List DictEntry} {k : Key} {v : V} {vs : List (Key × V)} (h1 : (mixKind P w).is k e.key = true) (h2 : e.hash = (mixKind P w).hash k) (h3 : RelV v e.val) (r : Ents P w es vs) : Ents P w (e :: es) ((k, v) :: vs)
theorem Ents.all {P : Program} {w : World} : ∀ {es : List DictEntry} {vs : List (Key × V)}, Ents P w es vs → ∃ us, KV vs us ∧ (∀ e ∈ es, ∃ k, (mixKind P w).is k e.key = true ∧ e.hash = (mixKind P w).hash k) ∧ Pairs (mixKind P w) es us ∧ us.map (·.1) = vs.map (·.1)
  | _, _, .nil => ⟨[], .nil, by simp, .nil, rfl⟩
  | _, _, .cons (e := e) (k := k) h1 h2 h3 r => by
    obtain ⟨us, a, b, c, d⟩ := r.all
    refine ⟨(k, e.val) :: us, .cons ⟨rfl, h3⟩ a, fun x hx => ?_, .cons h1 rfl c, by simp [d]⟩
    rcases List.mem_cons.mp hx with rfl | hx
    · exact ⟨k, h1, h2⟩
    · exact b x hx
theorem stK_mk {P : Program} {w : World} {K : PySem.W.Frag} {a : Addr} {es : Array DictEntry} {ep : Nat} {vs : List (Key × V)} (l : K.lookup a = some ⟨.type "dict", none, .dict es ep, #[]⟩) (h : Ents P w es.toList vs) (nd : (vs.map (·.1)).Nodup) (sm : (a == sysModules) = false) : StK P w K a vs := by
  obtain ⟨us, h1, h2, h3, h4⟩ := h.all
  exact ⟨es, ep, us, l, h1, fun e he => h2 e (Array.mem_toList_iff.mpr he), h3, by rw [h4]; exact nd, sm⟩
def mKg (l : List (Key × D)) (i : EM) : EM := fun s h => (i s h).bind fun y h1 => match key y with
  | some k => match look1 l k with
    | some v => .ok v h1
    | none => .no
  | none => .no
def mKin (l : List (Key × D)) (i : EM) : EM := fun s h => (i s h).bind fun y h1 => match key y with
  | some k => .ok (.bl (look1 l k).isSome) h1
  | none => .no
/-- the name stands for such a dict -/
def Kd (X : Cx) (x : Str) (l : List (Key × D)) : Prop := ∃ a vs, X.mg x = some (.ref a) ∧ StK X.prog X.w X.K a vs ∧ ∀ w, RKs X.K w vs l
variable {x : Str} {p : Pos} {l : List (Key × D)}
theorem d_kget (hg : Gl X x) (hk : Kd X x l) (hi : DE X W i mi) (hs : NoSl i := by intro _ _; rfl) (hd : (x == ("__debug__" : Str)) = false := by decide) : DE X W (.Subscript (.Name x p) i pos) (mKg l mi) := ⟨fun pins s σ H Q I ⟨w, sg, h, rs, hw, q⟩ => by
  obtain ⟨a, vs, h1, h2, h3⟩ := hk
  refine subD_of PySem.F.slot_dict_getitem.lookup hs (ld_glob I hg h1 ?_ hd)
  refine thn (hi.run pins s σ H (fun y H1 => ∃ v, (∃ k, y = kV k ∧ valV vs k = some v) ∧ Q v H1) I ⟨w, sg, h, rs, hw, WpE.bind (G := WpE X.K w Q _) q (fun _ _ z => z) (fun z => z) fun y h1 w1 u H1 l1 ru hw1 q1 => ?_⟩) fun iv s2 ⟨y, H2, I2, ry, v, ⟨k, ey, hv⟩, q2⟩ => ?_
  · split at q1
    · rename_i k ek
      split at q1
      · rename_i dv ev
        obtain ⟨v, hv, rv⟩ := (look1_ok k (h3 w1)).1 dv ev
        exact ⟨v, ⟨k, key_v ru ek, hv⟩, q1 w1 v H1 l1 rv hw1⟩
      · exact q1.elim
    · exact q1.elim
  · subst ey
    obtain ⟨us, kv, dd⟩ := kd_of I2 h2
    obtain ⟨w', hw', rw'⟩ := RelO.some_of (v := v) (o := valueAt us k) (by rw [← hv]; exact kv.val k)
    exact ⟨dd.typeIs, wpAny_getItem_of (kV_is ry) dd.mapOf hw' ⟨v, H2, I2.tok _, rw', q2⟩⟩⟩
theorem pc_kin (hg : Gl X x) (hk : Kd X x l) (hi : DE X W i mi) (hd : (x == ("__debug__" : Str)) = false := by decide) : PC X .In i (.Name x p) (TE_ X.K W (mKin l mi)) := ⟨fun pins s σ H Q I ⟨w, sg, h, rs, hw, q⟩ => by
  obtain ⟨a, vs, h1, h2, h3⟩ := hk
  refine thn (hi.run pins s σ H (fun y H1 => ∃ k, y = kV k ∧ Q (.bl (valV vs k).isSome) H1) I ⟨w, sg, h, rs, hw, WpE.bind (G := WpE X.K w Q _) q (fun _ _ z => z) (fun z => z) fun y h1 w1 u H1 l1 ru hw1 q1 => ?_⟩) fun iv s2 ⟨y, H2, I2, ry, k, ey, q2⟩ => ?_
  · split at q1
    · rename_i k ek
      refine ⟨k, key_v ru ek, ?_⟩
      have e : (valV vs k).isSome = (look1 l k).isSome := by
        obtain ⟨z1, z2⟩ := look1_ok k (h3 w1)
        cases el : look1 l k with
        | none => rw [z2 el]; rfl
        | some d =>
          obtain ⟨v, hv, _⟩ := z1 d el
          rw [hv]
          rfl
      rw [e]
      exact q1 w1 _ H1 l1 (.bl _) hw1
    · exact q1.elim
  · subst ey
    refine ld_glob I2 hg h1 ?_ hd
    obtain ⟨us, kv, dd⟩ := kd_of I2 h2
    obtain ⟨_, _, _, _, _, _, _, _, sm⟩ := h2
    refine wpAny_in_of (kV_is ry) sm dd.mapOf ?_
    rw [← (kv.val k).isSome_eq]
    exact ⟨.bl _, H2, I2.tok _, rfl, q2⟩⟩
theorem d_kin (hg : Gl X x) (hk : Kd X x l) (hi : DE X W i mi) (hm : behindInMarks .In (.Name x p) = false := by rfl) (hd : (x == ("__debug__" : Str)) = false := by decide) : DE X W (.Compare i [.In] [.Name x p] pos) (mKin l mi) := pe_cmp (pc_kin hg hk hi hd) hm
theorem dt_kin (hg : Gl X x) (hk : Kd X x l) (hi : DE X W i mi) (hm : behindInMarks .In (.Name x p) = false := by rfl) (hd : (x == ("__debug__" : Str)) = false := by decide) : DT X W (.Compare i [.In] [.Name x p] pos) (mTest (mKin l mi)) := PT.imp (pt_cmp (pc_kin hg hk hi hd) hm) fun σ H Q q => te_test q
end
/-! a statement that is never reached -/
theorem ds_stuck {X : Cx} {W : WX} {st : Stmt} : DS X W st (fun _ _ => .no) := ⟨fun pins s σ H D I ⟨w, sg, h, rs, hw, q⟩ => q.elim⟩
/-! a.find(b, i) -/
def gFind3 : OMt := fun h x ds => match x, ds with
  | .str a, [.str b, .int i] => some (.int (Txt.find3 a b i), h)
  | _, _ => none
theorem mt_gFind3 {X : Cx} : MtR X "str.find" (rM X.K "str" gFind3) := by
  intro pins s σ H x xs v us Q I rx rxs ⟨w, h, dx, ds, d, h', r1, r2, hw, e, q⟩
  unfold gFind3 at e
  split at e
  · cases e
    cases r1
    obtain ⟨u, u2, rfl, ru, ru2⟩ := rv2 r2
    cases ru
    cases ru2
    exact mt_find3 pins s σ H _ _ v us Q I rx rxs ⟨_, _, _, rfl, rfl, Pv.here q hw (.int _)⟩
  · cases e
end DN
set_option maxHeartbeats 1000000
namespace DN
open PySem PySem.Spec PyProof.Rows L2
/-! ### zip(s, t, strict=True) of two tuples -/
section
variable {P0 : Program} {w : World} {B : Around} {G : Value → Shared → Prop} {t : Shared}
theorem zs_stop {α : Type} {Q : α → Shared → Prop} (hh : B.handled = none)
    (he : ∀ g e, (∀ c o, t.heap.get? c = some o → g.get? c = some o) → (∃ o, g.get? e = some o ∧ o.cls = .type "StopIteration") → G (.ref e) { t with heap := g }) :
    wpAny (model P0 w) B (Builtin.SmallTypes.stopIteration : Sem α) Q G t := by
  unfold Builtin.SmallTypes.stopIteration
  refine wpAny_bind ?_
  simp only [newExc, newTuple]
  refine wpAny_bind (wpAny_newObj_type ?_ (by size_fits))
  refine wpAny_bind (m := firstArgMember _ _) (wpAny_of_eq (a := Value.none) (by first | rfl | (simp only [firstArgMember]; rfl)) ?_)
  refine wpAny_newObj_type ?_ (by size_fits)
  simp only [raiseNew]
  refine wpAny_bind (wpAny_handled ?_)
  rw [hh]
  refine wpAny_bind (wpAny_pure (wpAny_throw ?_))
  exact he _ _ (fun c o q => Heap.get?_push_of_some _ (Heap.get?_push_of_some _ q)) ⟨_, Heap.get?_push_size _ rfl, rfl⟩
theorem zs_some {it l : Addr} {i : Nat} {items : Array Value} {x : Value} {Q : Option Value → Shared → Prop} (hit : t.heap.IsTupleIter it l i) (hl : t.heap.IsTuple l items) (hx : items[i]? = some x)
    (k : ∀ g, g.IsTupleIter it l (i + 1) → Heap.SameBut it t.heap g → Q (some x) { t with heap := g }) : wpAny (model P0 w) B (Builtin.SmallTypes.nextOrEnd (.ref it)) Q G t := by
  unfold Builtin.SmallTypes.nextOrEnd
  exact wpAny_bind (wpAny_attempt (RZ.nextOf_tuple_item hit hl hx fun g a b => wpAny_pure (k g a b)))
theorem zs_none {it l : Addr} {i : Nat} {items : Array Value} {Q : Option Value → Shared → Prop} (hh : B.handled = none) (hit : t.heap.IsTupleIter it l i) (hl : t.heap.IsTuple l items) (hx : items[i]? = none)
    (k : ∀ g, Heap.ExtBut it t.heap g → Q none { t with heap := g }) : wpAny (model P0 w) B (Builtin.SmallTypes.nextOrEnd (.ref it)) Q G t := by
  unfold Builtin.SmallTypes.nextOrEnd
  refine wpAny_bind (wpAny_attempt (RZ.nextOf_tuple_end hh hit hl hx fun g e hk ⟨o, ho, hc⟩ => ?_))
  exact wpAny_bind (wpAny_isInstance (T := "StopIteration") (b := true) ⟨o, ho, hc⟩ isSubtype_stop (wpAny_pure (k g hk)))
/-- such a zip object -/
abbrev ZipS (h : Heap) (z TI TO : Addr) (f : Value) : Prop := h.get? z = some { cls := .type "zip", dict := none, data := .fields #[f, .bool false, .bool true, .ref TI, .ref TO], slots := #[] }
variable {z TI TO i j l m : Addr} {xs ys : Array Value} {n : Nat} {a b : Value}
theorem zs_item (D : ZipApart z TI TO i j l m) {x y : Value} (hz : ZipS t.heap z TI TO .none) (hI : IsPair t.heap TI (.ref i) (.ref j)) (hO : IsPair t.heap TO a b)
    (hi : t.heap.IsTupleIter i l n) (hj : t.heap.IsTupleIter j m n) (hl : t.heap.IsTuple l xs) (hm : t.heap.IsTuple m ys) (hx : xs[n]? = some x) (hy : ys[n]? = some y) {Q : Value → Shared → Prop}
    (k : ∀ g, ZipS g z TI TO (rawInt t.heap.objs.size) → IsPair g TO x y → g.IsTupleIter i l (n + 1) → g.IsTupleIter j m (n + 1) → IsPair g t.heap.objs.size x y → g.objs.size = t.heap.objs.size + 1 →
      (∀ c o, c ≠ z → c ≠ TO → c ≠ i → c ≠ j → t.heap.get? c = some o → g.get? c = some o) → Q (.ref t.heap.objs.size) { t with heap := g }) :
    wpAny (model P0 w) B (Builtin.«zip.__next__» ⟨[.ref z], []⟩) (fun f t' => ∃ v, f = .done (.ret v) ∧ Q v t') G t := by
  show wpAny _ _ (field (.ref z) 2 >>= _) _ _ _
  refine wpAny_bind (wpAny_field hz rfl (x := .bool true) rfl ?_)
  show wpAny _ _ (field (.ref z) 3 >>= _) _ _ _
  refine wpAny_bind (wpAny_field hz rfl (x := .ref TI) rfl (wpAny_bind (wpAny_seqItems hI rfl ?_)))
  show wpAny _ _ (Builtin.SmallTypes.ownedTupleIsFree (.ref z) >>= _) _ _ _
  refine wpAny_bind ?_
  unfold Builtin.SmallTypes.ownedTupleIsFree
  refine wpAny_bind (wpAny_field hz rfl (x := .none) rfl (wpAny_pure ?_))
  simp only [if_true]
  refine wpAny_bind (wpAny_rule (wpAny_bind (wpAny_field hz rfl (x := .ref TO) rfl (wpAny_bind (wpAny_setField_rec hz (by simp) fun g1 z1 s1 => ?_)))))
  replace z1 : ZipS g1 z TI TO .ellipsis := z1
  refine wpAny_bind ?_
  simp only [List.zipIdx_cons, List.zipIdx_nil, List.forIn_cons, List.forIn_nil]
  refine wpAny_bind (wpAny_bind (wpAny_onRaise ?_))
  show wpAny _ _ (Builtin.SmallTypes.nextOrEnd (.ref i)) _ _ _
  refine zs_some (hi.extBut s1.extBut D.i1z) (hl.extBut s1.extBut D.l1z) hx fun g2 i2 s2 => ?_
  have o2 : IsPair g2 TO a b := s2.extBut _ _ D.TOi1 (s1.extBut _ _ D.TOz hO)
  refine wpAny_bind (wpAny_seqItems o2 rfl (wpAny_bind (wpAny_updateSeq_pair o2 fun g3 o3 s3 => ?_)))
  replace o3 : IsPair g3 TO x b := o3
  refine wpAny_bind (wpAny_letGo (wpAny_pure ?_))
  refine wpAny_bind (wpAny_bind (wpAny_onRaise ?_))
  show wpAny _ _ (Builtin.SmallTypes.nextOrEnd (.ref j)) _ _ _
  refine zs_some (((hj.extBut s1.extBut D.i2z).extBut s2.extBut D.i12.symm).extBut s3.extBut D.TOi2.symm) (((hm.extBut s1.extBut D.l2z).extBut s2.extBut D.l2i1).extBut s3.extBut D.l2TO) hy fun g4 j4 s4 => ?_
  have o4 : IsPair g4 TO x b := s4.extBut _ _ D.TOi2 o3
  refine wpAny_bind (wpAny_seqItems o4 rfl (wpAny_bind (wpAny_updateSeq_pair o4 fun g5 o5 s5 => ?_)))
  replace o5 : IsPair g5 TO x y := o5
  refine wpAny_bind (wpAny_letGo (wpAny_pure (wpAny_pure ?_)))
  refine wpAny_bind (wpAny_seqItems o5 rfl (wpAny_bind (wpAny_newTuple ?_)))
  have hsz : g5.objs.size = t.heap.objs.size := by rw [s5.1, s4.1, s3.1, s2.1, s1.1]
  have z5 : ZipS g5 z TI TO .ellipsis := s5.extBut _ _ D.TOz.symm (s4.extBut _ _ D.i2z.symm (s3.extBut _ _ D.TOz.symm (s2.extBut _ _ D.i1z.symm z1)))
  have k5 : ∀ c o, c ≠ z → c ≠ TO → c ≠ i → c ≠ j → t.heap.get? c = some o → g5.get? c = some o := fun c o n1 n2 n3 n4 e =>
    s5.extBut _ _ n2 (s4.extBut _ _ n4 (s3.extBut _ _ n2 (s2.extBut _ _ n3 (s1.extBut _ _ n1 e))))
  have i5 : g5.IsTupleIter i l (n + 1) := ((i2.extBut s3.extBut D.TOi1.symm).extBut s4.extBut D.i12).extBut s5.extBut D.TOi1.symm
  have j5 : g5.IsTupleIter j m (n + 1) := j4.extBut s5.extBut D.TOi2.symm
  have zl : z < g5.objs.size := Heap.lt_size z5
  show wpAny _ _ (Builtin.SmallTypes.ownedTupleHandOut (.ref z) (.ref g5.objs.size) >>= _) _ _ _
  refine wpAny_bind ?_
  unfold Builtin.SmallTypes.ownedTupleHandOut
  have z6 : ZipS (g5.push { cls := .type "tuple", data := .seq #[x, y] }) z TI TO .ellipsis := Heap.get?_push_of_some _ z5
  refine wpAny_bind (wpAny_setField_rec z6 (by simp) fun g7 z7 s7 => ?_)
  replace z7 : ZipS g7 z TI TO (rawInt g5.objs.size) := z7
  refine wpAny_setField_rec z7 (by simp) fun g8 z8 s8 => ?_
  replace z8 : ZipS g8 z TI TO (rawInt g5.objs.size) := z8
  have up : ∀ c o, c ≠ z → g5.get? c = some o → g8.get? c = some o := fun c o q e => s8.extBut _ _ q (s7.extBut _ _ q (Heap.get?_push_of_some _ e))
  have t8 : IsPair g8 g5.objs.size x y := s8.extBut _ _ (Nat.ne_of_gt zl) (s7.extBut _ _ (Nat.ne_of_gt zl) (Heap.get?_push_size _ rfl))
  have sz8 : g8.objs.size = g5.objs.size + 1 := by rw [s8.1, s7.1, Heap.size_push]
  rw [hsz] at z8 t8 sz8
  refine wpAny_pure ⟨_, rfl, ?_⟩
  show Q (.ref g5.objs.size) _
  rw [hsz]
  exact k g8 z8 (up _ _ D.TOz o5) (i5.at fun o e => up _ o D.i1z e) (j5.at fun o e => up _ o D.i2z e) t8 sz8 fun c o n1 n2 n3 n4 e => up c o n1 (k5 c o n1 n2 n3 n4 e)
theorem zs_end (hh : B.handled = none) (D : ZipApart z TI TO i j l m) (hz : ZipS t.heap z TI TO .none) (hI : IsPair t.heap TI (.ref i) (.ref j)) (hO : IsPair t.heap TO a b)
    (hi : t.heap.IsTupleIter i l n) (hj : t.heap.IsTupleIter j m n) (hl : t.heap.IsTuple l xs) (hm : t.heap.IsTuple m ys) (hx : xs[n]? = none) (hy : ys[n]? = none) {Q : Fin → Shared → Prop}
    (k : ∀ g e, (∀ c o, c ≠ z → c ≠ TO → c ≠ i → c ≠ j → t.heap.get? c = some o → g.get? c = some o) → (∃ o, g.get? e = some o ∧ o.cls = .type "StopIteration") → G (.ref e) { t with heap := g }) :
    wpAny (model P0 w) B (Builtin.«zip.__next__» ⟨[.ref z], []⟩) Q G t := by
  show wpAny _ _ (field (.ref z) 2 >>= _) _ _ _
  refine wpAny_bind (wpAny_field hz rfl (x := .bool true) rfl ?_)
  show wpAny _ _ (field (.ref z) 3 >>= _) _ _ _
  refine wpAny_bind (wpAny_field hz rfl (x := .ref TI) rfl (wpAny_bind (wpAny_seqItems hI rfl ?_)))
  show wpAny _ _ (Builtin.SmallTypes.ownedTupleIsFree (.ref z) >>= _) _ _ _
  refine wpAny_bind ?_
  unfold Builtin.SmallTypes.ownedTupleIsFree
  refine wpAny_bind (wpAny_field hz rfl (x := .none) rfl (wpAny_pure ?_))
  simp only [if_true]
  refine wpAny_bind (wpAny_rule (wpAny_bind (wpAny_field hz rfl (x := .ref TO) rfl (wpAny_bind (wpAny_setField_rec hz (by simp) fun g1 z1 s1 => ?_)))))
  replace z1 : ZipS g1 z TI TO .ellipsis := z1
  refine wpAny_bind ?_
  simp only [List.zipIdx_cons, List.zipIdx_nil, List.forIn_cons, List.forIn_nil]
  refine wpAny_bind (wpAny_bind (wpAny_onRaise ?_))
  show wpAny _ _ (Builtin.SmallTypes.nextOrEnd (.ref i)) _ _ _
  refine zs_none hh (hi.extBut s1.extBut D.i1z) (hl.extBut s1.extBut D.l1z) hx fun g2 s2 => ?_
  have z2 : ZipS g2 z TI TO .ellipsis := s2 _ _ D.i1z.symm z1
  refine wpAny_bind (wpAny_setField_rec z2 (by simp) fun g3 z3 s3 => ?_)
  refine wpAny_bind ?_
  show wpAny _ _ (((Builtin.SmallTypes.nextOrEnd (.ref j) >>= _) >>= _) >>= _) _ _ _
  have j3 : g3.IsTupleIter j m n := hj.at fun o q => s3.extBut _ _ D.i2z (s2 _ _ D.i12.symm (s1.extBut _ _ D.i2z q))
  have m3 : g3.IsTuple m ys := by
    obtain ⟨o, q, r⟩ := hm
    exact ⟨o, s3.extBut _ _ D.l2z (s2 _ _ D.l2i1 (s1.extBut _ _ D.l2z q)), r⟩
  refine wpAny_bind (wpAny_bind (wpAny_bind (zs_none hh j3 m3 hy fun g4 s4 => ?_)))
  refine wpAny_pure (wpAny_pure ?_)
  refine wpAny_bind (wpAny_rule ?_)
  refine zs_stop hh fun g5 e s5 he => k g5 e (fun c o n1 n2 n3 n4 q => s5 _ _ (s4 _ _ n4 (s3.extBut _ _ n1 (s2 _ _ n3 (s1.extBut _ _ n1 q))))) he
theorem zs_next_item (D : ZipApart z TI TO i j l m) {x y : Value} (hz : ZipS t.heap z TI TO .none) (hI : IsPair t.heap TI (.ref i) (.ref j)) (hO : IsPair t.heap TO a b)
    (hi : t.heap.IsTupleIter i l n) (hj : t.heap.IsTupleIter j m n) (hl : t.heap.IsTuple l xs) (hm : t.heap.IsTuple m ys) (hx : xs[n]? = some x) (hy : ys[n]? = some y) {Q : Option Value → Shared → Prop}
    (k : ∀ g, ZipS g z TI TO (rawInt t.heap.objs.size) → IsPair g TO x y → g.IsTupleIter i l (n + 1) → g.IsTupleIter j m (n + 1) → IsPair g t.heap.objs.size x y → g.objs.size = t.heap.objs.size + 1 →
      (∀ c o, c ≠ z → c ≠ TO → c ≠ i → c ≠ j → t.heap.get? c = some o → g.get? c = some o) → Q (some (.ref t.heap.objs.size)) { t with heap := g }) :
    wpAny (model P0 w) B (pyNext (.ref z)) Q G t := by
  have ty : t.TypeIs (.ref z) "zip" := ⟨_, hz, rfl⟩
  unfold pyNext
  refine wpAny_bind (wpAny_attempt (wpAny_callSpecial?_slot (name := Str.ofString "__next__") ty F.slot_zip_next (wpAny_call_entry F.slot_zip_next ty F.entry_zip_next ?_ (F.args_zip_next_1 _))))
  exact zs_item D hz hI hO hi hj hl hm hx hy fun g q1 q2 q3 q4 q5 q6 q7 => wpAny_pure (k g q1 q2 q3 q4 q5 q6 q7)
theorem zs_next_end (hh : B.handled = none) (D : ZipApart z TI TO i j l m) (hz : ZipS t.heap z TI TO .none) (hI : IsPair t.heap TI (.ref i) (.ref j)) (hO : IsPair t.heap TO a b)
    (hi : t.heap.IsTupleIter i l n) (hj : t.heap.IsTupleIter j m n) (hl : t.heap.IsTuple l xs) (hm : t.heap.IsTuple m ys) (hx : xs[n]? = none) (hy : ys[n]? = none) {Q : Option Value → Shared → Prop}
    (k : ∀ g, (∀ c o, c ≠ z → c ≠ TO → c ≠ i → c ≠ j → t.heap.get? c = some o → g.get? c = some o) → Q none { t with heap := g }) : wpAny (model P0 w) B (pyNext (.ref z)) Q G t := by
  have ty : t.TypeIs (.ref z) "zip" := ⟨_, hz, rfl⟩
  unfold pyNext
  refine wpAny_bind (wpAny_attempt (wpAny_callSpecial?_slot (name := Str.ofString "__next__") ty F.slot_zip_next (wpAny_call_entry F.slot_zip_next ty F.entry_zip_next ?_ (F.args_zip_next_1 _))))
  refine zs_end (B := B.in1) hh D hz hI hO hi hj hl hm hx hy fun g e hk he => ?_
  obtain ⟨o, ho, hc⟩ := he
  exact wpAny_bind (wpAny_isInstance (T := "StopIteration") (b := true) ⟨o, ho, hc⟩ isSubtype_stop (wpAny_pure (k g hk)))
end
/-! made -/
def zs1 (h : Heap) (l : Addr) : Heap := h.push { cls := .type "tuple_iterator", data := .fields #[.ref l, .int 0 0] }
def zs2 (h : Heap) (l m : Addr) : Heap := (zs1 h l).push { cls := .type "tuple_iterator", data := .fields #[.ref m, .int 0 0] }
def zs3 (h : Heap) (l m : Addr) : Heap := (zs2 h l m).push { cls := .type "tuple", data := .seq #[.ref h.objs.size, .ref (zs1 h l).objs.size] }
def zs4 (h : Heap) (l m : Addr) : Heap := (zs3 h l m).push { cls := .type "tuple", data := .seq #[.none, .none] }
def zs5 (h : Heap) (l m : Addr) : Heap := (zs4 h l m).push { cls := .type "zip", data := .fields #[.none, .bool false, .bool true, .ref (zs2 h l m).objs.size, .ref (zs3 h l m).objs.size] }
theorem meets_zs (l m : Addr) (xs ys : Array Value) :
    Meets (Builtin.«zip.__new__» ⟨[.type "zip", .ref l, .ref m], [(Str.ofString "strict", .bool true)]⟩) (fun _ R s => s.heap.IsTuple l xs ∧ s.heap.IsTuple m ys ∧
      R (.ok (.ret (.ref (zs4 s.heap l m).objs.size))) { s with heap := zs5 s.heap l m }) :=
  .of_wp fun prog w A R s h => by
    obtain ⟨hp, g, d, tk, os⟩ := s; obtain ⟨p1, p2, h⟩ := h
    have hsub := sub_zip
    have q1 : Heap.IsTuple (Shared.heap ⟨hp, g, d, tk, os⟩) l xs := p1
    have q2 : Heap.IsTuple (Shared.heap ⟨hp.push { cls := .type "tuple_iterator", data := .fields #[.ref l, .int 0 0] }, g, d, tk, os⟩) m ys := Heap.IsTuple.push p2 _
    have e2 : (Str.ofString "strict" != ("strict" : Str)) = false := by decide +kernel
    unfold zs5 zs4 zs3 zs2 zs1 at h
    wp_walk using wpAny_pyIter_tuple q1, wpAny_pyIter_tuple q2
    exact ⟨_, rfl, h⟩
namespace ZF
theorem typeCall (a b c : Value) : checkTypeCall "zip" ⟨[a, b], [(Str.ofString "strict", c)]⟩ = pure () := by kernel_rfl
theorem newCall (a b c : Value) : checkBuiltinCall "zip.__new__" ⟨[.type "zip", a, b], [(Str.ofString "strict", c)]⟩ = pure () := by kernel_rfl
theorem initArgs (o a b c : Value) : argsOk "object.__init__" ⟨[o, a, b], [(Str.ofString "strict", c)]⟩ := by unfold argsOk; kernel_rfl
end ZF
section
variable {P0 : Program} {w : World} {B : Around} {G : Value → Shared → Prop} {t : Shared}
theorem zs_call {l m : Addr} {xs ys : Array Value} {Q : Value → Shared → Prop} (hl : t.heap.IsTuple l xs) (hm : t.heap.IsTuple m ys)
    (k : ∀ g, ZipS g (t.heap.objs.size + 4) (t.heap.objs.size + 2) (t.heap.objs.size + 3) .none → IsPair g (t.heap.objs.size + 2) (.ref t.heap.objs.size) (.ref (t.heap.objs.size + 1)) →
      IsPair g (t.heap.objs.size + 3) .none .none → g.IsTupleIter t.heap.objs.size l 0 → g.IsTupleIter (t.heap.objs.size + 1) m 0 → (∀ c o, t.heap.get? c = some o → g.get? c = some o) → Q (.ref (t.heap.objs.size + 4)) { t with heap := g }) :
    wpAny (model P0 w) B (call (.type "zip") [.ref l, .ref m] [(Str.ofString "strict", .bool true)]) Q G t := by
  refine callType_newKw F.called_zip (by decide) (ZF.typeCall _ _ _) (ZF.newCall _ _ _) (fun o => ZF.initArgs o _ _ _) F.entry_zip_new (meets_zs l m xs ys) ⟨hl, hm, ?_⟩
  have z1 : (zs1 t.heap l).objs.size = t.heap.objs.size + 1 := Heap.size_push ..
  have z2 : (zs2 t.heap l m).objs.size = t.heap.objs.size + 2 := (Heap.size_push ..).trans (by rw [z1])
  have z3 : (zs3 t.heap l m).objs.size = t.heap.objs.size + 3 := (Heap.size_push ..).trans (by rw [z2])
  have z4 : (zs4 t.heap l m).objs.size = t.heap.objs.size + 4 := (Heap.size_push ..).trans (by rw [z3])
  have up5 : ∀ {c o}, (zs4 t.heap l m).get? c = some o → (zs5 t.heap l m).get? c = some o := fun q => Heap.get?_push_of_some _ q
  have up4 : ∀ {c o}, (zs3 t.heap l m).get? c = some o → (zs4 t.heap l m).get? c = some o := fun q => Heap.get?_push_of_some _ q
  have up3 : ∀ {c o}, (zs2 t.heap l m).get? c = some o → (zs3 t.heap l m).get? c = some o := fun q => Heap.get?_push_of_some _ q
  have up2 : ∀ {c o}, (zs1 t.heap l).get? c = some o → (zs2 t.heap l m).get? c = some o := fun q => Heap.get?_push_of_some _ q
  have up1 : ∀ {c o}, t.heap.get? c = some o → (zs1 t.heap l).get? c = some o := fun q => Heap.get?_push_of_some _ q
  have g5 : (zs5 t.heap l m).get? (zs4 t.heap l m).objs.size = some _ := Heap.get?_push_size _ rfl
  have g4 : (zs5 t.heap l m).get? (zs3 t.heap l m).objs.size = some _ := up5 (Heap.get?_push_size _ rfl)
  have g3 : (zs5 t.heap l m).get? (zs2 t.heap l m).objs.size = some _ := up5 (up4 (Heap.get?_push_size _ rfl))
  have g2 : (zs5 t.heap l m).get? (zs1 t.heap l).objs.size = some _ := up5 (up4 (up3 (Heap.get?_push_size _ rfl)))
  have g1 : (zs5 t.heap l m).get? t.heap.objs.size = some _ := up5 (up4 (up3 (up2 (Heap.get?_push_size _ rfl))))
  show _ ∧ _
  rw [z2, z3, z4] at g5
  rw [z3] at g4
  rw [z2, z1] at g3
  rw [z1] at g2
  rw [z4]
  exact ⟨⟨_, g5, rfl⟩, k _ g5 g3 g4 ⟨_, g1, rfl, rfl⟩ ⟨_, g2, rfl, rfl⟩ fun c o q => up5 (up4 (up3 (up2 (up1 q))))⟩
theorem zs_iter {z TI TO : Addr} {f : Value} {Q : Value → Shared → Prop} (hz : ZipS t.heap z TI TO f) (q : Q (.ref z) t) : wpAny (model P0 w) B (pyIter (.ref z)) Q G t := by
  have ty : t.TypeIs (.ref z) "zip" := ⟨_, hz, rfl⟩
  refine wpAny_pyIter_slot ty F.slot_zip_iter (wpAny_call_entry F.slot_zip_iter ty F.entry_zip_iter ?_ (F.args_zip_iter_1 _))
  show wpAny _ _ (ret (.ref z)) _ _ t
  exact wpAny_pure ⟨_, rfl, _, _, ty, F.slot_zip_next.lookup, q⟩
theorem zs_go {elts : List Expr} {k : Nat} {pos : Pos} {z TI TO T : Addr} {Q : Unit → Shared → Prop} (hz : ZipS t.heap z TI TO (rawInt T)) (q : ∀ g, ZipS g z TI TO .none → Heap.SameBut z t.heap g → Q () { t with heap := g }) :
    wpAny (model P0 w) B (letOwnedTupleGo (.Tuple elts k pos) (.ref z) (.ref T)) Q G t := by
  unfold letOwnedTupleGo
  refine wpAny_bind (wpAny_load hz ?_)
  show wpAny _ _ (if (_ && (#[rawInt T, .bool false, .bool true, .ref TI, .ref TO] : Array Value)[0]? == some (rawInt T)) = true then _ else _) Q G t
  rw [if_pos (by simp)]
  refine wpAny_bind (wpAny_rule ?_)
  show wpAny _ _ (setField (.ref z) 0 .none) Q G t
  exact wpAny_setField_rec hz (by simp) fun g a b => q g a b
end
end DN
namespace DN
open PySem PySem.Spec PyProof.Rows L2
/-- two tuples of one length, the items in new pairs -/
def ItzS (K : PySem.W.Frag) (a b : Addr) : It :=
  ⟨fun i H => ∃ (xs ys : List V) (x y : V), SqT K H a xs ∧ SqT K H b ys ∧ xs[i]? = some x ∧ ys[i]? = some y,
    fun i H v H' => ∃ T x y, v = .ref T ∧ H T = none ∧ H' = upd H T (.tup [x, y]) ∧ (∀ xs, SqT K H a xs → xs[i]? = some x) ∧ ∀ ys, SqT K H b ys → ys[i]? = some y,
    fun i H => ∃ xs ys : List V, SqT K H a xs ∧ SqT K H b ys ∧ xs.length ≤ i ∧ ys.length ≤ i⟩
theorem zs_turn {P0 : Program} {w : World} {K : PySem.W.Frag} {elts : List Expr} {kk : Nat} {tpos : Pos} {a b z TI TO i1 i2 : Addr} (D : ZipApart z TI TO i1 i2 a b) :
    Turn P0 w K (.Tuple elts kk tpos) (ItzS K a b) [z, TI, TO, i1, i2] z (fun i g => ZipS g z TI TO .none ∧ IsPair g TI (.ref i1) (.ref i2) ∧ (∃ x y, IsPair g TO x y) ∧ g.IsTupleIter i1 a i ∧ g.IsTupleIter i2 b i) where
  mem := by simp
  obj := fun i g st c hc => by
    obtain ⟨q1, q2, ⟨x, y, q3⟩, ⟨o1, e1, _, d1⟩, ⟨o2, e2, _, d2⟩⟩ := st
    have hc' : c = z ∨ c = TI ∨ c = TO ∨ c = i1 ∨ c = i2 := by simpa using hc
    rcases hc' with rfl | rfl | rfl | rfl | rfl
    · exact ⟨_, q1, fun v q => nomatch q⟩
    · exact ⟨_, q2, fun v q => nomatch q⟩
    · exact ⟨_, q3, fun v q => nomatch q⟩
    · exact ⟨o1, e1, fun v q => by rw [d1] at q; cases q⟩
    · exact ⟨o2, e2, fun v q => by rw [d2] at q; cases q⟩
  keep := fun i g g' st k => by
    obtain ⟨q1, q2, ⟨x, y, q3⟩, q4, q5⟩ := st
    exact ⟨k z (by simp) _ q1, k TI (by simp) _ q2, ⟨x, y, k TO (by simp) _ q3⟩, q4.at fun o q => k i1 (by simp) o q, q5.at fun o q => k i2 (by simp) o q⟩
  item := by
    intro X hP hw hK hc i pins s σ H E I hf st hg
    subst hP hw hK
    obtain ⟨q1, q2, ⟨x0, y0, q3⟩, q4, q5⟩ := st
    obtain ⟨xs, ys, x, y, sx, sy, hx, hy⟩ := hg
    obtain ⟨its, rv, p, _⟩ := I.tuple sx
    obtain ⟨its2, rv2, p2, _⟩ := I.tuple sy
    obtain ⟨u, hu, ru⟩ := rv.get hx
    obtain ⟨u2, hu2, ru2⟩ := rv2.get hy
    have zlt : z < s.heap.objs.size := Heap.lt_size q1
    refine zs_next_item D q1 q2 q3 q4 q5 p p2 (x := u) (y := u2) (by simpa using hu) (by simpa using hu2) fun g z' TO' i1' i2' hT hsz hk => ?_
    refine ⟨_, rfl, zs_go (t := { s with heap := g }) z' fun g' z'' sb => ?_⟩
    have hT2 : g'.get? s.heap.objs.size = some { cls := .type "tuple", data := .seq #[u, u2] } := (sb.2 _ (Nat.ne_of_gt zlt)).trans hT
    have new : ObjOk X.prog X.w (upd H s.heap.objs.size (.tup [x, y])) g' s.heap.objs.size (.tup [x, y]) := ⟨by show 2 ≤ sizeLine; decide, [u, u2], .cons ru (.cons ru2 .nil), ⟨_, hT2, rfl, _, rfl⟩⟩
    have I1 : Inv X pins σ (upd H s.heap.objs.size (.tup [x, y])) { s with heap := g' } :=
      I.turnedNew (t' := s.toks) (ch := [z, TI, TO, i1, i2]) (fun c o nb q => (sb.2 c (fun r => nb (by simp [r]))).trans (hk c o (fun r => nb (by simp [r])) (fun r => nb (by simp [r])) (fun r => nb (by simp [r])) (fun r => nb (by simp [r])) q)) hf (Nat.le_refl _) new
    have hd : z ≠ TI := D.TIz.symm
    refine ⟨.ref s.heap.objs.size, _, I1, rfl, ⟨_, x, y, rfl, I.hok.fresh (Nat.le_refl _), rfl, fun l hl => by rw [I.tuple_inj hl sx]; exact hx, fun l hl => by rw [I.tuple_inj hl sy]; exact hy⟩, ⟨z'', ?_, ⟨u, u2, ?_⟩, ?_, ?_⟩, fun c hcm => ?_⟩
    · exact (sb.2 _ D.TIz).trans (hk _ _ D.TIz D.TITO D.TIi1 D.TIi2 q2)
    · exact (sb.2 _ D.TOz).trans TO'
    · exact i1'.at fun o q => (sb.2 _ D.i1z).trans q
    · exact i2'.at fun o q => (sb.2 _ D.i2z).trans q
    · have clt : c < s.heap.objs.size := by
        have hc' : c = z ∨ c = TI ∨ c = TO ∨ c = i1 ∨ c = i2 := by simpa using hcm
        rcases hc' with r | r | r | r | r <;> rw [r]
        · exact zlt
        · exact Heap.lt_size q2
        · exact Heap.lt_size q3
        · obtain ⟨_, e1, _⟩ := q4; exact Heap.lt_size e1
        · obtain ⟨_, e1, _⟩ := q5; exact Heap.lt_size e1
      rw [upd_ne (Nat.ne_of_lt clt)]
      exact (hf c hcm).1
  done := by
    intro X hP hw hK hc i pins s σ H E I hf st hg
    subst hP hw hK
    obtain ⟨q1, q2, ⟨x0, y0, q3⟩, q4, q5⟩ := st
    obtain ⟨xs, ys, sx, sy, ex, ey⟩ := hg
    obtain ⟨its, rv, p, _⟩ := I.tuple sx
    obtain ⟨its2, rv2, p2, _⟩ := I.tuple sy
    have l1 := rv.length
    have l2 := rv2.length
    exact zs_next_end (I.ok.hd hc) D q1 q2 q3 q4 q5 p p2 (by simp; omega) (by simp; omega) fun g hk => ⟨rfl, I.turnedL (t' := s.toks) (ch := [z, TI, TO, i1, i2]) (fun c o nb q =>
      hk c o (fun r => nb (by simp [r])) (fun r => nb (by simp [r])) (fun r => nb (by simp [r])) (fun r => nb (by simp [r])) q) hf⟩
  self := fun A i s Q E st h => zs_iter st.1 h
theorem callTy_kw {M : Model} {B : Around} {G : Value → Shared → Prop} {t : Shared} {pos : Pos} {T : String} {args : List (Bool × Sem Value)} {kws : List (Option Str × Sem Value)} {Q : Value → Shared → Prop}
    (h1 : args.any (·.1) = false) (h2 : kws.any (·.1.isNone) = false)
    (h : wpAny M B (evalArgs (.type T) true args kws) (fun a t1 => wpAny M B (call (.type T) a.pos a.kw) Q G t1) G t) : wpAny M B (callWith pos (.type T) [] args kws) Q G t := by
  unfold callWith
  refine wpAny_bind (wpAny_holding (wpAny_mono h (fun a t1 q => wpAny_bind (wpAny_standAt ?_)) fun _ _ x => x))
  simp only [h1, h2, Bool.or_false]
  refine wpAny_bind (wpAny_pure ?_)
  exact wpAny_bind (wpAny_mono q (fun r t2 q2 => wpAny_bind (wpAny_holding (wpAny_point (wpAny_pure q2)))) fun _ _ x => x)
def iZs (K : PySem.W.Frag) (ta tk : TA) : TI := fun σ H R => ta σ H fun vs H1 => tk σ H1 fun zs H2 => zs = [.bl true] ∧ ∃ a b xs ys, vs = [.ref a, .ref b] ∧ SqT K H2 a xs ∧ SqT K H2 b ys ∧ R (ItzS K a b) H2
section
variable {X : Cx} {e e2 kv : Expr} {ta tk : TA} {p pos tpos kp : Pos} {elts : List Expr} {kk : Nat}
theorem pi_zs (hg : Gl X "zip") (hm : X.mg "zip" = none) (ha : PA X [e, e2] ta) (hk : PK X [⟨some (Str.ofString "strict"), kv, kp⟩] tk)
    (he : backTo pos (starEach [e, e2] X.env) = (false, eval e X.env) :: backTo pos (starEach [e2] X.env) := by rfl) (hpl : (backTo pos (starEach [e, e2] X.env)).any (·.1) = false := by rfl)
    (hall : (backToKw pos (keywordEach [⟨some (Str.ofString "strict"), kv, kp⟩] X.env)).all (·.1.isSome) = true := by rfl) (hnone : (backToKw pos (keywordEach [⟨some (Str.ofString "strict"), kv, kp⟩] X.env)).any (·.1.isNone) = false := by rfl)
    (hks : (backToKw pos (keywordEach [⟨some (Str.ofString "strict"), kv, kp⟩] X.env)).filterMap (·.1) = [Str.ofString "strict"] := by rfl) :
    PI X (.Tuple elts kk tpos) (.Call (.Name "zip" p) [e, e2] [⟨some (Str.ofString "strict"), kv, kp⟩] pos) (iZs X.K ta tk) := by
  refine ⟨fun pins s σ H R I h => ?_⟩
  refine wpAny_Call_Name_kw (ld_blt I hg hm PyProof.Rows.boot_zip (callTy_kw hpl hnone ?_))
  rw [he]
  refine evalArgs_kwB hall ?_
  rw [← he, hks]
  refine thn (ha.run pos pins s σ H _ I h) fun us s1 ⟨vs, H1, I1, r1, q1⟩ => thn (hk.run pos pins s1 σ H1 _ I1 q1) fun ws s2 ⟨zs, H2, I2, r2, ez, a, b, xs, ys, ex, sx, sy, q⟩ => ?_
  subst ez ex
  obtain ⟨its, rv, p1, _⟩ := I2.tuple sx
  obtain ⟨its2, rv2, p2, _⟩ := I2.tuple sy
  obtain ⟨o1, ho1, _⟩ := id p1
  obtain ⟨o2, ho2, _⟩ := id p2
  have l1 := Heap.lt_size ho1
  have l2 := Heap.lt_size ho2
  cases r1 with
  | cons r rr =>
    cases rr with
    | cons r' rr =>
      cases rr
      cases r
      cases r'
      cases r2 with
      | cons r rr =>
        cases rr
        obtain rfl := r
        show wpAny _ _ (call (.type "zip") [.ref a, .ref b] [(Str.ofString "strict", .bool true)]) _ _ s2
        refine zs_call (xs := its.toArray) (ys := its2.toArray) p1 p2 fun g hz hTI hTO h1 h2 hk' => zs_iter hz ?_
        have I3 : Inv X pins σ H2 { s2 with heap := g } := I2.kept (t' := s2.toks) hk'
        refine ⟨s2.heap.objs.size + 4, [s2.heap.objs.size + 4, s2.heap.objs.size + 2, s2.heap.objs.size + 3, s2.heap.objs.size, s2.heap.objs.size + 1], _, _, H2, rfl, I3, zs_turn (PySem.W.ktu_apart s2.heap.objs.size a b l1 l2), ⟨hz, hTI, ⟨_, _, hTO⟩, h1, h2⟩, fun c hcm => ?_, q⟩
        have hle : s2.heap.objs.size ≤ c := by
          have hc' : c = s2.heap.objs.size + 4 ∨ c = s2.heap.objs.size + 2 ∨ c = s2.heap.objs.size + 3 ∨ c = s2.heap.objs.size ∨ c = s2.heap.objs.size + 1 := by simpa using hcm
          rcases hc' with z | z | z | z | z <;> rw [z]
          · exact Nat.le_add_right _ _
          · exact Nat.le_add_right _ _
          · exact Nat.le_add_right _ _
          · exact Nat.le_refl _
          · exact Nat.le_add_right _ _
        exact I2.fpOk hle (I2.hok.fresh hle)
end
theorem tup_all {K : PySem.W.Frag} {w : Wd} {v : V} {l : List D} (r : RV K w v (.tup l)) : ∃ a vs, v = .ref a ∧ RVs K w vs l ∧ ∀ w1 H1 h1, w.le w1 → HW K w1 H1 h1 → SqT K H1 a vs := by
  cases r with
  | @tup a vs ds z r =>
    refine ⟨a, vs, rfl, r, fun w2 H2 h2 l2 hw2 => ?_⟩
    rcases z with z | z
    · exact .inl (.inl (hw2.fz _ _ (l2.1 _ _ z)))
    · exact .inr z
theorem zipT_it {K : PySem.W.Frag} {w : Wd} {a b : Addr} {vs us : List V} {xs ys : List D} (hS : ∀ w1 H1 h1, w.le w1 → HW K w1 H1 h1 → SqT K H1 a vs) (hT : ∀ w1 H1 h1, w.le w1 → HW K w1 H1 h1 → SqT K H1 b us) (r : RVs K w vs xs) (r' : RVs K w us ys) :
    ItOk K w (RZ.ItzT K a b) (fixS (zipL xs ys)) := ItOk.of_fix fun i w1 H1 h1 l1 hw1 => by
  refine ⟨fun d e => ?_, fun e => ⟨vs, us, hS w1 H1 h1 l1 hw1, hT w1 H1 h1 l1 hw1, ?_⟩⟩
  · obtain ⟨x, y, e1, e2, rfl⟩ := zipL_get e
    obtain ⟨v, z1, z2⟩ := r.get e1
    obtain ⟨u, y1, y2⟩ := r'.get e2
    refine ⟨⟨vs, us, v, u, hS w1 H1 h1 l1 hw1, hT w1 H1 h1 l1 hw1, z1, y1⟩, fun x H2 ⟨T, p, q, e3, e4, e5, e6, e7⟩ => ?_⟩
    subst e3 e5
    have ep := e6 vs (hS w1 H1 h1 l1 hw1)
    rw [z1] at ep
    cases ep
    have ep := e7 us (hT w1 H1 h1 l1 hw1)
    rw [y1] at ep
    cases ep
    exact ⟨_, Wd.le_add, hw1.add e4, .tup (.inl (.inr ⟨rfl, rfl⟩)) (.cons ((z2.mono l1).mono Wd.le_add) (.cons ((y2.mono l1).mono Wd.le_add) .nil))⟩
  · rw [zipL_len] at e
    rw [r.length, r'.length]
    omega
theorem zipS_it {K : PySem.W.Frag} {w : Wd} {a b : Addr} {vs us : List V} {xs ys : List D} (hl : xs.length = ys.length) (hS : ∀ w1 H1 h1, w.le w1 → HW K w1 H1 h1 → SqT K H1 a vs) (hT : ∀ w1 H1 h1, w.le w1 → HW K w1 H1 h1 → SqT K H1 b us) (r : RVs K w vs xs) (r' : RVs K w us ys) :
    ItOk K w (ItzS K a b) (fixS (zipL xs ys)) := ItOk.of_fix fun i w1 H1 h1 l1 hw1 => by
  refine ⟨fun d e => ?_, fun e => ⟨vs, us, hS w1 H1 h1 l1 hw1, hT w1 H1 h1 l1 hw1, ?_⟩⟩
  · obtain ⟨x, y, e1, e2, rfl⟩ := zipL_get e
    obtain ⟨v, z1, z2⟩ := r.get e1
    obtain ⟨u, y1, y2⟩ := r'.get e2
    refine ⟨⟨vs, us, v, u, hS w1 H1 h1 l1 hw1, hT w1 H1 h1 l1 hw1, z1, y1⟩, fun x H2 ⟨T, p, q, e3, e4, e5, e6, e7⟩ => ?_⟩
    subst e3 e5
    have ep := e6 vs (hS w1 H1 h1 l1 hw1)
    rw [z1] at ep
    cases ep
    have ep := e7 us (hT w1 H1 h1 l1 hw1)
    rw [y1] at ep
    cases ep
    exact ⟨_, Wd.le_add, hw1.add e4, .tup (.inl (.inr ⟨rfl, rfl⟩)) (.cons ((z2.mono l1).mono Wd.le_add) (.cons ((y2.mono l1).mono Wd.le_add) .nil))⟩
  · rw [zipL_len] at e
    rw [r.length, r'.length]
    omega
/-- zip(s, t), zip(s, t, strict=True) of tuples -/
def iZipTM (m : AM) : IM := fun s h => (m s h).bind fun l h1 => match l with
  | [.tup xs, .tup ys] => .ok (fixS (zipL xs ys)) h1
  | _ => .no
def iZipSM (m z : AM) : IM := fun s h => (m s h).bind fun l h1 => (z s h1).bind fun y h2 => match l, y with
  | [.tup xs, .tup ys], [.bl true] => if decide (xs.length = ys.length) = true then .ok (fixS (zipL xs ys)) h2 else .no
  | _, _ => .no
section
variable {X : Cx} {W : WX} {e e2 kv : Expr} {ma mk : AM} {p pos tpos kp : Pos} {elts : List Expr} {kk : Nat}
theorem di_zipT (hg : Gl X "zip") (hm : X.mg "zip" = none) (ha : DA X W [e, e2] ma)
    (hs : starEach [e, e2] X.env = (false, eval e X.env) :: starEach [e2] X.env := by rfl) (hpl : (backTo pos (starEach [e2] X.env)).any (·.1) = false := by rfl) :
    DI X W (.Tuple elts kk tpos) (.Call (.Name "zip" p) [e, e2] [] pos) (iZipTM ma) := PI.imp (RZ.pi_zipA hg hm ha hs hpl) fun σ H R ⟨w, s, h, rs, hw, q⟩ =>
  ⟨w, s, h, rs, hw, WpA.bind (G := WpI X.K w R _) q (fun _ _ z => z) (fun z => z) fun l h1 w1 v H1 l1 rv hw1 q1 => by
    split at q1
    · obtain ⟨u, u2, rfl, ru, ru2⟩ := rv2 rv
      obtain ⟨a, vs, rfl, r, hS⟩ := tup_all ru
      obtain ⟨b, us, rfl, r2, hT⟩ := tup_all ru2
      exact ⟨a, b, vs, us, rfl, .inr ⟨hS w1 H1 h1 (.refl w1) hw1, hT w1 H1 h1 (.refl w1) hw1, q1 w1 H1 _ l1 hw1 (zipT_it hS hT r r2)⟩⟩
    · exact q1.elim⟩
theorem di_zipS (hg : Gl X "zip") (hm : X.mg "zip" = none) (ha : DA X W [e, e2] ma) (hk : DK X W [⟨some (Str.ofString "strict"), kv, kp⟩] mk)
    (he : backTo pos (starEach [e, e2] X.env) = (false, eval e X.env) :: backTo pos (starEach [e2] X.env) := by rfl) (hpl : (backTo pos (starEach [e, e2] X.env)).any (·.1) = false := by rfl)
    (hall : (backToKw pos (keywordEach [⟨some (Str.ofString "strict"), kv, kp⟩] X.env)).all (·.1.isSome) = true := by rfl) (hnone : (backToKw pos (keywordEach [⟨some (Str.ofString "strict"), kv, kp⟩] X.env)).any (·.1.isNone) = false := by rfl)
    (hks : (backToKw pos (keywordEach [⟨some (Str.ofString "strict"), kv, kp⟩] X.env)).filterMap (·.1) = [Str.ofString "strict"] := by rfl) :
    DI X W (.Tuple elts kk tpos) (.Call (.Name "zip" p) [e, e2] [⟨some (Str.ofString "strict"), kv, kp⟩] pos) (iZipSM ma mk) := PI.imp (pi_zs hg hm ha hk he hpl hall hnone hks) fun σ H R ⟨w, s, h, rs, hw, q⟩ =>
  ⟨w, s, h, rs, hw, WpA.bind (G := WpI X.K w R _) q (fun _ _ z => z) (fun z => z) fun l h1 w1 v H1 l1 rv hw1 q1 =>
    ⟨w1, s, h1, rs.mono l1, hw1, WpA.bind (G := WpI X.K w R _) q1 (fun _ _ z => Px.mono l1 z) (fun z => z) fun y h2 w2 u H2 l2 ru hw2 q2 => by
      split at q2
      · split at q2
        · rename_i z
          obtain ⟨u1, u2, rfl, r1, r2⟩ := rv2 rv
          obtain ⟨a, vs, rfl, r, hS⟩ := tup_all r1
          obtain ⟨b, us, rfl, r2, hT⟩ := tup_all r2
          obtain ⟨kx, rfl, rk⟩ := rv1 ru
          cases rk
          exact ⟨rfl, a, b, vs, us, rfl, hS w2 H2 h2 l2 hw2, hT w2 H2 h2 l2 hw2, q2 w2 H2 _ (l1.trans l2) hw2 (zipS_it (of_decide_eq_true z) (fun w3 H3 h3 l3 => hS w3 H3 h3 (l2.trans l3)) (fun w3 H3 h3 l3 => hT w3 H3 h3 (l2.trans l3)) (r.mono l2) (r2.mono l2))⟩
        · exact q2.elim
      · exact q2.elim⟩⟩
end
end DN
namespace DN
open PySem PySem.Spec PyProof.Rows L2
/-! ### a[lo:hi:step] of tuples and texts -/
def SlR3 (X : Cx) (r : V → Option Int → Option Int → Option Int → Hp → VK → Prop) : Prop :=
  ∀ (pins : List (Addr × Obj)) (s : Shared) (σ : L2.St) (H : Hp) (x : V) (v vl vu vk : Value) (lo hi st : Option Int) (sl : Addr) (Q : VK), Inv X pins σ H s → RelV x v → s.heap.IsSliceOf sl vl vu vk → IsPart vl lo → IsPart vu hi → IsPart vk st → r x lo hi st H Q →
    ∃ T id, typeLookup (.type T) "__getitem__" = pure (some (.builtin id)) ∧ s.TypeIs v T ∧ wpAny (model X.prog X.w) X.A (getItem v (.ref sl)) (EP X pins σ Q) X.xe s
def tSl3 (r : V → Option Int → Option Int → Option Int → Hp → VK → Prop) (te : TE) (tl th tk : TO) : TE := fun σ H Q => te σ H fun x H1 => tl σ H1 fun l H2 => th σ H2 fun u H3 => tk σ H3 fun k H4 => r x l u k H4 Q
theorem pe_slice3 {X : Cx} {e ke : Expr} {te : TE} {lo hi : Option Expr} {tl th tk : TO} {pos p2 : Pos} {r : V → Option Int → Option Int → Option Int → Hp → VK → Prop} (hr : SlR3 X r) (he : PE X e te) (hl : PO X lo tl) (hu : PO X hi th) (hk : PO X (some ke) tk) :
    PE X (.Subscript e (.Slice lo hi (some ke) p2) pos) (tSl3 r te tl th tk) := by
  refine ⟨fun pins s σ H Q I h => ?_⟩
  refine Subscript_ (thn (he.run pins s σ H _ I h) fun v s1 ⟨x, H1, I1, r1, q1⟩ => ?_)
  refine wpAny_Slice (thn (hl.run pins s1 σ H1 _ I1 q1) fun vl s2 ⟨l, H2, I2, pl, q2⟩ => thn (hu.run pins s2 σ H2 _ I2 q2) fun vu s3 ⟨u, H3, I3, pu, q3⟩ => thn (hk.run pins s3 σ H3 _ I3 q3) fun vk s4 ⟨k, H4, I4, pk, q4⟩ => ?_)
  have I5 : Inv X pins σ H4 { s4 with heap := s4.heap.push { cls := .type "slice", data := .fields #[vl, vu, vk] } } := I4.kept (t' := s4.toks) fun b ob q => Heap.get?_push_of_some _ q
  obtain ⟨T, id, hT, ht, hg⟩ := hr pins _ σ H4 x v vl vu vk l u k s4.heap.objs.size Q I5 r1 (Heap.IsSliceOf.new ..) pl pu pk q4
  show wpAny (model X.prog X.w) X.A (subscriptTail e (.Slice lo hi (some ke) p2) v (.ref s4.heap.objs.size)) (EP X pins σ Q) X.xe { s4 with heap := s4.heap.push { cls := .type "slice", data := .fields #[vl, vu, vk] } }
  exact tail_any (ops := [v, .ref s4.heap.objs.size]) ht hT hg (by with_unfolding_all rfl)
/-- the items picked -/
def pk3 {α : Type} (xs : List α) (lo hi : Option Int) (st : Int) : List α :=
  (List.range (Builtin.Slice.slicePlaces (Builtin.Slice.sliceAdjust lo hi st xs.length).1 (Builtin.Slice.sliceAdjust lo hi st xs.length).2 st)).filterMap fun (k : Nat) => xs[((Builtin.Slice.sliceAdjust lo hi st xs.length).1 + (k : Int) * st).toNat]?
section
variable {P0 : Program} {w : World} {B : Around} {G : Value → Shared → Prop} {t : Shared}
theorem tup_pk3 {a sl : Addr} {items : List Value} {vl vu vk : Value} {lo hi : Option Int} {st : Int} {Q : Value → Shared → Prop} (ht : IsTup t.heap a items.toArray) (hs : t.heap.IsSliceOf sl vl vu vk) (pl : IsPart vl lo) (pu : IsPart vu hi) (pk : IsPart vk (some st))
    (h0 : st ≠ 0) (h1 : st ≠ 1) (hz : (pk3 items lo hi st).length ≤ sizeLine) (q : Q (.ref t.heap.objs.size) { t with heap := t.heap.push { cls := .type "tuple", data := .seq (pk3 items lo hi st).toArray } }) :
    wpAny (model P0 w) B (getItem (.ref a) (.ref sl)) Q G t := by
  obtain ⟨os, hos, hcs, hds⟩ := id hs
  have ty : t.TypeIs (.ref sl) "slice" := ⟨os, hos, hcs⟩
  unfold getItem
  try with_reducible refine wpAny_holding ?_
  first | refine wpAny_bind (wpAny_pure ?_) | skip
  refine wpAny_bind (wpAny_sequenceKey ht.typeIs (by decide) ?_)
  refine wpAny_bind (wpAny_callSpecial?_slot (name := Str.ofString "__getitem__") ht.typeIs PyProof.Rows.slot_tuple_getitem (wpAny_call_entry PyProof.Rows.slot_tuple_getitem ht.typeIs entry_tuple_getitem ?_ (args_tuple_getitem _ _)))
  show wpAny _ _ (Builtin.Tuple.tupleItemsOf (.ref a) >>= _) _ _ t
  refine wpAny_bind (tupleItemsOf_ ht (wpAny_bind (wpAny_typeOf ty ?_)))
  rw [if_pos (by decide)]
  refine wpAny_bind ?_
  unfold Builtin.Slice.sliceApplied Builtin.Slice.sliceFields
  refine wpAny_bind (wpAny_bind (wpAny_field hos hds (x := vl) rfl (wpAny_bind (wpAny_field hos hds (x := vu) rfl (wpAny_bind (wpAny_field hos hds (x := vk) rfl (wpAny_pure ?_)))))))
  refine wpAny_bind (HT.slicePart_ pk ?_)
  show wpAny _ _ (if (st == 0) = true then _ else _) _ _ t
  rw [if_neg (by simpa using h0)]
  refine wpAny_bind (HT.slicePart_ pl (wpAny_bind (HT.slicePart_ pu (wpAny_bind (wpAny_pure ?_)))))
  refine wpAny_pure ?_
  have e1 : (pk3 items lo hi st).toArray = ((List.range (Builtin.Slice.slicePlaces (Builtin.Slice.sliceAdjust lo hi st (items.toArray.size : Int)).1 (Builtin.Slice.sliceAdjust lo hi st (items.toArray.size : Int)).2 st)).filterMap fun (k : Nat) => items.toArray[((Builtin.Slice.sliceAdjust lo hi st (items.toArray.size : Int)).1 + (k : Int) * st).toNat]?).toArray := by
    unfold pk3
    simp
  rw [e1] at q
  have hz' : sizeOk (.seq (pk3 items lo hi st).toArray) := by
    show (pk3 items lo hi st).toArray.size ≤ sizeLine
    rw [List.size_toArray]; exact hz
  rw [e1] at hz'
  have hno : ¬ (((Builtin.Slice.sliceAdjust lo hi st (items.toArray.size : Int)).1 == 0 && st == 1 && (Builtin.Slice.slicePlaces (Builtin.Slice.sliceAdjust lo hi st (items.toArray.size : Int)).1 (Builtin.Slice.sliceAdjust lo hi st (items.toArray.size : Int)).2 st) == items.toArray.size) = true) := by
    intro z
    rw [Bool.and_eq_true, Bool.and_eq_true] at z
    exact h1 (eq_of_beq z.1.2)
  show wpAny _ _ (if ((Builtin.Slice.sliceAdjust lo hi st (items.toArray.size : Int)).1 == 0 && st == 1 && (Builtin.Slice.slicePlaces (Builtin.Slice.sliceAdjust lo hi st (items.toArray.size : Int)).1 (Builtin.Slice.sliceAdjust lo hi st (items.toArray.size : Int)).2 st) == items.toArray.size) = true then _ else _) _ _ t
  rw [if_neg hno]
  first
    | exact wpAny_bind (m := Builtin.Tuple.tupleExact _) (wpAny_newObj_type (wpAny_pure ⟨_, rfl, wpAny_pure q⟩) hz')
    | exact wpAny_bind (wpAny_bind (m := Builtin.Tuple.tupleExact _) (wpAny_newObj_type (wpAny_pure (wpAny_pure ⟨_, rfl, wpAny_pure q⟩)) hz'))
    | exact wpAny_bind (wpAny_bind (m := Builtin.Tuple.tupleExact _) (wpAny_newObj_type (wpAny_pure ⟨_, rfl, wpAny_pure q⟩) hz'))
end
theorem pk_vals {xs : List V} {its : List Value} (r : Vals xs its) (f : Nat → Nat) : ∀ ks : List Nat, Vals (ks.filterMap fun k => xs[f k]?) (ks.filterMap fun k => its[f k]?)
  | [] => .nil
  | k :: ks => by
    have ih := pk_vals r f ks
    cases e : xs[f k]? with
    | none =>
      have e2 : its[f k]? = none := by
        have := r.length
        rw [List.getElem?_eq_none_iff] at e ⊢
        omega
      rw [List.filterMap_cons, List.filterMap_cons, e, e2]
      exact ih
    | some x =>
      obtain ⟨u, e2, ru⟩ := r.get e
      rw [List.filterMap_cons, List.filterMap_cons, e, e2]
      exact .cons ru ih
theorem pk_rvs {K : PySem.W.Frag} {w : Wd} {vs : List V} {ds : List D} (r : RVs K w vs ds) (f : Nat → Nat) : ∀ ks : List Nat, RVs K w (ks.filterMap fun k => vs[f k]?) (ks.filterMap fun k => ds[f k]?)
  | [] => .nil
  | k :: ks => by
    have ih := pk_rvs r f ks
    cases e : ds[f k]? with
    | none =>
      have e2 : vs[f k]? = none := by
        have := r.length
        rw [List.getElem?_eq_none_iff] at e ⊢
        omega
      rw [List.filterMap_cons, List.filterMap_cons, e, e2]
      exact ih
    | some x =>
      obtain ⟨u, e2, ru⟩ := r.get e
      rw [List.filterMap_cons, List.filterMap_cons, e, e2]
      exact .cons ru ih
theorem pk3_vals {xs : List V} {its : List Value} (r : Vals xs its) (lo hi : Option Int) (st : Int) : Vals (pk3 xs lo hi st) (pk3 its lo hi st) := by
  unfold pk3
  rw [r.length]
  exact pk_vals r _ _
theorem pk3_rvs {K : PySem.W.Frag} {w : Wd} {vs : List V} {ds : List D} (r : RVs K w vs ds) (lo hi : Option Int) (st : Int) : RVs K w (pk3 vs lo hi st) (pk3 ds lo hi st) := by
  unfold pk3
  rw [r.length]
  exact pk_rvs r _ _
def pkS (z : Str) (lo hi : Option Int) (st : Int) : Str := ⟨((Builtin.Str.strSliceIndices lo hi st z.length).filterMap (z.cps[·]?)).toArray⟩
def oCut3 (d : D) (lo hi st : Option Int) : Option D := match d, st with
  | .tup l, some k => if decide (k ≠ 0 ∧ k ≠ 1 ∧ (pk3 l lo hi k).length ≤ sizeLine) = true then some (.tup (pk3 l lo hi k)) else none
  | .str z, some k => if decide (k ≠ 0 ∧ k ≠ 1 ∧ (pkS z lo hi k).length ≤ sizeLine) = true then some (.str (pkS z lo hi k)) else none
  | _, _ => none
def rSl3 (K : PySem.W.Frag) : V → Option Int → Option Int → Option Int → Hp → VK → Prop := fun x lo hi st H Q => ∃ w h dx d, RV K w x dx ∧ HW K w H h ∧ oCut3 dx lo hi st = some d ∧ Pv K w Q d h
theorem sl3_d {X : Cx} : SlR3 X (rSl3 X.K) := by
  intro pins s σ H x v vl vu vk lo hi st sl Q I rx hs pl pu pk ⟨w, h, dx, d, r1, hw, e, q⟩
  unfold oCut3 at e
  split at e
  · rename_i l k
    split at e
    · rename_i z
      obtain ⟨z0, z1, z2⟩ := of_decide_eq_true z
      cases e
      obtain ⟨a, vs, rfl, s1, q1⟩ := seqT_ok hw r1 rfl
      cases rx
      obtain ⟨its, r, ht, hz⟩ := I.tuple s1
      have rr := pk3_vals r lo hi k
      have hlen : (pk3 vs lo hi k).length = (pk3 l lo hi k).length := (pk3_rvs q1 lo hi k).length
      refine ⟨"tuple", _, PyProof.Rows.slot_tuple_getitem.lookup, ht.typeIs, ?_⟩
      refine tup_pk3 ht hs pl pu pk z0 z1 (by rw [← rr.length, hlen]; exact z2) ?_
      refine ⟨.ref s.heap.objs.size, _, I.laid (t' := s.toks) (o := .tup (pk3 vs lo hi k)) (fun b ob q => Heap.get?_push_of_some _ q) (Nat.le_refl _) ?_, rfl, ?_⟩
      · exact ⟨by rw [hlen]; exact z2, _, rr, IsTup.new _ _⟩
      · exact Pv.tup q hw (pk3_rvs q1 lo hi k) (I.hok.fresh (Nat.le_refl _))
    · cases e
  · rename_i z k
    split at e
    · rename_i zz
      obtain ⟨z0, z1, z2⟩ := of_decide_eq_true zz
      cases e
      cases r1
      obtain ⟨t, rfl⟩ := rx
      obtain ⟨os, hos, hcs, hds⟩ := hs
      obtain ⟨l1, rfl, rfl⟩ := IsPart.raw pl
      obtain ⟨u1, rfl, rfl⟩ := IsPart.raw pu
      obtain ⟨k1, rfl, hk1⟩ := IsPart.raw pk
      refine ⟨"str", _, F.slot_str_getitem.lookup, typeIs_str _ _ _, ?_⟩
      have hg : (k1.map (·.1)).getD 1 = k := by rw [hk1]; rfl
      refine wpAny_getItem_str_slice (l := l1) (u := u1) (st := k1) ⟨os, hos, hcs, hds⟩ (by rw [hg]; simpa using z0) ?_
      show Made.post (if (((k1.map (·.1)).getD 1 == 1) && (Builtin.Str.strSliceIndices (l1.map (·.1)) (u1.map (·.1)) ((k1.map (·.1)).getD 1) z.length).length == z.length) = true then Made.val (.str z t)
        else Made.str ⟨((Builtin.Str.strSliceIndices (l1.map (·.1)) (u1.map (·.1)) ((k1.map (·.1)).getD 1) z.length).filterMap (z.cps[·]?)).toArray⟩) (EP X pins σ Q) s
      rw [hg, if_neg (by intro c; rw [Bool.and_eq_true] at c; exact z1 (eq_of_beq c.1))]
      exact ⟨z2, .str _, H, I.tok _, ⟨_, rfl⟩, Pv.here q hw (.str _)⟩
    · cases e
  · cases e
def mSl3 (m : EM) (lo hi st : OM) : EM := fun s h => (m s h).bind fun d h1 => (lo s h1).bind fun l h2 => (hi s h2).bind fun u h3 => (st s h3).bind fun k h4 => match oCut3 d l u k with
  | some d => .ok d h4
  | none => .no
section
variable {X : Cx} {W : WX} {e ke : Expr} {me : EM} {lo hi : Option Expr} {ml mh mk : OM} {p2 pos : Pos}
theorem d_slice3 (he : DE X W e me) (hl : PO X lo (TO_ X.K W ml)) (hu : PO X hi (TO_ X.K W mh)) (hk : PO X (some ke) (TO_ X.K W mk)) : DE X W (.Subscript e (.Slice lo hi (some ke) p2) pos) (mSl3 me ml mh mk) :=
  PE.imp (pe_slice3 sl3_d he hl hu hk) fun σ H Q ⟨w, s, h, rs, hw, q⟩ =>
    ⟨w, s, h, rs, hw, WpE.bind (G := WpE X.K w Q _) q (fun _ _ z => z) (fun z => z) fun x h1 w1 v H1 l1 rx hw1 q1 =>
      ⟨w1, s, h1, rs.mono l1, hw1, WpO.bind (G := WpE X.K w Q _) q1 (fun _ _ z => Px.mono l1 z) (fun z => z) fun lo h2 w2 H2 l2 hw2 q2 =>
        ⟨w2, s, h2, rs.mono (l1.trans l2), hw2, WpO.bind (G := WpE X.K w Q _) q2 (fun _ _ z => Px.mono (l1.trans l2) z) (fun z => z) fun hi h3 w3 H3 l3 hw3 q3 =>
          ⟨w3, s, h3, rs.mono ((l1.trans l2).trans l3), hw3, WpO.bind (G := WpE X.K w Q _) q3 (fun _ _ z => Px.mono ((l1.trans l2).trans l3) z) (fun z => z) fun k h4 w4 H4 l4 hw4 q4 => by
            split at q4
            · rename_i d e
              exact ⟨w4, h4, x, d, ((rx.mono l2).mono l3).mono l4, hw4, e, fun w5 z H5 l5 => q4 w5 z H5 ((((l1.trans l2).trans l3).trans l4).trans l5)⟩
            · exact q4.elim⟩⟩⟩⟩
end
def gUpper : OMt := fun h x ds => match x, ds with
  | .str a, [] => if decide (a.length ≤ 5592405) = true then some (.str (Txt.upper a), h) else none
  | _, _ => none
theorem mt_gUpper {X : Cx} : MtR X "str.upper" (rM X.K "str" gUpper) := by
  intro pins s σ H x xs v us Q I rx rxs ⟨w, h, dx, ds, d, h', r1, r2, hw, e, q⟩
  unfold gUpper at e
  split at e
  · split at e
    · rename_i z
      cases e
      cases r1
      cases r2
      exact mt_upper pins s σ H _ _ v us Q I rx rxs ⟨_, rfl, rfl, of_decide_eq_true z, Pv.here q hw (.str _)⟩
    · cases e
  · cases e
end DN
namespace DN
open PySem PySem.Spec PyProof.Rows L2
section
variable {s : Sg} {h : LH}
def optR (o : Option D) (h : LH) : R D := match o with
  | some d => .ok d h
  | none => .no
@[simp] theorem optR_some (d : D) : optR (some d) h = .ok d h := rfl
def optM (o : Option (D × LH)) : R D := match o with
  | some (d, h) => .ok d h
  | none => .no
@[simp] theorem optM_some (d : D) : optM (some (d, h)) = .ok d h := rfl
def optG (o : Option (Sg × LH)) : RQ := match o with
  | some (s', h') => .nx s' h'
  | none => .no
@[simp] theorem optG_some : optG (some (s, h)) = .nx s h := rfl
def slotR (o : Option (Option D)) (h : LH) : R D := match o with
  | some (some d) => .ok d h
  | _ => .no
@[simp] theorem slotR_some (d : D) : slotR (some (some d)) h = .ok d h := rfl
@[simp] theorem mVar_ap (i : Nat) : mVar i s h = slotR s[i]? h := by unfold mVar slotR; rfl
@[simp] theorem mC_ap (d : D) : mC d s h = .ok d h := rfl
@[simp] theorem mOp_ap (g : O2) (a b : EM) : mOp g a b s h = (a s h).bind fun x h1 => (b s h1).bind fun y h2 => optR (g h2 x y) h2 := rfl
@[simp] theorem mNeg_ap (a : EM) : mNeg a s h = (a s h).bind fun x h1 => match x with
  | .int i => .ok (.int (-i)) h1
  | _ => .no := rfl
@[simp] theorem mTest_ap (a : EM) : mTest a s h = toB (a s h) := rfl
@[simp] theorem toB_ok (k : Bool) : toB (.ok (.bl k) h) = .ok k h := rfl
@[simp] theorem mNotT_ap (a : BM) : mNotT a s h = (a s h).bind fun k h => .ok (!k) h := rfl
@[simp] theorem mAndT_ap (a b : BM) : mAndT a b s h = (a s h).bind fun k h1 => if k = true then b s h1 else .ok false h1 := rfl
@[simp] theorem mOrT_ap (a b : BM) : mOrT a b s h = (a s h).bind fun k h1 => if k = true then .ok true h1 else b s h1 := rfl
@[simp] theorem mAndV_ap (a b : EM) : mAndV a b s h = (a s h).bind fun k h1 => match k with
  | .bl true => b s h1
  | .bl false => .ok (.bl false) h1
  | _ => .no := rfl
@[simp] theorem mOrV_ap (a b : EM) : mOrV a b s h = (a s h).bind fun k h1 => match k with
  | .bl true => .ok (.bl true) h1
  | .bl false => b s h1
  | _ => .no := rfl
@[simp] theorem mNotV_ap (a : EM) : mNotV a s h = (a s h).bind fun k h1 => match k with
  | .bl k => .ok (.bl (!k)) h1
  | _ => .no := rfl
@[simp] theorem mIf_ap (c : BM) (a b : EM) : mIf c a b s h = (c s h).bind fun k h1 => if k = true then a s h1 else b s h1 := rfl
@[simp] theorem mChain_ap (g g' : O2) (a b c : EM) : mChain g g' a b c s h = (a s h).bind fun x h1 => (b s h1).bind fun y h2 => match g h2 x y with
  | some (.bl true) => (c s h2).bind fun z h3 => optR (g' h3 y z) h3
  | some (.bl false) => .ok (.bl false) h2
  | _ => .no := rfl
@[simp] theorem aNil_ap : aNil s h = .ok [] h := rfl
@[simp] theorem aCons_ap (m : EM) (r : AM) : aCons m r s h = (m s h).bind fun x h1 => (r s h1).bind fun xs h2 => .ok (x :: xs) h2 := rfl
theorem sizeLine_ge : 1000000 ≤ sizeLine := by decide
theorem small_of {n : Nat} (h : n ≤ 1000000) : small n = true := decide_eq_true (Nat.le_trans h sizeLine_ge)
@[simp] theorem mTup_ap (m : AM) : mTup m s h = (m s h).bind fun l h1 => if small l.length = true then .ok (.tup l) h1 else .no := rfl
@[simp] theorem mLst_ap (m : AM) : mLst m s h = (m s h).bind fun l h1 => if small l.length = true then .ok (.lst l) h1 else .no := rfl
@[simp] theorem mNew_ap (m : AM) : mNew m s h = (m s h).bind fun l h1 => if small l.length = true then .ok (.ref h1.length) (h1 ++ [.lst l]) else .no := rfl
@[simp] theorem mDNew_ap : mDNew s h = .ok (.dct []) h := rfl
@[simp] theorem key_str (x : Str) : key (.str x) = some (.inr x) := rfl
@[simp] theorem key_int (x : Int) : key (.int x) = some (.inl x) := rfl
@[simp] theorem dNil_ap : dNil s h = .ok [] h := rfl
@[simp] theorem dCons_ap (a b : EM) (r : PM) : dCons a b r s h = (a s h).bind fun x h1 => match key x with
  | none => .no
  | some k => (b s h1).bind fun y h2 => (r s h2).bind fun l h3 => .ok ((k, y) :: l) h3 := rfl
@[simp] theorem mDct_ap (m : PM) : mDct m s h = (m s h).bind fun l h1 => if decide ((l.map (·.1)).Nodup ∧ l.length ≤ 15) = true then .ok (.dct l) h1 else .no := rfl
@[simp] theorem mCall_ap (g : OC) (m : AM) : mCall g m s h = (m s h).bind fun l h1 => optR (g h1 l) h1 := rfl
@[simp] theorem mMeth_ap (T : String) (g : OMt) (m : EM) (a : AM) : mMeth T g m a s h = (m s h).bind fun x h1 => if decide (tyD h1 x = some T) = true then (a s h1).bind fun l h2 => optM (g h2 x l) else .no := rfl
@[simp] theorem oNo_ap : oNo s h = .ok none h := rfl
@[simp] theorem oPart_ap (m : EM) : oPart m s h = (m s h).bind fun d h1 => match d with
  | .int i => .ok (some i) h1
  | _ => .no := rfl
@[simp] theorem mSl_ap (m : EM) (lo hi : OM) : mSl m lo hi s h = (m s h).bind fun d h1 => (lo s h1).bind fun l h2 => (hi s h2).bind fun u h3 => optR (oCut h3 d l u) h3 := rfl
def optL (o : Option (List D)) (f : List D → R D) : R D := match o with
  | some l => f l
  | none => .no
@[simp] theorem optL_some (l : List D) (f : List D → R D) : optL (some l) f = f l := rfl
@[simp] theorem mRev_ap (m : EM) : mRev m s h = (m s h).bind fun d h1 => optL (seqL h1 d) fun l => .ok (.lst l.reverse) h1 := rfl
@[simp] theorem mRevN_ap (m : EM) : mRevN m s h = (m s h).bind fun d h1 => optL (seqL h1 d) fun l => .ok (.ref h1.length) (h1 ++ [.lst l.reverse]) := rfl
@[simp] theorem sNil_ap : sNil s h = .nx s h := rfl
@[simp] theorem sSeq_ap (m n : SM) : sSeq m n s h = (m s h).then n := rfl
@[simp] theorem then_nx (f : SM) : (RQ.nx s h).then f = f s h := rfl
@[simp] theorem then_rt (d : D) (f : SM) : (RQ.rt d h).then f = .rt d h := rfl
@[simp] theorem then_bk (f : SM) : (RQ.bk s h).then f = .bk s h := rfl
@[simp] theorem then_ct (f : SM) : (RQ.ct s h).then f = .ct s h := rfl
@[simp] theorem q_ok {α : Type} (a : α) (f : α → LH → RQ) : (R.ok a h).q s f = f a h := rfl
@[simp] theorem bindN_ok {α β : Type} (a : α) (f : α → LH → R β) : (R.ok a h).bindN f = f a h := rfl
@[simp] theorem sBreak_ap : sBreak s h = .bk s h := rfl
@[simp] theorem sCont_ap : sCont s h = .ct s h := rfl
@[simp] theorem sExpr_ap (m : EM) : sExpr m s h = (m s h).q s fun _ h1 => .nx s h1 := rfl
@[simp] theorem sRet_ap (m : EM) : sRet m s h = (m s h).q s fun d h1 => .rt d h1 := rfl
@[simp] theorem sRetN_ap : sRetN s h = .rt .non h := rfl
@[simp] theorem sIf_ap (c : BM) (a b : SM) : sIf c a b s h = (c s h).q s fun k h1 => if k = true then a s h1 else b s h1 := rfl
@[simp] theorem gNm_ap (i : Nat) (d : D) : gNm i d s h = some (s.set i (some d), h) := rfl
@[simp] theorem gNl_ap : gNl [] s h = some (s, h) := rfl
@[simp] theorem gCn_ap (g : GM) (gs : GMs) (x : D) (xs : List D) : gCn g gs (x :: xs) s h = (g x s h).bind fun p => gs xs p.1 p.2 := rfl
@[simp] theorem gTp_ap (n : Nat) (gs : GMs) (l : List D) : gTp n gs (.tup l) s h = if decide (l.length = n) = true then gs l s h else none := rfl
theorem gSb_ap (o i : EM) (d : D) : gSb o i d s h = match o s h with
  | .ok (.ref n) h1 => match i s h1 with
    | .ok (.int k) h2 => match h2[n]? with
      | some (.lst l) => (ixN l.length k).map fun j => (s, h2.set n (.lst (l.set j d)))
      | _ => none
    | _ => none
  | _ => none := rfl
@[simp] theorem sAsg_ap (m : EM) (g : GM) : sAsg m g s h = (m s h).q s fun d h1 => optG (g d s h1) := rfl
@[simp] theorem sSet_ap (i : Nat) (m : EM) : sSet i m s h = (m s h).q s fun d h1 => .nx (s.set i (some d)) h1 := rfl
@[simp] theorem sPar_ap (i j : Nat) (m : AM) : sPar i j m s h = (m s h).q s fun l h1 => match l with
  | [x, y] => .nx ((s.set i (some x)).set j (some y)) h1
  | _ => .no := rfl
@[simp] theorem sPar3_ap (i j k : Nat) (m : AM) : sPar3 i j k m s h = (m s h).q s fun l h1 => match l with
  | [x, y, z] => .nx (((s.set i (some x)).set j (some y)).set k (some z)) h1
  | _ => .no := rfl
@[simp] theorem sAug_ap (i : Nat) (g : O2) (m : EM) : sAug i g m s h = match s[i]? with
  | some (some x) => (m s h).q s fun y h1 => match g h1 x y with
    | some d => .nx (s.set i (some d)) h1
    | none => .no
  | _ => .no := rfl
@[simp] theorem fnM_ap (n : Nat) (m : SM) (ds : List D) : fnM n m ds h = fin_ (m (ds.map some ++ List.replicate (n - ds.length) none) h) := rfl
@[simp] theorem fin_rt (d : D) : fin_ (.rt d h) = .ok d h := rfl
@[simp] theorem fin_nx : fin_ (.nx s h) = .ok .non h := rfl
@[simp] theorem mFn_ap (n : Nat) (m : FM) (dvs : List D) (a : AM) : mFn n m dvs a s h = (a s h).bind fun l h1 => if decide ((l ++ dvs).length = n) = true then m (l ++ dvs) h1 else .no := rfl
@[simp] theorem mFnK_ap (n na nk : Nat) (ix : List Src) (m : FM) (dvs : List D) (a z : AM) : mFnK n na nk ix m dvs a z s h = (a s h).bind fun l h1 => (z s h1).bind fun y h2 =>
  if decide ((pick l y dvs ix).length = n ∧ l.length = na ∧ y.length = nk) = true then m (pick l y dvs ix) h2 else .no := rfl
theorem sFor_ap (n : Nat) (im : IM) (g : GM) (b : SM) : sFor n im g b s h = (im s h).q s fun f h1 => forS n f 0 g b s h1 := rfl
theorem mLc_ap (n : Nat) (vs : List Nat) (im : IM) (g : GM) (t : BM) (e : EM) : mLc n vs im g t e s h = (im s h).bind fun f h1 => (lcS vs g t e s n f 0 [] h1).bindN fun l h => .ok (.lst l) h := rfl
theorem mLcN_ap (n : Nat) (vs : List Nat) (im : IM) (g : GM) (t : BM) (e : EM) : mLcN n vs im g t e s h = (im s h).bind fun f h1 => (lcS vs g t e s n f 0 [] h1).bindN fun l h => .ok (.ref h.length) (h ++ [.lst l]) := rfl
theorem for_fix {n : Nat} {g : GM} {b : SM} {l : List D} (hl : l.length < n) : forS n (fixS l) 0 g b s h = forL g b l s h := by rw [forS_fix g b l n 0 (by omega), List.drop_zero]
theorem lc_fix {n : Nat} {vs : List Nat} {g : GM} {t : BM} {e : EM} {l acc : List D} (hl : l.length < n) : lcS vs g t e s n (fixS l) 0 acc h = lcL vs g t e s l acc h := by rw [lcS_fix vs g t e s l n 0 (by omega), List.drop_zero]
def iterD (d : D) (h : LH) : R Strm := match d with
  | .lst l => .ok (fixS l) h
  | .kst l => .ok (fixS l) h
  | .ref n => match h[n]? with
    | some (.lst _) => .ok (refS n) h
    | _ => .no
  | _ => .no
@[simp] theorem iterD_lst (l : List D) : iterD (.lst l) h = .ok (fixS l) h := rfl
@[simp] theorem iterD_kst (l : List D) : iterD (.kst l) h = .ok (fixS l) h := rfl
@[simp] theorem iVal_ap (m : EM) : iVal m s h = (m s h).bind iterD := rfl
@[simp] theorem iTupV_ap (m : EM) : iTupV m s h = (m s h).bind fun d h1 => match d with
  | .tup l => .ok (fixS l) h1
  | _ => .no := rfl
@[simp] theorem iStrV_ap (m : EM) : iStrV m s h = (m s h).bind fun d h1 => match d with
  | .str z => .ok (fixS (signs z)) h1
  | _ => .no := rfl
@[simp] theorem iRng1_ap (m : AM) : iRng1 m s h = (m s h).bind fun l h1 => match l with
  | [.int j] => if inRng j = true then .ok (fixS (rngL 0 j.toNat)) h1 else .no
  | _ => .no := rfl
@[simp] theorem iRng2_ap (m : AM) : iRng2 m s h = (m s h).bind fun l h1 => match l with
  | [.int i, .int j] => if (inRng i && inRng j) = true then .ok (fixS (rngL i (j - i).toNat)) h1 else .no
  | _ => .no := rfl
@[simp] theorem rngL_len (i : Int) (n : Nat) : (rngL i n).length = n := by simp [rngL]
/-! operators on scalars -/
@[simp] theorem oAdd_ii (i j : Int) : oAdd h (.int i) (.int j) = some (.int (i + j)) := rfl
@[simp] theorem oAdd_ss (i j : Str) : oAdd h (.str i) (.str j) = if small (i.length + j.length) = true then some (.str (i ++ j)) else none := rfl
@[simp] theorem oAdd_tt (i j : List D) : oAdd h (.tup i) (.tup j) = if small (i.length + j.length) = true then some (.tup (i ++ j)) else none := rfl
@[simp] theorem oAdd_ll (i j : List D) : oAdd h (.lst i) (.lst j) = if small (i.length + j.length) = true then some (.lst (i ++ j)) else none := rfl
@[simp] theorem oSub_ii (i j : Int) : oSub h (.int i) (.int j) = some (.int (i - j)) := rfl
theorem oMul_ii (i j : Int) : oMul h (.int i) (.int j) = if decide (i.natAbs.log2 + j.natAbs.log2 < 1000000) = true then some (.int (i * j)) else none := rfl
theorem oMul_si (x : Str) (j : Int) : oMul h (.str x) (.int j) = if decide (-1000000 ≤ j ∧ j ≤ 1000000 ∧ x.length ≤ 1000000 ∧ x.length * j.toNat ≤ sizeLine ∧ (sRep x j).length ≤ sizeLine) = true then some (.str (sRep x j)) else none := rfl
@[simp] theorem oMod_ii (i j : Int) : oMod h (.int i) (.int j) = if decide (0 < j) = true then some (.int (i % j)) else none := rfl
theorem oDiv_ii (i j : Int) : oDiv h (.int i) (.int j) = if decide (0 < j ∧ j.natAbs.log2 < 9000) = true then some (.int (i / j)) else none := rfl
@[simp] theorem oPow_ii (i j : Int) : oPow h (.int i) (.int j) = if decide (0 ≤ j ∧ j ≤ 1000000 ∧ i.natAbs < 2 ^ 64) = true then some (.int (i ^ j.toNat)) else none := rfl
@[simp] theorem oLt_ii (i j : Int) : oLt h (.int i) (.int j) = some (.bl (decide (i < j))) := rfl
@[simp] theorem oLe_ii (i j : Int) : oLe h (.int i) (.int j) = some (.bl (decide (i ≤ j))) := rfl
@[simp] theorem oGt_ii (i j : Int) : oGt h (.int i) (.int j) = some (.bl (decide (j < i))) := rfl
@[simp] theorem oGe_ii (i j : Int) : oGe h (.int i) (.int j) = some (.bl (decide (j ≤ i))) := rfl
@[simp] theorem oEq_ss (a b : Str) : oEq h (.str a) (.str b) = some (.bl (a == b)) := rfl
@[simp] theorem oNe_ss (a b : Str) : oNe h (.str a) (.str b) = some (.bl (!(a == b))) := rfl
theorem oEq_ii (i j : Int) : oEq h (.int i) (.int j) = some (.bl (i == j)) := by
  unfold oEq py
  simp only [pyG, Option.bind_some]
  rw [if_pos (by rfl)]
  simp only [PyData.eqv]
theorem lg2 {n m : Nat} (h : n < 2 ^ m) (hm : 0 < m) : n.log2 < m := by
  rcases Nat.eq_zero_or_pos n with rfl | hn
  · simpa using hm
  · exact (Nat.log2_lt (by omega)).mpr h
theorem mul_ok {i j : Int} (hi : i.natAbs < 2 ^ 1000) (hj : j.natAbs < 2 ^ 1000) : oMul h (.int i) (.int j) = some (.int (i * j)) := by
  rw [oMul_ii, if_pos]
  have h1 := lg2 hi (by decide)
  have h2 := lg2 hj (by decide)
  exact decide_eq_true (by omega)
theorem div_ok {i j : Int} (h0 : 0 < j) (hj : j.natAbs < 2 ^ 1000) : oDiv h (.int i) (.int j) = some (.int (i / j)) := by
  rw [oDiv_ii, if_pos]
  have h2 := lg2 hj (by decide)
  exact decide_eq_true ⟨h0, by omega⟩
theorem mul_okS {i j : Int} (hi : -10 ^ 40 ≤ i ∧ i ≤ 10 ^ 40) (hj : -10 ^ 40 ≤ j ∧ j ≤ 10 ^ 40) : oMul h (.int i) (.int j) = some (.int (i * j)) :=
  mul_ok (Nat.lt_of_le_of_lt (m := 10 ^ 40) (by omega) (by decide)) (Nat.lt_of_le_of_lt (m := 10 ^ 40) (by omega) (by decide))
theorem div_okS {i j : Int} (h0 : 0 < j) (hj : j ≤ 10 ^ 40) : oDiv h (.int i) (.int j) = some (.int (i / j)) :=
  div_ok h0 (Nat.lt_of_le_of_lt (m := 10 ^ 40) (by omega) (by decide))
theorem mod_ok {i j : Int} (h0 : 0 < j) : oMod h (.int i) (.int j) = some (.int (i % j)) := by
  rw [oMod_ii, if_pos (decide_eq_true h0)]
/-! lists of ints as data -/
theorem pyGs_ints (g : Nat → Option PyData) : ∀ cs : List Int, pyGs g (cs.map .int) = some (cs.map .int)
  | [] => rfl
  | c :: cs => by simp [pyGs, pyG, pyGs_ints g cs]
theorem lay_ints : ∀ cs : List Int, PyData.canLayAll0 (cs.map .int) = true
  | [] => rfl
  | c :: cs => by simp [PyData.canLayAll0, PyData.canLay0, lay_ints cs]
theorem depth_ints : ∀ cs : List Int, PyData.depthAll (cs.map .int) = 0
  | [] => rfl
  | c :: cs => by simp [PyData.depthAll, PyData.depth, depth_ints cs]
theorem shaped_ints (cs : List Int) : SeqAt.shaped (.list (cs.map .int)) = true := by
  unfold SeqAt.shaped
  simp [PyData.canLay0, PyData.depth, lay_ints, depth_ints]
theorem ne_nil_ref {n : Nat} {l : List D} (e : h[n]? = some (.lst l)) : oNe h (.ref n) (.lst []) = some (.bl (!l.isEmpty)) := by
  show (seqL h (.ref n)).map _ = _
  unfold seqL
  simp only [e]
  rfl
theorem ne_nil_ints {n : Nat} {cs : List Int} (e : h[n]? = some (.lst (cs.map .int))) : oNe h (.ref n) (.lst []) = some (.bl (!cs.isEmpty)) := by
  rw [ne_nil_ref e, List.isEmpty_map]
@[simp] theorem oEq_l0 (l : List D) : oEq h (.lst l) (.lst []) = some (.bl l.isEmpty) := rfl
@[simp] theorem oNe_l0 (l : List D) : oNe h (.lst l) (.lst []) = some (.bl (!l.isEmpty)) := rfl
@[simp] theorem oEq_t0 (l : List D) : oEq h (.tup l) (.tup []) = some (.bl l.isEmpty) := rfl
@[simp] theorem oNe_t0 (l : List D) : oNe h (.tup l) (.tup []) = some (.bl (!l.isEmpty)) := rfl
@[simp] theorem mCallK_ap (g : OK) (m z : AM) : mCallK g m z s h = (m s h).bind fun l h1 => (z s h1).bind fun y h2 => optR (g h2 l y) h2 := rfl
@[simp] theorem mCatN_ap (a b : EM) : mCatN a b s h = (a s h).bind fun x h1 => (b s h1).bind fun y h2 => match catL h2 x, catL h2 y with
  | some i, some j => if small (i.length + j.length) = true then .ok (.ref h2.length) (h2 ++ [.lst (i ++ j)]) else .no
  | _, _ => .no := rfl
end
theorem atI_in {α : Type} {l : List α} {r : Int} (h0 : 0 ≤ r) (h1 : r < l.length) : ∃ d, atI l r = some d ∧ d ∈ l := by
  have hr : r.toNat < l.length := by omega
  refine ⟨l[r.toNat], ?_, List.getElem_mem hr⟩
  unfold atI ixN
  rw [if_pos h0, if_pos h1, Option.bind_some, List.getElem?_eq_getElem hr]
theorem cut_map {α β : Type} (f : α → β) (xs : List α) (lo hi : Option Int) : cut (xs.map f) lo hi = (cut xs lo hi).map f := by
  unfold cut
  rw [List.length_map, ← List.map_drop, ← List.map_take]
theorem cut_len {α : Type} (xs : List α) (lo hi : Option Int) : (cut xs lo hi).length ≤ xs.length := by
  unfold cut
  rw [List.length_take, List.length_drop]
  omega
theorem cut_mem {α : Type} {xs : List α} {lo hi : Option Int} {x : α} (h : x ∈ cut xs lo hi) : x ∈ xs := List.mem_of_mem_drop (List.mem_of_mem_take h)
/-! ### comprehensions, loops -/
section
variable {vs : List Nat} {g : GM} {t : BM} {e : EM} {s : Sg}
/-- a comprehension that keeps all, with the state running through -/
theorem lcL_run (I : Nat → LH → Prop) (P : D → Prop) (N : Nat) : ∀ (ds : List D) (acc : List D) (k : Nat) (h : LH), I k h → k + ds.length ≤ N → acc.length + ds.length ≤ sizeLine →
    (∀ d ∈ ds, ∀ k h, k < N → I k h → ∃ s1 y h2, g d (wipeS s vs) h = some (s1, h) ∧ t s1 h = .ok true h ∧ e s1 h = .ok y h2 ∧ I (k + 1) h2 ∧ P y) →
    ∃ l h', lcL vs g t e s ds acc h = .ok (acc ++ l) h' ∧ l.length = ds.length ∧ I (k + ds.length) h' ∧ ∀ y ∈ l, P y
  | [], acc, k, h, i, _, _, _ => ⟨[], h, by simp [lcL], rfl, by simpa using i, by simp⟩
  | d :: ds, acc, k, h, i, hk, hz, st => by
    simp only [List.length_cons] at hk hz
    obtain ⟨s1, y, h2, e1, e2, e3, i2, py⟩ := st d (by simp) k h (by omega) i
    obtain ⟨l, h3, e4, e5, i3, pl⟩ := lcL_run I P N ds (acc ++ [y]) (k + 1) h2 i2 (by omega) (by simp; omega) fun d' m => st d' (by simp [m])
    refine ⟨y :: l, h3, ?_, by simp [e5], ?_, ?_⟩
    · unfold lcL
      simp only [e1, e2, e3, bindN_ok, if_true]
      rw [if_pos (decide_eq_true (by omega)), e4]
      simp
    · rw [List.length_cons, show k + (ds.length + 1) = k + 1 + ds.length by omega]; exact i3
    · intro z hz
      rcases List.mem_cons.mp hz with rfl | hz
      · exact py
      · exact pl z hz
/-- a comprehension without changes -/
theorem lcL_filter (p : D → Bool) (f : D → D) (h : LH) : ∀ (ds : List D) (acc : List D), acc.length + ds.length ≤ sizeLine →
    (∀ d ∈ ds, ∃ s1, g d (wipeS s vs) h = some (s1, h) ∧ t s1 h = .ok (p d) h ∧ (p d = true → e s1 h = .ok (f d) h)) →
    lcL vs g t e s ds acc h = .ok (acc ++ (ds.filter p).map f) h
  | [], acc, _, _ => by simp [lcL]
  | d :: ds, acc, hz, st => by
    simp only [List.length_cons] at hz
    obtain ⟨s1, e1, e2, e3⟩ := st d (by simp)
    unfold lcL
    simp only [e1, e2, bindN_ok]
    cases q : p d with
    | true =>
      rw [if_pos rfl, e3 q, bindN_ok, if_pos (decide_eq_true (by omega)), lcL_filter p f h ds (acc ++ [f d]) (by simp; omega) fun d' m => st d' (by simp [m])]
      simp [q]
    | false =>
      rw [if_neg (by decide), lcL_filter p f h ds acc (by omega) fun d' m => st d' (by simp [m])]
      simp [q]
end
end DN
namespace DN
open PySem PySem.Spec PyProof.Rows L2
/-! ### a hand that is drawn from -/
def begunM : FM := fnM 4 ((sSeq (sPar 2 3 (aCons (mCall cList (aCons (mSl (mVar 0) oNo (oPart (mC (.int 63)))) aNil)) (aCons (mC (.int 50021)) aNil)))
  (sSeq (sFor 1000000 (iVal (mVar 2)) (gNm 1)
  (sSet 3 (mOp oMod (mOp oAdd (mOp oAdd (mOp oMul (mVar 3) (mC (.int 48271))) (mOp oMod (mVar 1) (mC (.int 2147483563)))) (mC (.int 17))) (mC (.int 2147483629)))))
  (sRet (mNew (aCons (mRevN (mVar 2)) (aCons (mVar 3) (aCons (mC (.int 0)) aNil))))))))
def dealtM : FM := fnM 4 ((sSeq (sAsg (mOp oAdd (mOp oIx (mVar 0) (mC (.int 2))) (mC (.int 1))) (gSb (mVar 0) (mC (.int 2))))
  (sSeq (sSet 2 (mOp oIx (mVar 0) (mC (.int 1))))
  (sSeq (sIf (mTest (mOp oNe (mOp oIx (mVar 0) (mC (.int 0))) (mLst aNil)))
  (sSeq (sSet 2 (mMeth "list" gPop (mOp oIx (mVar 0) (mC (.int 0))) aNil))
  (sIf (mTest (mOp oGe (mVar 2) (mOp oPow (mC (.int 10)) (mC (.int 18)))))
  (sSeq (sExpr (mMeth "list" gAppend (mOp oIx (mVar 0) (mC (.int 0))) (aCons (mOp oDiv (mVar 2) (mVar 1)) aNil)))
  (sRet (mOp oMod (mVar 2) (mVar 1))))
  sNil))
  sNil)
  (sSeq (sSet 3 (mOp oAdd (mOp oAdd (mOp oAdd (mOp oMod (mVar 2) (mC (.int 2147483629))) (mOp oMul (mOp oMul (mC (.int 16807)) (mOp oIx (mVar 0) (mC (.int 2)))) (mOp oIx (mVar 0) (mC (.int 2))))) (mOp oIx (mVar 0) (mC (.int 1)))) (mC (.int 97))))
  (sSeq (sSet 3 (mOp oMod (mOp oMul (mVar 3) (mC (.int 48271))) (mC (.int 2147483647))))
  (sSeq (sSet 3 (mOp oMod (mOp oAdd (mOp oAdd (mOp oMul (mVar 3) (mVar 3)) (mOp oMul (mC (.int 69621)) (mOp oIx (mVar 0) (mC (.int 2))))) (mC (.int 11))) (mC (.int 2147483587))))
  (sRet (mOp oMod (mOp oDiv (mOp oMod (mOp oMul (mVar 3) (mOp oAdd (mOp oDiv (mVar 3) (mC (.int 5))) (mC (.int 39373)))) (mC (.int 2147483563))) (mC (.int 128))) (mVar 1))))))))))
def pickM (c : FM) : FM := fnM 2 ((sRet (mOp oIx (mVar 1) (mFn 2 c [] (aCons (mVar 0) (aCons (mCall cLen (aCons (mVar 1) aNil)) aNil))))))

def hnd (cs : List Int) (t n : Int) (rest : LH) : LH := .lst (cs.map .int) :: .lst [.ref 0, .int t, .int n] :: rest
def Hd (N : Nat) (rest h : LH) : Prop := ∃ cs t n, h = hnd cs t n rest ∧ 0 ≤ t ∧ t < 2147483629 ∧ 0 ≤ n ∧ n ≤ N ∧ cs.length ≤ 1000
theorem ix_mid {h : LH} {cs : List Int} {t n : Int} {rest : LH} (e : h = hnd cs t n rest) (i : Int) : oIx h (.ref 1) (.int i) = atI [.ref 0, .int t, .int n] i := by subst e; rfl
theorem dealt_ok {N : Nat} {rest h : LH} {lots : Int} (hd : Hd N rest h) (hN : N < 1000000) (hl : 0 < lots) (hl2 : lots ≤ 1000000) :
    ∃ r h', dealtM [.ref 1, .int lots] h = .ok (.int r) h' ∧ 0 ≤ r ∧ r < lots ∧ Hd (N + 1) rest h' := by
  obtain ⟨cs, t, n, rfl, ht, ht2, hn, hn2, hc⟩ := hd
  have i0 : ∀ (cs : List Int) (t n : Int), oIx (hnd cs t n rest) (.ref 1) (.int 0) = some (.ref 0) := fun _ _ _ => rfl
  have i1 : ∀ (cs : List Int) (t n : Int), oIx (hnd cs t n rest) (.ref 1) (.int 1) = some (.int t) := fun _ _ _ => rfl
  have i2 : ∀ (cs : List Int) (t n : Int), oIx (hnd cs t n rest) (.ref 1) (.int 2) = some (.int n) := fun _ _ _ => rfl
  have st : ∀ (x : Int), gSb (mVar 0) (mC (.int 2)) (.int x) [some (.ref 1), some (.int lots), none, none] (hnd cs t n rest) = some ([some (.ref 1), some (.int lots), none, none], hnd cs t x rest) := fun _ => rfl
  have ne : ∀ (cs : List Int) (t n : Int), oNe (hnd cs t n rest) (.ref 0) (.lst []) = some (.bl (!cs.isEmpty)) := fun _ _ _ => ne_nil_ints rfl
  have ty0 : ∀ (cs : List Int) (t n : Int), tyD (hnd cs t n rest) (.ref 0) = some "list" := fun _ _ _ => rfl
  have sm0 : small 0 = true := rfl
  have m1 : ∀ (cs : List Int) (t n : Int) (cell : Int), 0 ≤ n → n ≤ N + 1 → 0 ≤ t → t < 2147483629 → ∃ r, 0 ≤ r ∧ r < lots ∧
      fin_ ((sSeq (sSet 3 (mOp oAdd (mOp oAdd (mOp oAdd (mOp oMod (mVar 2) (mC (.int 2147483629))) (mOp oMul (mOp oMul (mC (.int 16807)) (mOp oIx (mVar 0) (mC (.int 2)))) (mOp oIx (mVar 0) (mC (.int 2))))) (mOp oIx (mVar 0) (mC (.int 1)))) (mC (.int 97))))
  (sSeq (sSet 3 (mOp oMod (mOp oMul (mVar 3) (mC (.int 48271))) (mC (.int 2147483647))))
  (sSeq (sSet 3 (mOp oMod (mOp oAdd (mOp oAdd (mOp oMul (mVar 3) (mVar 3)) (mOp oMul (mC (.int 69621)) (mOp oIx (mVar 0) (mC (.int 2))))) (mC (.int 11))) (mC (.int 2147483587))))
  (sRet (mOp oMod (mOp oDiv (mOp oMod (mOp oMul (mVar 3) (mOp oAdd (mOp oDiv (mVar 3) (mC (.int 5))) (mC (.int 39373)))) (mC (.int 2147483563))) (mC (.int 128))) (mVar 1)))))) [some (.ref 1), some (.int lots), some (.int cell), none] (hnd cs t n rest)) = .ok (.int r) (hnd cs t n rest) := by
    intro cs t n cell h1 h2 h3 h4
    have a1 : oMul (hnd cs t n rest) (.int 16807) (.int n) = some (.int (16807 * n)) := mul_okS (by omega) (by omega)
    have a2 : oMul (hnd cs t n rest) (.int (16807 * n)) (.int n) = some (.int (16807 * n * n)) := mul_okS (by omega) (by omega)
    have a3 : 0 ≤ 16807 * n * n ∧ 16807 * n * n ≤ 16807 * 1000001 * 1000001 := by
      have b1 : 0 ≤ 16807 * n := by omega
      have b2 : 16807 * n ≤ 16807 * 1000001 := by omega
      exact ⟨Int.mul_nonneg b1 h1, Int.mul_le_mul b2 (by omega) h1 (by omega)⟩
    have c0 := Int.emod_nonneg cell (b := 2147483629) (by omega)
    have c1 := Int.emod_lt_of_pos cell (b := 2147483629) (by omega)
    generalize ex : cell % 2147483629 + 16807 * n * n + t + 97 = x
    have a4 : oMul (hnd cs t n rest) (.int x) (.int 48271) = some (.int (x * 48271)) := mul_okS (by omega) (by omega)
    have d0 := Int.emod_nonneg (x * 48271) (b := 2147483647) (by omega)
    have d1 := Int.emod_lt_of_pos (x * 48271) (b := 2147483647) (by omega)
    generalize ey : x * 48271 % 2147483647 = y at d0 d1
    have a5 : oMul (hnd cs t n rest) (.int y) (.int y) = some (.int (y * y)) := mul_okS (by omega) (by omega)
    have a6 : oMul (hnd cs t n rest) (.int 69621) (.int n) = some (.int (69621 * n)) := mul_okS (by omega) (by omega)
    have f0 := Int.emod_nonneg (y * y + 69621 * n + 11) (b := 2147483587) (by omega)
    have f1 := Int.emod_lt_of_pos (y * y + 69621 * n + 11) (b := 2147483587) (by omega)
    generalize ez : (y * y + 69621 * n + 11) % 2147483587 = z at f0 f1
    have a7 : oDiv (hnd cs t n rest) (.int z) (.int 5) = some (.int (z / 5)) := div_okS (by omega) (by omega)
    have a8 : oMul (hnd cs t n rest) (.int z) (.int (z / 5 + 39373)) = some (.int (z * (z / 5 + 39373))) := mul_okS (by omega) (by omega)
    have a9 : oDiv (hnd cs t n rest) (.int (z * (z / 5 + 39373) % 2147483563)) (.int 128) = some (.int (z * (z / 5 + 39373) % 2147483563 / 128)) := div_okS (by omega) (by omega)
    refine ⟨z * (z / 5 + 39373) % 2147483563 / 128 % lots, Int.emod_nonneg _ (by omega), Int.emod_lt_of_pos _ hl, ?_⟩
    simp [i1, i2, a1, a2, a4, a5, a6, a7, a8, a9, hl, ex, ey, ez]
  unfold dealtM
  cases hcs : cs.isEmpty with
  | true =>
    obtain ⟨r, r1, r2, e⟩ := m1 cs t (n + 1) t (by omega) (by omega) ht ht2
    refine ⟨r, hnd cs t (n + 1) rest, ?_, r1, r2, cs, t, n + 1, rfl, ht, ht2, by omega, by omega, hc⟩
    rw [← e]
    simp [i0, i1, i2, st, ne, hcs, sm0]
  | false =>
    have hne : cs ≠ [] := fun z => by rw [z] at hcs; cases hcs
    have hlen : 0 < cs.length := List.length_pos_iff.mpr hne
    have hp : ∀ (t n : Int), gPop (hnd cs t n rest) (.ref 0) [] = some (.int (cs.getLast hne), hnd cs.dropLast t n rest) := fun t n => by
      have e1 : (cs.map D.int)[(cs.map D.int).length - 1]? = some (.int (cs.getLast hne)) := by
        rw [List.getElem?_map, List.length_map, List.getLast_eq_getElem, List.getElem?_eq_getElem (by omega)]
        rfl
      show ((cs.map D.int)[(cs.map D.int).length - 1]?.map fun d => (d, (hnd cs t n rest).set 0 (.lst (cs.map D.int).dropLast))) = _
      rw [e1, ← List.map_dropLast]
      rfl
    generalize cs.getLast hne = cell at hp
    have hdl : cs.dropLast.length ≤ 999 := by rw [List.length_dropLast]; omega
    by_cases big : (10 ^ 18 : Int) ≤ cell
    · have ap : ∀ (x : Int), gAppend (hnd cs.dropLast t (n + 1) rest) (.ref 0) [.int x] = some (.non, hnd (cs.dropLast ++ [x]) t (n + 1) rest) := fun x => by
        show (if decide ((cs.dropLast.map D.int).length < sizeLine) = true then _ else _) = _
        rw [if_pos (decide_eq_true (by have := sizeLine_ge; rw [List.length_map]; omega))]
        simp [hnd]
      have dv : oDiv (hnd cs.dropLast t (n + 1) rest) (.int cell) (.int lots) = some (.int (cell / lots)) := div_okS hl (by omega)
      refine ⟨cell % lots, hnd (cs.dropLast ++ [cell / lots]) t (n + 1) rest, ?_, Int.emod_nonneg _ (by omega), Int.emod_lt_of_pos _ hl, _, t, n + 1, rfl, ht, ht2, by omega, by omega, by simp; omega⟩
      have big' : (1000000000000000000 : Int) ≤ cell := big
      simp [i0, i1, i2, st, ne, hcs, sm0, hp, ty0, big, big', ap, dv, hl]
    · obtain ⟨r, r1, r2, e⟩ := m1 cs.dropLast t (n + 1) cell (by omega) (by omega) ht ht2
      refine ⟨r, hnd cs.dropLast t (n + 1) rest, ?_, r1, r2, _, t, n + 1, rfl, ht, ht2, by omega, by omega, by omega⟩
      rw [← e]
      have big' : ¬ (1000000000000000000 : Int) ≤ cell := big
      simp [i0, i1, i2, st, ne, hcs, sm0, hp, ty0, big, big']
theorem begun_loop (a c : Option D) (h : LH) : ∀ (ms : List Int) (b : Option D) (t : Int), 0 ≤ t → t < 2147483629 → ∃ b' t', 0 ≤ t' ∧ t' < 2147483629 ∧
    forL (gNm 1) (sSet 3 (mOp oMod (mOp oAdd (mOp oAdd (mOp oMul (mVar 3) (mC (.int 48271))) (mOp oMod (mVar 1) (mC (.int 2147483563)))) (mC (.int 17))) (mC (.int 2147483629)))) (ms.map .int) [a, b, c, some (.int t)] h = .nx [a, b', c, some (.int t')] h
  | [], b, t, h1, h2 => ⟨b, t, h1, h2, rfl⟩
  | m :: ms, b, t, h1, h2 => by
    have a1 : oMul h (.int t) (.int 48271) = some (.int (t * 48271)) := mul_okS (by omega) (by omega)
    obtain ⟨b', t', x1, x2, e⟩ := begun_loop a c h ms (some (.int m)) ((t * 48271 + m % 2147483563 + 17) % 2147483629) (Int.emod_nonneg _ (by omega)) (Int.emod_lt_of_pos _ (by omega))
    refine ⟨b', t', x1, x2, ?_⟩
    rw [List.map_cons]
    unfold forL
    simp [a1, e]
theorem begun_ok {ns : List Int} (hl : ns.length ≤ 63) : ∃ h', begunM [.kst (ns.map .int)] [] = .ok (.ref 1) h' ∧ Hd 0 [] h' := by
  have hc := cut_len ns none (some 63)
  have e0 : oCut [] (.kst (ns.map .int)) none (some 63) = some (.lst ((cut ns none (some 63)).map .int)) := by rw [← cut_map]; rfl
  generalize cut ns none (some 63) = ms at hc e0
  have e1 : cList [] [.lst (ms.map .int)] = some (.lst (ms.map .int)) := rfl
  obtain ⟨b', t', x1, x2, e⟩ := begun_loop (some (.kst (ns.map .int))) (some (.lst (ms.map .int))) [] ms none 50021 (by omega) (by omega)
  have hf : (ms.map D.int).length < 1000000 := by rw [List.length_map]; omega
  have e2 : seqL [] (.lst (ms.map .int)) = some (ms.map .int) := rfl
  refine ⟨hnd ms.reverse t' 0 [], ?_, ms.reverse, t', 0, rfl, x1, x2, by omega, by omega, by simp; omega⟩
  unfold begunM
  simp [e0, e1, sFor_ap, for_fix hf, e, e2, hnd, show small 3 = true from rfl]
theorem pick_ok {N : Nat} {rest h : LH} {l : List D} (hd : Hd N rest h) (hN : N < 1000000) (hl : l ≠ []) (hl2 : l.length ≤ 1000000) :
    ∃ d h', pickM dealtM [.ref 1, .lst l] h = .ok d h' ∧ d ∈ l ∧ Hd (N + 1) rest h' := by
  have hp : 0 < l.length := List.length_pos_iff.mpr hl
  obtain ⟨r, h', e, r1, r2, hd'⟩ := dealt_ok (lots := (l.length : Int)) hd hN (by omega) (by omega)
  obtain ⟨d, e2, m⟩ := atI_in r1 r2
  refine ⟨d, h', ?_, m, hd'⟩
  have e3 : cLen h [.lst l] = some (.int l.length) := rfl
  have e4 : oIx h' (.lst l) (.int r) = some d := e2
  unfold pickM
  simp [e3, e, e4]
end DN
namespace DN
open PySem PySem.Spec PyProof.Rows L2
/-! ### texts by their signs -/
def tl (z : Str) : List Nat := z.cps.toList
theorem len_tl (z : Str) : z.length = (tl z).length := (Array.length_toList).symm
theorem tl_app (a b : Str) : tl (a ++ b) = tl a ++ tl b := TL.tl_append a b
theorem tl_join_nil : ∀ ys : List Str, tl (Str.join ⟨#[]⟩ ys) = (ys.map tl).flatten
  | [] => rfl
  | [x] => by simp [Str.join]
  | x :: y :: r => by
    show tl (x ++ ⟨#[]⟩ ++ Str.join ⟨#[]⟩ (y :: r)) = _
    rw [tl_app, tl_app, tl_join_nil (y :: r)]
    simp [show tl ⟨#[]⟩ = [] from rfl]
/-- all signs of a text are such -/
def Sg1 (p : Nat → Prop) (z : Str) : Prop := ∀ c ∈ tl z, p c
theorem Sg1.app {p : Nat → Prop} {a b : Str} (h : Sg1 p a) (k : Sg1 p b) : Sg1 p (a ++ b) := fun c m => by
  rw [tl_app, List.mem_append] at m
  exact m.elim (h c) (k c)
theorem Sg1.cut {p : Nat → Prop} {a : Str} (h : Sg1 p a) (lo hi : Option Int) : Sg1 p (cutS a lo hi) := fun c m => by
  have m' : c ∈ ((a.cps.toList.drop (HT.sIx a.length 0 lo)).take (HT.sIx a.length a.length hi - HT.sIx a.length 0 lo)) := by
    have e : tl (cutS a lo hi) = ((a.cps.toList.drop (HT.sIx a.length 0 lo)).take (HT.sIx a.length a.length hi - HT.sIx a.length 0 lo)) := by unfold cutS; rfl
    rw [e] at m; exact m
  exact h c (List.mem_of_mem_drop (List.mem_of_mem_take m'))
theorem len_cutS (a : Str) (lo hi : Option Int) : (cutS a lo hi).length ≤ a.length := by
  rw [len_tl, len_tl]
  have e : tl (cutS a lo hi) = ((a.cps.toList.drop (HT.sIx a.length 0 lo)).take (HT.sIx a.length a.length hi - HT.sIx a.length 0 lo)) := by unfold cutS; rfl
  rw [e, List.length_take, List.length_drop]
  show _ ≤ a.cps.toList.length
  omega
theorem len_app (a b : Str) : (a ++ b).length = a.length + b.length := by rw [len_tl, tl_app, List.length_append, ← len_tl, ← len_tl]
theorem Sg1.imp {p q : Nat → Prop} {z : Str} (h : Sg1 p z) (k : ∀ c, p c → q c) : Sg1 q z := fun c m => k c (h c m)
theorem mapM_asS : ∀ ys : List Str, (ys.map D.str).mapM asS = some ys
  | [] => rfl
  | y :: ys => by
    rw [List.map_cons, List.mapM_cons, mapM_asS ys]
    rfl
theorem str_list : ∀ {l : List D} {p : Str → Prop}, (∀ y ∈ l, ∃ z, y = .str z ∧ p z) → ∃ ys : List Str, l = ys.map .str ∧ ∀ z ∈ ys, p z
  | [], _, _ => ⟨[], rfl, by simp⟩
  | d :: l, p, h => by
    obtain ⟨z, rfl, hz⟩ := h d (by simp)
    obtain ⟨ys, rfl, hy⟩ := str_list (l := l) fun y m => h y (by simp [m])
    exact ⟨z :: ys, rfl, fun y m => by
      rcases List.mem_cons.mp m with rfl | m
      · exact hz
      · exact hy y m⟩
/-- signs put together -/
theorem join_signs {h : LH} {l : List D} {p : Nat → Prop} (hl : ∀ y ∈ l, ∃ c, y = .str ⟨#[c]⟩ ∧ p c) (hn : l.length ≤ 1000000) :
    ∃ z, gJoin h (.str ⟨#[]⟩) [.lst l] = some (.str z, h) ∧ z.length = l.length ∧ Sg1 p z := by
  obtain ⟨ys, rfl, hy⟩ := str_list (p := fun z => ∃ c, z = ⟨#[c]⟩ ∧ p c) fun y m => by
    obtain ⟨c, e, q⟩ := hl y m
    exact ⟨_, e, c, rfl, q⟩
  rw [List.length_map] at hn ⊢
  have hlen : ∀ ys : List Str, (∀ z ∈ ys, ∃ c, z = ⟨#[c]⟩ ∧ p c) → (ys.map (·.length)).sum = ys.length := by
    intro ys
    induction ys with
    | nil => intro _; rfl
    | cons y ys ih =>
      intro h
      obtain ⟨c, rfl, _⟩ := h y (by simp)
      rw [List.map_cons, List.sum_cons, ih fun z m => h z (by simp [m]), List.length_cons]
      show 1 + ys.length = _
      omega
  have hs : ∀ ys : List Str, (∀ z ∈ ys, ∃ c, z = ⟨#[c]⟩ ∧ p c) → (ys.map tl).flatten.length = ys.length ∧ ∀ c ∈ (ys.map tl).flatten, p c := by
    intro ys
    induction ys with
    | nil => intro _; exact ⟨rfl, by simp⟩
    | cons y ys ih =>
      intro h
      obtain ⟨c, rfl, hc⟩ := h y (by simp)
      obtain ⟨i1, i2⟩ := ih fun z m => h z (by simp [m])
      refine ⟨?_, fun k m => ?_⟩
      · rw [List.map_cons, List.flatten_cons, List.length_append, i1, List.length_cons]
        show 1 + ys.length = _
        omega
      rw [List.map_cons, List.flatten_cons, List.mem_append] at m
      rcases m with m | m
      · have : k = c := by simpa [tl] using m
        rw [this]; exact hc
      · exact i2 k m
  refine ⟨Txt.join ⟨#[]⟩ ys, ?_, ?_, ?_⟩
  · have e1 : strsOf h (.lst (ys.map .str)) = some ys := mapM_asS ys
    unfold gJoin
    simp only [e1, Option.bind_some]
    rw [if_pos (decide_eq_true (by rw [hlen ys hy]; show ys.length + ys.length * 0 ≤ _; omega))]
  · rw [TL.join_eq, len_tl, tl_join_nil, (hs ys hy).1]
  · intro c m
    rw [TL.join_eq, tl_join_nil] at m
    exact (hs ys hy).2 c m
theorem find_one (x : Str) (c : Nat) : decide (Txt.find x ⟨#[c]⟩ < 0) = !decide (c ∈ x.cps.toList) := by
  have h := PySem.StrLaws.found_one x c
  unfold Txt.find
  cases e : Builtin.Str.occurrences x ⟨#[c]⟩ 0 x.length 1 with
  | nil =>
    rw [e] at h
    rw [← h]
    rfl
  | cons i r =>
    rw [e] at h
    rw [← h]
    simp
/-- in an alphabet -/
theorem in_one (h : LH) (x : Str) (c : Nat) : oIn h (.str ⟨#[c]⟩) (.str x) = some (.bl (decide (c ∈ tl x))) := by
  show Option.map D.bl (if decide (1 = 1) = true then some (decide (c ∈ x.cps.toList)) else none) = _
  rw [if_pos (by rfl)]
  rfl
/-- what can be shown -/
def Shw (it : D) (n : Nat) : Prop := ∃ t : Str, t.length ≤ n ∧ ∀ h, showD h it = some t
theorem shw_py {it : D} {p : PyData} {n : Nat} (e : ∀ h, pyR h it = some p) (h1 : p.showable = true) (h2 : p.depth ≤ 600) (h3 : p.shown.length ≤ n) (hn : n ≤ 1000000) : Shw it n := ⟨p.shown, h3, fun h => by
  unfold showD
  rw [e, Option.bind_some, h1, decide_eq_true h2, small_of (by omega)]
  rfl⟩
theorem shw_str {z : Str} (hz : Sg1 (· < 1114112) z) (hl : z.length ≤ 90000) : Shw (.str z) (10 * z.length + 2) := by
  refine shw_py (p := .str z) (fun _ => rfl) rfl (Nat.zero_le _) ?_ (by omega)
  rw [show (PyData.str z).shown = reprText z by simp only [PyData.shown]]
  exact StrLaws.reprText_len z fun c m => Nat.lt_of_lt_of_le (hz c m) (by decide)
end DN
namespace DN
open PySem PySem.Spec PyProof.Rows L2
/-! ### data that is never changed: size when shown, nesting -/
def kz : Key → Nat
  | .inl _ => 50
  | .inr x => 10 * x.length + 2
mutual
def sz : D → Nat
  | .non => 4
  | .bl _ => 5
  | .int _ => 50
  | .str x => 10 * x.length + 2
  | .tup l => 3 + szs l
  | .lst l => 3 + szs l
  | .dct l => 3 + szk l
  | _ => 0
def szs : List D → Nat
  | [] => 0
  | d :: ds => sz d + 2 + szs ds
def szk : List (Key × D) → Nat
  | [] => 0
  | (k, d) :: r => kz k + 2 + sz d + 2 + szk r
end
mutual
def dp : D → Nat
  | .tup l => 1 + dps l
  | .lst l => 1 + dps l
  | .dct l => 1 + dpk l
  | _ => 0
def dps : List D → Nat
  | [] => 0
  | d :: ds => max (dp d) (dps ds)
def dpk : List (Key × D) → Nat
  | [] => 0
  | (_, d) :: r => max (dp d) (dpk r)
end
abbrev okc : Str → Prop := Sg1 (· < 1114112)
def okk : Key → Prop
  | .inl i => -10 ^ 40 ≤ i ∧ i ≤ 10 ^ 40
  | .inr x => okc x
mutual
def okD : D → Prop
  | .non => True
  | .bl _ => True
  | .int i => -10 ^ 40 ≤ i ∧ i ≤ 10 ^ 40
  | .str x => okc x
  | .tup l => okL l
  | .lst l => okL l
  | .dct l => okK l
  | _ => False
def okL : List D → Prop
  | [] => True
  | d :: ds => okD d ∧ okL ds
def okK : List (Key × D) → Prop
  | [] => True
  | (k, d) :: r => okk k ∧ okD d ∧ okK r
end
theorem okL_mem : ∀ {l : List D}, okL l ↔ ∀ d ∈ l, okD d
  | [] => by simp [okL]
  | d :: ds => by simp [okL, okL_mem (l := ds)]
theorem szs_mem : ∀ {l : List D} {d : D}, d ∈ l → sz d + 2 ≤ szs l
  | _ :: _, _, .head _ => by simp only [szs]; omega
  | _ :: _, _, .tail _ m => by have := szs_mem m; simp only [szs]; omega
theorem dps_mem : ∀ {l : List D} {d : D}, d ∈ l → dp d ≤ dps l
  | _ :: _, _, .head _ => by simp only [dps]; omega
  | _ :: _, _, .tail _ m => by have := dps_mem m; simp only [dps]; omega
theorem szs_app : ∀ (a b : List D), szs (a ++ b) = szs a + szs b
  | [], b => by simp [szs]
  | d :: a, b => by simp only [List.cons_append, szs, szs_app a b]; omega
theorem dps_le : ∀ {l : List D} {n : Nat}, (∀ d ∈ l, dp d ≤ n) → dps l ≤ n
  | [], n, _ => Nat.zero_le _
  | d :: ds, n, h => by
    simp only [dps]
    have := h d (by simp)
    have := dps_le (l := ds) fun x m => h x (by simp [m])
    omega
theorem szs_le : ∀ {l : List D} {n : Nat}, (∀ d ∈ l, sz d ≤ n) → szs l ≤ l.length * (n + 2)
  | [], n, _ => Nat.zero_le _
  | d :: ds, n, h => by
    simp only [szs, List.length_cons]
    have h1 := h d (by simp)
    have := szs_le (l := ds) fun x m => h x (by simp [m])
    rw [Nat.add_mul]
    omega
theorem len_szs : ∀ l : List D, 2 * l.length ≤ szs l
  | [] => Nat.le_refl _
  | d :: ds => by have := len_szs ds; simp only [szs, List.length_cons]; omega
theorem int_show {i : Int} (h : -10 ^ 40 ≤ i ∧ i ≤ 10 ^ 40) : (PyData.int i).showable = true ∧ (PyData.int i).shown.length ≤ 50 := by
  have h1 : i.natAbs < 10 ^ 41 := Nat.lt_of_le_of_lt (m := 10 ^ 40) (by omega) (by decide)
  refine ⟨?_, ?_⟩
  · simp only [PyData.showable, decide_eq_true_eq]
    exact Nat.lt_of_lt_of_le (lg2 (m := 140) (Nat.lt_of_lt_of_le h1 (by decide)) (by decide)) (by decide)
  · simp only [PyData.shown]
    have := int_text_length_le10 (a := i) (k := 41) (by decide) h1
    rw [show (Str.ofString (toString i)).length = (toString i).length from PySem.ofString_length _]
    omega
theorem str_show {x : Str} (h : okc x) : (PyData.str x).shown.length ≤ 10 * x.length + 2 := by
  rw [show (PyData.str x).shown = reprText x by simp only [PyData.shown]]
  exact StrLaws.reprText_len x fun c m => Nat.lt_of_lt_of_le (h c m) (by decide)
theorem key_show {k : Key} (h : okk k) : (pyKey k).showable = true ∧ (pyKey k).depth = 0 ∧ (pyKey k).shown.length ≤ kz k := by
  cases k with
  | inl i => exact ⟨(int_show h).1, rfl, (int_show h).2⟩
  | inr x => exact ⟨rfl, rfl, str_show h⟩
mutual
theorem pyF_ok : ∀ d : D, okD d → ∃ p, pyF d = some p ∧ p.showable = true ∧ p.depth = dp d ∧ p.shown.length ≤ sz d
  | .non, _ => ⟨.none, rfl, rfl, rfl, by decide⟩
  | .bl b, _ => ⟨.bool b, rfl, rfl, rfl, by cases b <;> decide⟩
  | .int i, h => ⟨.int i, rfl, (int_show h).1, rfl, (int_show h).2⟩
  | .str x, h => ⟨.str x, rfl, rfl, rfl, str_show h⟩
  | .tup l, h => by
    obtain ⟨ps, e, h1, h2, h3⟩ := pyFs_ok l (by simpa only [okD] using h)
    refine ⟨.tuple ps, by simp only [pyF, e, Option.map_some], by simpa only [PyData.showable] using h1, by simp only [PyData.depth, dp, h2]; omega, ?_⟩
    simp only [PyData.shown, sz]
    have := PySem.tupleText_len_le (PyData.shownAll ps)
    omega
  | .lst l, h => by
    obtain ⟨ps, e, h1, h2, h3⟩ := pyFs_ok l (by simpa only [okD] using h)
    refine ⟨.list ps, by simp only [pyF, e, Option.map_some], by simpa only [PyData.showable] using h1, by simp only [PyData.depth, dp, h2]; omega, ?_⟩
    simp only [PyData.shown, sz]
    have := PySem.listText_len_le (PyData.shownAll ps)
    omega
  | .dct l, h => by
    obtain ⟨ps, e, h1, h2, h3⟩ := pyFk_ok l (by simpa only [okD] using h)
    refine ⟨.dict ps, by simp only [pyF, e, Option.map_some], by simpa only [PyData.showable] using h1, by simp only [PyData.depth, dp, h2]; omega, ?_⟩
    simp only [PyData.shown, sz]
    have := PySem.dictText_len_le (PyData.shownKv ps)
    omega
  | .kst _, h => by simp only [okD] at h
  | .ref _, h => by simp only [okD] at h
  | .st _, h => by simp only [okD] at h
theorem pyFs_ok : ∀ l : List D, okL l → ∃ ps, pyFs l = some ps ∧ PyData.showableAll ps = true ∧ PyData.depthAll ps = dps l ∧ ((PyData.shownAll ps).map (·.length)).sum + 2 * (PyData.shownAll ps).length ≤ szs l
  | [], _ => ⟨[], rfl, rfl, rfl, by simp [PyData.shownAll, szs]⟩
  | d :: ds, h => by
    simp only [okL] at h
    obtain ⟨p, e1, a1, a2, a3⟩ := pyF_ok d h.1
    obtain ⟨ps, e2, b1, b2, b3⟩ := pyFs_ok ds h.2
    refine ⟨p :: ps, by simp only [pyFs, e1, e2, Option.bind_some, Option.map_some], by simp only [PyData.showableAll, a1, b1, Bool.and_self], by simp only [PyData.depthAll, dps, a2, b2], ?_⟩
    simp only [PyData.shownAll, szs, List.map_cons, List.sum_cons, List.length_cons]
    omega
theorem pyFk_ok : ∀ l : List (Key × D), okK l → ∃ ps, pyFk l = some ps ∧ PyData.showableKv ps = true ∧ PyData.depthKv ps = dpk l ∧ ((PyData.shownKv ps).map (·.length)).sum + 2 * (PyData.shownKv ps).length ≤ szk l
  | [], _ => ⟨[], rfl, rfl, rfl, by simp [PyData.shownKv, szk]⟩
  | (k, d) :: ds, h => by
    simp only [okK] at h
    obtain ⟨p, e1, a1, a2, a3⟩ := pyF_ok d h.2.1
    obtain ⟨ps, e2, b1, b2, b3⟩ := pyFk_ok ds h.2.2
    obtain ⟨k1, k2, k3⟩ := key_show h.1
    refine ⟨(pyKey k, p) :: ps, by simp only [pyFk, e1, e2, Option.bind_some, Option.map_some], by simp only [PyData.showableKv, k1, a1, b1, Bool.and_self], by simp only [PyData.depthKv, dpk, k2, a2, b2]; omega, ?_⟩
    simp only [PyData.shownKv, szk, List.map_cons, List.sum_cons, List.length_cons, len_app]
    have : (": " : Str).length = 2 := rfl
    omega
end
mutual
theorem pyG_F (g : Nat → Option PyData) : ∀ (d : D), okD d → ∀ p, pyG g d = some p → pyF d = some p
  | .non, _, p, e => by simpa [pyF, pyG] using e
  | .bl _, _, p, e => by simpa [pyF, pyG] using e
  | .int _, _, p, e => by simpa [pyF, pyG] using e
  | .str _, _, p, e => by simpa [pyF, pyG] using e
  | .tup l, h, p, e => by
    simp only [pyG, Option.map_eq_some_iff] at e
    obtain ⟨ps, e1, rfl⟩ := e
    simp only [pyF, pyGs_F g l (by simpa only [okD] using h) ps e1, Option.map_some]
  | .lst l, h, p, e => by
    simp only [pyG, Option.map_eq_some_iff] at e
    obtain ⟨ps, e1, rfl⟩ := e
    simp only [pyF, pyGs_F g l (by simpa only [okD] using h) ps e1, Option.map_some]
  | .dct _, _, p, e => by simp [pyG] at e
  | .kst _, h, _, _ => by simp only [okD] at h
  | .ref _, h, _, _ => by simp only [okD] at h
  | .st _, h, _, _ => by simp only [okD] at h
theorem pyGs_F (g : Nat → Option PyData) : ∀ (l : List D), okL l → ∀ ps, pyGs g l = some ps → pyFs l = some ps
  | [], _, p, e => by simpa [pyFs, pyGs] using e
  | d :: ds, h, p, e => by
    simp only [okL] at h
    simp only [pyGs, Option.bind_eq_some_iff, Option.map_eq_some_iff] at e
    obtain ⟨q, e1, qs, e2, rfl⟩ := e
    simp only [pyFs, pyG_F g d h.1 q e1, pyGs_F g ds h.2 qs e2, Option.bind_some, Option.map_some]
end
theorem pyR_ok {d : D} (h : okD d) : ∃ p, (∀ g, pyR g d = some p) ∧ p.showable = true ∧ p.depth = dp d ∧ p.shown.length ≤ sz d := by
  obtain ⟨p, e, r⟩ := pyF_ok d h
  refine ⟨p, fun g => ?_, r⟩
  unfold pyR
  cases q : py g d with
  | none => exact e
  | some p' =>
    have := pyG_F _ d h p' q
    rw [e] at this
    exact this.symm
theorem shw_ok {d : D} (h : okD d) (h1 : sz d ≤ 1000000) (h2 : dp d ≤ 600) : Shw d (sz d) := by
  obtain ⟨p, e, a, b, c⟩ := pyR_ok h
  exact shw_py e a (by omega) c h1
/-! ### signs of a text, tested one by one -/
theorem sg_tl (z : Str) : DN.signs z = (tl z).map fun c => D.str ⟨#[c]⟩ := rfl
theorem sg_len {z : Str} (hz : z.length ≤ 100000) : (DN.signs z).length < 1000000 := by
  rw [sg_tl, List.length_map, ← len_tl]
  omega
theorem sg_len2 {z : Str} (hz : z.length ≤ 100000) : ([] : List D).length + (DN.signs z).length ≤ sizeLine := by have := sizeLine_ge; have := sg_len hz; simp; omega
theorem mapM_bl : ∀ l : List Bool, (l.map D.bl).mapM asB = some l
  | [] => rfl
  | b :: l => by rw [List.map_cons, List.mapM_cons, mapM_bl l]; rfl
theorem all_bl {h : LH} (l : List Bool) : cAll h [.lst (l.map .bl)] = some (.bl (l.all id)) := by
  show ((l.map D.bl).mapM asB).map _ = _
  rw [mapM_bl]
  rfl
theorem signs_all {h : LH} {i : Nat} {s : Sg} {z : Str} {e : EM} (p : Nat → Bool) (hz : z.length ≤ 100000) (he : ∀ c, e ((s.set i none).set i (some (.str ⟨#[c]⟩))) h = .ok (.bl (p c)) h) :
    ∃ l, lcS [i] (gNm i) bYes e s 1000000 (fixS (DN.signs z)) 0 [] h = .ok l h ∧ cAll h [.lst l] = some (.bl ((tl z).all p)) := by
  let f : D → D := fun d => match d with
    | .str x => .bl (p (x.cps.getD 0 0))
    | d => d
  refine ⟨(DN.signs z).map f, ?_, ?_⟩
  · rw [lc_fix (sg_len hz), lcL_filter (fun _ => true) f h (DN.signs z) [] (sg_len2 hz)]
    · rw [List.filter_eq_self.mpr (fun _ _ => rfl), List.nil_append]
    · intro d m
      rw [sg_tl, List.mem_map] at m
      obtain ⟨c, _, rfl⟩ := m
      exact ⟨_, rfl, rfl, fun _ => he c⟩
  · have e1 : (DN.signs z).map f = ((tl z).map p).map D.bl := by
      rw [sg_tl, List.map_map, List.map_map]
      rfl
    rw [e1, all_bl, List.all_map]
    rfl
theorem signs_none {h : LH} {i : Nat} {s : Sg} {z : Str} {t : BM} (q : Nat → Bool) (hi : i < s.length) (hz : z.length ≤ 100000) (ht : ∀ c, t ((s.set i none).set i (some (.str ⟨#[c]⟩))) h = .ok (q c) h) :
    ∃ l, lcS [i] (gNm i) t (mVar i) s 1000000 (fixS (DN.signs z)) 0 [] h = .ok l h ∧ oEq h (.lst l) (.lst []) = some (.bl ((tl z).all fun c => !q c)) := by
  let f : D → Bool := fun d => match d with
    | .str x => q (x.cps.getD 0 0)
    | _ => false
  refine ⟨(DN.signs z).filter f, ?_, ?_⟩
  · rw [lc_fix (sg_len hz), lcL_filter f id h (DN.signs z) [] (sg_len2 hz)]
    · rw [List.map_id, List.nil_append]
    · intro d m
      rw [sg_tl, List.mem_map] at m
      obtain ⟨c, _, rfl⟩ := m
      refine ⟨_, rfl, ht c, fun _ => ?_⟩
      have : ((wipeS s [i]).set i (some (D.str ⟨#[c]⟩)))[i]? = some (some (.str ⟨#[c]⟩)) := List.getElem?_set_self (by simpa [wipeS] using hi)
      rw [mVar_ap, this]
      rfl
  · rw [oEq_l0, sg_tl]
    congr 2
    induction tl z with
    | nil => rfl
    | cons c l ih =>
      rw [List.map_cons, List.filter_cons]
      have e1 : f (.str ⟨#[c]⟩) = q c := rfl
      rw [e1]
      cases hq : q c with
      | true => simp [hq]
      | false => simpa [hq] using ih
end DN
namespace DN
open PySem PySem.Spec PyProof.Rows L2
/-! ### which texts show as 'row' -/
theorem foldl_arr {f : Nat → List Nat} : ∀ (l : List Nat) (a : Array Nat), (l.foldl (fun out c => out ++ (f c).toArray) a).toList = a.toList ++ l.flatMap f
  | [], a => by simp
  | c :: l, a => by
    rw [List.foldl_cons, foldl_arr l]
    simp
theorem tl_repr (x : Str) : tl (reprText x) = reprQuote x :: (tl x).flatMap (Builtin.Str.reprChar (reprQuote x)) ++ [reprQuote x] := by
  show (((x.cps.foldl (fun out c => out ++ (Builtin.Str.reprChar (reprQuote x) c).toArray) #[reprQuote x]).push (reprQuote x))).toList = _
  rw [Array.toList_push, ← Array.foldl_toList, foldl_arr]
  rfl
theorem reprChar_one (q c : Nat) : Builtin.Str.reprChar q c = [c] ∨ 92 ∈ Builtin.Str.reprChar q c := by
  unfold Builtin.Str.reprChar
  dsimp only
  split
  · simp
  · split
    · simp
    · split
      · simp
      · split
        · simp
        · split
          · simp
          · split
            · simp
            · split <;> simp
theorem flat_plain (q : Nat) : ∀ (l : List Nat), 92 ∉ l.flatMap (Builtin.Str.reprChar q) → l.flatMap (Builtin.Str.reprChar q) = l
  | [], _ => rfl
  | c :: l, h => by
    rw [List.flatMap_cons, List.mem_append, not_or] at h
    rw [List.flatMap_cons, flat_plain q l h.2]
    rcases reprChar_one q c with e | e
    · rw [e]; rfl
    · exact (h.1 e).elim
theorem tl_inj {a b : Str} (h : tl a = tl b) : a = b := TL.ext_tl h
theorem repr_plain {x y : Str} (h : reprText x = reprText y) (hy : 92 ∉ tl (reprText y)) : tl x = tl y := by
  have e := congrArg tl h
  rw [tl_repr, tl_repr] at e
  have hy' := hy
  rw [tl_repr] at hy'
  have hx' := hy
  rw [← h, tl_repr] at hx'
  simp only [List.cons_append, List.mem_cons, List.mem_append, not_or] at hx' hy'
  rw [flat_plain _ _ hx'.2.1, flat_plain _ _ hy'.2.1] at e
  simp only [List.cons_append, List.cons.injEq] at e
  obtain ⟨e1, e2⟩ := e
  rw [e1] at e2
  exact List.append_cancel_right e2
theorem head_app {a b : Str} {c : Nat} {r : List Nat} (h : tl a = c :: r) : (tl (a ++ b)).head? = some c := by rw [tl_app, h]; rfl
theorem not_row {p : PyData} {d : D} (e : pyF d = some p) (hs : ∀ x, d ≠ .str x) : (p.shown == reprText "row") = false := by
  rw [beq_eq_false_iff_ne]
  intro h
  have hd : (tl p.shown).head? = some 39 := by rw [h]; decide +kernel
  have h39 : 39 ∈ tl p.shown := by
    cases q : tl p.shown with
    | nil => rw [q] at hd; cases hd
    | cons a r => rw [q] at hd; cases hd; simp
  cases d with
  | non => cases e; exact absurd hd (by decide +kernel)
  | bl b => cases e; cases b <;> exact absurd hd (by decide +kernel)
  | int i => cases e; exact PyProof.Rows.shown_int_free (k := 39) (by decide) i h39
  | str x => exact hs x rfl
  | tup l =>
    simp only [pyF, Option.map_eq_some_iff] at e
    obtain ⟨ps, _, rfl⟩ := e
    have : (tl (PyData.tuple ps).shown).head? = some 40 := by
      simp only [PyData.shown]
      unfold tupleText
      rw [tl_app, tl_app]
      rfl
    rw [this] at hd
    cases hd
  | lst l =>
    simp only [pyF, Option.map_eq_some_iff] at e
    obtain ⟨ps, _, rfl⟩ := e
    have : (tl (PyData.list ps).shown).head? = some 91 := by
      simp only [PyData.shown]
      rw [PySem.listText_eq_join]
      rw [tl_app, tl_app]
      rfl
    rw [this] at hd
    cases hd
  | dct l =>
    simp only [pyF, Option.map_eq_some_iff] at e
    obtain ⟨ps, _, rfl⟩ := e
    have : (tl (PyData.dict ps).shown).head? = some 123 := by
      simp only [PyData.shown]
      unfold dictText
      rw [tl_app, tl_app]
      rfl
    rw [this] at hd
    cases hd
  | _ => simp [pyF] at e
def isRowS : D → Bool
  | .str x => x == "row"
  | _ => false
theorem row_shown {p : PyData} {d : D} (e : pyF d = some p) : (p.shown == reprText "row") = isRowS d := by
  cases d with
  | str x =>
    cases e
    rw [show (PyData.str x).shown = reprText x by simp only [PyData.shown]]
    show _ = (x == ("row" : Str))
    rw [Bool.eq_iff_iff, beq_iff_eq, beq_iff_eq]
    exact ⟨fun h => tl_inj (repr_plain h (by decide +kernel)), fun h => by rw [h]⟩
  | _ => exact not_row e (fun x => by simp)
end DN
set_option maxHeartbeats 0
namespace Wk03
open PySem PySem.Spec PyProof.Rows L2 DN
def topS (i : Nat) : Stmt := PySem.Challenge.pw_everyway_k03_alike_by_sort.main.body.getD i (.Pass ⟨0, 0, 0, 0⟩)
abbrev s_is_row : Stmt := topS 2
abbrev s_are_alike : Stmt := topS 3
abbrev s__law_begun : Stmt := topS 5
abbrev s__law_dealt : Stmt := topS 6
abbrev s__law_pick : Stmt := topS 7
abbrev s__law_label : Stmt := topS 8
abbrev s__law_leaf : Stmt := topS 9
abbrev s__law_alike_looks : Stmt := topS 10
abbrev s__law_drawn : Stmt := topS 11
abbrev s__law_chain : Stmt := topS 12
abbrev s__law_wide : Stmt := topS 13
abbrev s__law_greatest : Stmt := topS 14
abbrev s__law_is_row : Stmt := topS 16
abbrev s__law_deemed : Stmt := topS 17
abbrev s__law_nearby : Stmt := topS 18
abbrev s__law_bent : Stmt := topS 19
abbrev s__law_made_anew : Stmt := topS 20
abbrev s__law_right : Stmt := topS 21
abbrev s_law : Stmt := topS 22
abbrev k_ROW : D := .str "row"
structure Tops (P : Program) (w : World) (K : PySem.W.Frag) (mg : Str → Option Value) : Prop where
  d_is_row : DefAt K mg "is_row" s_is_row
  d_are_alike : DefAt K mg "are_alike" s_are_alike
  d__law_begun : DefAt K mg "_law_begun" s__law_begun
  d__law_dealt : DefAt K mg "_law_dealt" s__law_dealt
  d__law_pick : DefAt K mg "_law_pick" s__law_pick
  d__law_label : DefAt K mg "_law_label" s__law_label
  d__law_leaf : DefAt K mg "_law_leaf" s__law_leaf
  d__law_alike_looks : DefAt K mg "_law_alike_looks" s__law_alike_looks
  d__law_drawn : DefAt K mg "_law_drawn" s__law_drawn
  d__law_chain : DefAt K mg "_law_chain" s__law_chain
  d__law_wide : DefAt K mg "_law_wide" s__law_wide
  d__law_greatest : DefAt K mg "_law_greatest" s__law_greatest
  d__law_is_row : DefAt K mg "_law_is_row" s__law_is_row
  d__law_deemed : DefAt K mg "_law_deemed" s__law_deemed
  d__law_nearby : DefAt K mg "_law_nearby" s__law_nearby
  d__law_bent : DefAt K mg "_law_bent" s__law_bent
  d__law_made_anew : DefAt K mg "_law_made_anew" s__law_made_anew
  d__law_right : DefAt K mg "_law_right" s__law_right
  d_law : DefAt K mg "law" s_law
  n_abs : mg "abs" = none
  n_all : mg "all" = none
  n_bool : mg "bool" = none
  n_int : mg "int" = none
  n_isinstance : mg "isinstance" = none
  n_len : mg "len" = none
  n_list : mg "list" = none
  n_range : mg "range" = none
  n_repr : mg "repr" = none
  n_str : mg "str" = none
  n_tuple : mg "tuple" = none
  n_zip : mg "zip" = none
  k_ROW : ∃ u, mg "ROW" = some u ∧ RelV (.str "row") u
section
variable {P : Program} {w : World} {K : PySem.W.Frag} {mg : Str → Option Value} {base : Heap} {k : Nat}
theorem sc_is_row : FnScope ["thing"] ["thing"] (defScope s_is_row) := ⟨rfl, rfl, rfl, by decide +kernel, rfl, by decide +kernel, by decide +kernel⟩
def b_is_row : FM := fnM 1 ((sSeq (sIf (mOrT (mNotT (mTest (mCall cIsi (aCons (mVar 0) (aCons (mC (.st (.ty "tuple"))) aNil))))) (mOrT (mTest (mOp oNe (mCall cLen (aCons (mVar 0) aNil)) (mC (.int 2)))) (mNotT (mTest (mCall cIsi (aCons (mOp oIx (mVar 0) (mC (.int 0))) (aCons (mC (.st (.ty "str"))) aNil)))))))
  (sRet (mC (.bl false)))
  sNil)
  (sRet (mAndV (mOp oEq (mOp oIx (mVar 0) (mC (.int 0))) (mC k_ROW)) (mCall cIsi (aCons (mOp oIx (mVar 0) (mC (.int 1))) (aCons (mC (.st (.ty "tuple"))) aNil)))))))
theorem ok_is_row (T : Tops P w K mg) : CalP P w K mg base (k + 1) "is_row" s_is_row ["thing"] (b_is_row) := DefAt.cal (N := ["thing"]) T.d_is_row sc_is_row (m := fun _ _ => .no) fun f cdv A outer s H E hr =>
    have tk : Takes (cxOf (L2.CX P w) P w K mg base ["thing"] "is_row" (defScope s_is_row) f cdv A outer s H E) (fun c d _ H => E c d H) := takes_of rfl rfl rfl rfl
    have pass_ : PassesOwn (model P w) (A.deeper (envOfC "is_row" (defScope s_is_row) s.heap.objs.size f cdv)) (envOfC "is_row" (defScope s_is_row) s.heap.objs.size f cdv) (cxOf (L2.CX P w) P w K mg base ["thing"] "is_row" (defScope s_is_row) f cdv A outer s H E).xe := passes_of rfl
    (ds_cons (ds_if (dt_w (dw_or (dt_not (dt_val (d_callB oc_isi (by rfl) T.n_isinstance (by decide +kernel) (da_cons (d_var (pv 0)) (da_cons (d_ty "tuple" (by rfl) T.n_tuple (by decide +kernel)) da_nil))))) (dw_or (dt_cmp (od_ne hr.u64) (d_callB oc_len (by rfl) T.n_len (by decide +kernel) (da_cons (d_var (pv 0)) da_nil)) d_int (nomark _)) (dw_or1 (dt_not (dt_val (d_callB oc_isi (by rfl) T.n_isinstance (by decide +kernel) (da_cons (d_ix (d_var (pv 0)) d_int) (da_cons (d_ty "str" (by rfl) T.n_str (by decide +kernel)) da_nil)))))))))
      (ds_one (ds_ret d_bl))
      ds_nil)
      (ds_one (ds_ret (d_and (d_cmp (od_eq hr.u64) (d_ix (d_var (pv 0)) d_int) (d_glob (by rfl) T.k_ROW) (nomark _)) (d_one (d_callB oc_isi (by rfl) T.n_isinstance (by decide +kernel) (da_cons (d_ix (d_var (pv 0)) d_int) (da_cons (d_ty "tuple" (by rfl) T.n_tuple (by decide +kernel)) da_nil))))))))
theorem sc_are_alike : FnScope ["one", "other", "part", "far"] ["one", "other"] (defScope s_are_alike) := ⟨rfl, rfl, rfl, by decide +kernel, rfl, by decide +kernel, by decide +kernel⟩
def b_are_alike (c_is_row c_are_alike : FM) : FM := fnM 4 ((sSeq (sIf (mAndT (mTest (mFn 1 c_is_row [] (aCons (mVar 0) aNil))) (mTest (mFn 1 c_is_row [] (aCons (mVar 1) aNil))))
  (sSeq (sIf (mTest (mOp oNe (mCall cLen (aCons (mOp oIx (mVar 0) (mC (.int 1))) aNil)) (mCall cLen (aCons (mOp oIx (mVar 1) (mC (.int 1))) aNil))))
  (sRet (mC (.bl false)))
  sNil)
  (sRet (mCall cAll (aCons (mLc 1000000 [2, 3] (iZipSM (aCons (mOp oIx (mVar 0) (mC (.int 1))) (aCons (mOp oIx (mVar 1) (mC (.int 1))) aNil)) (aCons (mC (.bl true)) aNil)) (gTp 2 (gCn (gNm 2) (gCn (gNm 3) gNl))) bYes (mFn 2 c_are_alike [] (aCons (mVar 2) (aCons (mVar 3) aNil)))) aNil))))
  sNil)
  (sSeq (sIf (mOrT (mTest (mFn 1 c_is_row [] (aCons (mVar 0) aNil))) (mTest (mFn 1 c_is_row [] (aCons (mVar 1) aNil))))
  (sRet (mC (.bl false)))
  sNil)
  (sRet (mAndV (mOp oEq (mCall cIsi (aCons (mVar 0) (aCons (mC (.st (.ty "bool"))) aNil))) (mCall cIsi (aCons (mVar 1) (aCons (mC (.st (.ty "bool"))) aNil)))) (mOp oEq (mVar 0) (mVar 1)))))))
theorem ok_are_alike {c_is_row : FM} (C_is_row : CalP P w K mg base k "is_row" s_is_row ["thing"] c_is_row) {c_are_alike : FM} (C_are_alike : CalP P w K mg base k "are_alike" s_are_alike ["one", "other"] c_are_alike) (T : Tops P w K mg) : CalP P w K mg base (k + 1) "are_alike" s_are_alike ["one", "other"] (b_are_alike c_is_row c_are_alike) := DefAt.cal (N := ["one", "other", "part", "far"]) T.d_are_alike sc_are_alike (m := fun _ _ => .no) fun f cdv A outer s H E hr =>
    have tk : Takes (cxOf (L2.CX P w) P w K mg base ["one", "other", "part", "far"] "are_alike" (defScope s_are_alike) f cdv A outer s H E) (fun c d _ H => E c d H) := takes_of rfl rfl rfl rfl
    have pass_ : PassesOwn (model P w) (A.deeper (envOfC "are_alike" (defScope s_are_alike) s.heap.objs.size f cdv)) (envOfC "are_alike" (defScope s_are_alike) s.heap.objs.size f cdv) (cxOf (L2.CX P w) P w K mg base ["one", "other", "part", "far"] "are_alike" (defScope s_are_alike) f cdv A outer s H E).xe := passes_of rfl
    (ds_cons (ds_if (dt_w (dw_and (dt_val (d_c1 (ps := ["thing"]) C_is_row hr tk (by rfl) (fun _ _ _ _ _ _ us hl => match us, hl with | [_], _ => rfl) (da_cons (d_var (pv 0)) da_nil))) (dw_and1 (dt_val (d_c1 (ps := ["thing"]) C_is_row hr tk (by rfl) (fun _ _ _ _ _ _ us hl => match us, hl with | [_], _ => rfl) (da_cons (d_var (pv 1)) da_nil))))))
      (ds_cons (ds_if (dt_cmp (od_ne hr.u64) (d_callB oc_len (by rfl) T.n_len (by decide +kernel) (da_cons (d_ix (d_var (pv 0)) d_int) da_nil)) (d_callB oc_len (by rfl) T.n_len (by decide +kernel) (da_cons (d_ix (d_var (pv 1)) d_int) da_nil)) (nomark _))
      (ds_one (ds_ret d_bl))
      ds_nil)
      (ds_one (ds_ret (d_callB (oc_all rfl) (by rfl) T.n_all (by decide +kernel) (da_cons (d_lc (own := [("part", 2), ("far", 3)]) fin_lst 1000000 rfl sc_are_alike.nd (di_zipS (by rfl) T.n_zip (da_cons (d_ix (d_var (pv 0)) d_int) (da_cons (d_ix (d_var (pv 1)) d_int) da_nil)) (dk_cons d_bl dk_nil)) (blkOk_by (own := [("part", 2), ("far", 3)]) (N := ["one", "other", "part", "far"]) (sc := defScope s_are_alike) (by decide +kernel)) (fun _ _ _ _ _ => (dg_tup rfl (dgs_cons (dg_name (i := 2) sc_are_alike.nd rfl (Or.inl rfl) (hv := by decide)) (dgs_cons (dg_name (i := 3) sc_are_alike.nd rfl (Or.inl rfl) (hv := by decide)) dgs_nil)))) (fun _ _ _ _ _ => dts_nil) (fun _ _ _ _ _ => (d_c1 (ps := ["one", "other"]) C_are_alike hr takes0 (by rfl) (fun _ _ _ _ _ _ us hl => match us, hl with | [_, _], _ => rfl) (da_cons (d_var (pv 2)) (da_cons (d_var (pv 3)) da_nil))))) da_nil)))))
      ds_nil)
      (ds_cons (ds_if (dt_w (dw_or (dt_val (d_c1 (ps := ["thing"]) C_is_row hr tk (by rfl) (fun _ _ _ _ _ _ us hl => match us, hl with | [_], _ => rfl) (da_cons (d_var (pv 0)) da_nil))) (dw_or1 (dt_val (d_c1 (ps := ["thing"]) C_is_row hr tk (by rfl) (fun _ _ _ _ _ _ us hl => match us, hl with | [_], _ => rfl) (da_cons (d_var (pv 1)) da_nil))))))
      (ds_one (ds_ret d_bl))
      ds_nil)
      (ds_one (ds_ret (d_and (d_cmp (od_eq hr.u64) (d_callB oc_isi (by rfl) T.n_isinstance (by decide +kernel) (da_cons (d_var (pv 0)) (da_cons (d_ty "bool" (by rfl) T.n_bool (by decide +kernel)) da_nil))) (d_callB oc_isi (by rfl) T.n_isinstance (by decide +kernel) (da_cons (d_var (pv 1)) (da_cons (d_ty "bool" (by rfl) T.n_bool (by decide +kernel)) da_nil))) (nomark _)) (d_one (d_cmp (od_eq hr.u64) (d_var (pv 0)) (d_var (pv 1)) (nomark _))))))))
theorem sc__law_begun : FnScope ["script", "cell", "cells", "total"] ["script"] (defScope s__law_begun) := ⟨rfl, rfl, rfl, by decide +kernel, rfl, by decide +kernel, by decide +kernel⟩
def b__law_begun : FM := fnM 4 ((sSeq (sPar 2 3 (aCons (mCall cList (aCons (mSl (mVar 0) oNo (oPart (mC (.int 63)))) aNil)) (aCons (mC (.int 50021)) aNil)))
  (sSeq (sFor 1000000 (iVal (mVar 2)) (gNm 1)
  (sSet 3 (mOp oMod (mOp oAdd (mOp oAdd (mOp oMul (mVar 3) (mC (.int 48271))) (mOp oMod (mVar 1) (mC (.int 2147483563)))) (mC (.int 17))) (mC (.int 2147483629)))))
  (sRet (mNew (aCons (mRevN (mVar 2)) (aCons (mVar 3) (aCons (mC (.int 0)) aNil))))))))
theorem ok__law_begun (T : Tops P w K mg) : CalP P w K mg base (k + 1) "_law_begun" s__law_begun ["script"] (b__law_begun) := DefAt.cal (N := ["script", "cell", "cells", "total"]) T.d__law_begun sc__law_begun (m := fun _ _ => .no) fun f cdv A outer s H E hr =>
    have tk : Takes (cxOf (L2.CX P w) P w K mg base ["script", "cell", "cells", "total"] "_law_begun" (defScope s__law_begun) f cdv A outer s H E) (fun c d _ H => E c d H) := takes_of rfl rfl rfl rfl
    have pass_ : PassesOwn (model P w) (A.deeper (envOfC "_law_begun" (defScope s__law_begun) s.heap.objs.size f cdv)) (envOfC "_law_begun" (defScope s__law_begun) s.heap.objs.size f cdv) (cxOf (L2.CX P w) P w K mg base ["script", "cell", "cells", "total"] "_law_begun" (defScope s__law_begun) f cdv A outer s H E).xe := passes_of rfl
    (ds_cons (ds_par (i := 2) (j := 3) rfl sc__law_begun.nd rfl rfl (by decide) rfl rfl (da_cons (d_callTy oc_list (by rfl) T.n_list (by decide +kernel) (da_cons (d_slice (d_var (pv 0)) do_no (do_some d_int)) da_nil)) (da_cons d_int da_nil)) rfl)
      (ds_cons (ds_for (vs := [1]) 1000000 pass_ rfl (di_val (d_var (pv 2))) (dg_name (i := 1) sc__law_begun.nd rfl (Or.inl rfl) (hv := by decide))
      (ds_one (ds_set (i := 3) sc__law_begun.nd rfl (.inl rfl) (d_op od_mod (d_op od_add (d_op od_add (d_op od_mul (d_var (pv 3)) d_int) (d_op od_mod (d_var (pv 1)) d_int)) d_int) d_int))))
      (ds_one (ds_ret (d_new (da_cons (d_revN (d_var (pv 2))) (da_cons (d_var (pv 3)) (da_cons d_int da_nil))))))))
theorem sc__law_dealt : FnScope ["hand", "lots", "cell", "mixed"] ["hand", "lots"] (defScope s__law_dealt) := ⟨rfl, rfl, rfl, by decide +kernel, rfl, by decide +kernel, by decide +kernel⟩
def b__law_dealt : FM := fnM 4 ((sSeq (sAsg (mOp oAdd (mOp oIx (mVar 0) (mC (.int 2))) (mC (.int 1))) (gSb (mVar 0) (mC (.int 2))))
  (sSeq (sSet 2 (mOp oIx (mVar 0) (mC (.int 1))))
  (sSeq (sIf (mTest (mOp oNe (mOp oIx (mVar 0) (mC (.int 0))) (mLst aNil)))
  (sSeq (sSet 2 (mMeth "list" gPop (mOp oIx (mVar 0) (mC (.int 0))) aNil))
  (sIf (mTest (mOp oGe (mVar 2) (mOp oPow (mC (.int 10)) (mC (.int 18)))))
  (sSeq (sExpr (mMeth "list" gAppend (mOp oIx (mVar 0) (mC (.int 0))) (aCons (mOp oDiv (mVar 2) (mVar 1)) aNil)))
  (sRet (mOp oMod (mVar 2) (mVar 1))))
  sNil))
  sNil)
  (sSeq (sSet 3 (mOp oAdd (mOp oAdd (mOp oAdd (mOp oMod (mVar 2) (mC (.int 2147483629))) (mOp oMul (mOp oMul (mC (.int 16807)) (mOp oIx (mVar 0) (mC (.int 2)))) (mOp oIx (mVar 0) (mC (.int 2))))) (mOp oIx (mVar 0) (mC (.int 1)))) (mC (.int 97))))
  (sSeq (sSet 3 (mOp oMod (mOp oMul (mVar 3) (mC (.int 48271))) (mC (.int 2147483647))))
  (sSeq (sSet 3 (mOp oMod (mOp oAdd (mOp oAdd (mOp oMul (mVar 3) (mVar 3)) (mOp oMul (mC (.int 69621)) (mOp oIx (mVar 0) (mC (.int 2))))) (mC (.int 11))) (mC (.int 2147483587))))
  (sRet (mOp oMod (mOp oDiv (mOp oMod (mOp oMul (mVar 3) (mOp oAdd (mOp oDiv (mVar 3) (mC (.int 5))) (mC (.int 39373)))) (mC (.int 2147483563))) (mC (.int 128))) (mVar 1))))))))))
theorem ok__law_dealt (T : Tops P w K mg) : CalP P w K mg base (k + 1) "_law_dealt" s__law_dealt ["hand", "lots"] (b__law_dealt) := DefAt.cal (N := ["hand", "lots", "cell", "mixed"]) T.d__law_dealt sc__law_dealt (m := fun _ _ => .no) fun f cdv A outer s H E hr =>
    have tk : Takes (cxOf (L2.CX P w) P w K mg base ["hand", "lots", "cell", "mixed"] "_law_dealt" (defScope s__law_dealt) f cdv A outer s H E) (fun c d _ H => E c d H) := takes_of rfl rfl rfl rfl
    have pass_ : PassesOwn (model P w) (A.deeper (envOfC "_law_dealt" (defScope s__law_dealt) s.heap.objs.size f cdv)) (envOfC "_law_dealt" (defScope s__law_dealt) s.heap.objs.size f cdv) (cxOf (L2.CX P w) P w K mg base ["hand", "lots", "cell", "mixed"] "_law_dealt" (defScope s__law_dealt) f cdv A outer s H E).xe := passes_of rfl
    (ds_cons (ds_asg (vs := []) (d_op od_add (d_ix (d_var (pv 0)) d_int) d_int) (dg_sub (W := WX0) (d_var (pv 0)) d_int))
      (ds_cons (ds_set (i := 2) sc__law_dealt.nd rfl (.inl rfl) (d_ix (d_var (pv 0)) d_int))
      (ds_cons (ds_if (dt_cmp (od_ne hr.u64) (d_ix (d_var (pv 0)) d_int) (d_lst da_nil) (nomark _))
      (ds_cons (ds_set (i := 2) sc__law_dealt.nd rfl (.inl rfl) (d_meth0 PySem.F.plainAttrs_list PySem.F.slot_list_pop PySem.F.type_list_pop mt_gPop (.inr (.inl rfl)) (d_ix (d_var (pv 0)) d_int)))
      (ds_one (ds_if (dt_cmp od_ge (d_var (pv 2)) (d_op od_pow d_int d_int) (nomark _))
      (ds_cons (ds_expr (d_meth PySem.F.plainAttrs_list PySem.F.slot_list_append PySem.F.type_list_append mt_gAppend (.inr (.inl rfl)) (d_ix (d_var (pv 0)) d_int) (da_cons (d_op od_div (d_var (pv 2)) (d_var (pv 1))) da_nil)))
      (ds_one (ds_ret (d_op od_mod (d_var (pv 2)) (d_var (pv 1))))))
      ds_nil)))
      ds_nil)
      (ds_cons (ds_set (i := 3) sc__law_dealt.nd rfl (.inl rfl) (d_op od_add (d_op od_add (d_op od_add (d_op od_mod (d_var (pv 2)) d_int) (d_op od_mul (d_op od_mul d_int (d_ix (d_var (pv 0)) d_int)) (d_ix (d_var (pv 0)) d_int))) (d_ix (d_var (pv 0)) d_int)) d_int))
      (ds_cons (ds_set (i := 3) sc__law_dealt.nd rfl (.inl rfl) (d_op od_mod (d_op od_mul (d_var (pv 3)) d_int) d_int))
      (ds_cons (ds_set (i := 3) sc__law_dealt.nd rfl (.inl rfl) (d_op od_mod (d_op od_add (d_op od_add (d_op od_mul (d_var (pv 3)) (d_var (pv 3))) (d_op od_mul d_int (d_ix (d_var (pv 0)) d_int))) d_int) d_int))
      (ds_one (ds_ret (d_op od_mod (d_op od_div (d_op od_mod (d_op od_mul (d_var (pv 3)) (d_op od_add (d_op od_div (d_var (pv 3)) d_int) d_int)) d_int) d_int) (d_var (pv 1)))))))))))
theorem sc__law_pick : FnScope ["hand", "some"] ["hand", "some"] (defScope s__law_pick) := ⟨rfl, rfl, rfl, by decide +kernel, rfl, by decide +kernel, by decide +kernel⟩
def b__law_pick (c__law_dealt : FM) : FM := fnM 2 ((sRet (mOp oIx (mVar 1) (mFn 2 c__law_dealt [] (aCons (mVar 0) (aCons (mCall cLen (aCons (mVar 1) aNil)) aNil))))))
theorem ok__law_pick {c__law_dealt : FM} (C__law_dealt : CalP P w K mg base k "_law_dealt" s__law_dealt ["hand", "lots"] c__law_dealt) (T : Tops P w K mg) : CalP P w K mg base (k + 1) "_law_pick" s__law_pick ["hand", "some"] (b__law_pick c__law_dealt) := DefAt.cal (N := ["hand", "some"]) T.d__law_pick sc__law_pick (m := fun _ _ => .no) fun f cdv A outer s H E hr =>
    have tk : Takes (cxOf (L2.CX P w) P w K mg base ["hand", "some"] "_law_pick" (defScope s__law_pick) f cdv A outer s H E) (fun c d _ H => E c d H) := takes_of rfl rfl rfl rfl
    have pass_ : PassesOwn (model P w) (A.deeper (envOfC "_law_pick" (defScope s__law_pick) s.heap.objs.size f cdv)) (envOfC "_law_pick" (defScope s__law_pick) s.heap.objs.size f cdv) (cxOf (L2.CX P w) P w K mg base ["hand", "some"] "_law_pick" (defScope s__law_pick) f cdv A outer s H E).xe := passes_of rfl
    (ds_one (ds_ret (d_ix (d_var (pv 1)) (d_c1 (ps := ["hand", "lots"]) C__law_dealt hr tk (by rfl) (fun _ _ _ _ _ _ us hl => match us, hl with | [_, _], _ => rfl) (da_cons (d_var (pv 0)) (da_cons (d_callB oc_len (by rfl) T.n_len (by decide +kernel) (da_cons (d_var (pv 1)) da_nil)) da_nil))))))
theorem sc__law_label : FnScope ["hand"] ["hand"] (defScope s__law_label) := ⟨rfl, rfl, rfl, by decide +kernel, rfl, by decide +kernel, by decide +kernel⟩
def b__law_label (c__law_pick : FM) : FM := fnM 1 ((sRet (mFn 2 c__law_pick [] (aCons (mVar 0) (aCons (mLst (aCons (mC (.str "a")) (aCons (mC (.str "z")) (aCons (mC (.str "row")) (aCons (mC (.str "none")) (aCons (mC (.str "thing")) (aCons (mC (.str "ab")) (aCons (mC (.str "abcdefgh")) (aCons (mC (.str "deed")) aNil))))))))) aNil)))))
theorem ok__law_label {c__law_pick : FM} (C__law_pick : CalP P w K mg base k "_law_pick" s__law_pick ["hand", "some"] c__law_pick) (T : Tops P w K mg) : CalP P w K mg base (k + 1) "_law_label" s__law_label ["hand"] (b__law_label c__law_pick) := DefAt.cal (N := ["hand"]) T.d__law_label sc__law_label (m := fun _ _ => .no) fun f cdv A outer s H E hr =>
    have tk : Takes (cxOf (L2.CX P w) P w K mg base ["hand"] "_law_label" (defScope s__law_label) f cdv A outer s H E) (fun c d _ H => E c d H) := takes_of rfl rfl rfl rfl
    have pass_ : PassesOwn (model P w) (A.deeper (envOfC "_law_label" (defScope s__law_label) s.heap.objs.size f cdv)) (envOfC "_law_label" (defScope s__law_label) s.heap.objs.size f cdv) (cxOf (L2.CX P w) P w K mg base ["hand"] "_law_label" (defScope s__law_label) f cdv A outer s H E).xe := passes_of rfl
    (ds_one (ds_ret (d_c1 (ps := ["hand", "some"]) C__law_pick hr tk (by rfl) (fun _ _ _ _ _ _ us hl => match us, hl with | [_, _], _ => rfl) (da_cons (d_var (pv 0)) (da_cons (d_lst (da_cons d_str (da_cons d_str (da_cons d_str (da_cons d_str (da_cons d_str (da_cons d_str (da_cons d_str (da_cons d_str da_nil))))))))) da_nil)))))
theorem sc__law_leaf : FnScope ["hand", "words", "some", "sort", "number", "word", "first", "last"] ["hand"] (defScope s__law_leaf) := ⟨rfl, rfl, rfl, by decide +kernel, rfl, by decide +kernel, by decide +kernel⟩
def b__law_leaf (c__law_pick c__law_dealt c__law_label : FM) : FM := fnM 8 ((sSeq (sPar 3 4 (aCons (mFn 2 c__law_dealt [] (aCons (mVar 0) (aCons (mC (.int 8)) aNil))) (aCons (mFn 2 c__law_pick [] (aCons (mVar 0) (aCons (mLst (aCons (mC (.int 0)) (aCons (mC (.int 1)) (aCons (mC (.int 9)) (aCons (mC (.int 10)) (aCons (mC (.int 99)) (aCons (mC (.int 100)) (aCons (mC (.int 999999)) (aCons (mOp oPow (mC (.int 10)) (mC (.int 15))) aNil))))))))) aNil))) aNil)))
  (sSeq (sSet 1 (mNew (aCons (mC (.str "")) (aCons (mC (.str "a")) (aCons (mC (.str "none")) (aCons (mC (.str "yes")) (aCons (mC (.str "row")) (aCons (mC (.str "thing")) (aCons (mC (.str "1")) (aCons (mC (.str "-1")) (aCons (mC (.str "[1 2]")) (aCons (mC (.str "#5")) (aCons (mC (.str "a.b")) (aCons (mC (.str "a:b")) (aCons (mC (.str " ")) aNil)))))))))))))))
  (sSeq (sExpr (mMeth "list" gAppend (mVar 1) (aCons (mC (.str "twentysigns of all ~")) aNil)))
  (sSeq (sPar3 5 6 7 (aCons (mFn 2 c__law_pick [] (aCons (mVar 0) (aCons (mVar 1) aNil))) (aCons (mFn 1 c__law_label [] (aCons (mVar 0) aNil)) (aCons (mFn 1 c__law_label [] (aCons (mVar 0) aNil)) aNil))))
  (sSeq (sSet 2 (mLst (aCons (mC .non) (aCons (mC (.bl true)) (aCons (mC (.bl false)) (aCons (mVar 4) (aCons (mOp oSub (mC (.int 0)) (mVar 4)) (aCons (mVar 5) (aCons (mTup (aCons (mC (.str "thing")) (aCons (mVar 4) aNil))) aNil)))))))))
  (sRet (mOp oIx (mOp oAdd (mVar 2) (mLst (aCons (mTup (aCons (mOp oIx (mLst (aCons (mC (.str "deed")) (aCons (mC (.str "kind")) aNil))) (mFn 2 c__law_dealt [] (aCons (mVar 0) (aCons (mC (.int 2)) aNil)))) (aCons (mVar 6) (aCons (mVar 7) aNil)))) aNil))) (mVar 3)))))))))
theorem ok__law_leaf {c__law_pick : FM} (C__law_pick : CalP P w K mg base k "_law_pick" s__law_pick ["hand", "some"] c__law_pick) {c__law_dealt : FM} (C__law_dealt : CalP P w K mg base k "_law_dealt" s__law_dealt ["hand", "lots"] c__law_dealt) {c__law_label : FM} (C__law_label : CalP P w K mg base k "_law_label" s__law_label ["hand"] c__law_label) (T : Tops P w K mg) : CalP P w K mg base (k + 1) "_law_leaf" s__law_leaf ["hand"] (b__law_leaf c__law_pick c__law_dealt c__law_label) := DefAt.cal (N := ["hand", "words", "some", "sort", "number", "word", "first", "last"]) T.d__law_leaf sc__law_leaf (m := fun _ _ => .no) fun f cdv A outer s H E hr =>
    have tk : Takes (cxOf (L2.CX P w) P w K mg base ["hand", "words", "some", "sort", "number", "word", "first", "last"] "_law_leaf" (defScope s__law_leaf) f cdv A outer s H E) (fun c d _ H => E c d H) := takes_of rfl rfl rfl rfl
    have pass_ : PassesOwn (model P w) (A.deeper (envOfC "_law_leaf" (defScope s__law_leaf) s.heap.objs.size f cdv)) (envOfC "_law_leaf" (defScope s__law_leaf) s.heap.objs.size f cdv) (cxOf (L2.CX P w) P w K mg base ["hand", "words", "some", "sort", "number", "word", "first", "last"] "_law_leaf" (defScope s__law_leaf) f cdv A outer s H E).xe := passes_of rfl
    (ds_cons (ds_par (i := 3) (j := 4) rfl sc__law_leaf.nd rfl rfl (by decide) rfl rfl (da_cons (d_c1 (ps := ["hand", "lots"]) C__law_dealt hr tk (by rfl) (fun _ _ _ _ _ _ us hl => match us, hl with | [_, _], _ => rfl) (da_cons (d_var (pv 0)) (da_cons d_int da_nil))) (da_cons (d_c1 (ps := ["hand", "some"]) C__law_pick hr tk (by rfl) (fun _ _ _ _ _ _ us hl => match us, hl with | [_, _], _ => rfl) (da_cons (d_var (pv 0)) (da_cons (d_lst (da_cons d_int (da_cons d_int (da_cons d_int (da_cons d_int (da_cons d_int (da_cons d_int (da_cons d_int (da_cons (d_op od_pow d_int d_int) da_nil))))))))) da_nil))) da_nil)) rfl)
      (ds_cons (ds_set (i := 1) sc__law_leaf.nd rfl (.inl rfl) (d_new (da_cons d_str (da_cons d_str (da_cons d_str (da_cons d_str (da_cons d_str (da_cons d_str (da_cons d_str (da_cons d_str (da_cons d_str (da_cons d_str (da_cons d_str (da_cons d_str (da_cons d_str da_nil)))))))))))))))
      (ds_cons (ds_expr (d_meth PySem.F.plainAttrs_list PySem.F.slot_list_append PySem.F.type_list_append mt_gAppend (.inr (.inl rfl)) (d_var (pv 1)) (da_cons d_str da_nil)))
      (ds_cons (ds_par3 (i := 5) (j := 6) (l := 7) rfl sc__law_leaf.nd rfl rfl rfl (by decide) (by decide) (by decide) rfl rfl rfl (da_cons (d_c1 (ps := ["hand", "some"]) C__law_pick hr tk (by rfl) (fun _ _ _ _ _ _ us hl => match us, hl with | [_, _], _ => rfl) (da_cons (d_var (pv 0)) (da_cons (d_var (pv 1)) da_nil))) (da_cons (d_c1 (ps := ["hand"]) C__law_label hr tk (by rfl) (fun _ _ _ _ _ _ us hl => match us, hl with | [_], _ => rfl) (da_cons (d_var (pv 0)) da_nil)) (da_cons (d_c1 (ps := ["hand"]) C__law_label hr tk (by rfl) (fun _ _ _ _ _ _ us hl => match us, hl with | [_], _ => rfl) (da_cons (d_var (pv 0)) da_nil)) da_nil))) rfl)
      (ds_cons (ds_set (i := 2) sc__law_leaf.nd rfl (.inl rfl) (d_lst (da_cons d_non (da_cons d_bl (da_cons d_bl (da_cons (d_var (pv 4)) (da_cons (d_op od_sub d_int (d_var (pv 4))) (da_cons (d_var (pv 5)) (da_cons (d_tup (da_cons d_str (da_cons (d_var (pv 4)) da_nil))) da_nil)))))))))
      (ds_one (ds_ret (d_ix (d_op od_add (d_var (pv 2)) (d_lst (da_cons (d_tup (da_cons (d_ix (d_lst (da_cons d_str (da_cons d_str da_nil))) (d_c1 (ps := ["hand", "lots"]) C__law_dealt hr tk (by rfl) (fun _ _ _ _ _ _ us hl => match us, hl with | [_, _], _ => rfl) (da_cons (d_var (pv 0)) (da_cons d_int da_nil)))) (da_cons (d_var (pv 6)) (da_cons (d_var (pv 7)) da_nil)))) da_nil))) (d_var (pv 3))))))))))
theorem sc__law_alike_looks : FnScope ["some", "parts"] [] (defScope s__law_alike_looks) := ⟨rfl, rfl, rfl, by decide +kernel, rfl, by decide +kernel, by decide +kernel⟩
def b__law_alike_looks : FM := fnM 2 ((sSeq (sSet 0 (mLst (aCons (mTup (aCons (mC (.str "thing")) (aCons (mC (.int 5)) aNil))) (aCons (mTup (aCons (mC (.str "deed")) (aCons (mC (.str "a")) (aCons (mC (.str "b")) aNil)))) (aCons (mTup (aCons (mC (.str "kind")) (aCons (mC (.str "a")) (aCons (mC (.str "b")) aNil)))) (aCons (mTup (aCons (mC (.str "row")) (aCons (mC (.int 5)) aNil))) (aCons (mTup (aCons (mC (.str "row")) (aCons (mTup (aCons (mC (.str "row")) (aCons (mTup aNil) aNil))) aNil))) (aCons (mTup (aCons (mC (.str "row")) aNil)) aNil))))))))
  (sRet (mLc 1000000 [1] (iVal (mVar 0)) (gNm 1) bYes (mTup (aCons (mC (.str "row")) (aCons (mVar 1) aNil)))))))
theorem ok__law_alike_looks (T : Tops P w K mg) : CalP P w K mg base (k + 1) "_law_alike_looks" s__law_alike_looks [] (b__law_alike_looks) := DefAt.cal (N := ["some", "parts"]) T.d__law_alike_looks sc__law_alike_looks (m := fun _ _ => .no) fun f cdv A outer s H E hr =>
    have tk : Takes (cxOf (L2.CX P w) P w K mg base ["some", "parts"] "_law_alike_looks" (defScope s__law_alike_looks) f cdv A outer s H E) (fun c d _ H => E c d H) := takes_of rfl rfl rfl rfl
    have pass_ : PassesOwn (model P w) (A.deeper (envOfC "_law_alike_looks" (defScope s__law_alike_looks) s.heap.objs.size f cdv)) (envOfC "_law_alike_looks" (defScope s__law_alike_looks) s.heap.objs.size f cdv) (cxOf (L2.CX P w) P w K mg base ["some", "parts"] "_law_alike_looks" (defScope s__law_alike_looks) f cdv A outer s H E).xe := passes_of rfl
    (ds_cons (ds_set (i := 0) sc__law_alike_looks.nd rfl (.inl rfl) (d_lst (da_cons (d_tup (da_cons d_str (da_cons d_int da_nil))) (da_cons (d_tup (da_cons d_str (da_cons d_str (da_cons d_str da_nil)))) (da_cons (d_tup (da_cons d_str (da_cons d_str (da_cons d_str da_nil)))) (da_cons (d_tup (da_cons d_str (da_cons d_int da_nil))) (da_cons (d_tup (da_cons d_str (da_cons (d_tup (da_cons d_str (da_cons (d_tup da_nil) da_nil))) da_nil))) (da_cons (d_tup (da_cons d_str da_nil)) da_nil))))))))
      (ds_one (ds_ret (d_lc (own := [("parts", 1)]) fin_lst 1000000 rfl sc__law_alike_looks.nd (di_val (d_var (pv 0))) (blkOk_by (own := [("parts", 1)]) (N := ["some", "parts"]) (sc := defScope s__law_alike_looks) (by decide +kernel)) (fun _ _ _ _ _ => (dg_name (i := 1) sc__law_alike_looks.nd rfl (Or.inl rfl) (hv := by decide))) (fun _ _ _ _ _ => dts_nil) (fun _ _ _ _ _ => (d_tup (da_cons d_str (da_cons (d_var (pv 1)) da_nil))))))))
theorem sc__law_drawn : FnScope ["hand", "deep", "way", "turn"] ["hand", "deep"] (defScope s__law_drawn) := ⟨rfl, rfl, rfl, by decide +kernel, rfl, by decide +kernel, by decide +kernel⟩
def b__law_drawn (c__law_dealt c__law_leaf c__law_pick c__law_alike_looks c__law_drawn : FM) : FM := fnM 4 ((sSeq (sSet 2 (mFn 2 c__law_dealt [] (aCons (mVar 0) (aCons (mC (.int 6)) aNil))))
  (sSeq (sIf (mOrT (mTest (mOp oEq (mVar 1) (mC (.int 0)))) (mTest (mOp oLt (mVar 2) (mC (.int 2)))))
  (sRet (mFn 1 c__law_leaf [] (aCons (mVar 0) aNil)))
  sNil)
  (sSeq (sIf (mTest (mOp oEq (mVar 2) (mC (.int 5))))
  (sRet (mFn 2 c__law_pick [] (aCons (mVar 0) (aCons (mFn 0 c__law_alike_looks [] aNil) aNil))))
  sNil)
  (sRet (mTup (aCons (mC (.str "row")) (aCons (mCall cTuple (aCons (mLc 1000000 [3] (iRng1 (aCons (mFn 2 c__law_dealt [] (aCons (mVar 0) (aCons (mC (.int 5)) aNil))) aNil)) (gNm 3) bYes (mFn 2 c__law_drawn [] (aCons (mVar 0) (aCons (mOp oSub (mVar 1) (mC (.int 1))) aNil)))) aNil)) aNil))))))))
theorem ok__law_drawn {c__law_dealt : FM} (C__law_dealt : CalP P w K mg base k "_law_dealt" s__law_dealt ["hand", "lots"] c__law_dealt) {c__law_leaf : FM} (C__law_leaf : CalP P w K mg base k "_law_leaf" s__law_leaf ["hand"] c__law_leaf) {c__law_pick : FM} (C__law_pick : CalP P w K mg base k "_law_pick" s__law_pick ["hand", "some"] c__law_pick) {c__law_alike_looks : FM} (C__law_alike_looks : CalP P w K mg base k "_law_alike_looks" s__law_alike_looks [] c__law_alike_looks) {c__law_drawn : FM} (C__law_drawn : CalP P w K mg base k "_law_drawn" s__law_drawn ["hand", "deep"] c__law_drawn) (T : Tops P w K mg) : CalP P w K mg base (k + 1) "_law_drawn" s__law_drawn ["hand", "deep"] (b__law_drawn c__law_dealt c__law_leaf c__law_pick c__law_alike_looks c__law_drawn) := DefAt.cal (N := ["hand", "deep", "way", "turn"]) T.d__law_drawn sc__law_drawn (m := fun _ _ => .no) fun f cdv A outer s H E hr =>
    have tk : Takes (cxOf (L2.CX P w) P w K mg base ["hand", "deep", "way", "turn"] "_law_drawn" (defScope s__law_drawn) f cdv A outer s H E) (fun c d _ H => E c d H) := takes_of rfl rfl rfl rfl
    have pass_ : PassesOwn (model P w) (A.deeper (envOfC "_law_drawn" (defScope s__law_drawn) s.heap.objs.size f cdv)) (envOfC "_law_drawn" (defScope s__law_drawn) s.heap.objs.size f cdv) (cxOf (L2.CX P w) P w K mg base ["hand", "deep", "way", "turn"] "_law_drawn" (defScope s__law_drawn) f cdv A outer s H E).xe := passes_of rfl
    (ds_cons (ds_set (i := 2) sc__law_drawn.nd rfl (.inl rfl) (d_c1 (ps := ["hand", "lots"]) C__law_dealt hr tk (by rfl) (fun _ _ _ _ _ _ us hl => match us, hl with | [_, _], _ => rfl) (da_cons (d_var (pv 0)) (da_cons d_int da_nil))))
      (ds_cons (ds_if (dt_w (dw_or (dt_cmp (od_eq hr.u64) (d_var (pv 1)) d_int (nomark _)) (dw_or1 (dt_cmp od_lt (d_var (pv 2)) d_int (nomark _)))))
      (ds_one (ds_ret (d_c1 (ps := ["hand"]) C__law_leaf hr tk (by rfl) (fun _ _ _ _ _ _ us hl => match us, hl with | [_], _ => rfl) (da_cons (d_var (pv 0)) da_nil))))
      ds_nil)
      (ds_cons (ds_if (dt_cmp (od_eq hr.u64) (d_var (pv 2)) d_int (nomark _))
      (ds_one (ds_ret (d_c1 (ps := ["hand", "some"]) C__law_pick hr tk (by rfl) (fun _ _ _ _ _ _ us hl => match us, hl with | [_, _], _ => rfl) (da_cons (d_var (pv 0)) (da_cons (d_c0 (ps := []) C__law_alike_looks hr tk (by rfl) (fun _ _ _ _ _ _ us hl => match us, hl with | [], _ => rfl)) da_nil)))))
      ds_nil)
      (ds_one (ds_ret (d_tup (da_cons d_str (da_cons (d_callTy oc_tuple (by rfl) T.n_tuple (by decide +kernel) (da_cons (d_lc (own := [("turn", 3)]) fin_lst 1000000 rfl sc__law_drawn.nd (di_rng1 (by rfl) T.n_range (da_cons (d_c1 (ps := ["hand", "lots"]) C__law_dealt hr tk (by rfl) (fun _ _ _ _ _ _ us hl => match us, hl with | [_, _], _ => rfl) (da_cons (d_var (pv 0)) (da_cons d_int da_nil))) da_nil)) (blkOk_by (own := [("turn", 3)]) (N := ["hand", "deep", "way", "turn"]) (sc := defScope s__law_drawn) (by decide +kernel)) (fun _ _ _ _ _ => (dg_name (i := 3) sc__law_drawn.nd rfl (Or.inl rfl) (hv := by decide))) (fun _ _ _ _ _ => dts_nil) (fun _ _ _ _ _ => (d_c1 (ps := ["hand", "deep"]) C__law_drawn hr takes0 (by rfl) (fun _ _ _ _ _ _ us hl => match us, hl with | [_, _], _ => rfl) (da_cons (d_var (pv 0)) (da_cons (d_op od_sub (d_var (pv 1)) d_int) da_nil))))) da_nil)) da_nil))))))))
theorem sc__law_chain : FnScope ["inner", "lots", "turn"] ["inner", "lots"] (defScope s__law_chain) := ⟨rfl, rfl, rfl, by decide +kernel, rfl, by decide +kernel, by decide +kernel⟩
def b__law_chain : FM := fnM 3 ((sSeq (sFor 1000000 (iRng1 (aCons (mVar 1) aNil)) (gNm 2)
  (sSet 0 (mTup (aCons (mC (.str "row")) (aCons (mTup (aCons (mVar 0) aNil)) aNil)))))
  (sRet (mVar 0))))
theorem ok__law_chain (T : Tops P w K mg) : CalP P w K mg base (k + 1) "_law_chain" s__law_chain ["inner", "lots"] (b__law_chain) := DefAt.cal (N := ["inner", "lots", "turn"]) T.d__law_chain sc__law_chain (m := fun _ _ => .no) fun f cdv A outer s H E hr =>
    have tk : Takes (cxOf (L2.CX P w) P w K mg base ["inner", "lots", "turn"] "_law_chain" (defScope s__law_chain) f cdv A outer s H E) (fun c d _ H => E c d H) := takes_of rfl rfl rfl rfl
    have pass_ : PassesOwn (model P w) (A.deeper (envOfC "_law_chain" (defScope s__law_chain) s.heap.objs.size f cdv)) (envOfC "_law_chain" (defScope s__law_chain) s.heap.objs.size f cdv) (cxOf (L2.CX P w) P w K mg base ["inner", "lots", "turn"] "_law_chain" (defScope s__law_chain) f cdv A outer s H E).xe := passes_of rfl
    (ds_cons (ds_for (vs := [2]) 1000000 pass_ rfl (di_rng1 (by rfl) T.n_range (da_cons (d_var (pv 1)) da_nil)) (dg_name (i := 2) sc__law_chain.nd rfl (Or.inl rfl) (hv := by decide))
      (ds_one (ds_set (i := 0) sc__law_chain.nd rfl (.inl rfl) (d_tup (da_cons d_str (da_cons (d_tup (da_cons (d_var (pv 0)) da_nil)) da_nil))))))
      (ds_one (ds_ret (d_var (pv 0)))))
theorem sc__law_wide : FnScope ["inner", "lots"] ["inner", "lots"] (defScope s__law_wide) := ⟨rfl, rfl, rfl, by decide +kernel, rfl, by decide +kernel, by decide +kernel⟩
def b__law_wide : FM := fnM 2 ((sRet (mTup (aCons (mC (.str "row")) (aCons (mOp oMul (mTup (aCons (mVar 0) aNil)) (mVar 1)) aNil)))))
theorem ok__law_wide (T : Tops P w K mg) : CalP P w K mg base (k + 1) "_law_wide" s__law_wide ["inner", "lots"] (b__law_wide) := DefAt.cal (N := ["inner", "lots"]) T.d__law_wide sc__law_wide (m := fun _ _ => .no) fun f cdv A outer s H E hr =>
    have tk : Takes (cxOf (L2.CX P w) P w K mg base ["inner", "lots"] "_law_wide" (defScope s__law_wide) f cdv A outer s H E) (fun c d _ H => E c d H) := takes_of rfl rfl rfl rfl
    have pass_ : PassesOwn (model P w) (A.deeper (envOfC "_law_wide" (defScope s__law_wide) s.heap.objs.size f cdv)) (envOfC "_law_wide" (defScope s__law_wide) s.heap.objs.size f cdv) (cxOf (L2.CX P w) P w K mg base ["inner", "lots"] "_law_wide" (defScope s__law_wide) f cdv A outer s H E).xe := passes_of rfl
    (ds_one (ds_ret (d_tup (da_cons d_str (da_cons (d_op od_mul (d_tup (da_cons (d_var (pv 0)) da_nil)) (d_var (pv 1))) da_nil)))))
theorem sc__law_greatest : FnScope ["hand", "found", "inner", "other_leaf"] ["hand"] (defScope s__law_greatest) := ⟨rfl, rfl, rfl, by decide +kernel, rfl, by decide +kernel, by decide +kernel⟩
def b__law_greatest (c__law_leaf c__law_chain c__law_wide : FM) : FM := fnM 4 ((sSeq (sPar 2 3 (aCons (mFn 1 c__law_leaf [] (aCons (mVar 0) aNil)) (aCons (mFn 1 c__law_leaf [] (aCons (mVar 0) aNil)) aNil)))
  (sSeq (sSet 1 (mLst (aCons (mFn 2 c__law_chain [] (aCons (mVar 2) (aCons (mC (.int 8)) aNil))) (aCons (mFn 2 c__law_wide [] (aCons (mVar 2) (aCons (mC (.int 40)) aNil))) (aCons (mFn 2 c__law_chain [] (aCons (mFn 2 c__law_wide [] (aCons (mVar 2) (aCons (mC (.int 40)) aNil))) (aCons (mC (.int 7)) aNil))) aNil)))))
  (sRet (mOp oAdd (mVar 1) (mLst (aCons (mTup (aCons (mC (.str "row")) (aCons (mOp oAdd (mOp oMul (mTup (aCons (mFn 2 c__law_wide [] (aCons (mVar 2) (aCons (mC (.int 38)) aNil))) aNil)) (mC (.int 5))) (mOp oMul (mTup (aCons (mVar 3) aNil)) (mC (.int 4)))) aNil))) aNil)))))))
theorem ok__law_greatest {c__law_leaf : FM} (C__law_leaf : CalP P w K mg base k "_law_leaf" s__law_leaf ["hand"] c__law_leaf) {c__law_chain : FM} (C__law_chain : CalP P w K mg base k "_law_chain" s__law_chain ["inner", "lots"] c__law_chain) {c__law_wide : FM} (C__law_wide : CalP P w K mg base k "_law_wide" s__law_wide ["inner", "lots"] c__law_wide) (T : Tops P w K mg) : CalP P w K mg base (k + 1) "_law_greatest" s__law_greatest ["hand"] (b__law_greatest c__law_leaf c__law_chain c__law_wide) := DefAt.cal (N := ["hand", "found", "inner", "other_leaf"]) T.d__law_greatest sc__law_greatest (m := fun _ _ => .no) fun f cdv A outer s H E hr =>
    have tk : Takes (cxOf (L2.CX P w) P w K mg base ["hand", "found", "inner", "other_leaf"] "_law_greatest" (defScope s__law_greatest) f cdv A outer s H E) (fun c d _ H => E c d H) := takes_of rfl rfl rfl rfl
    have pass_ : PassesOwn (model P w) (A.deeper (envOfC "_law_greatest" (defScope s__law_greatest) s.heap.objs.size f cdv)) (envOfC "_law_greatest" (defScope s__law_greatest) s.heap.objs.size f cdv) (cxOf (L2.CX P w) P w K mg base ["hand", "found", "inner", "other_leaf"] "_law_greatest" (defScope s__law_greatest) f cdv A outer s H E).xe := passes_of rfl
    (ds_cons (ds_par (i := 2) (j := 3) rfl sc__law_greatest.nd rfl rfl (by decide) rfl rfl (da_cons (d_c1 (ps := ["hand"]) C__law_leaf hr tk (by rfl) (fun _ _ _ _ _ _ us hl => match us, hl with | [_], _ => rfl) (da_cons (d_var (pv 0)) da_nil)) (da_cons (d_c1 (ps := ["hand"]) C__law_leaf hr tk (by rfl) (fun _ _ _ _ _ _ us hl => match us, hl with | [_], _ => rfl) (da_cons (d_var (pv 0)) da_nil)) da_nil)) rfl)
      (ds_cons (ds_set (i := 1) sc__law_greatest.nd rfl (.inl rfl) (d_lst (da_cons (d_c1 (ps := ["inner", "lots"]) C__law_chain hr tk (by rfl) (fun _ _ _ _ _ _ us hl => match us, hl with | [_, _], _ => rfl) (da_cons (d_var (pv 2)) (da_cons d_int da_nil))) (da_cons (d_c1 (ps := ["inner", "lots"]) C__law_wide hr tk (by rfl) (fun _ _ _ _ _ _ us hl => match us, hl with | [_, _], _ => rfl) (da_cons (d_var (pv 2)) (da_cons d_int da_nil))) (da_cons (d_c1 (ps := ["inner", "lots"]) C__law_chain hr tk (by rfl) (fun _ _ _ _ _ _ us hl => match us, hl with | [_, _], _ => rfl) (da_cons (d_c1 (ps := ["inner", "lots"]) C__law_wide hr tk (by rfl) (fun _ _ _ _ _ _ us hl => match us, hl with | [_, _], _ => rfl) (da_cons (d_var (pv 2)) (da_cons d_int da_nil))) (da_cons d_int da_nil))) da_nil)))))
      (ds_one (ds_ret (d_op od_add (d_var (pv 1)) (d_lst (da_cons (d_tup (da_cons d_str (da_cons (d_op od_add (d_op od_mul (d_tup (da_cons (d_c1 (ps := ["inner", "lots"]) C__law_wide hr tk (by rfl) (fun _ _ _ _ _ _ us hl => match us, hl with | [_, _], _ => rfl) (da_cons (d_var (pv 2)) (da_cons d_int da_nil))) da_nil)) d_int) (d_op od_mul (d_tup (da_cons (d_var (pv 3)) da_nil)) d_int)) da_nil))) da_nil)))))))
theorem sc__law_is_row : FnScope ["it"] ["it"] (defScope s__law_is_row) := ⟨rfl, rfl, rfl, by decide +kernel, rfl, by decide +kernel, by decide +kernel⟩
def b__law_is_row : FM := fnM 1 ((sRet (mAndV (mCall cIsi (aCons (mVar 0) (aCons (mC (.st (.ty "tuple"))) aNil))) (mOp oEq (mOp oIx (mVar 0) (mC (.int 0))) (mC (.str "row"))))))
theorem ok__law_is_row (T : Tops P w K mg) : CalP P w K mg base (k + 1) "_law_is_row" s__law_is_row ["it"] (b__law_is_row) := DefAt.cal (N := ["it"]) T.d__law_is_row sc__law_is_row (m := fun _ _ => .no) fun f cdv A outer s H E hr =>
    have tk : Takes (cxOf (L2.CX P w) P w K mg base ["it"] "_law_is_row" (defScope s__law_is_row) f cdv A outer s H E) (fun c d _ H => E c d H) := takes_of rfl rfl rfl rfl
    have pass_ : PassesOwn (model P w) (A.deeper (envOfC "_law_is_row" (defScope s__law_is_row) s.heap.objs.size f cdv)) (envOfC "_law_is_row" (defScope s__law_is_row) s.heap.objs.size f cdv) (cxOf (L2.CX P w) P w K mg base ["it"] "_law_is_row" (defScope s__law_is_row) f cdv A outer s H E).xe := passes_of rfl
    (ds_one (ds_ret (d_and (d_callB oc_isi (by rfl) T.n_isinstance (by decide +kernel) (da_cons (d_var (pv 0)) (da_cons (d_ty "tuple" (by rfl) T.n_tuple (by decide +kernel)) da_nil))) (d_one (d_cmp (od_eq hr.u64) (d_ix (d_var (pv 0)) d_int) d_str (nomark _))))))
theorem sc__law_deemed : FnScope ["it", "far", "twos", "part", "there"] ["it", "far"] (defScope s__law_deemed) := ⟨rfl, rfl, rfl, by decide +kernel, rfl, by decide +kernel, by decide +kernel⟩
def b__law_deemed (c__law_is_row c__law_deemed : FM) : FM := fnM 5 ((sSeq (sIf (mAndT (mTest (mFn 1 c__law_is_row [] (aCons (mVar 0) aNil))) (mTest (mFn 1 c__law_is_row [] (aCons (mVar 1) aNil))))
  (sSeq (sSet 2 (mLc 1000000 [3, 4] (iZipTM (aCons (mOp oIx (mVar 0) (mC (.int 1))) (aCons (mOp oIx (mVar 1) (mC (.int 1))) aNil))) (gTp 2 (gCn (gNm 3) (gCn (gNm 4) gNl))) bYes (mFn 2 c__law_deemed [] (aCons (mVar 3) (aCons (mVar 4) aNil)))))
  (sRet (mAndV (mOp oEq (mCall cLen (aCons (mOp oIx (mVar 0) (mC (.int 1))) aNil)) (mCall cLen (aCons (mOp oIx (mVar 1) (mC (.int 1))) aNil))) (mOp oNotIn (mC (.bl false)) (mVar 2)))))
  sNil)
  (sRet (mOp oEq (mCall cRepr (aCons (mVar 0) aNil)) (mCall cRepr (aCons (mVar 1) aNil))))))
theorem ok__law_deemed {c__law_is_row : FM} (C__law_is_row : CalP P w K mg base k "_law_is_row" s__law_is_row ["it"] c__law_is_row) {c__law_deemed : FM} (C__law_deemed : CalP P w K mg base k "_law_deemed" s__law_deemed ["it", "far"] c__law_deemed) (T : Tops P w K mg) : CalP P w K mg base (k + 1) "_law_deemed" s__law_deemed ["it", "far"] (b__law_deemed c__law_is_row c__law_deemed) := DefAt.cal (N := ["it", "far", "twos", "part", "there"]) T.d__law_deemed sc__law_deemed (m := fun _ _ => .no) fun f cdv A outer s H E hr =>
    have tk : Takes (cxOf (L2.CX P w) P w K mg base ["it", "far", "twos", "part", "there"] "_law_deemed" (defScope s__law_deemed) f cdv A outer s H E) (fun c d _ H => E c d H) := takes_of rfl rfl rfl rfl
    have pass_ : PassesOwn (model P w) (A.deeper (envOfC "_law_deemed" (defScope s__law_deemed) s.heap.objs.size f cdv)) (envOfC "_law_deemed" (defScope s__law_deemed) s.heap.objs.size f cdv) (cxOf (L2.CX P w) P w K mg base ["it", "far", "twos", "part", "there"] "_law_deemed" (defScope s__law_deemed) f cdv A outer s H E).xe := passes_of rfl
    (ds_cons (ds_if (dt_w (dw_and (dt_val (d_c1 (ps := ["it"]) C__law_is_row hr tk (by rfl) (fun _ _ _ _ _ _ us hl => match us, hl with | [_], _ => rfl) (da_cons (d_var (pv 0)) da_nil))) (dw_and1 (dt_val (d_c1 (ps := ["it"]) C__law_is_row hr tk (by rfl) (fun _ _ _ _ _ _ us hl => match us, hl with | [_], _ => rfl) (da_cons (d_var (pv 1)) da_nil))))))
      (ds_cons (ds_setLc (i := 2) (own := [("part", 3), ("there", 4)]) fin_lst 1000000 rfl sc__law_deemed.nd rfl rfl (sw_true rfl rfl rfl (by decide +kernel)) (di_zipT (by rfl) T.n_zip (da_cons (d_ix (d_var (pv 0)) d_int) (da_cons (d_ix (d_var (pv 1)) d_int) da_nil))) (blkOk_by (own := [("part", 3), ("there", 4)]) (N := ["it", "far", "twos", "part", "there"]) (sc := defScope s__law_deemed) (by decide +kernel)) (fun _ _ _ _ _ => (dg_tup rfl (dgs_cons (dg_name (i := 3) sc__law_deemed.nd rfl (Or.inl rfl) (hv := by decide)) (dgs_cons (dg_name (i := 4) sc__law_deemed.nd rfl (Or.inl rfl) (hv := by decide)) dgs_nil)))) (fun _ _ _ _ _ => dts_nil) (fun _ _ _ _ _ => (d_c1 (ps := ["it", "far"]) C__law_deemed hr takes0 (by rfl) (fun _ _ _ _ _ _ us hl => match us, hl with | [_, _], _ => rfl) (da_cons (d_var (pv 3)) (da_cons (d_var (pv 4)) da_nil)))))
      (ds_one (ds_ret (d_and (d_cmp (od_eq hr.u64) (d_callB oc_len (by rfl) T.n_len (by decide +kernel) (da_cons (d_ix (d_var (pv 0)) d_int) da_nil)) (d_callB oc_len (by rfl) T.n_len (by decide +kernel) (da_cons (d_ix (d_var (pv 1)) d_int) da_nil)) (nomark _)) (d_one (d_cmp (od_notIn hr.u65) d_bl (d_var (pv 2)) (by rfl)))))))
      ds_nil)
      (ds_one (ds_ret (d_cmp (od_eq hr.u64) (d_callB (oc_repr hr.u700 hr.gd) (by rfl) T.n_repr (by decide +kernel) (da_cons (d_var (pv 0)) da_nil)) (d_callB (oc_repr hr.u700 hr.gd) (by rfl) T.n_repr (by decide +kernel) (da_cons (d_var (pv 1)) da_nil)) (nomark _)))))
theorem sc__law_nearby : FnScope ["hand", "it", "some"] ["hand", "it"] (defScope s__law_nearby) := ⟨rfl, rfl, rfl, by decide +kernel, rfl, by decide +kernel, by decide +kernel⟩
def b__law_nearby (c__law_pick : FM) : FM := fnM 3 ((sSeq (sSet 2 (mLst (aCons (mVar 1) (aCons (mC .non) (aCons (mC (.bl true)) (aCons (mC (.bl false)) (aCons (mC (.int 0)) (aCons (mC (.int 1)) (aCons (mC (.str "none")) (aCons (mC (.str "1")) (aCons (mTup (aCons (mC (.str "thing")) (aCons (mC (.int 0)) aNil))) (aCons (mTup (aCons (mC (.str "thing")) (aCons (mC (.int 1)) aNil))) (aCons (mTup (aCons (mC (.str "row")) (aCons (mTup aNil) aNil))) aNil)))))))))))))
  (sSeq (sIf (mTest (mCall cIsi (aCons (mVar 1) (aCons (mC (.st (.ty "bool"))) aNil))))
  (sSet 2 (mOp oAdd (mVar 2) (mOp oMul (mLst (aCons (mCall cInt (aCons (mVar 1) aNil)) (aCons (mNotV (mVar 1)) aNil))) (mC (.int 3)))))
  (sIf (mTest (mCall cIsi (aCons (mVar 1) (aCons (mC (.st (.ty "int"))) aNil))))
  (sSet 2 (mOp oAdd (mVar 2) (mOp oMul (mLst (aCons (mOp oEq (mVar 1) (mC (.int 1))) (aCons (mOp oSub (mC (.int 0)) (mVar 1)) (aCons (mCall cStr (aCons (mVar 1) aNil)) (aCons (mTup (aCons (mC (.str "thing")) (aCons (mCall cAbs (aCons (mVar 1) aNil)) aNil))) aNil))))) (mC (.int 2)))))
  (sIf (mAndT (mTest (mCall cIsi (aCons (mVar 1) (aCons (mC (.st (.ty "tuple"))) aNil)))) (mTest (mOp oEq (mCall cLen (aCons (mVar 1) aNil)) (mC (.int 3)))))
  (sSet 2 (mOp oAdd (mVar 2) (mOp oMul (mLst (aCons (mOp oAdd (mTup (aCons (mC (.str "deed")) aNil)) (mSl (mVar 1) (oPart (mC (.int 1))) oNo)) (aCons (mOp oAdd (mTup (aCons (mC (.str "kind")) aNil)) (mSl (mVar 1) (oPart (mC (.int 1))) oNo)) (aCons (mOp oAdd (mSl (mVar 1) oNo (oPart (mC (.int 1)))) (mSl3 (mVar 1) oNo (oPart (mC (.int 0))) (oPart (mNeg (mC (.int 1)))))) (aCons (mTup (aCons (mC (.str "row")) (aCons (mVar 1) aNil))) aNil))))) (mC (.int 2)))))
  (sIf (mAndT (mTest (mCall cIsi (aCons (mVar 1) (aCons (mC (.st (.ty "tuple"))) aNil)))) (mTest (mOp oEq (mOp oIx (mVar 1) (mC (.int 0))) (mC (.str "thing")))))
  (sSet 2 (mOp oAdd (mVar 2) (mOp oMul (mLst (aCons (mOp oIx (mVar 1) (mC (.int 1))) (aCons (mTup (aCons (mC (.str "row")) (aCons (mVar 1) aNil))) (aCons (mTup (aCons (mC (.str "thing")) (aCons (mOp oAdd (mOp oMod (mOp oIx (mVar 1) (mC (.int 1))) (mOp oPow (mC (.int 10)) (mC (.int 15)))) (mC (.int 1))) aNil))) aNil)))) (mC (.int 2)))))
  (sIf (mTest (mCall cIsi (aCons (mVar 1) (aCons (mC (.st (.ty "str"))) aNil))))
  (sSet 2 (mOp oAdd (mVar 2) (mOp oMul (mLst (aCons (mSl (mVar 1) oNo (oPart (mNeg (mC (.int 1))))) (aCons (mMeth "str" gUpper (mVar 1) aNil) (aCons (mSl3 (mVar 1) oNo oNo (oPart (mNeg (mC (.int 1))))) aNil)))) (mC (.int 2)))))
  sNil)))))
  (sRet (mFn 2 c__law_pick [] (aCons (mVar 0) (aCons (mVar 2) aNil)))))))
theorem ok__law_nearby {c__law_pick : FM} (C__law_pick : CalP P w K mg base k "_law_pick" s__law_pick ["hand", "some"] c__law_pick) (T : Tops P w K mg) : CalP P w K mg base (k + 1) "_law_nearby" s__law_nearby ["hand", "it"] (b__law_nearby c__law_pick) := DefAt.cal (N := ["hand", "it", "some"]) T.d__law_nearby sc__law_nearby (m := fun _ _ => .no) fun f cdv A outer s H E hr =>
    have tk : Takes (cxOf (L2.CX P w) P w K mg base ["hand", "it", "some"] "_law_nearby" (defScope s__law_nearby) f cdv A outer s H E) (fun c d _ H => E c d H) := takes_of rfl rfl rfl rfl
    have pass_ : PassesOwn (model P w) (A.deeper (envOfC "_law_nearby" (defScope s__law_nearby) s.heap.objs.size f cdv)) (envOfC "_law_nearby" (defScope s__law_nearby) s.heap.objs.size f cdv) (cxOf (L2.CX P w) P w K mg base ["hand", "it", "some"] "_law_nearby" (defScope s__law_nearby) f cdv A outer s H E).xe := passes_of rfl
    (ds_cons (ds_set (i := 2) sc__law_nearby.nd rfl (.inl rfl) (d_lst (da_cons (d_var (pv 1)) (da_cons d_non (da_cons d_bl (da_cons d_bl (da_cons d_int (da_cons d_int (da_cons d_str (da_cons d_str (da_cons (d_tup (da_cons d_str (da_cons d_int da_nil))) (da_cons (d_tup (da_cons d_str (da_cons d_int da_nil))) (da_cons (d_tup (da_cons d_str (da_cons (d_tup da_nil) da_nil))) da_nil)))))))))))))
      (ds_cons (ds_if (dt_val (d_callB oc_isi (by rfl) T.n_isinstance (by decide +kernel) (da_cons (d_var (pv 1)) (da_cons (d_ty "bool" (by rfl) T.n_bool (by decide +kernel)) da_nil))))
      (ds_one (ds_set (i := 2) sc__law_nearby.nd rfl (.inl rfl) (d_op od_add (d_var (pv 2)) (d_op od_mul (d_lst (da_cons (d_callTy oc_int (by rfl) T.n_int (by decide +kernel) (da_cons (d_var (pv 1)) da_nil)) (da_cons (d_not (d_var (pv 1))) da_nil))) d_int))))
      (ds_one (ds_if (dt_val (d_callB oc_isi (by rfl) T.n_isinstance (by decide +kernel) (da_cons (d_var (pv 1)) (da_cons (d_ty "int" (by rfl) T.n_int (by decide +kernel)) da_nil))))
      (ds_one (ds_set (i := 2) sc__law_nearby.nd rfl (.inl rfl) (d_op od_add (d_var (pv 2)) (d_op od_mul (d_lst (da_cons (d_cmp (od_eq hr.u64) (d_var (pv 1)) d_int (nomark _)) (da_cons (d_op od_sub d_int (d_var (pv 1))) (da_cons (d_callTy oc_str (by rfl) T.n_str (by decide +kernel) (da_cons (d_var (pv 1)) da_nil)) (da_cons (d_tup (da_cons d_str (da_cons (d_callB oc_abs (by rfl) T.n_abs (by decide +kernel) (da_cons (d_var (pv 1)) da_nil)) da_nil))) da_nil))))) d_int))))
      (ds_one (ds_if (dt_w (dw_and (dt_val (d_callB oc_isi (by rfl) T.n_isinstance (by decide +kernel) (da_cons (d_var (pv 1)) (da_cons (d_ty "tuple" (by rfl) T.n_tuple (by decide +kernel)) da_nil)))) (dw_and1 (dt_cmp (od_eq hr.u64) (d_callB oc_len (by rfl) T.n_len (by decide +kernel) (da_cons (d_var (pv 1)) da_nil)) d_int (nomark _)))))
      (ds_one (ds_set (i := 2) sc__law_nearby.nd rfl (.inl rfl) (d_op od_add (d_var (pv 2)) (d_op od_mul (d_lst (da_cons (d_op od_add (d_tup (da_cons d_str da_nil)) (d_slice (d_var (pv 1)) (do_some d_int) do_no)) (da_cons (d_op od_add (d_tup (da_cons d_str da_nil)) (d_slice (d_var (pv 1)) (do_some d_int) do_no)) (da_cons (d_op od_add (d_slice (d_var (pv 1)) do_no (do_some d_int)) (d_slice3 (d_var (pv 1)) do_no (do_some d_int) (do_some (d_neg d_int)))) (da_cons (d_tup (da_cons d_str (da_cons (d_var (pv 1)) da_nil))) da_nil))))) d_int))))
      (ds_one (ds_if (dt_w (dw_and (dt_val (d_callB oc_isi (by rfl) T.n_isinstance (by decide +kernel) (da_cons (d_var (pv 1)) (da_cons (d_ty "tuple" (by rfl) T.n_tuple (by decide +kernel)) da_nil)))) (dw_and1 (dt_cmp (od_eq hr.u64) (d_ix (d_var (pv 1)) d_int) d_str (nomark _)))))
      (ds_one (ds_set (i := 2) sc__law_nearby.nd rfl (.inl rfl) (d_op od_add (d_var (pv 2)) (d_op od_mul (d_lst (da_cons (d_ix (d_var (pv 1)) d_int) (da_cons (d_tup (da_cons d_str (da_cons (d_var (pv 1)) da_nil))) (da_cons (d_tup (da_cons d_str (da_cons (d_op od_add (d_op od_mod (d_ix (d_var (pv 1)) d_int) (d_op od_pow d_int d_int)) d_int) da_nil))) da_nil)))) d_int))))
      (ds_one (ds_if (dt_val (d_callB oc_isi (by rfl) T.n_isinstance (by decide +kernel) (da_cons (d_var (pv 1)) (da_cons (d_ty "str" (by rfl) T.n_str (by decide +kernel)) da_nil))))
      (ds_one (ds_set (i := 2) sc__law_nearby.nd rfl (.inl rfl) (d_op od_add (d_var (pv 2)) (d_op od_mul (d_lst (da_cons (d_slice (d_var (pv 1)) do_no (do_some (d_neg d_int))) (da_cons (d_meth0 PySem.F.plainAttrs_str PySem.F.slot_str_upper PySem.F.type_str_upper mt_gUpper (.inl rfl) (d_var (pv 1))) (da_cons (d_slice3 (d_var (pv 1)) do_no do_no (do_some (d_neg d_int))) da_nil)))) d_int))))
      ds_nil)))))))))
      (ds_one (ds_ret (d_c1 (ps := ["hand", "some"]) C__law_pick hr tk (by rfl) (fun _ _ _ _ _ _ us hl => match us, hl with | [_, _], _ => rfl) (da_cons (d_var (pv 0)) (da_cons (d_var (pv 2)) da_nil)))))))
theorem sc__law_bent : FnScope ["hand", "it", "way", "at"] ["hand", "it"] (defScope s__law_bent) := ⟨rfl, rfl, rfl, by decide +kernel, rfl, by decide +kernel, by decide +kernel⟩
def b__law_bent (c__law_dealt c__law_is_row c__law_nearby c__law_bent : FM) : FM := fnM 4 ((sSeq (sSet 2 (mFn 2 c__law_dealt [] (aCons (mVar 0) (aCons (mC (.int 6)) aNil))))
  (sSeq (sIf (mOrT (mNotT (mTest (mFn 1 c__law_is_row [] (aCons (mVar 1) aNil)))) (mTest (mOp oEq (mOp oIx (mVar 1) (mC (.int 1))) (mTup aNil))))
  (sRet (mFn 2 c__law_nearby [] (aCons (mVar 0) (aCons (mVar 1) aNil))))
  sNil)
  (sSeq (sIf (mTest (mOp oEq (mVar 2) (mC (.int 0))))
  (sRet (mTup (aCons (mC (.str "row")) (aCons (mOp oIx (mLst (aCons (mSl (mOp oIx (mVar 1) (mC (.int 1))) (oPart (mC (.int 1))) oNo) (aCons (mSl3 (mOp oIx (mVar 1) (mC (.int 1))) oNo oNo (oPart (mNeg (mC (.int 1))))) (aCons (mSl (mOp oIx (mVar 1) (mC (.int 1))) oNo (oPart (mNeg (mC (.int 1))))) (aCons (mOp oAdd (mSl (mOp oIx (mVar 1) (mC (.int 1))) (oPart (mC (.int 1))) oNo) (mSl (mOp oIx (mVar 1) (mC (.int 1))) oNo (oPart (mC (.int 1))))) aNil))))) (mFn 2 c__law_dealt [] (aCons (mVar 0) (aCons (mC (.int 4)) aNil)))) aNil))))
  sNil)
  (sSeq (sSet 3 (mFn 2 c__law_dealt [] (aCons (mVar 0) (aCons (mCall cLen (aCons (mOp oIx (mVar 1) (mC (.int 1))) aNil)) aNil))))
  (sRet (mTup (aCons (mC (.str "row")) (aCons (mOp oAdd (mOp oAdd (mSl (mOp oIx (mVar 1) (mC (.int 1))) oNo (oPart (mVar 3))) (mTup (aCons (mFn 2 c__law_bent [] (aCons (mVar 0) (aCons (mOp oIx (mOp oIx (mVar 1) (mC (.int 1))) (mVar 3)) aNil))) aNil))) (mSl (mOp oIx (mVar 1) (mC (.int 1))) (oPart (mOp oAdd (mVar 3) (mC (.int 1)))) oNo)) aNil)))))))))
theorem ok__law_bent {c__law_dealt : FM} (C__law_dealt : CalP P w K mg base k "_law_dealt" s__law_dealt ["hand", "lots"] c__law_dealt) {c__law_is_row : FM} (C__law_is_row : CalP P w K mg base k "_law_is_row" s__law_is_row ["it"] c__law_is_row) {c__law_nearby : FM} (C__law_nearby : CalP P w K mg base k "_law_nearby" s__law_nearby ["hand", "it"] c__law_nearby) {c__law_bent : FM} (C__law_bent : CalP P w K mg base k "_law_bent" s__law_bent ["hand", "it"] c__law_bent) (T : Tops P w K mg) : CalP P w K mg base (k + 1) "_law_bent" s__law_bent ["hand", "it"] (b__law_bent c__law_dealt c__law_is_row c__law_nearby c__law_bent) := DefAt.cal (N := ["hand", "it", "way", "at"]) T.d__law_bent sc__law_bent (m := fun _ _ => .no) fun f cdv A outer s H E hr =>
    have tk : Takes (cxOf (L2.CX P w) P w K mg base ["hand", "it", "way", "at"] "_law_bent" (defScope s__law_bent) f cdv A outer s H E) (fun c d _ H => E c d H) := takes_of rfl rfl rfl rfl
    have pass_ : PassesOwn (model P w) (A.deeper (envOfC "_law_bent" (defScope s__law_bent) s.heap.objs.size f cdv)) (envOfC "_law_bent" (defScope s__law_bent) s.heap.objs.size f cdv) (cxOf (L2.CX P w) P w K mg base ["hand", "it", "way", "at"] "_law_bent" (defScope s__law_bent) f cdv A outer s H E).xe := passes_of rfl
    (ds_cons (ds_set (i := 2) sc__law_bent.nd rfl (.inl rfl) (d_c1 (ps := ["hand", "lots"]) C__law_dealt hr tk (by rfl) (fun _ _ _ _ _ _ us hl => match us, hl with | [_, _], _ => rfl) (da_cons (d_var (pv 0)) (da_cons d_int da_nil))))
      (ds_cons (ds_if (dt_w (dw_or (dt_not (dt_val (d_c1 (ps := ["it"]) C__law_is_row hr tk (by rfl) (fun _ _ _ _ _ _ us hl => match us, hl with | [_], _ => rfl) (da_cons (d_var (pv 1)) da_nil)))) (dw_or1 (dt_cmp (od_eq hr.u64) (d_ix (d_var (pv 1)) d_int) (d_tup da_nil) (nomark _)))))
      (ds_one (ds_ret (d_c1 (ps := ["hand", "it"]) C__law_nearby hr tk (by rfl) (fun _ _ _ _ _ _ us hl => match us, hl with | [_, _], _ => rfl) (da_cons (d_var (pv 0)) (da_cons (d_var (pv 1)) da_nil)))))
      ds_nil)
      (ds_cons (ds_if (dt_cmp (od_eq hr.u64) (d_var (pv 2)) d_int (nomark _))
      (ds_one (ds_ret (d_tup (da_cons d_str (da_cons (d_ix (d_lst (da_cons (d_slice (d_ix (d_var (pv 1)) d_int) (do_some d_int) do_no) (da_cons (d_slice3 (d_ix (d_var (pv 1)) d_int) do_no do_no (do_some (d_neg d_int))) (da_cons (d_slice (d_ix (d_var (pv 1)) d_int) do_no (do_some (d_neg d_int))) (da_cons (d_op od_add (d_slice (d_ix (d_var (pv 1)) d_int) (do_some d_int) do_no) (d_slice (d_ix (d_var (pv 1)) d_int) do_no (do_some d_int))) da_nil))))) (d_c1 (ps := ["hand", "lots"]) C__law_dealt hr tk (by rfl) (fun _ _ _ _ _ _ us hl => match us, hl with | [_, _], _ => rfl) (da_cons (d_var (pv 0)) (da_cons d_int da_nil)))) da_nil)))))
      ds_nil)
      (ds_cons (ds_set (i := 3) sc__law_bent.nd rfl (.inl rfl) (d_c1 (ps := ["hand", "lots"]) C__law_dealt hr tk (by rfl) (fun _ _ _ _ _ _ us hl => match us, hl with | [_, _], _ => rfl) (da_cons (d_var (pv 0)) (da_cons (d_callB oc_len (by rfl) T.n_len (by decide +kernel) (da_cons (d_ix (d_var (pv 1)) d_int) da_nil)) da_nil))))
      (ds_one (ds_ret (d_tup (da_cons d_str (da_cons (d_op od_add (d_op od_add (d_slice (d_ix (d_var (pv 1)) d_int) do_no (do_some (d_var (pv 3)))) (d_tup (da_cons (d_c1 (ps := ["hand", "it"]) C__law_bent hr tk (by rfl) (fun _ _ _ _ _ _ us hl => match us, hl with | [_, _], _ => rfl) (da_cons (d_var (pv 0)) (da_cons (d_ix (d_ix (d_var (pv 1)) d_int) (d_var (pv 3))) da_nil))) da_nil))) (d_slice (d_ix (d_var (pv 1)) d_int) (do_some (d_op od_add (d_var (pv 3)) d_int)) do_no)) da_nil)))))))))
theorem sc__law_made_anew : FnScope ["it", "part"] ["it"] (defScope s__law_made_anew) := ⟨rfl, rfl, rfl, by decide +kernel, rfl, by decide +kernel, by decide +kernel⟩
def b__law_made_anew (c__law_is_row c__law_made_anew : FM) : FM := fnM 2 ((sRet (mIf (mTest (mFn 1 c__law_is_row [] (aCons (mVar 0) aNil))) (mTup (aCons (mC (.str "row")) (aCons (mCall cTuple (aCons (mLc 1000000 [1] (iTupV (mOp oIx (mVar 0) (mC (.int 1)))) (gNm 1) bYes (mFn 1 c__law_made_anew [] (aCons (mVar 1) aNil))) aNil)) aNil))) (mVar 0))))
theorem ok__law_made_anew {c__law_is_row : FM} (C__law_is_row : CalP P w K mg base k "_law_is_row" s__law_is_row ["it"] c__law_is_row) {c__law_made_anew : FM} (C__law_made_anew : CalP P w K mg base k "_law_made_anew" s__law_made_anew ["it"] c__law_made_anew) (T : Tops P w K mg) : CalP P w K mg base (k + 1) "_law_made_anew" s__law_made_anew ["it"] (b__law_made_anew c__law_is_row c__law_made_anew) := DefAt.cal (N := ["it", "part"]) T.d__law_made_anew sc__law_made_anew (m := fun _ _ => .no) fun f cdv A outer s H E hr =>
    have tk : Takes (cxOf (L2.CX P w) P w K mg base ["it", "part"] "_law_made_anew" (defScope s__law_made_anew) f cdv A outer s H E) (fun c d _ H => E c d H) := takes_of rfl rfl rfl rfl
    have pass_ : PassesOwn (model P w) (A.deeper (envOfC "_law_made_anew" (defScope s__law_made_anew) s.heap.objs.size f cdv)) (envOfC "_law_made_anew" (defScope s__law_made_anew) s.heap.objs.size f cdv) (cxOf (L2.CX P w) P w K mg base ["it", "part"] "_law_made_anew" (defScope s__law_made_anew) f cdv A outer s H E).xe := passes_of rfl
    (ds_one (ds_ret (d_if (dt_val (d_c1 (ps := ["it"]) C__law_is_row hr tk (by rfl) (fun _ _ _ _ _ _ us hl => match us, hl with | [_], _ => rfl) (da_cons (d_var (pv 0)) da_nil))) (d_tup (da_cons d_str (da_cons (d_callTy oc_tuple (by rfl) T.n_tuple (by decide +kernel) (da_cons (d_lc (own := [("part", 1)]) fin_lst 1000000 rfl sc__law_made_anew.nd (di_tup (d_ix (d_var (pv 0)) d_int)) (blkOk_by (own := [("part", 1)]) (N := ["it", "part"]) (sc := defScope s__law_made_anew) (by decide +kernel)) (fun _ _ _ _ _ => (dg_name (i := 1) sc__law_made_anew.nd rfl (Or.inl rfl) (hv := by decide))) (fun _ _ _ _ _ => dts_nil) (fun _ _ _ _ _ => (d_c1 (ps := ["it"]) C__law_made_anew hr takes0 (by rfl) (fun _ _ _ _ _ _ us hl => match us, hl with | [_], _ => rfl) (da_cons (d_var (pv 1)) da_nil)))) da_nil)) da_nil))) (d_var (pv 0)))))
theorem sc__law_right : FnScope ["it", "far", "found", "kept", "due"] ["it", "far"] (defScope s__law_right) := ⟨rfl, rfl, rfl, by decide +kernel, rfl, by decide +kernel, by decide +kernel⟩
def b__law_right (c__law_deemed c_are_alike : FM) : FM := fnM 5 ((sSeq (sPar 3 4 (aCons (mCall cRepr (aCons (mTup (aCons (mVar 0) (aCons (mVar 1) aNil))) aNil)) (aCons (mFn 2 c__law_deemed [] (aCons (mVar 0) (aCons (mVar 1) aNil))) aNil)))
  (sSeq (sSet 2 (mLst (aCons (mFn 2 c_are_alike [] (aCons (mVar 0) (aCons (mVar 1) aNil))) (aCons (mFn 2 c_are_alike [] (aCons (mVar 1) (aCons (mVar 0) aNil))) (aCons (mFnK 2 0 2 [.kw 1, .kw 0] c_are_alike [] aNil (aCons (mVar 1) (aCons (mVar 0) aNil))) aNil)))))
  (sRet (mAndV (mOp oEq (mCall cRepr (aCons (mVar 2) aNil)) (mCall cRepr (aCons (mOp oMul (mLst (aCons (mVar 4) aNil)) (mC (.int 3))) aNil))) (mOp oEq (mCall cRepr (aCons (mTup (aCons (mVar 0) (aCons (mVar 1) aNil))) aNil)) (mVar 3)))))))
theorem ok__law_right {c__law_deemed : FM} (C__law_deemed : CalP P w K mg base k "_law_deemed" s__law_deemed ["it", "far"] c__law_deemed) {c_are_alike : FM} (C_are_alike : CalP P w K mg base k "are_alike" s_are_alike ["one", "other"] c_are_alike) (T : Tops P w K mg) : CalP P w K mg base (k + 1) "_law_right" s__law_right ["it", "far"] (b__law_right c__law_deemed c_are_alike) := DefAt.cal (N := ["it", "far", "found", "kept", "due"]) T.d__law_right sc__law_right (m := fun _ _ => .no) fun f cdv A outer s H E hr =>
    have tk : Takes (cxOf (L2.CX P w) P w K mg base ["it", "far", "found", "kept", "due"] "_law_right" (defScope s__law_right) f cdv A outer s H E) (fun c d _ H => E c d H) := takes_of rfl rfl rfl rfl
    have pass_ : PassesOwn (model P w) (A.deeper (envOfC "_law_right" (defScope s__law_right) s.heap.objs.size f cdv)) (envOfC "_law_right" (defScope s__law_right) s.heap.objs.size f cdv) (cxOf (L2.CX P w) P w K mg base ["it", "far", "found", "kept", "due"] "_law_right" (defScope s__law_right) f cdv A outer s H E).xe := passes_of rfl
    (ds_cons (ds_par (i := 3) (j := 4) rfl sc__law_right.nd rfl rfl (by decide) rfl rfl (da_cons (d_callB (oc_repr hr.u700 hr.gd) (by rfl) T.n_repr (by decide +kernel) (da_cons (d_tup (da_cons (d_var (pv 0)) (da_cons (d_var (pv 1)) da_nil))) da_nil)) (da_cons (d_c1 (ps := ["it", "far"]) C__law_deemed hr tk (by rfl) (fun _ _ _ _ _ _ us hl => match us, hl with | [_, _], _ => rfl) (da_cons (d_var (pv 0)) (da_cons (d_var (pv 1)) da_nil))) da_nil)) rfl)
      (ds_cons (ds_set (i := 2) sc__law_right.nd rfl (.inl rfl) (d_lst (da_cons (d_c1 (ps := ["one", "other"]) C_are_alike hr tk (by rfl) (fun _ _ _ _ _ _ us hl => match us, hl with | [_, _], _ => rfl) (da_cons (d_var (pv 0)) (da_cons (d_var (pv 1)) da_nil))) (da_cons (d_c1 (ps := ["one", "other"]) C_are_alike hr tk (by rfl) (fun _ _ _ _ _ _ us hl => match us, hl with | [_, _], _ => rfl) (da_cons (d_var (pv 1)) (da_cons (d_var (pv 0)) da_nil))) (da_cons (d_ck0 (ps := ["one", "other"]) (ks := ["other", "one"]) (ix := [.kw 1, .kw 0]) C_are_alike hr tk (by rfl) (fun _ _ _ _ _ _ ws hl => match ws, hl with | [_, _], _ => rfl) (dk_cons (d_var (pv 1)) (dk_cons (d_var (pv 0)) dk_nil))) da_nil)))))
      (ds_one (ds_ret (d_and (d_cmp (od_eq hr.u64) (d_callB (oc_repr hr.u700 hr.gd) (by rfl) T.n_repr (by decide +kernel) (da_cons (d_var (pv 2)) da_nil)) (d_callB (oc_repr hr.u700 hr.gd) (by rfl) T.n_repr (by decide +kernel) (da_cons (d_op od_mul (d_lst (da_cons (d_var (pv 4)) da_nil)) d_int) da_nil)) (nomark _)) (d_one (d_cmp (od_eq hr.u64) (d_callB (oc_repr hr.u700 hr.gd) (by rfl) T.n_repr (by decide +kernel) (da_cons (d_tup (da_cons (d_var (pv 0)) (da_cons (d_var (pv 1)) da_nil))) da_nil)) (d_var (pv 3)) (nomark _))))))))
theorem sc_law : FnScope ["script", "hand", "some", "great", "it", "plain", "near", "turn", "far"] ["script"] (defScope s_law) := ⟨rfl, rfl, rfl, by decide +kernel, rfl, by decide +kernel, by decide +kernel⟩
def b_law (c__law_begun c__law_drawn c__law_alike_looks c__law_greatest c__law_bent c__law_made_anew c__law_pick c__law_right c_are_alike : FM) : FM := fnM 9 ((sSeq (sSet 1 (mFn 1 c__law_begun [] (aCons (mVar 0) aNil)))
  (sSeq (sSet 2 (mOp oAdd (mLc 1000000 [7] (iRng1 (aCons (mC (.int 8)) aNil)) (gNm 7) bYes (mFn 2 c__law_drawn [] (aCons (mVar 1) (aCons (mC (.int 3)) aNil)))) (mFn 0 c__law_alike_looks [] aNil)))
  (sSeq (sSet 3 (mFn 1 c__law_greatest [] (aCons (mVar 1) aNil)))
  (sSeq (sFor 1000000 (iVal (mVar 2)) (gNm 4)
  (sSeq (sSet 6 (mNew (aCons (mFn 1 c__law_made_anew [] (aCons (mVar 4) aNil)) (aCons (mFn 2 c__law_bent [] (aCons (mVar 1) (aCons (mVar 4) aNil))) (aCons (mFn 2 c__law_bent [] (aCons (mVar 1) (aCons (mVar 4) aNil))) (aCons (mTup (aCons (mC (.str "row")) (aCons (mTup (aCons (mVar 4) aNil)) aNil))) aNil))))))
  (sSeq (sExpr (mMeth "list" gAppend (mVar 6) (aCons (mFn 2 c__law_pick [] (aCons (mVar 1) (aCons (mOp oAdd (mVar 2) (mVar 3)) aNil))) aNil)))
  (sIf (mOrT (mTest (mOp oNe (mLc 1000000 [8] (iVal (mVar 6)) (gNm 8) (mNotT (mTest (mFn 2 c__law_right [] (aCons (mVar 4) (aCons (mVar 8) aNil))))) (mVar 8)) (mLst aNil))) (mTest (mOp oIsNot (mFn 2 c_are_alike [] (aCons (mVar 4) (aCons (mOp oIx (mVar 6) (mC (.int 0))) aNil))) (mC (.bl true)))))
  (sRet (mC (.bl false)))
  sNil))))
  (sSeq (sFor 1000000 (iVal (mVar 3)) (gNm 4)
  (sSeq (sSet 6 (mCatN (mOp oAdd (mLst (aCons (mFn 1 c__law_made_anew [] (aCons (mVar 4) aNil)) aNil)) (mVar 3)) (mLst (aCons (mFn 2 c__law_pick [] (aCons (mVar 1) (aCons (mVar 2) aNil))) aNil))))
  (sIf (mOrT (mTest (mOp oNe (mLc 1000000 [8] (iVal (mVar 6)) (gNm 8) (mNotT (mTest (mFn 2 c__law_right [] (aCons (mVar 4) (aCons (mVar 8) aNil))))) (mVar 8)) (mLst aNil))) (mTest (mOp oIsNot (mFn 2 c_are_alike [] (aCons (mVar 4) (aCons (mOp oIx (mVar 6) (mC (.int 0))) aNil))) (mC (.bl true)))))
  (sRet (mC (.bl false)))
  sNil)))
  (sSeq (sSet 5 (mLst (aCons (mC .non) (aCons (mC (.bl true)) (aCons (mC (.bl false)) (aCons (mC (.int 0)) (aCons (mC (.int 1)) (aCons (mNeg (mC (.int 1))) (aCons (mC (.str "")) (aCons (mC (.str "0")) (aCons (mC (.str "1")) (aCons (mC (.str "none")) (aCons (mC (.str "yes")) (aCons (mTup (aCons (mC (.str "row")) (aCons (mTup aNil) aNil))) (aCons (mTup (aCons (mC (.str "row")) (aCons (mTup (aCons (mC (.int 0)) aNil)) aNil))) (aCons (mTup (aCons (mC (.str "row")) (aCons (mTup (aCons (mC (.bl false)) aNil)) aNil))) aNil))))))))))))))))
  (sSeq (sSet 5 (mOp oAdd (mVar 5) (mLst (aCons (mTup (aCons (mC (.str "thing")) (aCons (mC (.int 0)) aNil))) (aCons (mTup (aCons (mC (.str "thing")) (aCons (mC (.int 1)) aNil))) (aCons (mTup (aCons (mC (.str "deed")) (aCons (mC (.str "a")) (aCons (mC (.str "b")) aNil)))) (aCons (mTup (aCons (mC (.str "kind")) (aCons (mC (.str "a")) (aCons (mC (.str "b")) aNil)))) (aCons (mTup (aCons (mC (.str "deed")) (aCons (mC (.str "b")) (aCons (mC (.str "a")) aNil)))) aNil))))))))
  (sRet (mOp oEq (mLc 1000000 [4] (iVal (mVar 5)) (gNm 4) (mTest (mOp oNe (mLc 1000000 [8] (iVal (mVar 5)) (gNm 8) (mNotT (mTest (mFn 2 c__law_right [] (aCons (mVar 4) (aCons (mVar 8) aNil))))) (mVar 8)) (mLst aNil))) (mVar 4)) (mLst aNil)))))))))))
theorem ok_law {c__law_begun : FM} (C__law_begun : CalP P w K mg base k "_law_begun" s__law_begun ["script"] c__law_begun) {c__law_drawn : FM} (C__law_drawn : CalP P w K mg base k "_law_drawn" s__law_drawn ["hand", "deep"] c__law_drawn) {c__law_alike_looks : FM} (C__law_alike_looks : CalP P w K mg base k "_law_alike_looks" s__law_alike_looks [] c__law_alike_looks) {c__law_greatest : FM} (C__law_greatest : CalP P w K mg base k "_law_greatest" s__law_greatest ["hand"] c__law_greatest) {c__law_bent : FM} (C__law_bent : CalP P w K mg base k "_law_bent" s__law_bent ["hand", "it"] c__law_bent) {c__law_made_anew : FM} (C__law_made_anew : CalP P w K mg base k "_law_made_anew" s__law_made_anew ["it"] c__law_made_anew) {c__law_pick : FM} (C__law_pick : CalP P w K mg base k "_law_pick" s__law_pick ["hand", "some"] c__law_pick) {c__law_right : FM} (C__law_right : CalP P w K mg base k "_law_right" s__law_right ["it", "far"] c__law_right) {c_are_alike : FM} (C_are_alike : CalP P w K mg base k "are_alike" s_are_alike ["one", "other"] c_are_alike) (T : Tops P w K mg) : CalP P w K mg base (k + 1) "law" s_law ["script"] (b_law c__law_begun c__law_drawn c__law_alike_looks c__law_greatest c__law_bent c__law_made_anew c__law_pick c__law_right c_are_alike) := DefAt.cal (N := ["script", "hand", "some", "great", "it", "plain", "near", "turn", "far"]) T.d_law sc_law (m := fun _ _ => .no) fun f cdv A outer s H E hr =>
    have tk : Takes (cxOf (L2.CX P w) P w K mg base ["script", "hand", "some", "great", "it", "plain", "near", "turn", "far"] "law" (defScope s_law) f cdv A outer s H E) (fun c d _ H => E c d H) := takes_of rfl rfl rfl rfl
    have pass_ : PassesOwn (model P w) (A.deeper (envOfC "law" (defScope s_law) s.heap.objs.size f cdv)) (envOfC "law" (defScope s_law) s.heap.objs.size f cdv) (cxOf (L2.CX P w) P w K mg base ["script", "hand", "some", "great", "it", "plain", "near", "turn", "far"] "law" (defScope s_law) f cdv A outer s H E).xe := passes_of rfl
    (ds_cons (ds_set (i := 1) sc_law.nd rfl (.inr rfl) (d_c1 (ps := ["script"]) C__law_begun hr tk (by rfl) (fun _ _ _ _ _ _ us hl => match us, hl with | [_], _ => rfl) (da_cons (d_var (pv 0)) da_nil)))
      (ds_cons (ds_set (i := 2) sc_law.nd rfl (.inl rfl) (d_op od_add (d_lc (own := [("turn", 7)]) fin_lst 1000000 rfl sc_law.nd (di_rng1 (by rfl) T.n_range (da_cons d_int da_nil)) (blkOk_by (own := [("turn", 7)]) (N := ["script", "hand", "some", "great", "it", "plain", "near", "turn", "far"]) (sc := defScope s_law) (by decide +kernel)) (fun _ _ _ _ _ => (dg_name (i := 7) sc_law.nd rfl (Or.inl rfl) (hv := by decide))) (fun _ _ _ _ _ => dts_nil) (fun _ _ _ _ _ => (d_c1 (ps := ["hand", "deep"]) C__law_drawn hr takes0 (by rfl) (fun _ _ _ _ _ _ us hl => match us, hl with | [_, _], _ => rfl) (da_cons (d_var (pv 1)) (da_cons d_int da_nil))))) (d_c0 (ps := []) C__law_alike_looks hr tk (by rfl) (fun _ _ _ _ _ _ us hl => match us, hl with | [], _ => rfl))))
      (ds_cons (ds_set (i := 3) sc_law.nd rfl (.inl rfl) (d_c1 (ps := ["hand"]) C__law_greatest hr tk (by rfl) (fun _ _ _ _ _ _ us hl => match us, hl with | [_], _ => rfl) (da_cons (d_var (pv 1)) da_nil)))
      (ds_cons (ds_for (vs := [4]) 1000000 pass_ rfl (di_val (d_var (pv 2))) (dg_name (i := 4) sc_law.nd rfl (Or.inr rfl) (hv := by decide))
      (ds_cons (ds_set (i := 6) sc_law.nd rfl (.inl rfl) (d_new (da_cons (d_c1 (ps := ["it"]) C__law_made_anew hr tk (by rfl) (fun _ _ _ _ _ _ us hl => match us, hl with | [_], _ => rfl) (da_cons (d_var (pv 4)) da_nil)) (da_cons (d_c1 (ps := ["hand", "it"]) C__law_bent hr tk (by rfl) (fun _ _ _ _ _ _ us hl => match us, hl with | [_, _], _ => rfl) (da_cons (d_var (pv 1)) (da_cons (d_var (pv 4)) da_nil))) (da_cons (d_c1 (ps := ["hand", "it"]) C__law_bent hr tk (by rfl) (fun _ _ _ _ _ _ us hl => match us, hl with | [_, _], _ => rfl) (da_cons (d_var (pv 1)) (da_cons (d_var (pv 4)) da_nil))) (da_cons (d_tup (da_cons d_str (da_cons (d_tup (da_cons (d_var (pv 4)) da_nil)) da_nil))) da_nil))))))
      (ds_cons (ds_expr (d_meth PySem.F.plainAttrs_list PySem.F.slot_list_append PySem.F.type_list_append mt_gAppend (.inr (.inl rfl)) (d_var (pv 6)) (da_cons (d_c1 (ps := ["hand", "some"]) C__law_pick hr tk (by rfl) (fun _ _ _ _ _ _ us hl => match us, hl with | [_, _], _ => rfl) (da_cons (d_var (pv 1)) (da_cons (d_op od_add (d_var (pv 2)) (d_var (pv 3))) da_nil))) da_nil)))
      (ds_one (ds_if (dt_w (dw_or (dt_cmp (od_ne hr.u64) (d_lc (own := [("far", 8)]) fin_lst 1000000 rfl sc_law.nd (di_val (d_var (pv 6))) (blkOk_by (own := [("far", 8)]) (N := ["script", "hand", "some", "great", "it", "plain", "near", "turn", "far"]) (sc := defScope s_law) (by decide +kernel)) (fun _ _ _ _ _ => (dg_name (i := 8) sc_law.nd rfl (Or.inl rfl) (hv := by decide))) (fun _ _ _ _ _ => (dts_one (dt_not (dt_val (d_c1 (ps := ["it", "far"]) C__law_right hr takes0 (by rfl) (fun _ _ _ _ _ _ us hl => match us, hl with | [_, _], _ => rfl) (da_cons (d_var (pv 4)) (da_cons (d_var (pv 8)) da_nil))))))) (fun _ _ _ _ _ => (d_var (pv 8)))) (d_lst da_nil) (nomark _)) (dw_or1 (dt_cmp od_isNot (d_c1 (ps := ["one", "other"]) C_are_alike hr tk (by rfl) (fun _ _ _ _ _ _ us hl => match us, hl with | [_, _], _ => rfl) (da_cons (d_var (pv 4)) (da_cons (d_ix (d_var (pv 6)) d_int) da_nil))) d_bl (nomark _)))))
      (ds_one (ds_ret d_bl))
      ds_nil)))))
      (ds_cons (ds_for (vs := [4]) 1000000 pass_ rfl (di_val (d_var (pv 3))) (dg_name (i := 4) sc_law.nd rfl (Or.inr rfl) (hv := by decide))
      (ds_cons (ds_set (i := 6) sc_law.nd rfl (.inl rfl) (d_catN (d_op od_add (d_lst (da_cons (d_c1 (ps := ["it"]) C__law_made_anew hr tk (by rfl) (fun _ _ _ _ _ _ us hl => match us, hl with | [_], _ => rfl) (da_cons (d_var (pv 4)) da_nil)) da_nil)) (d_var (pv 3))) (d_lst (da_cons (d_c1 (ps := ["hand", "some"]) C__law_pick hr tk (by rfl) (fun _ _ _ _ _ _ us hl => match us, hl with | [_, _], _ => rfl) (da_cons (d_var (pv 1)) (da_cons (d_var (pv 2)) da_nil))) da_nil))))
      (ds_one (ds_if (dt_w (dw_or (dt_cmp (od_ne hr.u64) (d_lc (own := [("far", 8)]) fin_lst 1000000 rfl sc_law.nd (di_val (d_var (pv 6))) (blkOk_by (own := [("far", 8)]) (N := ["script", "hand", "some", "great", "it", "plain", "near", "turn", "far"]) (sc := defScope s_law) (by decide +kernel)) (fun _ _ _ _ _ => (dg_name (i := 8) sc_law.nd rfl (Or.inl rfl) (hv := by decide))) (fun _ _ _ _ _ => (dts_one (dt_not (dt_val (d_c1 (ps := ["it", "far"]) C__law_right hr takes0 (by rfl) (fun _ _ _ _ _ _ us hl => match us, hl with | [_, _], _ => rfl) (da_cons (d_var (pv 4)) (da_cons (d_var (pv 8)) da_nil))))))) (fun _ _ _ _ _ => (d_var (pv 8)))) (d_lst da_nil) (nomark _)) (dw_or1 (dt_cmp od_isNot (d_c1 (ps := ["one", "other"]) C_are_alike hr tk (by rfl) (fun _ _ _ _ _ _ us hl => match us, hl with | [_, _], _ => rfl) (da_cons (d_var (pv 4)) (da_cons (d_ix (d_var (pv 6)) d_int) da_nil))) d_bl (nomark _)))))
      (ds_one (ds_ret d_bl))
      ds_nil))))
      (ds_cons (ds_set (i := 5) sc_law.nd rfl (.inr rfl) (d_lst (da_cons d_non (da_cons d_bl (da_cons d_bl (da_cons d_int (da_cons d_int (da_cons (d_neg d_int) (da_cons d_str (da_cons d_str (da_cons d_str (da_cons d_str (da_cons d_str (da_cons (d_tup (da_cons d_str (da_cons (d_tup da_nil) da_nil))) (da_cons (d_tup (da_cons d_str (da_cons (d_tup (da_cons d_int da_nil)) da_nil))) (da_cons (d_tup (da_cons d_str (da_cons (d_tup (da_cons d_bl da_nil)) da_nil))) da_nil))))))))))))))))
      (ds_cons (ds_set (i := 5) sc_law.nd rfl (.inr rfl) (d_op od_add (d_var (pv 5)) (d_lst (da_cons (d_tup (da_cons d_str (da_cons d_int da_nil))) (da_cons (d_tup (da_cons d_str (da_cons d_int da_nil))) (da_cons (d_tup (da_cons d_str (da_cons d_str (da_cons d_str da_nil)))) (da_cons (d_tup (da_cons d_str (da_cons d_str (da_cons d_str da_nil)))) (da_cons (d_tup (da_cons d_str (da_cons d_str (da_cons d_str da_nil)))) da_nil))))))))
      (ds_one (ds_ret (d_cmp (od_eq hr.u64) (d_lc (own := [("it", 4)]) fin_lst 1000000 rfl sc_law.nd (di_val (d_var (pv 5))) (blkOk_by (own := [("it", 4)]) (N := ["script", "hand", "some", "great", "it", "plain", "near", "turn", "far"]) (sc := defScope s_law) (by decide +kernel)) (fun _ _ _ _ _ => (dg_name (i := 4) sc_law.nd rfl (Or.inr rfl) (hv := by decide))) (fun _ _ _ _ _ => (dts_one (dt_cmp (od_ne hr.u64) (d_lc (own := [("far", 8)]) fin_lst 1000000 rfl sc_law.nd (di_val (d_var (pv 5))) (blkOk_by (own := [("far", 8)]) (N := ["script", "hand", "some", "great", "it", "plain", "near", "turn", "far"]) (sc := relS { kind := .function, names := [(".0", .local), ("it", .cell), ("plain", .free)], isGenerator := false, isCoroutine := false } (defScope s_law)) (by decide +kernel)) (fun _ _ _ _ _ => (dg_name (i := 8) sc_law.nd rfl (Or.inl rfl) (hv := by decide))) (fun _ _ _ _ _ => (dts_one (dt_not (dt_val (d_c1 (ps := ["it", "far"]) C__law_right hr takes0 (by rfl) (fun _ _ _ _ _ _ us hl => match us, hl with | [_, _], _ => rfl) (da_cons (d_var (pv 4)) (da_cons (d_var (pv 8)) da_nil))))))) (fun _ _ _ _ _ => (d_var (pv 8)))) (d_lst da_nil) (nomark _)))) (fun _ _ _ _ _ => (d_var (pv 4)))) (d_lst da_nil) (nomark _)))))))))))
end
end Wk03
namespace Wk03
open PySem PySem.Spec PyProof.Rows L2 DN
theorem oNe_ii {h : LH} (i j : Int) : oNe h (.int i) (.int j) = some (.bl (!(i == j))) := by
  unfold oNe py
  simp only [pyG, Option.bind_some]
  rw [if_pos (by rfl)]
  simp only [PyData.eqv]
def isTup : D → Bool | .tup _ => true | _ => false
def isStr : D → Bool | .str _ => true | _ => false
def isInt : D → Bool | .int _ => true | .bl _ => true | _ => false
def isBl : D → Bool | .bl _ => true | _ => false
section
variable {h : LH} {d : D}
theorem isi_tup (ok : okD d) : cIsi h [d, .st (.ty "tuple")] = some (.bl (isTup d)) := by cases d <;> first | rfl | (simp only [okD] at ok)
theorem isi_str (ok : okD d) : cIsi h [d, .st (.ty "str")] = some (.bl (isStr d)) := by cases d <;> first | rfl | (simp only [okD] at ok)
theorem isi_int (ok : okD d) : cIsi h [d, .st (.ty "int")] = some (.bl (isInt d)) := by cases d <;> first | rfl | (simp only [okD] at ok)
theorem isi_bl (ok : okD d) : cIsi h [d, .st (.ty "bool")] = some (.bl (isBl d)) := by cases d <;> first | rfl | (simp only [okD] at ok)
theorem len_tup (l : List D) : cLen h [.tup l] = some (.int l.length) := rfl
theorem len_lst (l : List D) : cLen h [.lst l] = some (.int l.length) := rfl
theorem len_str {z : Str} (hz : z.length ≤ 1000000) : cLen h [.str z] = some (.int z.length) := by
  unfold cLen lenD
  simp [small_of hz]
/-- the parts of a row -/
def rowOf : D → Option (List D)
  | .tup [.str x, .tup l] => if x == "row" then some l else none
  | _ => none
theorem ix1 (a b : D) (l : List D) : oIx h (.tup (a :: b :: l)) (.int 1) = some b := by
  show atI (a :: b :: l) 1 = some b
  unfold atI ixN
  rw [if_pos (by decide), if_pos (by simp only [List.length_cons]; omega)]
  rfl
theorem ix2 (a b c : D) (l : List D) : oIx h (.tup (a :: b :: c :: l)) (.int 2) = some c := by
  show atI (a :: b :: c :: l) 2 = some c
  unfold atI ixN
  rw [if_pos (by decide), if_pos (by simp only [List.length_cons]; omega)]
  rfl
theorem ix0' (a : D) (l : List D) : oIx h (.tup (a :: l)) (.int 0) = some a := by
  show atI (a :: l) 0 = some a
  unfold atI ixN
  rw [if_pos (by decide), if_pos (by simp only [List.length_cons]; omega)]
  rfl
theorem is_row_ok (ok : okD d) : b_is_row [d] h = .ok (.bl (rowOf d).isSome) h := by
  unfold b_is_row
  cases d with
  | tup l =>
    have ok' : okL l := by simpa only [okD] using ok
    rcases l with _ | ⟨a, _ | ⟨b, _ | ⟨c, r⟩⟩⟩
    · simp [isi_tup ok, isTup, len_tup, oNe_ii, rowOf]
    · simp [isi_tup ok, isTup, len_tup, oNe_ii, rowOf]
    · simp only [okL] at ok'
      cases a with
      | str x =>
        by_cases e : x = "row"
        · subst e
          cases b <;> simp [isi_tup ok, isTup, len_tup, oNe_ii, rowOf, ix0', ix1, isi_str ok'.1, isStr, k_ROW, isi_tup ok'.2.1]
        · have e' : (x == ("row" : Str)) = false := beq_eq_false_iff_ne.mpr e
          cases b <;> simp [isi_tup ok, isTup, len_tup, oNe_ii, rowOf, ix0', ix1, isi_str ok'.1, isStr, k_ROW, isi_tup ok'.2.1, e', e]
      | _ => simp [isi_tup ok, isTup, len_tup, oNe_ii, rowOf, ix0', isi_str ok'.1, isStr]
    · have : ¬ ((r.length : Int) + 1 + 1 + 1 = 2) := by omega
      simp [isi_tup ok, isTup, len_tup, oNe_ii, rowOf, this]
  | _ => simp [isi_tup ok, isTup, rowOf]
abbrev lts : Str := "abcdefghijklmnopqrstuvwxyz"
def nm (z : Str) : Bool := decide (1 ≤ z.length) && (decide (z.length ≤ 8) && (tl z).all fun c => decide (c ∈ tl lts))
end
end Wk03
namespace Wk03
open PySem PySem.Spec PyProof.Rows L2 DN
theorem repr_of {h : LH} {d : D} (ok : okD d) (hz : sz d ≤ 1000000) (hd : dp d ≤ 600) : ∃ p, pyF d = some p ∧ cRepr h [d] = some (.str p.shown) := by
  obtain ⟨p, e, a, b, c⟩ := pyR_ok ok
  obtain ⟨p', e', _⟩ := pyF_ok d ok
  have : p' = p := by
    have z := e h
    unfold pyR at z
    cases q : py h d with
    | none => rw [q] at z; exact Option.some.inj (e'.symm.trans z)
    | some x =>
      rw [q] at z
      have := pyG_F _ d ok x q
      rw [e'] at this
      rw [Option.some.inj this]
      exact Option.some.inj z
  subst this
  refine ⟨p', e', ?_⟩
  show (showD h d).map D.str = _
  unfold showD
  rw [e h, Option.bind_some, a, decide_eq_true (by omega : p'.depth ≤ 600), small_of (by omega)]
  rfl
/-- a comprehension that only maps -/
theorem lc_map {h : LH} {i : Nat} {s : Sg} {e : EM} {l : List D} (f : D → D) (hl : l.length ≤ 900000) (he : ∀ d ∈ l, e ((s.set i none).set i (some d)) h = .ok (f d) h) : lcS [i] (gNm i) bYes e s 1000000 (fixS l) 0 [] h = .ok (l.map f) h := by
  rw [lc_fix (by omega), lcL_filter (fun _ => true) f h l [] (by have := sizeLine_ge; simp; omega)]
  · rw [List.filter_eq_self.mpr (fun _ _ => rfl), List.nil_append]
  · exact fun d m => ⟨_, rfl, rfl, fun _ => he d m⟩
theorem lc_sel {h : LH} {i : Nat} {s : Sg} {t : BM} {l : List D} (p : D → Bool) (hi : i < s.length) (hl : l.length ≤ 900000) (ht : ∀ d ∈ l, t ((s.set i none).set i (some d)) h = .ok (p d) h) : lcS [i] (gNm i) t (mVar i) s 1000000 (fixS l) 0 [] h = .ok (l.filter p) h := by
  rw [lc_fix (by omega), lcL_filter p id h l [] (by have := sizeLine_ge; simp; omega)]
  · rw [List.map_id, List.nil_append]
  · intro d m
    refine ⟨_, rfl, ht d m, fun _ => ?_⟩
    have : ((wipeS s [i]).set i (some d))[i]? = some (some d) := List.getElem?_set_self (by simpa [wipeS] using hi)
    rw [mVar_ap, this]
    rfl
end Wk03
namespace Wk03
open PySem PySem.Spec PyProof.Rows L2 DN
/-! leaves and what they show as -/
def plc (c : Nat) : Prop := 32 ≤ c ∧ c ≤ 126 ∧ c ≠ 39 ∧ c ≠ 92
def plain (z : Str) : Prop := z.length ≤ 40 ∧ ∀ c ∈ tl z, plc c
inductive LeafQ (p : Str → Prop) : D → Prop where
  | non : LeafQ p .non
  | bl (b : Bool) : LeafQ p (.bl b)
  | int (i : Int) (h : i.natAbs < 10 ^ 17) : LeafQ p (.int i)
  | str (z : Str) (h : p z) : LeafQ p (.str z)
  | thing (i : Int) (h : i.natAbs < 10 ^ 17) : LeafQ p (.tup [.str "thing", .int i])
  | named (k a b : Str) (hk : k = "deed" ∨ k = "kind") (ha : nm a = true) (hb : nm b = true) : LeafQ p (.tup [.str k, .str a, .str b])
inductive W (p : Str → Prop) : Nat → D → Prop where
  | leaf {k : Nat} {d : D} (g : LeafQ p d) : W p k d
  | row {k : Nat} {l : List D} (h : ∀ x ∈ l, W p k x) : W p (k + 1) (.tup [.str "row", .tup l])
theorem W.le {p : Str → Prop} {k : Nat} {d : D} (h : W p k d) : ∀ {m : Nat}, k ≤ m → W p m d := by
  induction h with
  | leaf g => exact fun _ => .leaf g
  | row h ih => exact fun {m} hm => match m, hm with
    | m + 1, hm => .row fun x hx => ih x hx (by omega)
theorem LeafQ.imp {p q : Str → Prop} (hq : ∀ z, p z → q z) {d : D} (h : LeafQ p d) : LeafQ q d := by
  cases h with
  | non => exact .non
  | bl b => exact .bl b
  | int i h => exact .int i h
  | str z h => exact .str z (hq z h)
  | thing i h => exact .thing i h
  | named k a b hk ha hb => exact .named k a b hk ha hb
theorem W.imp {p q : Str → Prop} (hq : ∀ z, p z → q z) {k : Nat} {d : D} (h : W p k d) : W q k d := by
  induction h with
  | leaf g => exact .leaf (g.imp hq)
  | row h ih => exact .row ih
theorem rowOf_row (l : List D) : rowOf (.tup [.str "row", .tup l]) = some l := by
  unfold rowOf
  simp
theorem LeafQ.row {p : Str → Prop} {d : D} (h : LeafQ p d) : rowOf d = none := by
  cases h <;> first | rfl | (unfold rowOf; rfl)
theorem okc_of {z : Str} (h : ((tl z).all fun c => decide (c < 1114112)) = true) : okc z := fun c m => of_decide_eq_true (List.all_eq_true.mp h c m)
theorem okc_row : okc "row" := okc_of (by decide +kernel)
theorem okc_thing : okc "thing" := okc_of (by decide +kernel)
theorem okc_k {k : Str} (h : k = "deed" ∨ k = "kind") : okc k := by rcases h with rfl | rfl <;> exact okc_of (by decide +kernel)
theorem plain_ok {z : Str} (h : plain z) : okc z := fun c m => by have := h.2 c m; unfold plc at this; show c < 1114112; omega
theorem lts_mem {c : Nat} (h : c ∈ tl lts) : 97 ≤ c ∧ c ≤ 122 := by
  have : (tl lts).all (fun c => decide (97 ≤ c ∧ c ≤ 122)) = true := by decide +kernel
  have := List.all_eq_true.mp this c h
  exact of_decide_eq_true this
theorem nm_parts {a : Str} (h : nm a = true) : a.length ≤ 8 ∧ ∀ c ∈ tl a, 97 ≤ c ∧ c ≤ 122 := by
  unfold nm at h
  rw [Bool.and_eq_true, Bool.and_eq_true, decide_eq_true_eq, decide_eq_true_eq, List.all_eq_true] at h
  exact ⟨h.2.1, fun c m => lts_mem (of_decide_eq_true (h.2.2 c m))⟩
theorem nm_plain {a : Str} (h : nm a = true) : plain a := ⟨by have := (nm_parts h).1; omega, fun c m => by have := (nm_parts h).2 c m; unfold plc; omega⟩
theorem LeafQ.ok {d : D} (h : LeafQ plain d) : okD d := by
  cases h with
  | non => trivial
  | bl b => trivial
  | int i h => exact ⟨by omega, by omega⟩
  | str z h => exact plain_ok h
  | thing i h => exact ⟨okc_thing, ⟨by omega, by omega⟩, trivial⟩
  | named k a b hk ha hb => exact ⟨okc_k hk, plain_ok (nm_plain ha), plain_ok (nm_plain hb), trivial⟩
theorem W.ok {k : Nat} {d : D} (h : W plain k d) : okD d := by
  induction h with
  | leaf g => exact g.ok
  | row h ih => exact ⟨okc_row, okL_mem.mpr ih, trivial⟩
theorem W.dp {k : Nat} {d : D} (h : W plain k d) : dp d ≤ 2 * k + 1 := by
  induction h with
  | leaf g => cases g <;> simp [DN.dp, dps]
  | row h ih =>
    have := dps_le ih
    simp only [DN.dp, dps]
    omega
/-! the signs shown -/
instance (c : Nat) : Decidable (plc c) := by unfold plc; infer_instance
theorem chars_one : (List.range 127).all (fun c => decide (plc c → Builtin.Str.reprChar 39 c = [c])) = true := by decide +kernel
theorem quote_plain {z : Str} (h : plain z) : tl (reprText z) = 39 :: tl z ++ [39] := by
  have hq : reprQuote z = 39 := by
    unfold reprQuote
    have : z.cps.contains 39 = false := by
      rw [Bool.eq_false_iff]
      intro c
      rw [Array.contains_iff_mem, ← Array.mem_toList_iff] at c
      exact (h.2 39 c).2.2.1 rfl
    rw [this]
    rfl
  have hf : ∀ l : List Nat, (∀ c ∈ l, plc c) → l.flatMap (Builtin.Str.reprChar 39) = l := by
    intro l
    induction l with
    | nil => intro _; rfl
    | cons c l ih =>
      intro h
      rw [List.flatMap_cons, ih fun c m => h c (by simp [m])]
      have hc : Builtin.Str.reprChar 39 c = [c] := by
        have := List.all_eq_true.mp chars_one c (List.mem_range.mpr (by have := (h c (by simp)).2.1; omega))
        exact of_decide_eq_true this (h c (by simp))
      rw [hc]
      rfl
  rw [tl_repr, hq, hf _ h.2]
def intL (i : Int) : List Nat := if i < 0 then 45 :: TL.numL i.natAbs else TL.numL i.natAbs
theorem OFA (a b : String) : Str.ofString (a ++ b) = Str.ofString a ++ Str.ofString b := by
  refine tl_inj ?_
  rw [tl_app, Str.ofString_eq_toList, Str.ofString_eq_toList, Str.ofString_eq_toList]
  simp [tl]
theorem tl_int (i : Int) : tl (toString i : Str) = intL i := by
  unfold intL
  by_cases h : i < 0
  · rw [if_pos h]
    have e1 : (toString i : Str) = ("-" : Str) ++ (toString ((i.natAbs : Nat) : Int) : Str) := by
      show Str.ofString (toString i) = Str.ofString "-" ++ Str.ofString (toString ((i.natAbs : Nat) : Int))
      rw [PyProof.Rows.toString_neg h, show (0 : Int) - i = ((i.natAbs : Nat) : Int) by omega, OFA]
    rw [e1, tl_app, show tl (Str.ofString (toString ((i.natAbs : Nat) : Int))) = _ from TL.tl_num _, show tl ("-" : Str) = [45] by decide +kernel]
    rfl
  · rw [if_neg h]
    have := TL.tl_num i.natAbs
    rw [show ((i.natAbs : Nat) : Int) = i by omega] at this
    exact this
def rL : D → List Nat
  | .non => tl "None"
  | .bl true => tl "True"
  | .bl false => tl "False"
  | .int i => intL i
  | .str z => 39 :: tl z ++ [39]
  | .tup [.str _, .int i] => 40 :: 39 :: tl "thing" ++ 39 :: 44 :: 32 :: intL i ++ [41]
  | .tup [.str k, .str a, .str b] => 40 :: 39 :: tl k ++ 39 :: 44 :: 32 :: 39 :: tl a ++ 39 :: 44 :: 32 :: 39 :: tl b ++ [39, 41]
  | _ => []
theorem k_plain {k : Str} (h : k = "deed" ∨ k = "kind") : plain k := by
  have : ∀ z : Str, (decide (z.length ≤ 40) && (tl z).all fun c => decide (plc c)) = true → plain z := fun z q => by
    rw [Bool.and_eq_true, decide_eq_true_eq, List.all_eq_true] at q
    exact ⟨q.1, fun c m => of_decide_eq_true (q.2 c m)⟩
  rcases h with rfl | rfl <;> exact this _ (by decide +kernel)
theorem join_two (a b : Str) : tl (Str.join ", " [a, b]) = tl a ++ 44 :: 32 :: tl b := by
  show tl (a ++ (", " : Str) ++ b) = _
  rw [tl_app, tl_app, show tl (", " : Str) = [44, 32] by decide +kernel]
  simp
theorem join_three (a b c : Str) : tl (Str.join ", " [a, b, c]) = tl a ++ 44 :: 32 :: tl b ++ 44 :: 32 :: tl c := by
  show tl (a ++ (", " : Str) ++ (b ++ (", " : Str) ++ c)) = _
  rw [tl_app, tl_app, tl_app, tl_app, show tl (", " : Str) = [44, 32] by decide +kernel]
  simp
theorem par_o : tl ("(" : Str) = [40] := by decide +kernel
theorem par_c : tl (")" : Str) = [41] := by decide +kernel
theorem sz_leaf {d : D} (h : LeafQ plain d) : sz d ≤ 450 := by
  cases h with
  | non => simp [sz]
  | bl b => simp [sz]
  | int i h => simp [sz]
  | str z h => have := h.1; simp only [sz]; omega
  | thing i h => have l5 : ("thing" : Str).length = 5 := rfl; simp only [sz, szs, l5]; omega
  | named k a b hk ha hb =>
    have l4 : k.length = 4 := by rcases hk with rfl | rfl <;> rfl
    have := (nm_parts ha).1
    have := (nm_parts hb).1
    simp only [sz, szs]
    omega
theorem repr_leaf {d : D} (hl : LeafQ plain d) (h : LH) : ∃ T, cRepr h [d] = some (.str T) ∧ tl T = rL d := by
  obtain ⟨p, e1, e2⟩ := repr_of (h := h) hl.ok (by have := sz_leaf hl; omega) (by have := (W.leaf (k := 0) hl).dp; omega)
  refine ⟨_, e2, ?_⟩
  cases hl with
  | non => cases e1; decide +kernel
  | bl b => cases e1; cases b <;> decide +kernel
  | int i h => cases e1; exact tl_int i
  | str z h =>
    cases e1
    rw [show (PyData.str z).shown = reprText z by simp only [PyData.shown]]
    exact quote_plain h
  | thing i h =>
    cases e1
    rw [show (PyData.tuple [.str "thing", .int i]).shown = tupleText [reprText "thing", toString i] by simp only [PyData.shown, PyData.shownAll]]
    unfold tupleText
    rw [tl_app, tl_app, join_two, par_o, show tl (reprText ("thing" : Str)) = 39 :: tl "thing" ++ [39] by decide +kernel, tl_int, show tl (if ([reprText ("thing" : Str), (toString i : Str)].length == 1) = true then (",)" : String) else (")" : String) : String) = [41] from par_c]
    simp [rL]
  | named k a b hk ha hb =>
    cases e1
    rw [show (PyData.tuple [.str k, .str a, .str b]).shown = tupleText [reprText k, reprText a, reprText b] by simp only [PyData.shown, PyData.shownAll]]
    unfold tupleText
    rw [tl_app, tl_app, join_three, par_o, quote_plain (k_plain hk), quote_plain (nm_plain ha), quote_plain (nm_plain hb), show tl (if ([reprText k, reprText a, reprText b].length == 1) = true then (",)" : String) else (")" : String) : String) = [41] from par_c]
    simp [rL]
end Wk03
namespace Wk03
open PySem PySem.Spec PyProof.Rows L2 DN
/-! leaves are the same where they show the same -/
def cls : D → Nat
  | .non => 0
  | .bl _ => 1
  | .int _ => 2
  | .str _ => 3
  | _ => 4
def headc (l : List Nat) : Nat := match l.head? with
  | some 78 => 0
  | some 84 => 1
  | some 70 => 1
  | some 39 => 3
  | some 40 => 4
  | _ => 2
theorem intL_head (i : Int) : ∃ c r, intL i = c :: r ∧ (c = 45 ∨ (48 ≤ c ∧ c ≤ 57)) := by
  unfold intL
  split
  · exact ⟨_, _, rfl, .inl rfl⟩
  · cases q : TL.numL i.natAbs with
    | nil => exact (TL.numL_ne _ q).elim
    | cons a r =>
      have := TL.numL_digits i.natAbs a (by rw [q]; simp)
      exact ⟨a, r, rfl, .inr (by omega)⟩
theorem head_cls {d : D} (h : LeafQ plain d) : headc (rL d) = cls d := by
  cases h with
  | non => decide +kernel
  | bl b => cases b <;> decide +kernel
  | int i hi =>
    obtain ⟨c, r, e, hc⟩ := intL_head i
    show headc (intL i) = 2
    rw [e]
    unfold headc
    simp only [List.head?_cons]
    split <;> first | rfl | (rename_i q; injection q with q; omega)
  | str z hz => rfl
  | thing i hi => rfl
  | named k a b hk ha hb => rfl
theorem cls_ne {d e : D} (hd : LeafQ plain d) (he : LeafQ plain e) (h : cls d ≠ cls e) : rL d ≠ rL e := fun q => h (by rw [← head_cls hd, ← head_cls he, q])
theorem numL_inj {m n : Nat} (hm : m < 10 ^ 17) (hn : n < 10 ^ 17) (h : TL.numL m = TL.numL n) : m = n := by
  have e : (Str.ofString (toString ((m : Nat) : Int))) = Str.ofString (toString ((n : Nat) : Int)) := tl_inj ((TL.tl_num m).trans (h.trans (TL.tl_num n).symm))
  have a := TL.int_num (n := m) (by have := TL.numL_len (n := m) (k := 17) (by decide) hm; omega)
  have b := TL.int_num (n := n) (by have := TL.numL_len (n := n) (k := 17) (by decide) hn; omega)
  rw [e, b] at a
  injection a with a
  omega
theorem intL_inj {i j : Int} (hi : i.natAbs < 10 ^ 17) (hj : j.natAbs < 10 ^ 17) (h : intL i = intL j) : i = j := by
  have dg : ∀ n : Nat, ∀ r, TL.numL n ≠ 45 :: r := fun n r q => by
    have := TL.numL_digits n 45 (by rw [q]; simp)
    omega
  unfold intL at h
  split at h <;> split at h
  · injection h with _ h
    have := numL_inj hi hj h
    omega
  · exact (dg _ _ h.symm).elim
  · exact (dg _ _ h).elim
  · have := numL_inj hi hj h
    omega
theorem strOk_plain {z : Str} (h : okc z) : PyData.strOk z = true := by
  unfold PyData.strOk
  rw [Array.all_eq_true']
  intro c m
  have := h c (Array.mem_toList_iff.mpr m)
  simpa using this
/-- the plain data of a leaf -/
def pL : D → PyData
  | .non => .none
  | .bl b => .bool b
  | .int i => .int i
  | .str z => .str z
  | .tup [.str x, .int i] => .tuple [.str x, .int i]
  | .tup [.str x, .str a, .str b] => .tuple [.str x, .str a, .str b]
  | _ => .none
theorem py_leaf {d : D} (hl : LeafQ plain d) (h : LH) : py h d = some (pL d) ∧ SeqAt.shaped (pL d) = true := by
  cases hl with
  | non => exact ⟨rfl, rfl⟩
  | bl b => exact ⟨rfl, rfl⟩
  | int i hi => exact ⟨rfl, rfl⟩
  | str z hz => exact ⟨rfl, by simp [pL, SeqAt.shaped, PyData.canLay0, PyData.depth, strOk_plain (plain_ok hz)]⟩
  | thing i hi => exact ⟨rfl, by simp [pL, SeqAt.shaped, PyData.canLay0, PyData.canLayAll0, PyData.depth, PyData.depthAll, strOk_plain okc_thing]⟩
  | named k a b hk ha hb => exact ⟨rfl, by simp [pL, SeqAt.shaped, PyData.canLay0, PyData.canLayAll0, PyData.depth, PyData.depthAll, strOk_plain (okc_k hk), strOk_plain (plain_ok (nm_plain ha)), strOk_plain (plain_ok (nm_plain hb))]⟩
theorem eq_leaf {d e : D} (hd : LeafQ plain d) (he : LeafQ plain e) (h : LH) : oEq h d e = some (.bl (PyData.eqv (pL d) (pL e))) := by
  obtain ⟨a1, a2⟩ := py_leaf hd h
  obtain ⟨b1, b2⟩ := py_leaf he h
  have gen : (py h d).bind (fun p => (py h e).bind fun q => if (SeqAt.shaped p && SeqAt.shaped q) = true then some (D.bl (PyData.eqv p q)) else none) = some (.bl (PyData.eqv (pL d) (pL e))) := by
    rw [a1, b1]
    simp only [Option.bind_some]
    rw [a2, b2]
    rfl
  cases hd <;> cases he <;> first | exact gen | rfl
theorem split_at {a b : Str} {x y : List Nat} (ha : 39 ∉ tl a) (hb : 39 ∉ tl b) (h : tl a ++ 39 :: x = tl b ++ 39 :: y) : tl a = tl b ∧ x = y := by
  have : ∀ (u v : List Nat), 39 ∉ u → 39 ∉ v → u ++ 39 :: x = v ++ 39 :: y → u = v ∧ x = y := by
    intro u
    induction u with
    | nil =>
      intro v _ hv h
      cases v with
      | nil => simp at h; exact ⟨rfl, h⟩
      | cons c v => simp at h; exact (hv (by simp [h.1])).elim
    | cons c u ih =>
      intro v hu hv h
      cases v with
      | nil => simp at h; exact (hu (by simp [h.1])).elim
      | cons c' v =>
        simp only [List.cons_append, List.cons.injEq] at h
        obtain ⟨e1, e2⟩ := ih v (fun m => hu (by simp [m])) (fun m => hv (by simp [m])) h.2
        exact ⟨by rw [h.1, e1], e2⟩
  exact this _ _ ha hb h
theorem no39 {z : Str} (h : plain z) : 39 ∉ tl z := fun m => (h.2 39 m).2.2.1 rfl
theorem eqv_leaf {d e : D} (hd : LeafQ plain d) (he : LeafQ plain e) (hb : isBl d = isBl e) : PyData.eqv (pL d) (pL e) = decide (rL d = rL e) := by
  by_cases hc : cls d = cls e
  · rw [Bool.eq_iff_iff, decide_eq_true_eq]
    cases hd <;> cases he <;> first | (exfalso; simp [cls] at hc; done) | skip
    · exact ⟨fun _ => rfl, fun _ => rfl⟩
    · rename_i b c
      cases b <;> cases c <;> decide +kernel
    · rename_i i hi j hj
      refine ⟨fun h => ?_, fun h => ?_⟩
      · have : i = j := by simpa [pL, PyData.eqv] using h
        rw [this]
      · have : i = j := intL_inj hi hj h
        subst this
        simp [pL, PyData.eqv]
    · rename_i z hz z' hz'
      refine ⟨fun h => ?_, fun h => ?_⟩
      · have : z = z' := by simpa [pL, PyData.eqv] using h
        rw [this]
      · have : z = z' := tl_inj (by simpa [rL] using h)
        subst this
        simp [pL, PyData.eqv]
    · rename_i i hi j hj
      refine ⟨fun h => ?_, fun h => ?_⟩
      · have : i = j := by simpa [pL, PyData.eqv, PyData.eqvAll] using h
        rw [this]
      · have : intL i = intL j := by simpa [rL] using h
        have : i = j := intL_inj hi hj this
        subst this
        simp [pL, PyData.eqv, PyData.eqvAll]
    · rename_i i hi k a b hk ha hb
      refine ⟨fun h => ?_, fun h => ?_⟩
      · simp [pL, PyData.eqv, PyData.eqvAll] at h
      · rcases hk with rfl | rfl
        · have := congrArg (fun l => l[2]?) h
          simp [rL, show tl ("thing" : Str) = [116, 104, 105, 110, 103] by decide +kernel, show tl ("deed" : Str) = [100, 101, 101, 100] by decide +kernel] at this
        · have := congrArg (fun l => l[2]?) h
          simp [rL, show tl ("thing" : Str) = [116, 104, 105, 110, 103] by decide +kernel, show tl ("kind" : Str) = [107, 105, 110, 100] by decide +kernel] at this
    · rename_i k a b hk ha hb i hi
      refine ⟨fun h => ?_, fun h => ?_⟩
      · simp [pL, PyData.eqv, PyData.eqvAll] at h
      · rcases hk with rfl | rfl
        · have := congrArg (fun l => l[2]?) h
          simp [rL, show tl ("thing" : Str) = [116, 104, 105, 110, 103] by decide +kernel, show tl ("deed" : Str) = [100, 101, 101, 100] by decide +kernel] at this
        · have := congrArg (fun l => l[2]?) h
          simp [rL, show tl ("thing" : Str) = [116, 104, 105, 110, 103] by decide +kernel, show tl ("kind" : Str) = [107, 105, 110, 100] by decide +kernel] at this
    · rename_i k a b hk ha hb k' a' b' hk' ha' hb'
      refine ⟨fun h => ?_, fun h => ?_⟩
      · have : k = k' ∧ a = a' ∧ b = b' := by simpa [pL, PyData.eqv, PyData.eqvAll] using h
        obtain ⟨rfl, rfl, rfl⟩ := this
        rfl
      · have q : tl k ++ 39 :: (44 :: 32 :: 39 :: tl a ++ 39 :: (44 :: 32 :: 39 :: tl b ++ [39, 41])) = tl k' ++ 39 :: (44 :: 32 :: 39 :: tl a' ++ 39 :: (44 :: 32 :: 39 :: tl b' ++ [39, 41])) := by simpa [rL] using h
        obtain ⟨q1, q⟩ := split_at (no39 (k_plain hk)) (no39 (k_plain hk')) q
        have q : tl a ++ 39 :: (44 :: 32 :: 39 :: tl b ++ [39, 41]) = tl a' ++ 39 :: (44 :: 32 :: 39 :: tl b' ++ [39, 41]) := by simpa using q
        obtain ⟨q2, q⟩ := split_at (no39 (nm_plain ha)) (no39 (nm_plain ha')) q
        have q3 : tl b = tl b' := by simpa using q
        rw [tl_inj q1, tl_inj q2, tl_inj q3]
        simp [pL, PyData.eqv, PyData.eqvAll]
  · rw [decide_eq_false (cls_ne hd he hc)]
    cases hd <;> cases he <;> first | rfl | (exact absurd rfl hc) | (simp [isBl] at hb)
/-- == of leaves of one sort -/
theorem leaf_eq {d e : D} (hd : LeafQ plain d) (he : LeafQ plain e) (hb : isBl d = isBl e) (h : LH) : oEq h d e = some (.bl (decide (rL d = rL e))) := by
  rw [eq_leaf hd he, eqv_leaf hd he hb]
theorem leaf_ne {d e : D} (hd : LeafQ plain d) (he : LeafQ plain e) (hb : isBl d ≠ isBl e) : rL d ≠ rL e := by
  refine cls_ne hd he fun q => hb ?_
  cases hd <;> cases he <;> first | rfl | (exfalso; simp [cls] at q; done)
end Wk03
namespace Wk03
open PySem PySem.Spec PyProof.Rows L2 DN
def zipB (f : D → D → Bool) : List D → List D → List Bool
  | x :: xs, y :: ys => f x y :: zipB f xs ys
  | _, _ => []
theorem zipL_mem : ∀ {l m : List D} {d : D}, d ∈ zipL l m → ∃ x y, x ∈ l ∧ y ∈ m ∧ d = .tup [x, y]
  | [], _, _, h => by simp [zipL] at h
  | _ :: _, [], _, h => by simp [zipL] at h
  | x :: xs, y :: ys, d, h => by
    simp only [zipL, List.mem_cons] at h
    rcases h with rfl | h
    · exact ⟨x, y, by simp, by simp, rfl⟩
    · obtain ⟨a, b, ha, hb, e⟩ := zipL_mem h
      exact ⟨a, b, by simp [ha], by simp [hb], e⟩
def two (f : D → D → Bool) : D → D
  | .tup [x, y] => .bl (f x y)
  | d => d
theorem zipL_map (f : D → D → Bool) : ∀ l m : List D, (zipL l m).map (two f) = (zipB f l m).map .bl
  | [], _ => by simp [zipL, zipB]
  | _ :: _, [] => by simp [zipL, zipB]
  | x :: xs, y :: ys => by simp [zipL, zipB, two, zipL_map f xs ys]
theorem zip_lc {h : LH} {i j : Nat} {s : Sg} {e : EM} {l m : List D} (f : D → D → Bool) (hl : l.length ≤ 900000) (he : ∀ x ∈ l, ∀ y ∈ m, e ((((s.set j none).set i none).set i (some x)).set j (some y)) h = .ok (.bl (f x y)) h) :
    lcS [i, j] (gTp 2 (gCn (gNm i) (gCn (gNm j) gNl))) bYes e s 1000000 (fixS (zipL l m)) 0 [] h = .ok ((zipB f l m).map .bl) h := by
  have hz : (zipL l m).length ≤ 900000 := by rw [zipL_len]; omega
  rw [lc_fix (by omega), lcL_filter (fun _ => true) (two f) h (zipL l m) [] (by have := sizeLine_ge; simp; omega)]
  · rw [List.filter_eq_self.mpr (fun _ _ => rfl), List.nil_append, zipL_map]
  · intro d hd
    obtain ⟨x, y, hx, hy, rfl⟩ := zipL_mem hd
    exact ⟨_, rfl, rfl, fun _ => he x hx y hy⟩
def areRec : Nat → FM
  | 0 => fun _ _ => .no
  | n + 1 => b_are_alike b_is_row (areRec n)
def deemRec : Nat → FM
  | 0 => fun _ _ => .no
  | n + 1 => b__law_deemed b__law_is_row (deemRec n)
/-- alike, part by part -/
def alike : Nat → D → D → Bool
  | 0, _, _ => false
  | n + 1, d, e => match rowOf d, rowOf e with
    | some l, some m => decide (l.length = m.length) && (zipB (alike n) l m).all id
    | none, none => decide (rL d = rL e)
    | _, _ => false
theorem alike_rows {n : Nat} {d e : D} {l m : List D} (a : rowOf d = some l) (b : rowOf e = some m) : alike (n + 1) d e = (decide (l.length = m.length) && (zipB (alike n) l m).all id) := by simp only [alike, a, b]
theorem alike_leaves {n : Nat} {d e : D} (a : rowOf d = none) (b : rowOf e = none) : alike (n + 1) d e = decide (rL d = rL e) := by simp only [alike, a, b]
theorem alike_rl {n : Nat} {d e : D} {l : List D} (a : rowOf d = some l) (b : rowOf e = none) : alike (n + 1) d e = false := by simp only [alike, a, b]
theorem alike_lr {n : Nat} {d e : D} {l : List D} (a : rowOf d = none) (b : rowOf e = some l) : alike (n + 1) d e = false := by simp only [alike, a, b]
theorem zipB_comm {f : D → D → Bool} (hf : ∀ x y, f x y = f y x) : ∀ l m : List D, zipB f l m = zipB f m l
  | [], [] => rfl
  | [], _ :: _ => rfl
  | _ :: _, [] => rfl
  | x :: xs, y :: ys => by simp only [zipB, hf x y, zipB_comm hf xs ys]
theorem alike_comm : ∀ (n : Nat) (d e : D), alike n d e = alike n e d
  | 0, _, _ => rfl
  | n + 1, d, e => by
    cases a : rowOf d with
    | none =>
      cases b : rowOf e with
      | none =>
        rw [alike_leaves a b, alike_leaves b a]
        exact decide_eq_decide.mpr ⟨Eq.symm, Eq.symm⟩
      | some m => rw [alike_lr a b, alike_rl b a]
    | some l =>
      cases b : rowOf e with
      | none => rw [alike_rl a b, alike_lr b a]
      | some m =>
        rw [alike_rows a b, alike_rows b a, zipB_comm (alike_comm n)]
        congr 1
        exact decide_eq_decide.mpr ⟨Eq.symm, Eq.symm⟩
theorem zipB_self {f : D → D → Bool} : ∀ {l : List D}, (∀ x ∈ l, f x x = true) → (zipB f l l).all id = true
  | [], _ => rfl
  | x :: xs, h => by simp [zipB, h x (by simp), zipB_self (l := xs) fun y m => h y (by simp [m])]
theorem alike_self : ∀ (n : Nat) (d : D), W plain n d → alike (n + 1) d d = true
  | n, d, hw => by
    cases hw with
    | leaf g => rw [alike_leaves g.row g.row]; simp
    | @row k l h =>
      rw [alike_rows (rowOf_row l) (rowOf_row l), zipB_self fun x m => alike_self k x (h x m)]
      simp
theorem isi_bl' {h : LH} {d : D} (ok : okD d) : cIsi h [d, .st (.ty "bool")] = some (.bl (isBl d)) := isi_bl ok
theorem oEq_bb {h : LH} (a b : Bool) : oEq h (.bl a) (.bl b) = some (.bl (a == b)) := by cases a <;> cases b <;> rfl
theorem are_ok {h : LH} : ∀ (n : Nat) (d e : D), W plain n d → W plain n e → sz d ≤ 900000 → sz e ≤ 900000 → areRec (n + 1) [d, e] h = .ok (.bl (alike (n + 1) d e)) h
  | n, d, e, hd, he, zd, ze => by
    have id' := is_row_ok (h := h) hd.ok
    have ie := is_row_ok (h := h) he.ok
    show b_are_alike b_is_row (areRec n) [d, e] h = _
    cases hd with
    | leaf gd =>
      cases he with
      | leaf ge =>
        rw [gd.row] at id'
        rw [ge.row] at ie
        have b1 := isi_bl (h := h) gd.ok
        have b2 := isi_bl (h := h) ge.ok
        rw [alike_leaves gd.row ge.row]
        by_cases hb : isBl d = isBl e
        · have q := leaf_eq gd ge hb h
          unfold b_are_alike
          simp [id', ie, b1, b2, oEq_bb, hb, q]
        · have q := leaf_ne gd ge hb
          have hb' : (isBl d == isBl e) = false := by simpa using hb
          unfold b_are_alike
          simp [id', ie, b1, b2, oEq_bb, hb', q]
      | @row k l hl =>
        rw [gd.row] at id'
        rw [rowOf_row] at ie
        rw [alike_lr gd.row (rowOf_row l)]
        unfold b_are_alike
        simp [id', ie]
    | @row k l hl =>
      cases he with
      | leaf ge =>
        rw [rowOf_row] at id'
        rw [ge.row] at ie
        rw [alike_rl (rowOf_row l) ge.row]
        unfold b_are_alike
        simp [id', ie]
      | @row k' m hm =>
        rw [rowOf_row] at id' ie
        rw [alike_rows (rowOf_row l) (rowOf_row m)]
        have x1 : oIx h (.tup [.str "row", .tup l]) (.int 1) = some (.tup l) := ix1 _ _ _
        have x2 : oIx h (.tup [.str "row", .tup m]) (.int 1) = some (.tup m) := ix1 _ _ _
        have zl : szs l ≤ 900000 := by simp only [sz, szs] at zd; omega
        have zm : szs m ≤ 900000 := by simp only [sz, szs] at ze; omega
        have ll := len_szs l
        by_cases hc : l.length = m.length
        · have z := zip_lc (h := h) (i := 2) (j := 3) (s := [some (.tup [.str "row", .tup l]), some (.tup [.str "row", .tup m]), none, none]) (e := mFn 2 (areRec (k + 1)) [] (aCons (mVar 2) (aCons (mVar 3) aNil))) (l := l) (m := m) (alike (k + 1)) (by omega) (fun x hx y hy => by
            have := are_ok (h := h) k x y (hl x hx) (hm y hy) (by have := szs_mem hx; omega) (by have := szs_mem hy; omega)
            simp [this])
          unfold b_are_alike
          simp [id', ie, x1, x2, len_tup, oNe_ii, hc, mLc_ap, iZipSM, z, all_bl]
        · have hc' : ((l.length : Int) == (m.length : Int)) = false := by
            rw [beq_eq_false_iff_ne]
            omega
          unfold b_are_alike
          simp [id', ie, x1, x2, len_tup, oNe_ii, hc, hc']
end Wk03
namespace Wk03
open PySem PySem.Spec PyProof.Rows L2 DN
theorem str_ne {a b : Str} (h : tl a ≠ tl b) : (a == b) = false := by
  rw [beq_eq_false_iff_ne]
  rintro rfl
  exact h rfl
theorem law_is_row_ok {n : Nat} {d : D} (hw : W plain n d) (h : LH) : b__law_is_row [d] h = .ok (.bl (rowOf d).isSome) h := by
  have it := isi_tup (h := h) hw.ok
  cases hw with
  | leaf g =>
    rw [g.row]
    cases g with
    | non => unfold b__law_is_row; simp [it, isTup]
    | bl b => unfold b__law_is_row; simp [it, isTup]
    | int i hi => unfold b__law_is_row; simp [it, isTup]
    | str z hz => unfold b__law_is_row; simp [it, isTup]
    | thing i hi =>
      have q : (("thing" : Str) == ("row" : Str)) = false := str_ne (by decide +kernel)
      have x : oIx h (.tup [.str "thing", .int i]) (.int 0) = some (.str "thing") := ix0' _ _
      generalize ("thing" : Str) = S at q x it
      unfold b__law_is_row; simp [it, isTup, x, oEq_ss]
      simpa using q
    | named k a b hk ha hb =>
      have q : (k == ("row" : Str)) = false := by rcases hk with rfl | rfl <;> exact str_ne (by decide +kernel)
      have x : oIx h (.tup [.str k, .str a, .str b]) (.int 0) = some (.str k) := ix0' _ _
      unfold b__law_is_row; simp [it, isTup, x, oEq_ss]
      simpa using q
  | @row k l hl =>
    rw [rowOf_row]
    have x : oIx h (.tup [.str "row", .tup l]) (.int 0) = some (.str "row") := ix0' _ _
    unfold b__law_is_row; simp [it, isTup, x, oEq_ss]
theorem repr_row {d : D} {l : List D} (e : d = .tup [.str "row", .tup l]) (ok : okD d) (hz : sz d ≤ 1000000) (hd : dp d ≤ 600) (h : LH) : ∃ T r, cRepr h [d] = some (.str T) ∧ tl T = 40 :: 39 :: 114 :: r := by
  obtain ⟨p, e1, e2⟩ := repr_of (h := h) ok hz hd
  subst e
  simp only [pyF, Option.map_eq_some_iff] at e1
  obtain ⟨ps, e1, rfl⟩ := e1
  cases ql : pyFs l with
  | none => simp [pyFs, pyF, ql] at e1
  | some qs =>
    have : ps = [.str "row", .tuple qs] := by simpa [pyFs, pyF, ql] using e1.symm
    subst this
    refine ⟨_, (tl (PyData.tuple [.str "row", .tuple qs]).shown).drop 3, e2, ?_⟩
    rw [show (PyData.tuple [.str "row", .tuple qs]).shown = tupleText [reprText "row", (PyData.tuple qs).shown] by simp only [PyData.shown, PyData.shownAll]]
    unfold tupleText
    rw [tl_app, tl_app, join_two, par_o, show tl (reprText ("row" : Str)) = [39, 114, 111, 119, 39] by decide +kernel]
    rfl
theorem leaf_no_row {d : D} (hd : LeafQ plain d) (r : List Nat) : rL d ≠ 40 :: 39 :: 114 :: r := by
  intro q
  have hc : headc (rL d) = 4 := by rw [q]; rfl
  rw [head_cls hd] at hc
  cases hd with
  | thing i hi =>
    have := congrArg (fun l => l[2]?) q
    simp [rL, show tl ("thing" : Str) = [116, 104, 105, 110, 103] by decide +kernel] at this
  | named k a b hk ha hb =>
    have := congrArg (fun l => l[2]?) q
    rcases hk with rfl | rfl
    · simp [rL, show tl ("deed" : Str) = [100, 101, 101, 100] by decide +kernel] at this
    · simp [rL, show tl ("kind" : Str) = [107, 105, 110, 100] by decide +kernel] at this
  | _ => simp [cls] at hc
theorem pyG_bls (g : Nat → Option PyData) : ∀ bs : List Bool, pyGs g (bs.map D.bl) = some (bs.map PyData.bool)
  | [] => rfl
  | b :: bs => by simp [pyGs, pyG, pyG_bls g bs]
theorem notin_false {h : LH} (bs : List Bool) : oNotIn h (.bl false) (.lst (bs.map D.bl)) = some (.bl (bs.all id)) := by
  have e1 : py h (.lst (bs.map D.bl)) = some (.list (bs.map PyData.bool)) := by
    unfold py
    simp only [pyG, pyG_bls]
    rfl
  have c1 : ∀ bs : List Bool, PyData.canLayAll0 (bs.map PyData.bool) = true := by
    intro bs
    induction bs with
    | nil => rfl
    | cons b bs ih => simp [PyData.canLayAll0, PyData.canLay0, ih]
  have c2 : ∀ bs : List Bool, PyData.depthAll (bs.map PyData.bool) = 0 := by
    intro bs
    induction bs with
    | nil => rfl
    | cons b bs ih => simp [PyData.depthAll, PyData.depth, ih]
  have e2 : SeqAt.shaped (.list (bs.map PyData.bool)) = true := by simp [SeqAt.shaped, PyData.canLay0, PyData.depth, c1, c2]
  have e3 : isIn h (.bl false) (.lst (bs.map D.bl)) = some ((bs.map PyData.bool).any fun z => PyData.eqv z (.bool false)) := by
    have e0 : py h (.bl false) = some (.bool false) := rfl
    have e4 : SeqAt.shaped (.bool false) = true := rfl
    unfold isIn
    simp only [e1, e0, Option.bind_some, e2, e4, Bool.and_self, if_true]
  show (isIn h (.bl false) (.lst (bs.map D.bl))).map _ = _
  rw [e3]
  show some (D.bl _) = _
  congr 2
  clear e1 e2 e3
  induction bs with
  | nil => rfl
  | cons b bs ih =>
    rw [List.map_cons, List.any_cons, Bool.not_or, ih, List.all_cons]
    cases b <;> rfl
theorem repr_any {n : Nat} {d : D} (hw : W plain n d) (hn : n ≤ 200) (hz : sz d ≤ 900000) (h : LH) : ∃ T, cRepr h [d] = some (.str T) := by
  obtain ⟨p, _, e⟩ := repr_of (h := h) hw.ok (by omega) (by have := hw.dp; omega)
  exact ⟨_, e⟩
theorem deem_ok {h : LH} : ∀ (n : Nat) (d e : D), W plain n d → W plain n e → n ≤ 200 → sz d ≤ 900000 → sz e ≤ 900000 → deemRec (n + 1) [d, e] h = .ok (.bl (alike (n + 1) d e)) h
  | n, d, e, hd, he, hn, zd, ze => by
    have id' := law_is_row_ok hd h
    have ie := law_is_row_ok he h
    have dd := hd.dp
    have de := he.dp
    show b__law_deemed b__law_is_row (deemRec n) [d, e] h = _
    cases hd with
    | leaf gd =>
      rw [gd.row] at id'
      obtain ⟨T, t1, t2⟩ := repr_leaf gd h
      cases he with
      | leaf ge =>
        rw [ge.row] at ie
        obtain ⟨S, s1, s2⟩ := repr_leaf ge h
        rw [alike_leaves gd.row ge.row, ← t2, ← s2]
        have q : (T == S) = decide (tl T = tl S) := by
          rw [Bool.eq_iff_iff, beq_iff_eq, decide_eq_true_eq]
          exact ⟨fun h => by rw [h], tl_inj⟩
        unfold b__law_deemed
        simp only [fnM_ap, sSeq_ap, sIf_ap, mAndT_ap, mTest_ap, mFn_ap, aCons_ap, aNil_ap, mVar_ap, mOp_ap, mCall_ap, List.map_cons, List.map_nil, List.length_cons, List.length_nil, List.cons_append, List.nil_append, List.replicate, List.getElem?_cons_zero, List.getElem?_cons_succ, slotR_some, R.bind_ok, List.append_nil, decide_true, if_true, id', ie, toB_ok, q_ok, Option.isSome_none, Bool.false_eq_true, if_false, sNil_ap, then_nx, sRet_ap, t1, s1, optR_some, oEq_ss, q, fin_rt]
      | @row k l hl =>
        rw [rowOf_row] at ie
        obtain ⟨S, r, s1, s2⟩ := repr_row (d := .tup [.str "row", .tup l]) rfl (W.row hl).ok (by omega) (by omega) h
        rw [alike_lr gd.row (rowOf_row l)]
        have q : (T == S) = false := str_ne (by rw [t2, s2]; exact leaf_no_row gd r)
        unfold b__law_deemed
        simp only [fnM_ap, sSeq_ap, sIf_ap, mAndT_ap, mTest_ap, mFn_ap, aCons_ap, aNil_ap, mVar_ap, mOp_ap, mCall_ap, List.map_cons, List.map_nil, List.length_cons, List.length_nil, List.cons_append, List.nil_append, List.replicate, List.getElem?_cons_zero, List.getElem?_cons_succ, slotR_some, R.bind_ok, List.append_nil, decide_true, if_true, id', ie, toB_ok, q_ok, Option.isSome_none, Bool.false_eq_true, if_false, sNil_ap, then_nx, sRet_ap, t1, s1, optR_some, oEq_ss, q, fin_rt]
    | @row k l hl =>
      rw [rowOf_row] at id'
      cases he with
      | leaf ge =>
        rw [ge.row] at ie
        obtain ⟨S, r, s1, s2⟩ := repr_row (d := .tup [.str "row", .tup l]) rfl (W.row hl).ok (by omega) (by omega) h
        obtain ⟨T, t1, t2⟩ := repr_leaf ge h
        rw [alike_rl (rowOf_row l) ge.row]
        have q : (S == T) = false := str_ne (by rw [t2, s2]; exact (leaf_no_row ge r).symm)
        unfold b__law_deemed
        simp only [fnM_ap, sSeq_ap, sIf_ap, mAndT_ap, mTest_ap, mFn_ap, aCons_ap, aNil_ap, mVar_ap, mOp_ap, mCall_ap, List.map_cons, List.map_nil, List.length_cons, List.length_nil, List.cons_append, List.nil_append, List.replicate, List.getElem?_cons_zero, List.getElem?_cons_succ, slotR_some, R.bind_ok, List.append_nil, decide_true, if_true, id', ie, toB_ok, q_ok, Option.isSome_none, Option.isSome_some, Bool.false_eq_true, if_false, sNil_ap, then_nx, sRet_ap, t1, s1, optR_some, oEq_ss, q, fin_rt]
      | @row k' m hm =>
        rw [rowOf_row] at ie
        rw [alike_rows (rowOf_row l) (rowOf_row m)]
        have x1 : oIx h (.tup [.str "row", .tup l]) (.int 1) = some (.tup l) := ix1 _ _ _
        have x2 : oIx h (.tup [.str "row", .tup m]) (.int 1) = some (.tup m) := ix1 _ _ _
        have zl : szs l ≤ 900000 := by simp only [sz, szs] at zd; omega
        have zm : szs m ≤ 900000 := by simp only [sz, szs] at ze; omega
        have ll := len_szs l
        have z := zip_lc (h := h) (i := 3) (j := 4) (s := [some (.tup [.str "row", .tup l]), some (.tup [.str "row", .tup m]), none, none, none]) (e := mFn 2 (deemRec (k + 1)) [] (aCons (mVar 3) (aCons (mVar 4) aNil))) (l := l) (m := m) (alike (k + 1)) (by omega) (fun x hx y hy => by
          have := deem_ok (h := h) k x y (hl x hx) (hm y hy) (by omega) (by have := szs_mem hx; omega) (by have := szs_mem hy; omega)
          simp [this])
        by_cases hc : l.length = m.length
        · unfold b__law_deemed
          simp [id', ie, x1, x2, len_tup, oEq_ii, hc, mLc_ap, iZipTM, z, notin_false]
        · have hc' : ((l.length : Int) == (m.length : Int)) = false := by
            rw [beq_eq_false_iff_ne]
            omega
          unfold b__law_deemed
          simp [id', ie, x1, x2, len_tup, oEq_ii, hc, hc', mLc_ap, iZipTM, z]
noncomputable abbrev rightM : FM := b__law_right (deemRec 21) (areRec 21)
theorem right_ok {h : LH} {d e : D} (hd : W plain 20 d) (he : W plain 20 e) (zd : sz d ≤ 400000) (ze : sz e ≤ 400000) : rightM [d, e] h = .ok (.bl true) h := by
  have a1 := are_ok (h := h) 20 d e hd he (by omega) (by omega)
  have a2 := are_ok (h := h) 20 e d he hd (by omega) (by omega)
  have a3 := deem_ok (h := h) 20 d e hd he (by omega) (by omega) (by omega)
  rw [alike_comm] at a2
  generalize alike (20 + 1) d e = b at a1 a2 a3
  obtain ⟨p, e1, e2⟩ := repr_of (h := h) (d := .tup [d, e]) ⟨hd.ok, he.ok, trivial⟩ (by simp only [sz, szs]; omega) (by have := hd.dp; have := he.dp; simp only [dp, dps]; omega)
  have m3 : oMul h (.lst [.bl b]) (.int 3) = some (.lst [.bl b, .bl b, .bl b]) := rfl
  have r3 : ∃ T, cRepr h [.lst [.bl b, .bl b, .bl b]] = some (.str T) := by
    obtain ⟨q, _, e⟩ := repr_of (h := h) (d := .lst [.bl b, .bl b, .bl b]) ⟨trivial, trivial, trivial, trivial⟩ (by simp [sz, szs]) (by simp [dp, dps])
    exact ⟨_, e⟩
  obtain ⟨T, r3⟩ := r3
  have s1 : small 1 = true := rfl
  have s2 : small 2 = true := rfl
  have s3 : small 3 = true := rfl
  unfold rightM b__law_right
  simp [a1, a2, a3, e2, m3, r3, s1, s2, s3, pick]
end Wk03
namespace Wk03
open PySem PySem.Spec PyProof.Rows L2 DN
/-! what is drawn -/
def Hx (N : Nat) (rest h : LH) : Prop := ∃ g, Hd N (rest ++ g) h
theorem Hd_mono {N M : Nat} {rest h : LH} (hd : Hd N rest h) (l : N ≤ M) : Hd M rest h := by
  obtain ⟨cs, t, n, e, h1, h2, h3, h4, h5⟩ := hd
  exact ⟨cs, t, n, e, h1, h2, h3, by omega, h5⟩
theorem Hx_mono {N M : Nat} {rest h : LH} (hd : Hx N rest h) (l : N ≤ M) : Hx M rest h := hd.imp fun g z => Hd_mono z l
theorem dealt_x {N : Nat} {rest h : LH} {lots : Int} (hd : Hx N rest h) (hN : N < 1000000) (hl : 0 < lots) (hl2 : lots ≤ 1000000) :
    ∃ r h', dealtM [.ref 1, .int lots] h = .ok (.int r) h' ∧ 0 ≤ r ∧ r < lots ∧ Hx (N + 1) rest h' := by
  obtain ⟨g, hd⟩ := hd
  obtain ⟨r, h', e, a, b, d⟩ := dealt_ok hd hN hl hl2
  exact ⟨r, h', e, a, b, g, d⟩
theorem pick_x {N : Nat} {rest h : LH} {l : List D} (hd : Hx N rest h) (hN : N < 1000000) (hl : l ≠ []) (hl2 : l.length ≤ 1000000) :
    ∃ d h', pickM dealtM [.ref 1, .lst l] h = .ok d h' ∧ d ∈ l ∧ Hx (N + 1) rest h' := by
  obtain ⟨g, hd⟩ := hd
  obtain ⟨r, h', e, a, d⟩ := pick_ok hd hN hl hl2
  exact ⟨r, h', e, a, g, d⟩
theorem hd_at {N : Nat} {R h : LH} {x : LO} (hd : Hd N (R ++ [x]) h) : h[2 + R.length]? = some x := by
  obtain ⟨cs, t, n, rfl, _⟩ := hd
  unfold hnd
  rw [show 2 + R.length = R.length + 1 + 1 by omega, List.getElem?_cons_succ, List.getElem?_cons_succ]
  simp
theorem pick_ref {N : Nat} {R h : LH} {l : List D} (hd : Hd N (R ++ [.lst l]) h) (hN : N < 1000000) (hl : l ≠ []) (hl2 : l.length ≤ 1000000) :
    ∃ d h', pickM dealtM [.ref 1, .ref (2 + R.length)] h = .ok d h' ∧ d ∈ l ∧ Hd (N + 1) (R ++ [.lst l]) h' := by
  have hp : 0 < l.length := List.length_pos_iff.mpr hl
  obtain ⟨r, h', e, r1, r2, hd'⟩ := dealt_ok (lots := (l.length : Int)) hd hN (by omega) (by omega)
  obtain ⟨d, e2, m⟩ := atI_in r1 r2
  refine ⟨d, h', ?_, m, hd'⟩
  have s1 : seqL h (.ref (2 + R.length)) = some l := by
    unfold seqL
    simp only [hd_at hd]
  have s2 : seqL h' (.ref (2 + R.length)) = some l := by
    unfold seqL
    simp only [hd_at hd']
  have e3 : cLen h [.ref (2 + R.length)] = some (.int l.length) := by
    show ((seqL h (.ref (2 + R.length))).map List.length).map (fun (n : Nat) => D.int (n : Int)) = _
    rw [s1]
    rfl
  have e4 : oIx h' (.ref (2 + R.length)) (.int r) = some d := by
    show (seqL h' (.ref (2 + R.length))).bind _ = _
    rw [s2]
    exact e2
  unfold pickM
  simp [e3, e, e4]
def wordsS : List Str := ["", "a", "none", "yes", "row", "thing", "1", "-1", "[1 2]", "#5", "a.b", "a:b", " ", "twentysigns of all ~", "deed", "kind", "b"]
def wS (z : Str) : Prop := z ∈ wordsS
theorem wS_plain {z : Str} (h : wS z) : plain z := by
  have : wordsS.all (fun z => decide (z.length ≤ 40) && (tl z).all fun c => decide (plc c)) = true := by decide +kernel
  have := List.all_eq_true.mp this z h
  rw [Bool.and_eq_true, decide_eq_true_eq, List.all_eq_true] at this
  exact ⟨this.1, fun c m => of_decide_eq_true (this.2 c m)⟩
/-- what is drawn: so deep, so great -/
def Wk (k n : Nat) (d : D) : Prop := W wS k d ∧ sz d ≤ n
theorem Wk.le {k n k' n' : Nat} {d : D} (h : Wk k n d) (a : k ≤ k') (b : n ≤ n') : Wk k' n' d := ⟨h.1.le a, by have := h.2; omega⟩
theorem Wk.leaf {d : D} (h : LeafQ wS d) : Wk 0 450 d := ⟨.leaf h, sz_leaf (h.imp fun _ => wS_plain)⟩
theorem Wk.row {k n c : Nat} {l : List D} (h : ∀ d ∈ l, Wk k n d) (hl : l.length ≤ c) : Wk (k + 1) (42 + c * (n + 2)) (.tup [.str "row", .tup l]) := by
  have lr : ("row" : Str).length = 3 := rfl
  refine ⟨.row fun x m => (h x m).1, ?_⟩
  have := szs_le (l := l) (n := n) fun d m => (h d m).2
  have := Nat.mul_le_mul_right (n + 2) hl
  simp only [sz, szs, lr]
  omega
noncomputable abbrev leafM : FM := b__law_leaf (pickM dealtM) dealtM (b__law_label (pickM dealtM))
noncomputable def drawnRec : Nat → FM
  | 0 => fun _ _ => .no
  | n + 1 => b__law_drawn dealtM leafM (pickM dealtM) b__law_alike_looks (drawnRec n)
theorem labels {d : D} (m : d ∈ ([.str "a", .str "z", .str "row", .str "none", .str "thing", .str "ab", .str "abcdefgh", .str "deed"] : List D)) : ∃ z, d = .str z ∧ nm z = true := by
  simp only [List.mem_cons, List.not_mem_nil, or_false] at m
  rcases m with rfl | rfl | rfl | rfl | rfl | rfl | rfl | rfl <;> exact ⟨_, rfl, by decide +kernel⟩
theorem label_ok {N : Nat} {rest h : LH} (hd : Hd N rest h) (hN : N < 1000000) : ∃ z h', b__law_label (pickM dealtM) [.ref 1] h = .ok (.str z) h' ∧ nm z = true ∧ Hd (N + 1) rest h' := by
  obtain ⟨d, h', e, m, hd'⟩ := pick_ok (l := [.str "a", .str "z", .str "row", .str "none", .str "thing", .str "ab", .str "abcdefgh", .str "deed"]) hd hN (by simp) (by simp)
  obtain ⟨z, rfl, a⟩ := labels m
  refine ⟨z, h', ?_, a, hd'⟩
  have s8 : small 8 = true := rfl
  unfold b__law_label
  simp [s8, e]
def wordsL : List D := [.str "", .str "a", .str "none", .str "yes", .str "row", .str "thing", .str "1", .str "-1", .str "[1 2]", .str "#5", .str "a.b", .str "a:b", .str " "]
theorem words_in {d : D} (m : d ∈ wordsL ++ [.str "twentysigns of all ~"]) : ∃ z, d = .str z ∧ wS z := by
  simp only [wordsL, List.cons_append, List.nil_append, List.mem_cons, List.not_mem_nil, or_false] at m
  unfold wS
  rcases m with rfl | rfl | rfl | rfl | rfl | rfl | rfl | rfl | rfl | rfl | rfl | rfl | rfl | rfl <;> exact ⟨_, rfl, by decide +kernel⟩
theorem nums_in {d : D} (m : d ∈ ([.int 0, .int 1, .int 9, .int 10, .int 99, .int 100, .int 999999, .int 1000000000000000] : List D)) : ∃ i, d = .int i ∧ 0 ≤ i ∧ i ≤ 1000000000000000 := by
  simp only [List.mem_cons, List.not_mem_nil, or_false] at m
  rcases m with rfl | rfl | rfl | rfl | rfl | rfl | rfl | rfl <;> exact ⟨_, rfl, by decide, by decide⟩
theorem leaf_x {N : Nat} {rest h : LH} (hd : Hx N rest h) (hN : N < 900000) : ∃ d h', leafM [.ref 1] h = .ok d h' ∧ Wk 0 450 d ∧ Hx (N + 10) rest h' := by
  obtain ⟨g, hd⟩ := hd
  obtain ⟨r1, h1, e1, a1, b1, d1⟩ := dealt_ok (lots := 8) hd (by omega) (by omega) (by omega)
  obtain ⟨nm', h2, e2, m2, d2⟩ := pick_ok (l := [.int 0, .int 1, .int 9, .int 10, .int 99, .int 100, .int 999999, .int 1000000000000000]) d1 (by omega) (by simp) (by simp)
  obtain ⟨num, rfl, n1, n2⟩ := nums_in m2
  have hlen : h2.length = 2 + (rest ++ g).length := by
    obtain ⟨cs, t, n, rfl, _⟩ := d2
    unfold hnd
    simp only [List.length_cons]
    omega
  have d3 : Hd (N + 1 + 1) (rest ++ g ++ [.lst wordsL]) (h2 ++ [.lst wordsL]) := by
    obtain ⟨cs, t, n, rfl, r⟩ := d2
    exact ⟨cs, t, n, rfl, r⟩
  have ga : gAppend (h2 ++ [.lst wordsL]) (.ref h2.length) [.str "twentysigns of all ~"] = some (.non, h2 ++ [.lst (wordsL ++ [.str "twentysigns of all ~"])]) := by
    unfold gAppend
    simp only [List.getElem?_append_right (Nat.le_refl _), Nat.sub_self, List.getElem?_cons_zero]
    rw [if_pos (by rfl), List.set_append_right _ _ (Nat.le_refl _), Nat.sub_self]
    rfl
  have d4 : Hd (N + 1 + 1) (rest ++ g ++ [.lst (wordsL ++ [.str "twentysigns of all ~"])]) (h2 ++ [.lst (wordsL ++ [.str "twentysigns of all ~"])]) := by
    obtain ⟨cs, t, n, rfl, r⟩ := d2
    exact ⟨cs, t, n, rfl, r⟩
  have ty : tyD (h2 ++ [.lst wordsL]) (.ref h2.length) = some "list" := by
    unfold tyD
    simp only [List.getElem?_append_right (Nat.le_refl _), Nat.sub_self, List.getElem?_cons_zero]
  obtain ⟨wv, h3, e3, m3, d5⟩ := pick_ref d4 (by omega) (by simp) (by decide)
  rw [← hlen] at e3
  obtain ⟨word, rfl, w1⟩ := words_in m3
  obtain ⟨f1, h4, e4, c1, d6⟩ := label_ok d5 (by omega)
  obtain ⟨f2, h5, e5, c3, d7⟩ := label_ok d6 (by omega)
  obtain ⟨r2, h6, e6, a6, b6, d8⟩ := dealt_ok (lots := 2) d7 (by omega) (by omega) (by omega)
  obtain ⟨dk, ek, mk⟩ := atI_in (l := ([.str "deed", .str "kind"] : List D)) (r := r2) a6 b6
  obtain ⟨kd, rfl, k1⟩ : ∃ z, dk = .str z ∧ (z = "deed" ∨ z = "kind") := by
    simp only [List.mem_cons, List.not_mem_nil, or_false] at mk
    rcases mk with rfl | rfl
    · exact ⟨_, rfl, .inl rfl⟩
    · exact ⟨_, rfl, .inr rfl⟩
  obtain ⟨d, ed, md⟩ := atI_in (l := ([.non, .bl true, .bl false, .int num, .int (0 - num), .str word, .tup [.str "thing", .int num], .tup [.str kd, .str f1, .str f2]] : List D)) (r := r1) a1 (by simpa using b1)
  have gd : Wk 0 450 d := by
    simp only [List.mem_cons, List.not_mem_nil, or_false] at md
    rcases md with rfl | rfl | rfl | rfl | rfl | rfl | rfl | rfl
    · exact Wk.leaf .non
    · exact Wk.leaf (.bl _)
    · exact Wk.leaf (.bl _)
    · exact Wk.leaf (.int _ (by omega))
    · exact Wk.leaf (.int _ (by omega))
    · exact Wk.leaf (.str _ w1)
    · exact Wk.leaf (.thing _ (by omega))
    · exact Wk.leaf (.named _ _ _ k1 c1 c3)
  refine ⟨d, h6, ?_, gd, g ++ [.lst (wordsL ++ [.str "twentysigns of all ~"])], ?_⟩
  · have s8 : small 8 = true := rfl
    have s13 : small 13 = true := rfl
    have s7 : small 7 = true := rfl
    have s2 : small 2 = true := rfl
    have s3 : small 3 = true := rfl
    have s1 : small 1 = true := rfl
    have ik : oIx h6 (.lst [.str "deed", .str "kind"]) (.int r2) = some (.str kd) := ek
    have id' : oIx h6 (.lst [.non, .bl true, .bl false, .int num, .int (0 - num), .str word, .tup [.str "thing", .int num], .tup [.str kd, .str f1, .str f2]]) (.int r1) = some d := ed
    have kW : (aCons (mC (.str "")) (aCons (mC (.str "a")) (aCons (mC (.str "none")) (aCons (mC (.str "yes")) (aCons (mC (.str "row")) (aCons (mC (.str "thing")) (aCons (mC (.str "1")) (aCons (mC (.str "-1")) (aCons (mC (.str "[1 2]")) (aCons (mC (.str "#5")) (aCons (mC (.str "a.b")) (aCons (mC (.str "a:b")) (aCons (mC (.str " ")) aNil))))))))))))) = fun s h => .ok wordsL h := by
      funext s h
      rfl
    have sW : small wordsL.length = true := rfl
    unfold leafM b__law_leaf
    simp only [kW]
    have id2 : oIx h6 (.lst [.non, .bl true, .bl false, .int num, .int (-num), .str word, .tup [.str "thing", .int num], .tup [.str kd, .str f1, .str f2]]) (.int r1) = some d := by
      rw [show (-num) = 0 - num by omega]; exact id'
    simp [e1, s8, e2, sW, ty, ga, e3, e4, e5, s7, s2, s3, s1, e6, ik, id', id2]
  · have : rest ++ (g ++ [.lst (wordsL ++ [.str "twentysigns of all ~"])]) = rest ++ g ++ [.lst (wordsL ++ [.str "twentysigns of all ~"])] := by simp
    rw [this]
    exact Hd_mono d8 (by omega)
def looksL : List D := [.tup [.str "thing", .int 5], .tup [.str "deed", .str "a", .str "b"], .tup [.str "kind", .str "a", .str "b"], .tup [.str "row", .int 5], .tup [.str "row", .tup [.str "row", .tup []]], .tup [.str "row"]]
def rowD (d : D) : D := .tup [.str "row", d]
theorem looks_ok (h : LH) : b__law_alike_looks [] h = .ok (.lst (looksL.map rowD)) h := by
  have kL : (aCons (mTup (aCons (mC (.str "thing")) (aCons (mC (.int 5)) aNil))) (aCons (mTup (aCons (mC (.str "deed")) (aCons (mC (.str "a")) (aCons (mC (.str "b")) aNil)))) (aCons (mTup (aCons (mC (.str "kind")) (aCons (mC (.str "a")) (aCons (mC (.str "b")) aNil)))) (aCons (mTup (aCons (mC (.str "row")) (aCons (mC (.int 5)) aNil))) (aCons (mTup (aCons (mC (.str "row")) (aCons (mTup (aCons (mC (.str "row")) (aCons (mTup aNil) aNil))) aNil))) (aCons (mTup (aCons (mC (.str "row")) aNil)) aNil)))))) = fun s h => .ok looksL h := by
    funext s h
    rfl
  have sL : small looksL.length = true := rfl
  have s2 : small 2 = true := rfl
  have lc : lcS [1] (gNm 1) bYes (mTup (aCons (mC (.str "row")) (aCons (mVar 1) aNil))) [some (.lst looksL), none] 1000000 (fixS looksL) 0 [] h = .ok (looksL.map rowD) h := lc_map rowD (by decide) fun d _ => by simp [s2, rowD]
  unfold b__law_alike_looks
  simp only [kL]
  simp [sL, mLc_ap, lc]
theorem w_word {x : Str} (h : wS x) : Wk 0 450 (.str x) := Wk.leaf (.str _ h)
theorem w_int5 : Wk 0 450 (.int 5) := Wk.leaf (.int _ (by decide))
theorem w_row {k n c : Nat} {l : List D} (h : ∀ d ∈ l, Wk k n d) (hl : l.length = c) : Wk (k + 1) (42 + c * (n + 2)) (rowD (.tup l)) := Wk.row h (by omega)
theorem looks_in {d : D} (m : d ∈ looksL.map rowD) : Wk 2 1500 d := by
  have w1 := w_word (by unfold wS; decide +kernel : wS "row")
  have w2 := w_word (by unfold wS; decide +kernel : wS "thing")
  have w3 := w_word (by unfold wS; decide +kernel : wS "deed")
  have w4 := w_word (by unfold wS; decide +kernel : wS "kind")
  have w5 := w_word (by unfold wS; decide +kernel : wS "a")
  have w6 := w_word (by unfold wS; decide +kernel : wS "b")
  have w7 := w_int5
  simp only [looksL, List.map_cons, List.map_nil, List.mem_cons, List.not_mem_nil, or_false] at m
  rcases m with rfl | rfl | rfl | rfl | rfl | rfl
  · exact (w_row (c := 2) (n := 450) (k := 0) (fun d m => by simp at m; rcases m with rfl | rfl <;> assumption) rfl).le (by decide) (by decide)
  · exact (w_row (c := 3) (n := 450) (k := 0) (fun d m => by simp at m; rcases m with rfl | rfl | rfl <;> assumption) rfl).le (by decide) (by decide)
  · exact (w_row (c := 3) (n := 450) (k := 0) (fun d m => by simp at m; rcases m with rfl | rfl | rfl <;> assumption) rfl).le (by decide) (by decide)
  · exact (w_row (c := 2) (n := 450) (k := 0) (fun d m => by simp at m; rcases m with rfl | rfl <;> assumption) rfl).le (by decide) (by decide)
  · refine (w_row (c := 2) (n := 450) (k := 1) (fun d m => ?_) rfl).le (by decide) (by decide)
    simp at m
    rcases m with rfl | rfl
    · exact w1.le (by decide) (by decide)
    · exact (w_row (c := 0) (n := 450) (k := 0) (fun d m => by simp at m) rfl).le (by decide) (by decide)
  · exact (w_row (c := 1) (n := 450) (k := 0) (fun d m => by simp at m; subst m; assumption) rfl).le (by decide) (by decide)
def sB : Nat → Nat
  | 0 => 450
  | n + 1 => 42 + 4 * (sB n + 2)
def cB : Nat → Nat
  | 0 => 12
  | n + 1 => 12 + 4 * cB n
theorem sB_ge : ∀ n, 450 ≤ sB n
  | 0 => Nat.le_refl _
  | n + 1 => by have := sB_ge n; simp only [sB]; omega
theorem cB_ge : ∀ n, 12 ≤ cB n
  | 0 => Nat.le_refl _
  | n + 1 => by have := cB_ge n; simp only [cB]; omega
theorem drawn_x : ∀ (k : Nat) {N : Nat} {rest h : LH}, Hx N rest h → N + cB k < 900000 → k ≤ 100 → ∃ d h', drawnRec (k + 1) [.ref 1, .int k] h = .ok d h' ∧ Wk (k + 1) (sB k) d ∧ Hx (N + cB k) rest h' := by
  intro k
  induction k with
  | zero =>
    intro N rest h hd hN hk
    simp only [cB] at hN
    obtain ⟨r, h1, e1, a1, b1, d1⟩ := dealt_x (lots := 6) hd (by omega) (by omega) (by omega)
    obtain ⟨d, h2, e2, g, d2⟩ := leaf_x d1 (by omega)
    refine ⟨d, h2, ?_, g.le (by omega) (by simp [sB]), Hx_mono d2 (by simp only [cB]; omega)⟩
    unfold drawnRec b__law_drawn
    have q : oEq h1 (.int 0) (.int 0) = some (.bl true) := oEq_ii _ _
    simp [e1, q, e2]
  | succ k ih =>
    intro N rest h hd hN hk
    have hN' : N + (12 + 4 * cB k) < 900000 := by simpa only [cB] using hN
    have c0 := cB_ge k
    obtain ⟨r, h1, e1, a1, b1, d1⟩ := dealt_x (lots := 6) hd (by omega) (by omega) (by omega)
    have q : oEq h1 (.int ((k : Int) + 1)) (.int 0) = some (.bl false) := by
      rw [oEq_ii]
      exact congrArg (fun b => some (D.bl b)) (beq_eq_false_iff_ne.mpr (by omega))
    by_cases c1 : r < 2
    · obtain ⟨d, h2, e2, g, d2⟩ := leaf_x d1 (by omega)
      refine ⟨d, h2, ?_, g.le (by omega) (sB_ge (k + 1)), Hx_mono d2 (by simp only [cB]; omega)⟩
      unfold drawnRec b__law_drawn
      simp [e1, q, c1, e2]
    · by_cases c5 : r = 5
      · obtain ⟨d, h2, e2, m, d2⟩ := pick_x (l := looksL.map rowD) d1 (by omega) (by simp [looksL]) (by simp [looksL])
        refine ⟨d, h2, ?_, (looks_in m).le (by omega) (by have := sB_ge k; simp only [sB]; omega), Hx_mono d2 (by simp only [cB]; omega)⟩
        unfold drawnRec b__law_drawn
        have q5 : oEq h1 (.int 5) (.int 5) = some (.bl true) := oEq_ii _ _
        subst c5
        simp [e1, q, q5, looks_ok, e2]
      · have q5 : oEq h1 (.int r) (.int 5) = some (.bl false) := by
          rw [oEq_ii]
          congr 2
          rw [beq_eq_false_iff_ne]
          exact c5
        obtain ⟨r2, h2, e2, a2, b2, d2⟩ := dealt_x (lots := 5) d1 (by omega) (by omega) (by omega)
        obtain ⟨l, h3, e3, l3, d3, p3⟩ := lcL_run (vs := [3]) (g := gNm 3) (t := bYes) (e := mFn 2 (drawnRec (k + 1)) [] (aCons (mVar 0) (aCons (mOp oSub (mVar 1) (mC (.int 1))) aNil)))
          (s := [some (.ref 1), some (.int ((k : Int) + 1)), some (.int r), none]) (fun j h => Hx (N + 2 + j * cB k) rest h) (Wk (k + 1) (sB k)) 4
          (rngL 0 r2.toNat) [] 0 h2 (by simpa using d2) (by rw [rngL_len]; omega) (by rw [rngL_len]; have := sizeLine_ge; simp; omega) (fun d m j h hj i => by
            have hj' : j * cB k ≤ 3 * cB k := Nat.mul_le_mul_right _ (by omega)
            obtain ⟨x, h', e, g, d'⟩ := ih i (by omega) (by omega)
            refine ⟨[some (.ref 1), some (.int ((k : Int) + 1)), some (.int r), some d], x, h', rfl, rfl, ?_, ?_, g⟩
            · simp [e]
            · rw [Nat.add_mul, Nat.one_mul, ← Nat.add_assoc]
              exact d')
        rw [rngL_len] at l3
        have f3 : lcS [3] (gNm 3) bYes (mFn 2 (drawnRec (k + 1)) [] (aCons (mVar 0) (aCons (mOp oSub (mVar 1) (mC (.int 1))) aNil))) [some (.ref 1), some (.int ((k : Int) + 1)), some (.int r), none] 1000000 (fixS (rngL 0 r2.toNat)) 0 [] h2 = .ok l h3 := by
          rw [lc_fix (by rw [rngL_len]; omega), e3]; rfl
        have rg : inRng r2 = true := decide_eq_true (by omega)
        have ct : cTuple h3 [.lst l] = some (.tup l) := rfl
        have s2 : small 2 = true := rfl
        have gl := Wk.row (c := 4) p3 (by omega)
        refine ⟨_, h3, ?_, gl.le (by omega) (by simp only [sB]; omega), ?_⟩
        · unfold drawnRec b__law_drawn
          simp [e1, q, c1, q5, e2, mLc_ap, rg, f3, ct, s2]
        · have hj : (0 + (rngL 0 r2.toNat).length) * cB k ≤ 4 * cB k := Nat.mul_le_mul_right _ (by rw [rngL_len]; omega)
          exact Hx_mono d3 (by simp only [cB]; omega)
end Wk03
namespace Wk03
open PySem PySem.Spec PyProof.Rows L2 DN
/-! chains, wide ones -/
def chn : Nat → D → D
  | 0, d => d
  | k + 1, d => chn k (rowD (.tup [d]))
theorem chain_loop (n : Option D) (h : LH) : ∀ (ds : List D) (d : D) (x : Option D), ∃ x', forL (gNm 2) (sSet 0 (mTup (aCons (mC (.str "row")) (aCons (mTup (aCons (mVar 0) aNil)) aNil)))) ds [some d, n, x] h = .nx [some (chn ds.length d), n, x'] h
  | [], d, x => ⟨x, rfl⟩
  | e :: ds, d, x => by
    obtain ⟨x', ih⟩ := chain_loop n h ds (rowD (.tup [d])) (some e)
    refine ⟨x', ?_⟩
    have s1 : small 1 = true := rfl
    have s2 : small 2 = true := rfl
    unfold forL
    simp [s1, s2]
    exact ih
theorem chain_ok (h : LH) (d : D) (L : Int) (h0 : 0 ≤ L) (hk : L ≤ 1000) : b__law_chain [d, .int L] h = .ok (chn L.toNat d) h := by
  have rg : inRng L = true := decide_eq_true (by omega)
  obtain ⟨x', e⟩ := chain_loop (some (.int L)) h (rngL 0 L.toNat) d none
  rw [rngL_len] at e
  have hf : (rngL 0 L.toNat).length < 1000000 := by rw [rngL_len]; omega
  have fe : forS 1000000 (fixS (rngL 0 L.toNat)) 0 (gNm 2) (sSet 0 (mTup (aCons (mC (.str "row")) (aCons (mTup (aCons (mVar 0) aNil)) aNil)))) [some d, some (.int L), none] h = .nx [some (chn L.toNat d), some (.int L), x'] h := (for_fix hf).trans e
  clear hf e
  unfold b__law_chain
  simp [sFor_ap, rg, fe]
theorem W_chn : ∀ (k : Nat) {d : D} {n m : Nat}, Wk m n d → Wk (m + k) (n + 44 * k) (chn k d)
  | 0, d, n, m, g => g.le (by omega) (by omega)
  | k + 1, d, n, m, g => by
    have g1 : Wk (m + 1) (42 + 1 * (n + 2)) (rowD (.tup [d])) := w_row (c := 1) (l := [d]) (fun x hx => by simp at hx; subst hx; exact g) rfl
    exact (W_chn k g1).le (by omega) (by omega)
def many (k : Nat) (d : D) : List D := (List.replicate k [d]).flatten
theorem many_mem {k : Nat} {d x : D} (h : x ∈ many k d) : x = d := by
  unfold many at h
  rw [List.mem_flatten] at h
  obtain ⟨l, h1, h2⟩ := h
  rw [List.eq_of_mem_replicate h1] at h2
  simpa using h2
theorem many_len (k : Nat) (d : D) : (many k d).length = k := by simp [many]
theorem mul_tup (h : LH) (d : D) (k : Nat) (h1 : 2 ≤ k) (h2 : k ≤ 1000) : oMul h (.tup [d]) (.int k) = some (.tup (many k d)) := by
  show (if decide ([d] ≠ [] ∧ (2 : Int) ≤ k ∧ (k : Int) ≤ 1000 ∧ [d].length ≤ 1000) = true then some (D.tup (List.replicate ((k : Int)).toNat [d]).flatten) else none) = _
  rw [if_pos (decide_eq_true ⟨by simp, by omega, by omega, by simp⟩)]
  rfl
def wid (k : Nat) (d : D) : D := rowD (.tup (many k d))
theorem wide_ok (h : LH) (d : D) (k : Nat) (h1 : 2 ≤ k) (h2 : k ≤ 1000) : b__law_wide [d, .int k] h = .ok (wid k d) h := by
  have s1 : small 1 = true := rfl
  have s2 : small 2 = true := rfl
  unfold b__law_wide
  simp [s1, s2, mul_tup h d k h1 h2, wid, rowD]
theorem W_wid {n m k : Nat} {d : D} (g : Wk m n d) : Wk (m + 1) (42 + k * (n + 2)) (wid k d) := w_row (fun x hx => by rw [many_mem hx]; exact g) (many_len k d)
def gB : Nat := 180000
theorem greatest_x {N : Nat} {rest h : LH} (hd : Hx N rest h) (hN : N < 800000) : ∃ l h', b__law_greatest leafM b__law_chain b__law_wide [.ref 1] h = .ok (.lst l) h' ∧ l.length = 4 ∧ (∀ d ∈ l, Wk 8 gB d) ∧ Hx (N + 20) rest h' := by
  obtain ⟨a, h1, e1, g1, d1⟩ := leaf_x hd (by omega)
  obtain ⟨b, h2, e2, g2, d2⟩ := leaf_x d1 (by omega)
  have c8 := chain_ok h2 a 8 (by decide) (by decide)
  have w40 := wide_ok h2 a 40 (by omega) (by omega)
  have c7 := chain_ok h2 (wid 40 a) 7 (by decide) (by decide)
  have w38 := wide_ok h2 a 38 (by omega) (by omega)
  have m5 := mul_tup h2 (wid 38 a) 5 (by omega) (by omega)
  have m4 := mul_tup h2 b 4 (by omega) (by omega)
  have gw38 : Wk 1 17218 (wid 38 a) := (W_wid (k := 38) g1).le (by omega) (by omega)
  have gl : Wk 2 (42 + 9 * (17218 + 2)) (rowD (.tup (many 5 (wid 38 a) ++ many 4 b))) := w_row (k := 1) (fun x hx => by
    rcases List.mem_append.mp hx with hx | hx
    · rw [many_mem hx]; exact gw38
    · rw [many_mem hx]; exact g2.le (by omega) (by omega)) (by rw [List.length_append, many_len, many_len])
  have sm : small ((many 5 (wid 38 a)).length + (many 4 b).length) = true := by rw [many_len, many_len]; rfl
  refine ⟨[chn 8 a, wid 40 a, chn 7 (wid 40 a)] ++ [rowD (.tup (many 5 (wid 38 a) ++ many 4 b))], h2, ?_, rfl, ?_, Hx_mono d2 (by omega)⟩
  · have s1 : small 1 = true := rfl
    have s2 : small 2 = true := rfl
    have s3 : small 3 = true := rfl
    have s4 : small 4 = true := rfl
    have c8' : b__law_chain [a, .int 8] h2 = .ok (chn 8 a) h2 := c8
    have w40' : b__law_wide [a, .int 40] h2 = .ok (wid 40 a) h2 := w40
    have c7' : b__law_chain [wid 40 a, .int 7] h2 = .ok (chn 7 (wid 40 a)) h2 := c7
    have w38' : b__law_wide [a, .int 38] h2 = .ok (wid 38 a) h2 := w38
    have m5' : oMul h2 (.tup [wid 38 a]) (.int 5) = some (.tup (many 5 (wid 38 a))) := m5
    have m4' : oMul h2 (.tup [b]) (.int 4) = some (.tup (many 4 b)) := m4
    unfold b__law_greatest
    simp [e1, e2, c8', w40', c7', w38', m5', m4', s1, s2, s3, s4, sm, rowD]
  · intro d hd
    simp only [List.cons_append, List.nil_append, List.mem_cons, List.not_mem_nil, or_false] at hd
    rcases hd with rfl | rfl | rfl | rfl
    · exact (W_chn 8 g1).le (by omega) (by simp [gB])
    · exact (W_wid (k := 40) g1).le (by omega) (by simp [gB])
    · exact (W_chn 7 (W_wid (k := 40) g1)).le (by omega) (by simp [gB])
    · exact gl.le (by omega) (by simp [gB])
end Wk03
namespace Wk03
open PySem PySem.Spec PyProof.Rows L2 DN
def plainB (z : Str) : Bool := decide (z.length ≤ 40) && (tl z).all fun c => decide (plc c)
theorem plain_of {z : Str} (q : plainB z = true) : plain z := by
  unfold plainB at q
  rw [Bool.and_eq_true, decide_eq_true_eq, List.all_eq_true] at q
  exact ⟨q.1, fun c m => of_decide_eq_true (q.2 c m)⟩
theorem bent_words : wordsS.all (fun z => plainB (cutS z none (some (-1))) && (plainB (Txt.upper z) && plainB (pkS z none none (-1)))) = true := by decide +kernel
theorem pk3_three (a b c : D) : pk3 [a, b, c] none (some 0) (-1) = [c, b] := by
  unfold pk3
  have e1 : Builtin.Slice.sliceAdjust none (some 0) (-1) (([a, b, c].length : Nat) : Int) = (2, 0) := by
    show Builtin.Slice.sliceAdjust none (some 0) (-1) 3 = (2, 0)
    decide +kernel
  rw [e1]
  have e2 : Builtin.Slice.slicePlaces (2 : Int) 0 (-1) = 2 := by decide +kernel
  rw [e2]
  rfl
theorem fm_congr {α β : Type} {f g : α → Option β} : ∀ {l : List α}, (∀ x ∈ l, f x = g x) → l.filterMap f = l.filterMap g
  | [], _ => rfl
  | x :: l, h => by rw [List.filterMap_cons, List.filterMap_cons, h x (by simp), fm_congr fun y m => h y (by simp [m])]
theorem pk3_rev (l : List D) : pk3 l none none (-1) = l.reverse := by
  unfold pk3
  have e1 : Builtin.Slice.sliceAdjust none none (-1) ((l.length : Nat) : Int) = ((l.length : Int) - 1, -1) := rfl
  rw [e1]
  have e2 : Builtin.Slice.slicePlaces ((l.length : Int) - 1) (-1) (-1) = l.length := by
    unfold Builtin.Slice.slicePlaces
    have h1 : ¬ ((-1 : Int) > 0) := by decide
    rw [if_neg h1]
    by_cases h : (l.length : Int) - 1 > -1
    · rw [if_pos h, show (- -1 : Int) = 1 by decide, Int.ediv_one]
      omega
    · rw [if_neg h]
      omega
  rw [e2]
  have e3 : (List.range l.length).map (fun k => l.length - 1 - k) = (List.range l.length).reverse := PySem.W.krv_range _
  have e4 : (List.range l.length).filterMap (fun (k : Nat) => l[(((l.length : Int) - 1) + (k : Int) * (-1)).toNat]?) = ((List.range l.length).map (fun k => l.length - 1 - k)).filterMap (l[·]?) := by
    rw [List.filterMap_map]
    refine fm_congr fun k hk => ?_
    have := List.mem_range.mp hk
    show l[(((l.length : Int) - 1) + (k : Int) * (-1)).toNat]? = l[l.length - 1 - k]?
    rw [show (((l.length : Int) - 1) + (k : Int) * (-1)).toNat = l.length - 1 - k by omega]
  rw [e4, e3, List.filterMap_reverse]
  have e5 : (List.range l.length).filterMap (l[·]?) = l := by
    have := PySem.W.krv_all l.toArray
    simpa using this
  rw [e5]
def P1 (d : D) : Prop := W plain 1 d ∧ sz d ≤ 1600
theorem P1.leaf {d : D} (h : LeafQ plain d) : P1 d := ⟨.leaf h, by have := sz_leaf h; omega⟩
theorem P1.row {l : List D} (h : ∀ x ∈ l, LeafQ plain x) (hl : l.length ≤ 3) : P1 (.tup [.str "row", .tup l]) := by
  refine ⟨.row fun x m => .leaf (h x m), ?_⟩
  have lr : ("row" : Str).length = 3 := rfl
  have := szs_le (l := l) (n := 450) fun d m => sz_leaf (h d m)
  have := Nat.mul_le_mul_right 452 hl
  simp only [sz, szs, lr]
  omega
theorem plit {z : Str} (h : plainB z = true) : LeafQ plain (.str z) := .str z (plain_of h)
def baseL (d : D) : List D := [d, .non, .bl true, .bl false, .int 0, .int 1, .str "none", .str "1", .tup [.str "thing", .int 0], .tup [.str "thing", .int 1], .tup [.str "row", .tup []]]
theorem base_P {d : D} (hd : P1 d) : ∀ x ∈ baseL d, P1 x := by
  intro x m
  simp only [baseL, List.mem_cons, List.not_mem_nil, or_false] at m
  rcases m with rfl | rfl | rfl | rfl | rfl | rfl | rfl | rfl | rfl | rfl | rfl
  · exact hd
  · exact .leaf .non
  · exact .leaf (.bl _)
  · exact .leaf (.bl _)
  · exact .leaf (.int _ (by decide))
  · exact .leaf (.int _ (by decide))
  · exact .leaf (plit (by decide +kernel))
  · exact .leaf (plit (by decide +kernel))
  · exact .leaf (.thing _ (by decide))
  · exact .leaf (.thing _ (by decide))
  · exact .row (by simp) (by simp)
theorem near_end {N : Nat} {rest h : LH} {L : List D} (hd : Hx N rest h) (hN : N < 900000) (h0 : L ≠ []) (h1 : L.length ≤ 100) (hp : ∀ x ∈ L, P1 x) : ∃ e h', pickM dealtM [.ref 1, .lst L] h = .ok e h' ∧ P1 e ∧ Hx (N + 1) rest h' := by
  obtain ⟨e, h', q, m, d⟩ := pick_x hd (by omega) h0 (by omega)
  exact ⟨e, h', q, hp e m, d⟩
noncomputable abbrev nearM : FM := b__law_nearby (pickM dealtM)
theorem app_P {A B : List D} (a : ∀ x ∈ A, P1 x) (b : ∀ x ∈ B, P1 x) : ∀ x ∈ A ++ B, P1 x := fun x m => (List.mem_append.mp m).elim (a x) (b x)
theorem near_x {N : Nat} {rest h : LH} {d : D} (hd : Hx N rest h) (hN : N < 900000) (hw : LeafQ wS d ∨ d = .tup [.str "row", .tup []]) : ∃ e h', nearM [.ref 1, d] h = .ok e h' ∧ P1 e ∧ Hx (N + 1) rest h' := by
  have s11 : small 11 = true := rfl
  have s4 : small 4 = true := rfl
  have s3 : small 3 = true := rfl
  have s2 : small 2 = true := rfl
  have s1 : small 1 = true := rfl
  have s0 : small 0 = true := rfl
  rcases hw with hw | rfl
  · have hq := hw.imp fun _ => wS_plain
    have ok := hq.ok
    have b1 := isi_bl (h := h) ok
    have b2 := isi_int (h := h) ok
    have b3 := isi_tup (h := h) ok
    have b4 := isi_str (h := h) ok
    have hb := base_P (.leaf hq)
    cases hw with
    | non =>
      obtain ⟨e, h', q, p, d'⟩ := near_end (L := baseL .non) hd hN (by simp [baseL]) (by simp [baseL]) hb
      refine ⟨e, h', ?_, p, d'⟩
      unfold baseL at q
      unfold nearM b__law_nearby
      simp [b1, b2, b3, b4, isBl, isInt, isTup, isStr, s11, s2, s0, q]
    | bl b =>
      have m3 : oMul h (.lst [.int (if b then 1 else 0), .bl !b]) (.int 3) = some (.lst [.int (if b then 1 else 0), .bl !b, .int (if b then 1 else 0), .bl !b, .int (if b then 1 else 0), .bl !b]) := rfl
      have ci : cInt h [.bl b] = some (.int (if b then 1 else 0)) := rfl
      have pp : ∀ x ∈ [D.int (if b then 1 else 0), .bl !b, .int (if b then 1 else 0), .bl !b, .int (if b then 1 else 0), .bl !b], P1 x := by
        intro x m
        have p1 : P1 (.int (if b then 1 else 0)) := .leaf (.int _ (by cases b <;> decide))
        have p2 : P1 (.bl !b) := .leaf (.bl _)
        simp only [List.mem_cons, List.not_mem_nil, or_false] at m
        rcases m with rfl | rfl | rfl | rfl | rfl | rfl <;> assumption
      obtain ⟨e, h', q, p, d'⟩ := near_end hd hN (by simp [baseL]) (by simp [baseL]) (app_P hb pp)
      refine ⟨e, h', ?_, p, d'⟩
      have s17 : small 17 = true := rfl
      unfold baseL at q
      unfold nearM b__law_nearby
      generalize (if b then (1 : Int) else 0) = I at m3 ci q
      simp [b1, b2, b3, b4, isBl, isInt, isTup, isStr, s11, s2, s0, ci, m3, s17] at q ⊢
      simp [q]
    | int i hi =>
      have ce := oEq_ii (h := h) i 1
      have cs : cStr h [.int i] = some (.str (toString i)) := by
        show (if decide (i.natAbs.log2 < 1920) = true then _ else _) = _
        rw [if_pos (decide_eq_true (by have := lg2 (n := i.natAbs) (m := 60) (by omega) (by omega); omega))]
      have ca : cAbs h [.int i] = some (.int (if i < 0 then -i else i)) := rfl
      have pz : plain (toString i : Str) := by
        have tz := tl_int i
        have lz : (intL i).length ≤ 18 := by
          have := TL.numL_len (n := i.natAbs) (k := 17) (by decide) hi
          unfold intL
          split <;> simp <;> omega
        refine ⟨by rw [len_tl, tz]; omega, fun c m => ?_⟩
        rw [tz] at m
        have : c = 45 ∨ (48 ≤ c ∧ c ≤ 57) := by
          unfold intL at m
          split at m
          · rcases List.mem_cons.mp m with rfl | m
            · exact .inl rfl
            · exact .inr (by have := TL.numL_digits _ c m; omega)
          · exact .inr (by have := TL.numL_digits _ c m; omega)
        unfold plc
        omega
      have p1 : P1 (.bl (i == 1)) := .leaf (.bl _)
      have p2 : P1 (.int (-i)) := .leaf (.int _ (by omega))
      have p3 : P1 (.str (toString i)) := .leaf (.str _ pz)
      have p4 : P1 (.tup [.str "thing", .int (if i < 0 then -i else i)]) := .leaf (.thing _ (by split <;> omega))
      generalize (i == 1) = B at ce p1
      generalize (toString i : Str) = T at cs p3
      generalize (if i < 0 then -i else i) = A at ca p4
      have m2 : oMul h (.lst [.bl B, .int (-i), .str T, .tup [.str "thing", .int A]]) (.int 2) = some (.lst [.bl B, .int (-i), .str T, .tup [.str "thing", .int A], .bl B, .int (-i), .str T, .tup [.str "thing", .int A]]) := rfl
      have pp : ∀ x ∈ [D.bl B, .int (-i), .str T, .tup [.str "thing", .int A], .bl B, .int (-i), .str T, .tup [.str "thing", .int A]], P1 x := by
        intro x m
        simp only [List.mem_cons, List.not_mem_nil, or_false] at m
        rcases m with rfl | rfl | rfl | rfl | rfl | rfl | rfl | rfl <;> assumption
      obtain ⟨e, h', q, p, d'⟩ := near_end hd hN (by simp [baseL]) (by simp [baseL]) (app_P hb pp)
      refine ⟨e, h', ?_, p, d'⟩
      have s19 : small 19 = true := rfl
      unfold baseL at q
      unfold nearM b__law_nearby
      simp [b1, b2, b3, b4, isBl, isInt, isTup, isStr, s11, s2, s0, s4, ce, cs, ca, m2, s19] at q ⊢
      simp [q]
    | str z hz =>
      have w := List.all_eq_true.mp bent_words z hz
      rw [Bool.and_eq_true, Bool.and_eq_true] at w
      have zl := (wS_plain hz).1
      have c1 : oCut h (.str z) none (some (-1)) = some (.str (cutS z none (some (-1)))) := by
        show (if small z.length = true then _ else _) = _
        rw [if_pos (small_of (by omega))]
      have c2 : gUpper h (.str z) [] = some (.str (Txt.upper z), h) := by
        show (if decide (z.length ≤ 5592405) = true then _ else _) = _
        rw [if_pos (decide_eq_true (by omega))]
      have c3 : oCut3 (.str z) none none (some (-1)) = some (.str (pkS z none none (-1))) := by
        show (if decide _ = true then _ else _) = _
        rw [if_pos (decide_eq_true ⟨by decide, by decide, by have := (plain_of w.2.2).1; have := sizeLine_ge; omega⟩)]
      have p1 : P1 (.str (cutS z none (some (-1)))) := .leaf (plit w.1)
      have p2 : P1 (.str (Txt.upper z)) := .leaf (plit w.2.1)
      have p3 : P1 (.str (pkS z none none (-1))) := .leaf (plit w.2.2)
      clear w
      generalize cutS z none (some (-1)) = A at c1 p1
      generalize Txt.upper z = B at c2 p2
      generalize pkS z none none (-1) = C at c3 p3
      have m2 : oMul h (.lst [.str A, .str B, .str C]) (.int 2) = some (.lst [.str A, .str B, .str C, .str A, .str B, .str C]) := rfl
      have pp : ∀ x ∈ [D.str A, .str B, .str C, .str A, .str B, .str C], P1 x := by
        intro x m
        simp only [List.mem_cons, List.not_mem_nil, or_false] at m
        rcases m with rfl | rfl | rfl | rfl | rfl | rfl <;> assumption
      obtain ⟨e, h', q, p, d'⟩ := near_end hd hN (by simp [baseL]) (by simp [baseL]) (app_P hb pp)
      refine ⟨e, h', ?_, p, d'⟩
      have s17 : small 17 = true := rfl
      have ty : tyD h (.str z) = some "str" := rfl
      unfold baseL at q
      unfold nearM b__law_nearby
      simp [b1, b2, b3, b4, isBl, isInt, isTup, isStr, s11, s2, s0, s3, mSl3, c1, c2, c3, m2, s17, ty] at q ⊢
      simp [q]
    | thing i hi =>
      have ln : cLen h [.tup [.str "thing", .int i]] = some (.int 2) := rfl
      have e23 : oEq h (.int 2) (.int 3) = some (.bl false) := by rw [oEq_ii]; rfl
      have x0 : oIx h (.tup [.str "thing", .int i]) (.int 0) = some (.str "thing") := ix0' _ _
      have x1 : oIx h (.tup [.str "thing", .int i]) (.int 1) = some (.int i) := ix1 _ _ _
      have et : oEq h (.str "thing") (.str "thing") = some (.bl true) := by rw [oEq_ss]; simp
      have md : oMod h (.int i) (.int 1000000000000000) = some (.int (i % 1000000000000000)) := by rw [oMod_ii]; rfl
      have p1 : P1 (.int i) := .leaf (.int _ hi)
      have p2 : P1 (.tup [.str "row", .tup [.str "thing", .int i]]) := .row (fun x m => by
        simp only [List.mem_cons, List.not_mem_nil, or_false] at m
        rcases m with rfl | rfl
        · exact plit (by decide +kernel)
        · exact .int _ hi) (by simp)
      have p3 : P1 (.tup [.str "thing", .int (i % 1000000000000000 + 1)]) := .leaf (.thing _ (by have := Int.emod_nonneg i (show (1000000000000000 : Int) ≠ 0 by decide); have := Int.emod_lt_of_pos i (show (0 : Int) < 1000000000000000 by decide); omega))
      generalize hM : i % 1000000000000000 = M at md p3
      have m2 : oMul h (.lst [.int i, .tup [.str "row", .tup [.str "thing", .int i]], .tup [.str "thing", .int (M + 1)]]) (.int 2) = some (.lst [.int i, .tup [.str "row", .tup [.str "thing", .int i]], .tup [.str "thing", .int (M + 1)], .int i, .tup [.str "row", .tup [.str "thing", .int i]], .tup [.str "thing", .int (M + 1)]]) := rfl
      have pp : ∀ x ∈ [D.int i, .tup [.str "row", .tup [.str "thing", .int i]], .tup [.str "thing", .int (M + 1)], .int i, .tup [.str "row", .tup [.str "thing", .int i]], .tup [.str "thing", .int (M + 1)]], P1 x := by
        intro x m
        simp only [List.mem_cons, List.not_mem_nil, or_false] at m
        rcases m with rfl | rfl | rfl | rfl | rfl | rfl <;> assumption
      obtain ⟨e, h', q, p, d'⟩ := near_end hd hN (by simp [baseL]) (by simp [baseL]) (app_P hb pp)
      refine ⟨e, h', ?_, p, d'⟩
      have s17 : small 17 = true := rfl
      unfold baseL at q
      unfold nearM b__law_nearby
      simp [b1, b2, b3, b4, isBl, isInt, isTup, isStr, s11, s2, s0, s3, ln, e23, x0, x1, et, md, hM, m2, s17, -oEq_ss, -oMod_ii] at q ⊢
      simp [q]
    | named k a b hk ha hb' =>
      have ln : cLen h [.tup [.str k, .str a, .str b]] = some (.int 3) := rfl
      have e33 : oEq h (.int 3) (.int 3) = some (.bl true) := by rw [oEq_ii]; rfl
      have c1 : oCut h (.tup [.str k, .str a, .str b]) (some 1) none = some (.tup [.str a, .str b]) := rfl
      have c2 : oCut h (.tup [.str k, .str a, .str b]) none (some 1) = some (.tup [.str k]) := rfl
      have hp : pk3 [D.str k, .str a, .str b] none (some 0) (-1) = [.str b, .str a] := pk3_three _ _ _
      have c3 : oCut3 (.tup [.str k, .str a, .str b]) none (some 0) (some (-1)) = some (.tup [.str b, .str a]) := by
        show (if decide _ = true then some (D.tup (pk3 [D.str k, .str a, .str b] none (some 0) (-1))) else none) = _
        rw [hp, if_pos (decide_eq_true ⟨by decide, by decide, by have := sizeLine_ge; simp; omega⟩)]
      have pa := LeafQ.str (p := plain) a (nm_plain ha)
      have pb := LeafQ.str (p := plain) b (nm_plain hb')
      have pk := LeafQ.str (p := plain) k (k_plain hk)
      have p1 : P1 (.tup [.str "deed", .str a, .str b]) := .leaf (.named _ _ _ (.inl rfl) ha hb')
      have p2 : P1 (.tup [.str "kind", .str a, .str b]) := .leaf (.named _ _ _ (.inr rfl) ha hb')
      have p3 : P1 (.tup [.str k, .str b, .str a]) := .leaf (.named _ _ _ hk hb' ha)
      have p4 : P1 (.tup [.str "row", .tup [.str k, .str a, .str b]]) := .row (fun x m => by
        simp only [List.mem_cons, List.not_mem_nil, or_false] at m
        rcases m with rfl | rfl | rfl <;> assumption) (by simp)
      have m2 : oMul h (.lst [.tup [.str "deed", .str a, .str b], .tup [.str "kind", .str a, .str b], .tup [.str k, .str b, .str a], .tup [.str "row", .tup [.str k, .str a, .str b]]]) (.int 2) = some (.lst [.tup [.str "deed", .str a, .str b], .tup [.str "kind", .str a, .str b], .tup [.str k, .str b, .str a], .tup [.str "row", .tup [.str k, .str a, .str b]], .tup [.str "deed", .str a, .str b], .tup [.str "kind", .str a, .str b], .tup [.str k, .str b, .str a], .tup [.str "row", .tup [.str k, .str a, .str b]]]) := rfl
      have pp : ∀ x ∈ [D.tup [.str "deed", .str a, .str b], .tup [.str "kind", .str a, .str b], .tup [.str k, .str b, .str a], .tup [.str "row", .tup [.str k, .str a, .str b]], .tup [.str "deed", .str a, .str b], .tup [.str "kind", .str a, .str b], .tup [.str k, .str b, .str a], .tup [.str "row", .tup [.str k, .str a, .str b]]], P1 x := by
        intro x m
        simp only [List.mem_cons, List.not_mem_nil, or_false] at m
        rcases m with rfl | rfl | rfl | rfl | rfl | rfl | rfl | rfl <;> assumption
      obtain ⟨e, h', q, p, d'⟩ := near_end hd hN (by simp [baseL]) (by simp [baseL]) (app_P hb pp)
      refine ⟨e, h', ?_, p, d'⟩
      have s19 : small 19 = true := rfl
      unfold baseL at q
      unfold nearM b__law_nearby
      simp [b1, b2, b3, b4, isBl, isInt, isTup, isStr, s11, s2, s0, s1, s3, s4, ln, e33, c1, c2, c3, mSl3, m2, s19] at q ⊢
      simp [q]
  · have ok : okD (.tup [.str "row", .tup []]) := ⟨okc_row, trivial, trivial⟩
    have b1 := isi_bl (h := h) ok
    have b2 := isi_int (h := h) ok
    have b3 := isi_tup (h := h) ok
    have b4 := isi_str (h := h) ok
    have hb := base_P (.row (l := []) (by simp) (by simp))
    have ln : cLen h [.tup [.str "row", .tup []]] = some (.int 2) := rfl
    have e23 : oEq h (.int 2) (.int 3) = some (.bl false) := by rw [oEq_ii]; rfl
    have x0 : oIx h (.tup [.str "row", .tup []]) (.int 0) = some (.str "row") := ix0' _ _
    have et : oEq h (.str "row") (.str "thing") = some (.bl false) := by rw [oEq_ss, str_ne (by decide +kernel)]
    obtain ⟨e, h', q, p, d'⟩ := near_end hd hN (by simp [baseL]) (by simp [baseL]) hb
    refine ⟨e, h', ?_, p, d'⟩
    unfold baseL at q
    unfold nearM b__law_nearby
    simp [b1, b2, b3, b4, isBl, isInt, isTup, isStr, s11, s2, s0, ln, e23, x0, et, q, -oEq_ss]
end Wk03
namespace Wk03
open PySem PySem.Spec PyProof.Rows L2 DN
theorem sz_take (l : List D) (k : Nat) : szs (l.take k) + szs (l.drop k) = szs l := by rw [← szs_app, List.take_append_drop]
theorem cut_lo (l : List D) (k : Int) (h0 : 0 ≤ k) (h1 : k < l.length) : cut l none (some k) = l.take k.toNat ∧ cut l (some (k + 1)) none = l.drop (k.toNat + 1) := by
  have e1 : HT.sIx l.length l.length (some k) = k.toNat := by
    show (if k < 0 then (k + (l.length : Int)).toNat else min k.toNat l.length) = _
    rw [if_neg (by omega)]
    omega
  have e2 : HT.sIx l.length 0 (some (k + 1)) = k.toNat + 1 := by
    show (if k + 1 < 0 then (k + 1 + (l.length : Int)).toNat else min (k + 1).toNat l.length) = _
    rw [if_neg (by omega)]
    omega
  constructor
  · unfold cut
    rw [e1, HT.sIx_none, List.drop_zero, Nat.sub_zero]
  · unfold cut
    rw [e2, HT.sIx_none]
    rw [List.take_of_length_le (by rw [List.length_drop]; exact Nat.le_refl _)]
theorem szs_cut (l : List D) (lo hi : Option Int) : szs (cut l lo hi) ≤ szs l := by
  unfold cut
  have a := sz_take l (HT.sIx l.length 0 lo)
  have b := sz_take (l.drop (HT.sIx l.length 0 lo)) (HT.sIx l.length l.length hi - HT.sIx l.length 0 lo)
  omega
theorem szs_rev : ∀ l : List D, szs l.reverse = szs l
  | [] => rfl
  | x :: l => by
    rw [List.reverse_cons, szs_app, szs_rev l]
    simp only [szs]
    omega
noncomputable def bentRec : Nat → FM
  | 0 => fun _ _ => .no
  | n + 1 => b__law_bent dealtM b__law_is_row nearM (bentRec n)
theorem row_P {p : Str → Prop} {k : Nat} {l m : List D} (h : ∀ x ∈ l, W p k x) (hm : ∀ x ∈ m, x ∈ l) : W p (k + 1) (.tup [.str "row", .tup m]) := .row fun x q => h x (hm x q)
theorem bent_x : ∀ (k : Nat) {N : Nat} {rest h : LH} {d : D}, Hx N rest h → N + 4 * k < 800000 → k ≤ 100 → W wS k d → sz d ≤ 300000 → ∃ e h', bentRec (k + 1) [.ref 1, d] h = .ok e h' ∧ W plain (k + 1) e ∧ sz e ≤ 2 * sz d + 1600 ∧ Hx (N + 4 * k + 4) rest h' := by
  intro k
  induction k with
  | zero =>
    intro N rest h d hd hN hk hw hz
    have hq := hw.imp fun _ => wS_plain
    obtain ⟨r, h1, e1, a1, b1, d1⟩ := dealt_x (lots := 6) hd (by omega) (by omega) (by omega)
    have ir := law_is_row_ok hq h1
    cases hw with
    | leaf g =>
      rw [g.row] at ir
      obtain ⟨e, h2, e2, p, d2⟩ := near_x d1 (by omega) (.inl g)
      refine ⟨e, h2, ?_, p.1.le (by omega), by have := p.2; omega, Hx_mono d2 (by omega)⟩
      unfold bentRec b__law_bent
      simp [e1, ir, e2]
  | succ k ih =>
    intro N rest h d hd hN hk hw hz
    have hq := hw.imp fun _ => wS_plain
    obtain ⟨r, h1, e1, a1, b1, d1⟩ := dealt_x (lots := 6) hd (by omega) (by omega) (by omega)
    have ir := law_is_row_ok hq h1
    cases hw with
    | leaf g =>
      rw [g.row] at ir
      obtain ⟨e, h2, e2, p, d2⟩ := near_x d1 (by omega) (.inl g)
      refine ⟨e, h2, ?_, p.1.le (by omega), by have := p.2; omega, Hx_mono d2 (by omega)⟩
      unfold bentRec b__law_bent
      simp [e1, ir, e2]
    | @row k' l hl =>
      rw [rowOf_row] at ir
      have s0 : small 0 = true := rfl
      have x1 : ∀ h, oIx h (.tup [.str "row", .tup l]) (.int 1) = some (.tup l) := fun h => ix1 _ _ _
      have zl : szs l + 42 = sz (.tup [.str "row", .tup l]) := by
        have lr : ("row" : Str).length = 3 := rfl
        simp only [sz, szs, lr]
        omega
      by_cases hn : l = []
      · subst hn
        obtain ⟨e, h2, e2, p, d2⟩ := near_x d1 (by omega) (.inr rfl)
        refine ⟨e, h2, ?_, p.1.le (by omega), by have := p.2; omega, Hx_mono d2 (by omega)⟩
        unfold bentRec b__law_bent
        simp [e1, ir, x1, s0, e2]
      · have hne : l.isEmpty = false := by simpa using hn
        have hpos : 0 < l.length := List.length_pos_iff.mpr hn
        have hll : l.length ≤ 150000 := by have := len_szs l; omega
        have hp : ∀ x ∈ l, W plain k x := fun x m => (hl x m).imp fun _ => wS_plain
        have s2 : small 2 = true := rfl
        by_cases c : r = 0
        · subst c
          obtain ⟨q, h2, e2, a2, b2, d2⟩ := dealt_x (lots := 4) d1 (by omega) (by omega) (by omega)
          have c1 : oCut h1 (.tup l) (some 1) none = some (.tup (cut l (some 1) none)) := rfl
          have c2 : oCut3 (.tup l) none none (some (-1)) = some (.tup l.reverse) := by
            show (if decide _ = true then some (D.tup (pk3 l none none (-1))) else none) = _
            rw [pk3_rev, if_pos (decide_eq_true ⟨by decide, by decide, by have := sizeLine_ge; rw [List.length_reverse]; omega⟩)]
          have c3 : oCut h1 (.tup l) none (some (-1)) = some (.tup (cut l none (some (-1)))) := rfl
          have c4 : oCut h1 (.tup l) none (some 1) = some (.tup (cut l none (some 1))) := rfl
          have n1 := cut_len l (some 1) none
          have n4 := cut_len l none (some 1)
          have g5 : oAdd h1 (.tup (cut l (some 1) none)) (.tup (cut l none (some 1))) = some (.tup (cut l (some 1) none ++ cut l none (some 1))) := by rw [oAdd_tt, if_pos (small_of (by omega))]
          have z1 := szs_cut l (some 1) none
          have z3 := szs_cut l none (some (-1))
          have z4 := szs_cut l none (some 1)
          have z2 := szs_rev l
          obtain ⟨y, ey, my⟩ := atI_in (l := [D.tup (cut l (some 1) none), .tup l.reverse, .tup (cut l none (some (-1))), .tup (cut l (some 1) none ++ cut l none (some 1))]) a2 (by simpa using b2)
          have hy : ∃ m, y = .tup m ∧ (∀ x ∈ m, x ∈ l) ∧ szs m ≤ 2 * szs l := by
            simp only [List.mem_cons, List.not_mem_nil, or_false] at my
            rcases my with rfl | rfl | rfl | rfl
            · exact ⟨_, rfl, fun x m => cut_mem m, by omega⟩
            · exact ⟨_, rfl, fun x m => by simpa using m, by omega⟩
            · exact ⟨_, rfl, fun x m => cut_mem m, by omega⟩
            · refine ⟨_, rfl, fun x m => (List.mem_append.mp m).elim cut_mem cut_mem, by rw [szs_app]; omega⟩
          obtain ⟨m, rfl, hm, zm⟩ := hy
          have iy : oIx h2 (.lst [D.tup (cut l (some 1) none), .tup l.reverse, .tup (cut l none (some (-1))), .tup (cut l (some 1) none ++ cut l none (some 1))]) (.int q) = some (.tup m) := ey
          refine ⟨.tup [.str "row", .tup m], h2, ?_, (row_P hp hm).le (by omega), ?_, Hx_mono d2 (by omega)⟩
          · have q0 : oEq h1 (.int 0) (.int 0) = some (.bl true) := oEq_ii _ _
            have s4 : small 4 = true := rfl
            generalize cut l (some 1) none ++ cut l none (some 1) = Z at g5 iy
            generalize cut l (some 1) none = Y at c1 g5 iy
            generalize cut l none (some (-1)) = U at c3 iy
            generalize cut l none (some 1) = V at c4 g5
            generalize l.reverse = R at c2 iy
            unfold bentRec b__law_bent
            simp [e1, ir, x1, s0, hne, q0, e2, c1, c2, c3, c4, g5, s4, s2, iy, mSl3, -oAdd_tt]
          · have lr : ("row" : Str).length = 3 := rfl
            simp only [sz, szs, lr] at zl ⊢
            omega
        · have q : oEq h1 (.int r) (.int 0) = some (.bl false) := by
            rw [oEq_ii]
            exact congrArg (fun b => some (D.bl b)) (beq_eq_false_iff_ne.mpr c)
          obtain ⟨j, h2, e2, a2, b2, d2⟩ := dealt_x (lots := (l.length : Int)) d1 (by omega) (by omega) (by omega)
          have hj : j.toNat < l.length := by omega
          obtain ⟨x, hx⟩ : ∃ x, l[j.toNat]? = some x := ⟨_, List.getElem?_eq_getElem hj⟩
          have mx : x ∈ l := List.mem_of_getElem? hx
          have ix : oIx h2 (.tup l) (.int j) = some x := by
            show atI l j = some x
            unfold atI ixN
            rw [if_pos a2, if_pos b2]
            exact hx
          have zx : sz x + 2 ≤ szs l := szs_mem mx
          obtain ⟨d, h3, e3, wd, zd, d3⟩ := ih (N := N + 1 + 1) d2 (by omega) (by omega) (hl x mx) (by omega)
          obtain ⟨u1, u2⟩ := cut_lo l j a2 b2
          have dr : l.drop j.toNat = x :: l.drop (j.toNat + 1) := by
            have hx' : l[j.toNat] = x := by
              have := hx
              rw [List.getElem?_eq_getElem hj] at this
              exact Option.some.inj this
            rw [List.drop_eq_getElem_cons hj, hx']
          have zs : szs (l.take j.toNat) + (sz x + 2 + szs (l.drop (j.toNat + 1))) = szs l := by
            have := sz_take l j.toNat
            rw [dr] at this
            simpa only [szs] using this
          refine ⟨.tup [.str "row", .tup (l.take j.toNat ++ [d] ++ l.drop (j.toNat + 1))], h3, ?_, ?_, ?_, Hx_mono d3 (by omega)⟩
          · have c1 : oCut h2 (.tup l) none (some j) = some (.tup (l.take j.toNat)) := by
              show some (D.tup (cut l none (some j))) = _
              rw [u1]
            have c2 : oCut h3 (.tup l) (some (j + 1)) none = some (.tup (l.drop (j.toNat + 1))) := by
              show some (D.tup (cut l (some (j + 1)) none)) = _
              rw [u2]
            have s1 : small 1 = true := rfl
            have g1 : small ((l.take j.toNat).length + [d].length) = true := small_of (by rw [List.length_take]; simp; omega)
            have g2 : small ((l.take j.toNat ++ [d]).length + (l.drop (j.toNat + 1)).length) = true := small_of (by rw [List.length_append, List.length_take, List.length_drop]; simp; omega)
            have g3 : oAdd h3 (.tup (l.take j.toNat)) (.tup [d]) = some (.tup (l.take j.toNat ++ [d])) := by rw [oAdd_tt, if_pos g1]
            have g4 : oAdd h3 (.tup (l.take j.toNat ++ [d])) (.tup (l.drop (j.toNat + 1))) = some (.tup (l.take j.toNat ++ [d] ++ l.drop (j.toNat + 1))) := by rw [oAdd_tt, if_pos g2]
            generalize l.take j.toNat ++ [d] ++ l.drop (j.toNat + 1) = Z at g4
            generalize l.take j.toNat ++ [d] = Y at g3 g4
            generalize l.take j.toNat = T at c1 g3
            generalize l.drop (j.toNat + 1) = U at c2 g4
            unfold bentRec b__law_bent
            simp [e1, ir, x1, s0, s1, s2, hne, q, len_tup, e2, c1, ix, e3, c2, g3, g4, -oAdd_tt]
          · refine .row fun y hy => ?_
            rcases List.mem_append.mp hy with hy | hy
            · rcases List.mem_append.mp hy with hy | hy
              · exact (hp y (List.mem_of_mem_take hy)).le (by omega)
              · simp at hy
                subst hy
                exact wd
            · exact (hp y (List.mem_of_mem_drop hy)).le (by omega)
          · have lr : ("row" : Str).length = 3 := rfl
            simp only [sz, szs, lr, szs_app] at zl ⊢
            omega
def anewRec : Nat → FM
  | 0 => fun _ _ => .no
  | n + 1 => b__law_made_anew b__law_is_row (anewRec n)
theorem anew_ok {h : LH} : ∀ (k : Nat) (d : D), W plain k d → sz d ≤ 900000 → anewRec (k + 1) [d] h = .ok d h
  | k, d, hw, hz => by
    have ir := law_is_row_ok hw h
    show b__law_made_anew b__law_is_row (anewRec k) [d] h = _
    cases hw with
    | leaf g =>
      rw [g.row] at ir
      unfold b__law_made_anew
      simp [ir]
    | @row k' l hl =>
      rw [rowOf_row] at ir
      have x1 : oIx h (.tup [.str "row", .tup l]) (.int 1) = some (.tup l) := ix1 _ _ _
      have zl : szs l ≤ 900000 := by simp only [sz, szs] at hz; omega
      have ll := len_szs l
      have lc : lcS [1] (gNm 1) bYes (mFn 1 (anewRec (k' + 1)) [] (aCons (mVar 1) aNil)) [some (.tup [.str "row", .tup l]), none] 1000000 (fixS l) 0 [] h = .ok (l.map id) h := lc_map id (by omega) fun x m => by
        have := anew_ok (h := h) k' x (hl x m) (by have := szs_mem m; omega)
        simp [this]
      rw [List.map_id] at lc
      have ct : cTuple h [.lst l] = some (.tup l) := rfl
      have s2 : small 2 = true := rfl
      unfold b__law_made_anew
      simp [ir, x1, mLc_ap, lc, ct, s2]
end Wk03
namespace Wk03
open PySem PySem.Spec PyProof.Rows L2 DN
theorem hx_at {N : Nat} {R h : LH} {x : LO} (hd : Hx N (R ++ [x]) h) : h[2 + R.length]? = some x := by
  obtain ⟨g, cs, t, n, rfl, _⟩ := hd
  unfold hnd
  rw [show 2 + R.length = R.length + 1 + 1 by omega, List.getElem?_cons_succ, List.getElem?_cons_succ]
  simp
theorem hx_set {N : Nat} {R h : LH} {x : LO} (y : LO) (hd : Hx N (R ++ [x]) h) : Hx N (R ++ [y]) (h.set (2 + R.length) y) := by
  obtain ⟨g, cs, t, n, rfl, r⟩ := hd
  refine ⟨g, cs, t, n, ?_, r⟩
  unfold hnd
  rw [show 2 + R.length = R.length + 1 + 1 by omega, List.set_cons_succ, List.set_cons_succ]
  simp
theorem hx_push {N : Nat} {h : LH} {R : LH} (x : LO) (hd : Hx N R h) : ∃ R', Hx N (R' ++ [x]) (h ++ [x]) ∧ h.length = 2 + R'.length := by
  obtain ⟨g, cs, t, n, rfl, r⟩ := hd
  refine ⟨R ++ g, ⟨[], cs, t, n, ?_, r⟩, ?_⟩
  · unfold hnd
    simp
  · unfold hnd
    simp only [List.length_cons]
    omega
theorem seq_ref {h : LH} {n : Nat} {l : List D} (e : h[n]? = some (.lst l)) : seqL h (.ref n) = some l := by
  unfold seqL
  simp only [e]
theorem cat_ref {h : LH} {n : Nat} {l : List D} (e : h[n]? = some (.lst l)) : catL h (.ref n) = some l := by
  unfold catL
  simp only [e]
theorem add_ref {h : LH} {n : Nat} {l j : List D} (e : h[n]? = some (.lst l)) (hs : l.length + j.length ≤ 1000000) : oAdd h (.ref n) (.lst j) = some (.lst (l ++ j)) := by
  show ((catL h (.ref n)).bind fun i => (catL h (.lst j)).bind fun j => if small (i.length + j.length) = true then some (D.lst (i ++ j)) else none) = _
  rw [cat_ref e]
  show (if small (l.length + j.length) = true then some (D.lst (l ++ j)) else none) = _
  rw [if_pos (small_of hs)]
theorem app_ref {h : LH} {n : Nat} {l : List D} (d : D) (e : h[n]? = some (.lst l)) (hs : l.length ≤ 1000) : gAppend h (.ref n) [d] = some (.non, h.set n (.lst (l ++ [d]))) := by
  unfold gAppend
  simp only [e]
  rw [if_pos (decide_eq_true (by have := sizeLine_ge; omega))]
theorem cut_ref {h : LH} {n : Nat} {l : List D} (e : h[n]? = some (.lst l)) (lo hi : Option Int) : oCut h (.ref n) lo hi = some (.lst (cut l lo hi)) := by
  show (seqL h (.ref n)).map (fun l => D.lst (cut l lo hi)) = _
  rw [seq_ref e]
  rfl
theorem ty_ref {h : LH} {n : Nat} {l : List D} (e : h[n]? = some (.lst l)) : tyD h (.ref n) = some "list" := by
  unfold tyD
  simp only [e]
theorem ref_none {h : LH} {n i : Nat} {l : List D} {s : Sg} {t : BM} {e : EM} (hn : h[n]? = some (.lst l)) (ht : ∀ d ∈ l, t ((s.set i none).set i (some d)) h = .ok false h) :
    ∀ (fuel k : Nat), l.length - k < fuel → lcS [i] (gNm i) t e s fuel (refS n) k [] h = .ok [] h
  | 0, k, hk => by omega
  | fuel + 1, k, hk => by
    unfold lcS
    have r : refS n h k = some l[k]? := by unfold refS; simp only [hn]
    rw [r]
    cases q : l[k]? with
    | none => rfl
    | some d =>
      have m : d ∈ l := List.mem_of_getElem? q
      have hl := (List.getElem?_eq_some_iff.mp q).1
      have := ht d m
      simp only [gNm_ap, wipeS, this, bindN_ok, Bool.false_eq_true, if_false]
      exact ref_none hn ht fuel (k + 1) (by omega)
noncomputable abbrev bentM : FM := bentRec 5
abbrev anewM : FM := anewRec 9
abbrev areM : FM := areRec 21
noncomputable def tailM : SM := (sIf (mOrT (mTest (mOp oNe (mLc 1000000 [8] (iVal (mVar 6)) (gNm 8) (mNotT (mTest (mFn 2 rightM [] (aCons (mVar 4) (aCons (mVar 8) aNil))))) (mVar 8)) (mLst aNil))) (mTest (mOp oIsNot (mFn 2 areM [] (aCons (mVar 4) (aCons (mOp oIx (mVar 6) (mC (.int 0))) aNil))) (mC (.bl true)))))
  (sRet (mC (.bl false)))
  sNil)
noncomputable def body1 : SM := (sSeq (sSet 6 (mNew (aCons (mFn 1 anewM [] (aCons (mVar 4) aNil)) (aCons (mFn 2 bentM [] (aCons (mVar 1) (aCons (mVar 4) aNil))) (aCons (mFn 2 bentM [] (aCons (mVar 1) (aCons (mVar 4) aNil))) (aCons (mTup (aCons (mC (.str "row")) (aCons (mTup (aCons (mVar 4) aNil)) aNil))) aNil))))))
  (sSeq (sExpr (mMeth "list" gAppend (mVar 6) (aCons (mFn 2 (pickM dealtM) [] (aCons (mVar 1) (aCons (mOp oAdd (mVar 2) (mVar 3)) aNil))) aNil)))
  tailM))
noncomputable def body2 : SM := (sSeq (sSet 6 (mCatN (mOp oAdd (mLst (aCons (mFn 1 anewM [] (aCons (mVar 4) aNil)) aNil)) (mVar 3)) (mLst (aCons (mFn 2 (pickM dealtM) [] (aCons (mVar 1) (aCons (mVar 2) aNil))) aNil))))
  tailM)
/-- what is held against one another -/
def Okd (d : D) : Prop := W plain 20 d ∧ sz d ≤ 400000
theorem Wk.okd {k n : Nat} {d : D} (h : Wk k n d) (hk : k ≤ 20) (hn : n ≤ 400000) : Okd d := ⟨(h.1.imp fun _ => wS_plain).le hk, by have := h.2; omega⟩
theorem tail_ok {h : LH} {n : Nat} {l : List D} {d sc s g : D} {p5 x7 x8 : Option D} (hn : h[n]? = some (.lst (d :: l))) (hl : l.length ≤ 1000) (hd : Okd d) (ho : ∀ x ∈ d :: l, Okd x) :
    tailM [some sc, some (.ref 1), some s, some g, some d, p5, some (.ref n), x7, x8] h = .nx [some sc, some (.ref 1), some s, some g, some d, p5, some (.ref n), x7, x8] h := by
  have r3 : lcS [8] (gNm 8) (mNotT (mTest (mFn 2 rightM [] (aCons (mVar 4) (aCons (mVar 8) aNil))))) (mVar 8) [some sc, some (.ref 1), some s, some g, some d, p5, some (.ref n), x7, x8] 1000000 (refS n) 0 [] h = .ok [] h := by
    refine ref_none hn (fun x m => ?_) 1000000 0 (by simp; omega)
    have o := ho x m
    have := right_ok (h := h) hd.1 o.1 hd.2 o.2
    generalize rightM = R at this ⊢
    simp [this]
  have iv : iVal (mVar 6) [some sc, some (.ref 1), some s, some g, some d, p5, some (.ref n), x7, x8] h = .ok (refS n) h := by
    simp [iterD, hn]
  have ix : oIx h (.ref n) (.int 0) = some d := by
    show (seqL h (.ref n)).bind (fun l => atI l 0) = _
    rw [seq_ref hn]
    show atI (d :: l) 0 = some d
    unfold atI ixN
    rw [if_pos (by decide), if_pos (by simp only [List.length_cons]; omega)]
    rfl
  have ar : areM [d, d] h = .ok (.bl true) h := by
    have := are_ok (h := h) 20 d d hd.1 hd.1 (by have := hd.2; omega) (by have := hd.2; omega)
    rw [alike_self 20 d hd.1] at this
    exact this
  have s0 : small 0 = true := rfl
  have ni : oIsNot h (.bl true) (.bl true) = some (.bl false) := rfl
  unfold tailM
  rw [sIf_ap, mOrT_ap, mTest_ap, mOp_ap, mLc_ap, iv]
  generalize areM = A at ar
  simp [r3, s0, ix, ar, ni]
theorem turn1 {N : Nat} {R h : LH} {S G : List D} {sc d : D} {p5 x6 x7 x8 : Option D} (hd : Hx N R h) (hN : N < 700000) (hS : S.length = 14) (hG : G.length = 4) (gS : ∀ x ∈ S, Wk 4 30000 x) (gG : ∀ x ∈ G, Wk 8 gB x) (m : d ∈ S) :
    ∃ x6' h' R', body1 [some sc, some (.ref 1), some (.lst S), some (.lst G), some d, p5, x6, x7, x8] h = .nx [some sc, some (.ref 1), some (.lst S), some (.lst G), some d, p5, x6', x7, x8] h' ∧ Hx (N + 60) R' h' := by
  have wd := gS d m
  have wp := wd.1.imp fun _ => wS_plain
  have an : anewM [d] h = .ok d h := anew_ok 8 d (wp.le (by decide)) (by have := wd.2; omega)
  obtain ⟨b1, h1, e1, w1, z1, d1⟩ := bent_x 4 hd (by omega) (by omega) wd.1 (by have := wd.2; omega)
  obtain ⟨b2, h2, e2, w2, z2, d2⟩ := bent_x 4 d1 (by omega) (by omega) wd.1 (by have := wd.2; omega)
  have e1' : bentM [.ref 1, d] h = .ok b1 h1 := e1
  have e2' : bentM [.ref 1, d] h1 = .ok b2 h2 := e2
  obtain ⟨R2, d3, k3⟩ := hx_push (.lst [d, b1, b2, .tup [.str "row", .tup [d]]]) d2
  have ad : oAdd (h2 ++ [.lst [d, b1, b2, .tup [.str "row", .tup [d]]]]) (.lst S) (.lst G) = some (.lst (S ++ G)) := by rw [oAdd_ll, if_pos (small_of (by omega))]
  obtain ⟨q, h4, e4, m4, d4⟩ := pick_x (l := S ++ G) d3 (by omega) (fun z => by have := congrArg List.length z; rw [List.length_append, List.length_nil] at this; omega) (by simp; omega)
  have at4 := hx_at d4
  rw [← k3] at at4
  have ap := app_ref q at4 (by simp)
  have d5 := hx_set (.lst ([d, b1, b2, .tup [.str "row", .tup [d]]] ++ [q])) d4
  rw [← k3] at d5
  have at5 : (h4.set h2.length (.lst ([d, b1, b2, .tup [.str "row", .tup [d]]] ++ [q])))[h2.length]? = some (.lst (d :: [b1, b2, .tup [.str "row", .tup [d]], q])) := by
    have := hx_at d5
    rw [← k3] at this
    exact this
  have od : Okd d := wd.okd (by decide) (by decide)
  have oq : Okd q := by
    rcases List.mem_append.mp m4 with m | m
    · exact (gS q m).okd (by decide) (by decide)
    · exact (gG q m).okd (by decide) (by decide)
  have orow : Okd (.tup [.str "row", .tup [d]]) := by
    refine ⟨(W.row (k := 4) fun x m => by simp at m; subst m; exact wp).le (by decide), ?_⟩
    have lr : ("row" : Str).length = 3 := rfl
    have := wd.2
    simp only [sz, szs, lr]
    omega
  have ob1 : Okd b1 := ⟨w1.le (by decide), by have := wd.2; omega⟩
  have ob2 : Okd b2 := ⟨w2.le (by decide), by have := wd.2; omega⟩
  have tl' := tail_ok (sc := sc) (s := .lst S) (g := .lst G) (p5 := p5) (x7 := x7) (x8 := x8) at5 (by simp) od (fun x mx => by
    simp only [List.mem_cons, List.not_mem_nil, or_false] at mx
    rcases mx with rfl | rfl | rfl | rfl | rfl <;> assumption)
  refine ⟨some (.ref h2.length), h4.set h2.length (.lst ([d, b1, b2, .tup [.str "row", .tup [d]]] ++ [q])), _, ?_, Hx_mono d5 (by omega)⟩
  · have s1 : small 1 = true := rfl
    have s2 : small 2 = true := rfl
    have s4 : small 4 = true := rfl
    have ty : tyD (h2 ++ [.lst [d, b1, b2, .tup [.str "row", .tup [d]]]]) (.ref h2.length) = some "list" := ty_ref (l := [d, b1, b2, .tup [.str "row", .tup [d]]]) (by simp)
    unfold body1
    generalize anewM = AN at an
    generalize bentM = BE at e1' e2'
    simp [an, e1', e2', s1, s2, s4, ty, ad, e4, ap, -oAdd_ll] at tl' ⊢
    exact tl'
end Wk03
namespace Wk03
open PySem PySem.Spec PyProof.Rows L2 DN
theorem turn2 {N : Nat} {R h : LH} {S G : List D} {sc d : D} {p5 x6 x7 x8 : Option D} (hd : Hx N R h) (hN : N < 700000) (hS : S.length = 14) (hG : G.length = 4) (gS : ∀ x ∈ S, Wk 4 30000 x) (gG : ∀ x ∈ G, Wk 8 gB x) (m : d ∈ G) :
    ∃ x6' h' R', body2 [some sc, some (.ref 1), some (.lst S), some (.lst G), some d, p5, x6, x7, x8] h = .nx [some sc, some (.ref 1), some (.lst S), some (.lst G), some d, p5, x6', x7, x8] h' ∧ Hx (N + 60) R' h' := by
  have wd := gG d m
  have zg : gB = 180000 := rfl
  have wp := wd.1.imp fun _ => wS_plain
  have an : anewM [d] h = .ok d h := anew_ok 8 d wp (by have := wd.2; omega)
  have ad : oAdd h (.lst [d]) (.lst G) = some (.lst ([d] ++ G)) := by rw [oAdd_ll, if_pos (small_of (by simp; omega))]
  obtain ⟨q, h1, e1, m1, d1⟩ := pick_x (l := S) hd (by omega) (fun z => by rw [z] at hS; cases hS) (by omega)
  obtain ⟨R2, d2, k2⟩ := hx_push (.lst ([d] ++ G ++ [q])) d1
  have at2 : (h1 ++ [LO.lst ([d] ++ G ++ [q])])[h1.length]? = some (.lst (d :: (G ++ [q]))) := by simp
  have od : Okd d := wd.okd (by decide) (by decide)
  have oq : Okd q := (gS q m1).okd (by decide) (by decide)
  have tl' := tail_ok (sc := sc) (s := .lst S) (g := .lst G) (p5 := p5) (x7 := x7) (x8 := x8) at2 (by simp; omega) od (fun x mx => by
    rcases List.mem_cons.mp mx with rfl | mx
    · exact od
    · rcases List.mem_append.mp mx with mx | mx
      · exact (gG x mx).okd (by decide) (by decide)
      · simp at mx
        subst mx
        exact oq)
  refine ⟨some (.ref h1.length), h1 ++ [.lst ([d] ++ G ++ [q])], _, ?_, Hx_mono d2 (by omega)⟩
  have s1 : small 1 = true := rfl
  have cl : ∀ (h : LH) (l : List D), catL h (.lst l) = some l := fun _ _ => rfl
  have s3 : small (([d] ++ G).length + [q].length) = true := small_of (by simp; omega)
  have k1 : sSet 6 (mCatN (mOp oAdd (mLst (aCons (mFn 1 anewM [] (aCons (mVar 4) aNil)) aNil)) (mVar 3)) (mLst (aCons (mFn 2 (pickM dealtM) [] (aCons (mVar 1) (aCons (mVar 2) aNil))) aNil))) [some sc, some (.ref 1), some (.lst S), some (.lst G), some d, p5, x6, x7, x8] h = .nx [some sc, some (.ref 1), some (.lst S), some (.lst G), some d, p5, some (.ref h1.length), x7, x8] (h1 ++ [.lst ([d] ++ G ++ [q])]) := by
    generalize [d] ++ G = U at ad s3 ⊢
    generalize anewM = AN at an
    rw [sSet_ap, mCatN_ap, mOp_ap]
    simp [an, s1, ad, e1, cl, s3, -oAdd_ll]
    rw [show small (U.length + 1) = true from s3]
    rfl
  unfold body2
  rw [sSeq_ap, k1, then_nx]
  exact tl'
theorem loop1 {S G : List D} {sc : D} {p5 x7 x8 : Option D} (hS : S.length = 14) (hG : G.length = 4) (gS : ∀ x ∈ S, Wk 4 30000 x) (gG : ∀ x ∈ G, Wk 8 gB x) :
    ∀ (l : List D) {N : Nat} {R h : LH} {x4 x6 : Option D}, Hx N R h → N + 60 * l.length < 600000 → (∀ x ∈ l, x ∈ S) →
    ∃ x4' x6' h' R', forL (gNm 4) body1 l [some sc, some (.ref 1), some (.lst S), some (.lst G), x4, p5, x6, x7, x8] h = .nx [some sc, some (.ref 1), some (.lst S), some (.lst G), x4', p5, x6', x7, x8] h' ∧ Hx (N + 60 * l.length) R' h'
  | [], N, R, h, x4, x6, hd, _, _ => ⟨x4, x6, h, R, rfl, by simpa using hd⟩
  | d :: l, N, R, h, x4, x6, hd, hN, hm => by
    simp only [List.length_cons] at hN
    obtain ⟨y6, h1, R1, e1, d1⟩ := turn1 (sc := sc) (p5 := p5) (x6 := x6) (x7 := x7) (x8 := x8) hd (by omega) hS hG gS gG (hm d (by simp))
    obtain ⟨x4', x6', h', R', e2, d2⟩ := loop1 hS hG gS gG l (x4 := some d) (x6 := y6) d1 (by omega) fun x mx => hm x (by simp [mx])
    refine ⟨x4', x6', h', R', ?_, by simp only [List.length_cons]; rw [show N + 60 * (l.length + 1) = N + 60 + 60 * l.length by omega]; exact d2⟩
    unfold forL
    simp only [gNm_ap, List.set_cons_succ, List.set_cons_zero, e1]
    exact e2
theorem loop2 {S G : List D} {sc : D} {p5 x7 x8 : Option D} (hS : S.length = 14) (hG : G.length = 4) (gS : ∀ x ∈ S, Wk 4 30000 x) (gG : ∀ x ∈ G, Wk 8 gB x) :
    ∀ (l : List D) {N : Nat} {R h : LH} {x4 x6 : Option D}, Hx N R h → N + 60 * l.length < 600000 → (∀ x ∈ l, x ∈ G) →
    ∃ x4' x6' h' R', forL (gNm 4) body2 l [some sc, some (.ref 1), some (.lst S), some (.lst G), x4, p5, x6, x7, x8] h = .nx [some sc, some (.ref 1), some (.lst S), some (.lst G), x4', p5, x6', x7, x8] h' ∧ Hx (N + 60 * l.length) R' h'
  | [], N, R, h, x4, x6, hd, _, _ => ⟨x4, x6, h, R, rfl, by simpa using hd⟩
  | d :: l, N, R, h, x4, x6, hd, hN, hm => by
    simp only [List.length_cons] at hN
    obtain ⟨y6, h1, R1, e1, d1⟩ := turn2 (sc := sc) (p5 := p5) (x6 := x6) (x7 := x7) (x8 := x8) hd (by omega) hS hG gS gG (hm d (by simp))
    obtain ⟨x4', x6', h', R', e2, d2⟩ := loop2 hS hG gS gG l (x4 := some d) (x6 := y6) d1 (by omega) fun x mx => hm x (by simp [mx])
    refine ⟨x4', x6', h', R', ?_, by simp only [List.length_cons]; rw [show N + 60 * (l.length + 1) = N + 60 + 60 * l.length by omega]; exact d2⟩
    unfold forL
    simp only [gNm_ap, List.set_cons_succ, List.set_cons_zero, e1]
    exact e2
def pla1 : List D := [.non, .bl true, .bl false, .int 0, .int 1, .int (-1), .str "", .str "0", .str "1", .str "none", .str "yes", .tup [.str "row", .tup []], .tup [.str "row", .tup [.int 0]], .tup [.str "row", .tup [.bl false]]]
def pla2 : List D := [.tup [.str "thing", .int 0], .tup [.str "thing", .int 1], .tup [.str "deed", .str "a", .str "b"], .tup [.str "kind", .str "a", .str "b"], .tup [.str "deed", .str "b", .str "a"]]
theorem P1.okd {d : D} (h : P1 d) : Okd d := ⟨h.1.le (by decide), by have := h.2; omega⟩
theorem pla_ok : ∀ d ∈ pla1 ++ pla2, Okd d := by
  have na : nm "a" = true := by decide +kernel
  have nb : nm "b" = true := by decide +kernel
  intro d m
  refine P1.okd ?_
  simp only [pla1, pla2, List.cons_append, List.nil_append, List.mem_cons, List.not_mem_nil, or_false] at m
  rcases m with rfl | rfl | rfl | rfl | rfl | rfl | rfl | rfl | rfl | rfl | rfl | rfl | rfl | rfl | rfl | rfl | rfl | rfl | rfl
  · exact .leaf .non
  · exact .leaf (.bl _)
  · exact .leaf (.bl _)
  · exact .leaf (.int _ (by decide))
  · exact .leaf (.int _ (by decide))
  · exact .leaf (.int _ (by decide))
  · exact .leaf (plit (by decide +kernel))
  · exact .leaf (plit (by decide +kernel))
  · exact .leaf (plit (by decide +kernel))
  · exact .leaf (plit (by decide +kernel))
  · exact .leaf (plit (by decide +kernel))
  · exact .row (by simp) (by simp)
  · exact .row (fun x m => by simp at m; subst m; exact .int _ (by decide)) (by simp)
  · exact .row (fun x m => by simp at m; subst m; exact .bl _) (by simp)
  · exact .leaf (.thing _ (by decide))
  · exact .leaf (.thing _ (by decide))
  · exact .leaf (.named _ _ _ (.inl rfl) na nb)
  · exact .leaf (.named _ _ _ (.inr rfl) na nb)
  · exact .leaf (.named _ _ _ (.inl rfl) nb na)
theorem law_ok {ns : List Int} (hl : ns.length ≤ 63) : ∃ h', b_law begunM (drawnRec 4) b__law_alike_looks (b__law_greatest leafM b__law_chain b__law_wide) bentM anewM (pickM dealtM) rightM areM [.kst (ns.map .int)] [] = .ok (.bl true) h' := by
  obtain ⟨h1, e1, d1⟩ := begun_ok hl
  generalize hsc : D.kst (ns.map .int) = sc at e1
  have x1 : Hx 0 [] h1 := ⟨[], d1⟩
  obtain ⟨dr, h3, e3, l3, d3, p3⟩ := lcL_run (vs := [7]) (g := gNm 7) (t := bYes) (e := mFn 2 (drawnRec 4) [] (aCons (mVar 1) (aCons (mC (.int 3)) aNil)))
    (s := [some sc, some (.ref 1), none, none, none, none, none, none, none]) (fun k h => Hx (k * 1020) [] h) (Wk 4 30000) 8
    (rngL 0 8) [] 0 h1 x1 (by rw [rngL_len]; omega) (by rw [rngL_len]; have := sizeLine_ge; simp; omega) (fun d m k h hk i => by
      obtain ⟨x, h', e, g, d'⟩ := drawn_x 3 i (by simp only [cB]; omega) (by omega)
      refine ⟨[some sc, some (.ref 1), none, none, none, none, none, some d, none], x, h', rfl, rfl, ?_, Hx_mono d' (by simp only [cB]; omega), g.le (by omega) (by simp only [sB]; omega)⟩
      have e' : drawnRec 4 [.ref 1, .int 3] h = .ok x h' := e
      simp [e'])
  rw [rngL_len] at l3 d3
  have f3 : lcS [7] (gNm 7) bYes (mFn 2 (drawnRec 4) [] (aCons (mVar 1) (aCons (mC (.int 3)) aNil))) [some sc, some (.ref 1), none, none, none, none, none, none, none] 1000000 (fixS (rngL 0 8)) 0 [] h1 = .ok dr h3 := by
    rw [lc_fix (by rw [rngL_len]; omega), e3]; rfl
  have lk : (looksL.map rowD).length = 6 := rfl
  have q1 : oAdd h3 (.lst dr) (.lst (looksL.map rowD)) = some (.lst (dr ++ looksL.map rowD)) := by rw [oAdd_ll, if_pos (small_of (by omega))]
  have lS : (dr ++ looksL.map rowD).length = 14 := by rw [List.length_append, lk]; omega
  have gS : ∀ d ∈ dr ++ looksL.map rowD, Wk 4 30000 d := fun d hd => by
    rcases List.mem_append.mp hd with hd | hd
    · exact p3 d hd
    · exact (looks_in hd).le (by omega) (by omega)
  obtain ⟨G, h4, e4, lG, gG, d4⟩ := greatest_x d3 (by omega)
  generalize hS : dr ++ looksL.map rowD = S at q1 lS gS
  obtain ⟨x4, x6, h5, R5, e5, d5⟩ := loop1 (sc := sc) (p5 := none) (x7 := none) (x8 := none) lS lG gS gG S (x4 := none) (x6 := none) d4 (by omega) (fun _ m => m)
  obtain ⟨y4, y6, h6, R6, e6, d6⟩ := loop2 (sc := sc) (p5 := none) (x7 := none) (x8 := none) lS lG gS gG G (x4 := x4) (x6 := x6) d5 (by omega) (fun _ m => m)
  have f5 : forS 1000000 (fixS S) 0 (gNm 4) body1 [some sc, some (.ref 1), some (.lst S), some (.lst G), none, none, none, none, none] h4 = .nx [some sc, some (.ref 1), some (.lst S), some (.lst G), x4, none, x6, none, none] h5 := (for_fix (by omega)).trans e5
  have f6 : forS 1000000 (fixS G) 0 (gNm 4) body2 [some sc, some (.ref 1), some (.lst S), some (.lst G), x4, none, x6, none, none] h5 = .nx [some sc, some (.ref 1), some (.lst S), some (.lst G), y4, none, y6, none, none] h6 := (for_fix (by omega)).trans e6
  have s0 : small 0 = true := rfl
  have s1 : small 1 = true := rfl
  have s2 : small 2 = true := rfl
  have s3 : small 3 = true := rfl
  have s5 : small 5 = true := rfl
  have s14 : small 14 = true := rfl
  have rg8 : inRng 8 = true := rfl
  have lP : (pla1 ++ pla2).length = 19 := rfl
  have okP := pla_ok
  have aP : oAdd h6 (.lst pla1) (.lst pla2) = some (.lst (pla1 ++ pla2)) := rfl
  have st : ([sc].map some ++ List.replicate (9 - [sc].length) none : Sg) = [some sc, none, none, none, none, none, none, none, none] := rfl
  have j1 : sSet 1 (mFn 1 begunM [] (aCons (mVar 0) aNil)) [some sc, none, none, none, none, none, none, none, none] [] = .nx [some sc, some (.ref 1), none, none, none, none, none, none, none] h1 := by simp [e1]
  have j2 : sSet 2 (mOp oAdd (mLc 1000000 [7] (iRng1 (aCons (mC (.int 8)) aNil)) (gNm 7) bYes (mFn 2 (drawnRec 4) [] (aCons (mVar 1) (aCons (mC (.int 3)) aNil)))) (mFn 0 b__law_alike_looks [] aNil)) [some sc, some (.ref 1), none, none, none, none, none, none, none] h1 = .nx [some sc, some (.ref 1), some (.lst S), none, none, none, none, none, none] h3 := by
    rw [sSet_ap, mOp_ap, mLc_ap]
    simp [rg8, f3, looks_ok, q1, -oAdd_ll]
  have j3 : sSet 3 (mFn 1 (b__law_greatest leafM b__law_chain b__law_wide) [] (aCons (mVar 1) aNil)) [some sc, some (.ref 1), some (.lst S), none, none, none, none, none, none] h3 = .nx [some sc, some (.ref 1), some (.lst S), some (.lst G), none, none, none, none, none] h4 := by simp [e4]
  have j4 : sFor 1000000 (iVal (mVar 2)) (gNm 4) body1 [some sc, some (.ref 1), some (.lst S), some (.lst G), none, none, none, none, none] h4 = .nx [some sc, some (.ref 1), some (.lst S), some (.lst G), x4, none, x6, none, none] h5 := by
    rw [sFor_ap, show iVal (mVar 2) [some sc, some (.ref 1), some (.lst S), some (.lst G), none, none, none, none, none] h4 = .ok (fixS S) h4 by simp, q_ok, f5]
  have j5 : sFor 1000000 (iVal (mVar 3)) (gNm 4) body2 [some sc, some (.ref 1), some (.lst S), some (.lst G), x4, none, x6, none, none] h5 = .nx [some sc, some (.ref 1), some (.lst S), some (.lst G), y4, none, y6, none, none] h6 := by
    rw [sFor_ap, show iVal (mVar 3) [some sc, some (.ref 1), some (.lst S), some (.lst G), x4, none, x6, none, none] h5 = .ok (fixS G) h5 by simp, q_ok, f6]
  have inner : ∀ (d : D), Okd d → mTest (mOp oNe (mLc 1000000 [8] (iVal (mVar 5)) (gNm 8) (mNotT (mTest (mFn 2 rightM [] (aCons (mVar 4) (aCons (mVar 8) aNil))))) (mVar 8)) (mLst aNil)) [some sc, some (.ref 1), some (.lst S), some (.lst G), some d, some (.lst (pla1 ++ pla2)), y6, none, none] h6 = .ok false h6 := fun d od => by
    have r : lcS [8] (gNm 8) (mNotT (mTest (mFn 2 rightM [] (aCons (mVar 4) (aCons (mVar 8) aNil))))) (mVar 8) [some sc, some (.ref 1), some (.lst S), some (.lst G), some d, some (.lst (pla1 ++ pla2)), y6, none, none] 1000000 (fixS (pla1 ++ pla2)) 0 [] h6 = .ok [] h6 := by
      rw [lc_sel (fun _ => false) (by simp) (by omega) (fun x m => by
        have o := okP x m
        have := right_ok (h := h6) od.1 o.1 od.2 o.2
        generalize rightM = Q at this ⊢
        simp [this])]
      simp
    generalize pla1 ++ pla2 = PP at r ⊢
    rw [mTest_ap, mOp_ap, mLc_ap]
    simp [r, s0]
  have outer : lcS [4] (gNm 4) (mTest (mOp oNe (mLc 1000000 [8] (iVal (mVar 5)) (gNm 8) (mNotT (mTest (mFn 2 rightM [] (aCons (mVar 4) (aCons (mVar 8) aNil))))) (mVar 8)) (mLst aNil))) (mVar 4) [some sc, some (.ref 1), some (.lst S), some (.lst G), y4, some (.lst (pla1 ++ pla2)), y6, none, none] 1000000 (fixS (pla1 ++ pla2)) 0 [] h6 = .ok [] h6 := by
    rw [lc_sel (fun _ => false) (by simp) (by omega) (fun x m => inner x (okP x m))]
    simp
  have ng : (mNeg (mC (.int 1))) = fun s h => .ok (.int (-1)) h := by
    funext s h
    rfl
  have j6 : sSet 5 (mLst (aCons (mC .non) (aCons (mC (.bl true)) (aCons (mC (.bl false)) (aCons (mC (.int 0)) (aCons (mC (.int 1)) (aCons (mNeg (mC (.int 1))) (aCons (mC (.str "")) (aCons (mC (.str "0")) (aCons (mC (.str "1")) (aCons (mC (.str "none")) (aCons (mC (.str "yes")) (aCons (mTup (aCons (mC (.str "row")) (aCons (mTup aNil) aNil))) (aCons (mTup (aCons (mC (.str "row")) (aCons (mTup (aCons (mC (.int 0)) aNil)) aNil))) (aCons (mTup (aCons (mC (.str "row")) (aCons (mTup (aCons (mC (.bl false)) aNil)) aNil))) aNil))))))))))))))) [some sc, some (.ref 1), some (.lst S), some (.lst G), y4, none, y6, none, none] h6 = .nx [some sc, some (.ref 1), some (.lst S), some (.lst G), y4, some (.lst pla1), y6, none, none] h6 := by
    rw [ng]
    simp [s0, s1, s2, s14, pla1]
  have j7 : sSet 5 (mOp oAdd (mVar 5) (mLst (aCons (mTup (aCons (mC (.str "thing")) (aCons (mC (.int 0)) aNil))) (aCons (mTup (aCons (mC (.str "thing")) (aCons (mC (.int 1)) aNil))) (aCons (mTup (aCons (mC (.str "deed")) (aCons (mC (.str "a")) (aCons (mC (.str "b")) aNil)))) (aCons (mTup (aCons (mC (.str "kind")) (aCons (mC (.str "a")) (aCons (mC (.str "b")) aNil)))) (aCons (mTup (aCons (mC (.str "deed")) (aCons (mC (.str "b")) (aCons (mC (.str "a")) aNil)))) aNil))))))) [some sc, some (.ref 1), some (.lst S), some (.lst G), y4, some (.lst pla1), y6, none, none] h6 = .nx [some sc, some (.ref 1), some (.lst S), some (.lst G), y4, some (.lst (pla1 ++ pla2)), y6, none, none] h6 := by
    unfold pla2 at aP ⊢
    generalize pla1 = A at aP ⊢
    simp [s2, s3, s5, aP, -oAdd_ll]
  have jr : sRet (mOp oEq (mLc 1000000 [4] (iVal (mVar 5)) (gNm 4) (mTest (mOp oNe (mLc 1000000 [8] (iVal (mVar 5)) (gNm 8) (mNotT (mTest (mFn 2 rightM [] (aCons (mVar 4) (aCons (mVar 8) aNil))))) (mVar 8)) (mLst aNil))) (mVar 4)) (mLst aNil)) [some sc, some (.ref 1), some (.lst S), some (.lst G), y4, some (.lst (pla1 ++ pla2)), y6, none, none] h6 = .rt (.bl true) h6 := by
    generalize pla1 ++ pla2 = PP at outer ⊢
    rw [sRet_ap, mOp_ap, mLc_ap, show iVal (mVar 5) [some sc, some (.ref 1), some (.lst S), some (.lst G), y4, some (.lst PP), y6, none, none] h6 = .ok (fixS PP) h6 by simp, R.bind_ok, outer]
    simp [s0]
  refine ⟨h6, ?_⟩
  unfold b_law
  rw [fnM_ap, st]
  rw [sSeq_ap, j1, then_nx, sSeq_ap, j2, then_nx, sSeq_ap, j3, then_nx, sSeq_ap]
  unfold body1 tailM at j4
  unfold body2 tailM at j5
  rw [j4, then_nx, sSeq_ap, j5, then_nx, sSeq_ap, j6, then_nx, sSeq_ap, j7, then_nx, jr]
  rfl
end Wk03
namespace Wk03
open PySem PySem.Spec PyProof.Rows L2 DN
section
variable {P : Program} {w : World} {K : PySem.W.Frag} {mg : Str → Option Value} (T : Tops P w K mg) (base : Heap)
include T
theorem c_dealt : CalP P w K mg base 1 "_law_dealt" s__law_dealt ["hand", "lots"] dealtM := ok__law_dealt T
theorem c_pick : CalP P w K mg base 2 "_law_pick" s__law_pick ["hand", "some"] (pickM dealtM) := ok__law_pick (c_dealt T base) T
theorem c_leaf : CalP P w K mg base 4 "_law_leaf" s__law_leaf ["hand"] leafM :=
  ok__law_leaf (k := 3) ((c_pick T base).mono (by decide)) ((c_dealt T base).mono (by decide)) (ok__law_label (k := 2) (c_pick T base) T) T
theorem c_looks : CalP P w K mg base 1 "_law_alike_looks" s__law_alike_looks [] b__law_alike_looks := ok__law_alike_looks T
theorem c_drawn : ∀ n : Nat, CalP P w K mg base (4 + n) "_law_drawn" s__law_drawn ["hand", "deep"] (drawnRec n)
  | 0 => T.d__law_drawn.none
  | n + 1 => ok__law_drawn (k := 4 + n) ((c_dealt T base).mono (by omega)) ((c_leaf T base).mono (by omega)) ((c_pick T base).mono (by omega)) ((c_looks T base).mono (by omega)) (c_drawn n) T
theorem c_isrow : CalP P w K mg base 1 "is_row" s_is_row ["thing"] b_is_row := ok_is_row T
theorem c_lrow : CalP P w K mg base 1 "_law_is_row" s__law_is_row ["it"] b__law_is_row := ok__law_is_row T
theorem c_are : ∀ n : Nat, CalP P w K mg base (1 + n) "are_alike" s_are_alike ["one", "other"] (areRec n)
  | 0 => T.d_are_alike.none
  | n + 1 => ok_are_alike (k := 1 + n) ((c_isrow T base).mono (by omega)) (c_are n) T
theorem c_deem : ∀ n : Nat, CalP P w K mg base (1 + n) "_law_deemed" s__law_deemed ["it", "far"] (deemRec n)
  | 0 => T.d__law_deemed.none
  | n + 1 => ok__law_deemed (k := 1 + n) ((c_lrow T base).mono (by omega)) (c_deem n) T
theorem c_near : CalP P w K mg base 3 "_law_nearby" s__law_nearby ["hand", "it"] nearM := ok__law_nearby (k := 2) (c_pick T base) T
theorem c_bent : ∀ n : Nat, CalP P w K mg base (3 + n) "_law_bent" s__law_bent ["hand", "it"] (bentRec n)
  | 0 => T.d__law_bent.none
  | n + 1 => ok__law_bent (k := 3 + n) ((c_dealt T base).mono (by omega)) ((c_lrow T base).mono (by omega)) ((c_near T base).mono (by omega)) (c_bent n) T
theorem c_anew : ∀ n : Nat, CalP P w K mg base (1 + n) "_law_made_anew" s__law_made_anew ["it"] (anewRec n)
  | 0 => T.d__law_made_anew.none
  | n + 1 => ok__law_made_anew (k := 1 + n) ((c_lrow T base).mono (by omega)) (c_anew n) T
theorem c_right : CalP P w K mg base 23 "_law_right" s__law_right ["it", "far"] rightM := ok__law_right (k := 22) (c_deem T base 21) (c_are T base 21) T
theorem whole : CalP P w K mg base 24 "law" s_law ["script"] (b_law begunM (drawnRec 4) b__law_alike_looks (b__law_greatest leafM b__law_chain b__law_wide) bentM anewM (pickM dealtM) rightM areM) :=
  have cc := ok__law_chain (P := P) (w := w) (base := base) (k := 0) T
  have cd := ok__law_wide (P := P) (w := w) (base := base) (k := 0) T
  have cg := ok__law_greatest (k := 4) (c_leaf T base) (cc.mono (by decide)) (cd.mono (by decide)) T
  ok_law (k := 23) ((ok__law_begun (P := P) (w := w) (base := base) (k := 0) T).mono (by decide)) ((c_drawn T base 4).mono (by decide)) ((c_looks T base).mono (by decide)) (cg.mono (by decide)) ((c_bent T base 5).mono (by decide)) ((c_anew T base 9).mono (by decide)) ((c_pick T base).mono (by decide)) (c_right T base) ((c_are T base 21).mono (by decide)) T
end
end Wk03
open PySem PySem.W PyProof.Rows
theorem PySem.Challenge.cw_everyway_k03_alike_by_sort_holds : PySem.Challenge.rw_everyway_k03_alike_by_sort.Holds := by
  w_on; o_law; k_head; (case hw => w_witness2)
  k_fill
  refine DN.walk_g (l := PySem.Challenge.rw_everyway_k03_alike_by_sort) (n := 63) (k := 24) (x := "script") (m := Wk03.b_law DN.begunM (Wk03.drawnRec 4) Wk03.b__law_alike_looks (Wk03.b__law_greatest Wk03.leafM Wk03.b__law_chain Wk03.b__law_wide) Wk03.bentM Wk03.anewM (DN.pickM DN.dealtM) Wk03.rightM Wk03.areM) rfl (by decide) rfl ⟨⟨rfl, by decide, by decide⟩, rfl, by decide⟩ (fun w h Y => PySem.W.kIn_of Y) (by rfl) (fun w => by rfl) ?F (fun ns hl => Wk03.law_ok hl)
  case F =>
    intro w mg fa h KX G hmg
    refine' DN.law_of (st := Wk03.s_law) (Wk03.Tops.d_law ?T) hmg (fun _ _ _ _ _ _ _ => rfl) (fun base => Wk03.whole ?T base)
    case T =>
    clear hmg
    refine' ⟨DN.defAt_mk KX G ?a0 ?l0 ?c0 ?k0, DN.defAt_mk KX G ?a1 ?l1 ?c1 ?k1, DN.defAt_mk KX G ?a2 ?l2 ?c2 ?k2, DN.defAt_mk KX G ?a3 ?l3 ?c3 ?k3, DN.defAt_mk KX G ?a4 ?l4 ?c4 ?k4, DN.defAt_mk KX G ?a5 ?l5 ?c5 ?k5, DN.defAt_mk KX G ?a6 ?l6 ?c6 ?k6, DN.defAt_mk KX G ?a7 ?l7 ?c7 ?k7, DN.defAt_mk KX G ?a8 ?l8 ?c8 ?k8, DN.defAt_mk KX G ?a9 ?l9 ?c9 ?k9, DN.defAt_mk KX G ?a10 ?l10 ?c10 ?k10, DN.defAt_mk KX G ?a11 ?l11 ?c11 ?k11, DN.defAt_mk KX G ?a12 ?l12 ?c12 ?k12, DN.defAt_mk KX G ?a13 ?l13 ?c13 ?k13, DN.defAt_mk KX G ?a14 ?l14 ?c14 ?k14, DN.defAt_mk KX G ?a15 ?l15 ?c15 ?k15, DN.defAt_mk KX G ?a16 ?l16 ?c16 ?k16, DN.defAt_mk KX G ?a17 ?l17 ?c17 ?k17, DN.defAt_mk KX G ?a18 ?l18 ?c18 ?k18, PySem.W.mg_none_of KX G ?z_abs, PySem.W.mg_none_of KX G ?z_all, PySem.W.mg_none_of KX G ?z_bool, PySem.W.mg_none_of KX G ?z_int, PySem.W.mg_none_of KX G ?z_isinstance, PySem.W.mg_none_of KX G ?z_len, PySem.W.mg_none_of KX G ?z_list, PySem.W.mg_none_of KX G ?z_range, PySem.W.mg_none_of KX G ?z_repr, PySem.W.mg_none_of KX G ?z_str, PySem.W.mg_none_of KX G ?z_tuple, PySem.W.mg_none_of KX G ?z_zip, ⟨_, PySem.W.mg_of KX G ?y_ROW, ?v_ROW⟩⟩
    (case a0 => k_is)
    (case l0 => k_is)
    (case c0 => k_is)
    (case k0 => k_is)
    (case a1 => k_is)
    (case l1 => k_is)
    (case c1 => k_is)
    (case k1 => k_is)
    (case a2 => k_is)
    (case l2 => k_is)
    (case c2 => k_is)
    (case k2 => k_is)
    (case a3 => k_is)
    (case l3 => k_is)
    (case c3 => k_is)
    (case k3 => k_is)
    (case a4 => k_is)
    (case l4 => k_is)
    (case c4 => k_is)
    (case k4 => k_is)
    (case a5 => k_is)
    (case l5 => k_is)
    (case c5 => k_is)
    (case k5 => k_is)
    (case a6 => k_is)
    (case l6 => k_is)
    (case c6 => k_is)
    (case k6 => k_is)
    (case a7 => k_is)
    (case l7 => k_is)
    (case c7 => k_is)
    (case k7 => k_is)
    (case a8 => k_is)
    (case l8 => k_is)
    (case c8 => k_is)
    (case k8 => k_is)
    (case a9 => k_is)
    (case l9 => k_is)
    (case c9 => k_is)
    (case k9 => k_is)
    (case a10 => k_is)
    (case l10 => k_is)
    (case c10 => k_is)
    (case k10 => k_is)
    (case a11 => k_is)
    (case l11 => k_is)
    (case c11 => k_is)
    (case k11 => k_is)
    (case a12 => k_is)
    (case l12 => k_is)
    (case c12 => k_is)
    (case k12 => k_is)
    (case a13 => k_is)
    (case l13 => k_is)
    (case c13 => k_is)
    (case k13 => k_is)
    (case a14 => k_is)
    (case l14 => k_is)
    (case c14 => k_is)
    (case k14 => k_is)
    (case a15 => k_is)
    (case l15 => k_is)
    (case c15 => k_is)
    (case k15 => k_is)
    (case a16 => k_is)
    (case l16 => k_is)
    (case c16 => k_is)
    (case k16 => k_is)
    (case a17 => k_is)
    (case l17 => k_is)
    (case c17 => k_is)
    (case k17 => k_is)
    (case a18 => k_is)
    (case l18 => k_is)
    (case c18 => k_is)
    (case k18 => k_is)
    (case z_abs => k_is)
    (case z_all => k_is)
    (case z_bool => k_is)
    (case z_int => k_is)
    (case z_isinstance => k_is)
    (case z_len => k_is)
    (case z_list => k_is)
    (case z_range => k_is)
    (case z_repr => k_is)
    (case z_str => k_is)
    (case z_tuple => k_is)
    (case z_zip => k_is)
    (case y_ROW => k_is)
    (case v_ROW => exact ⟨_, rfl⟩)
