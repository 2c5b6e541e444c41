import PyProof.Rows.All
import Wide.All
import OpenK.AllK
import Wide.FinOn
import HandS.ForMost
import HandS.ForExc
import HandS.IsInst
import HandS.Wide
import HandS.TupAny
import HandS.TupMul
import HandS.Deep
import HandS.Style
import HandS.Dict
import PyProof.ReprRoads
import HandS.Text
import HandS.Iter
import HandS.Comp
import HandS.Zip
import HandS.Ends
import HandS.Exc
import HandS.WordsExc
import HandS.SortKw
import PyProof.MinMaxWalk
import PyProof.WalkInts
import HandS.FStr
import HandS.StrMore
import KE.GoesEnumKw
import HandS.ExcInit
import HandS.ExcField
import HandS.ExcIs
import KE.KExcIs
import HandS.Small
import PyProof.Rows.FloatCmp
import PyProof.Rows.RuleB_bool
import HandS.Codes
import PyProof.ReprLen
import PyProof.FitsInt
import PyProof.Rows.ReprOcc
import KE.OsScanText
import KE.IntTextLaws
import PySem.Challenge.RW_everyway_k00_told_things_there_and_back
set_option Elab.async false
set_option linter.all false
set_option maxRecDepth 100000
namespace DN
open PySem L2

/-! ### data: what a value is, seen without addresses -/
inductive D where
  | non | bl (b : Bool) | int (i : Int) | str (s : Str)
  | tup (l : List D) | lst (l : List D) | kst (l : List D) | dct (l : List (Key × D))
  | ref (n : Nat) | st (v : V)
  | exn (a : Addr) (c : Value) (dd : Option Addr) (l : List (Key × D))

inductive LO where
  | lst (l : List D) | dct (l : List (Key × D))
abbrev LH := List LO
structure EX where
  cls : Value
  fs : Option (List (Key × D))
inductive R (α : Type) where
  | ok (a : α) (h : LH) | ex (x : EX) (h : LH) | no

abbrev Sg := List (Option D)
abbrev EM := Sg → LH → R D
abbrev BM := Sg → LH → R Bool
abbrev AM := Sg → LH → R (List D)

/-- what is known of addresses: what is frozen for ever; where the changing objects stand -/
structure Wd where
  fz : Addr → HO → Prop
  at_ : List Addr
  rs : Addr → HO → Prop
def Wd.le (w w' : Wd) : Prop := (∀ a o, w.fz a o → w'.fz a o) ∧ w.at_ <+: w'.at_ ∧ ∀ a o, w.rs a o → w'.rs a o
theorem Wd.le.refl (w : Wd) : w.le w := ⟨fun _ _ h => h, List.prefix_refl _, fun _ _ h => h⟩
theorem Wd.le.trans {a b c : Wd} (h : a.le b) (k : b.le c) : a.le c := ⟨fun x o z => k.1 x o (h.1 x o z), h.2.1.trans k.2.1, fun x o z => k.2.2 x o (h.2.2 x o z)⟩

section
variable (K : PySem.W.Frag)
def StL (a : Addr) (xs : List V) : Prop := ∃ (o : Obj) (its : Array Value) (n : Nat), K.lookup a = some o ∧ o.cls = .type "list" ∧ o.dict = none ∧ o.data = .seq its n ∧ its.size ≤ sizeLine ∧ Vals xs its.toList
def StT (a : Addr) (xs : List V) : Prop := ∃ (o : Obj) (its : Array Value) (n : Nat), K.lookup a = some o ∧ o.cls = .type "tuple" ∧ o.data = .seq its n ∧ its.size ≤ sizeLine ∧ Vals xs its.toList

mutual
inductive RV (w : Wd) : V → D → Prop where
  | non : RV w .non .non
  | bl (b : Bool) : RV w (.bl b) (.bl b)
  | int (i : Int) : RV w (.int i) (.int i)
  | str (s : Str) : RV w (.str s) (.str s)
  | tup {a : Addr} {vs : List V} {ds : List D} (h : w.fz a (.tup vs) ∨ StT K a vs) (r : RVs w vs ds) : RV w (.ref a) (.tup ds)
  | lst {a : Addr} {vs : List V} {ds : List D} (h : w.fz a (.lst vs)) (r : RVs w vs ds) : RV w (.ref a) (.lst ds)
  | kst {a : Addr} {vs : List V} {ds : List D} (h : (∃ o, w.fz a (.frz o (.lst vs))) ∨ StL K a vs) (r : RVs w vs ds) : RV w (.ref a) (.kst ds)
  | dct {a : Addr} {vs : List (Key × V)} {ds : List (Key × D)} (h : w.fz a (.dK vs)) (r : RKs w vs ds) : RV w (.ref a) (.dct ds)
  | ref {a : Addr} {n : Nat} (h : w.at_[n]? = some a) : RV w (.ref a) (.ref n)
  | st (v : V) : RV w v (.st v)
  | exn {a d : Addr} (c : Value) {vs : List (Str × V)} {us : List (Key × V)} {l : List (Key × D)} (h : w.fz d (.xd vs)) (hl : ∀ f v, valV us (.inr f) = some v → vs.lookup f = some v) (r : RKs w us l) : RV w (.ref a) (.exn a c (some d) l)
  | exb {a : Addr} (c : Value) : RV w (.ref a) (.exn a c none [])
inductive RVs (w : Wd) : List V → List D → Prop where
  | nil : RVs w [] []
  | cons {v : V} {vs : List V} {d : D} {ds : List D} (h : RV w v d) (r : RVs w vs ds) : RVs w (v :: vs) (d :: ds)
inductive RKs (w : Wd) : List (Key × V) → List (Key × D) → Prop where
  | nil : RKs w [] []
  | cons {k : Key} {v : V} {vs : List (Key × V)} {d : D} {ds : List (Key × D)} (h : RV w v d) (r : RKs w vs ds) : RKs w ((k, v) :: vs) ((k, d) :: ds)
end
variable {K} {w w' : Wd}
mutual
theorem RV.mono (l : w.le w') : ∀ {v : V} {d : D}, RV K w v d → RV K w' v d
  | _, _, .non => .non
  | _, _, .bl b => .bl b
  | _, _, .int b => .int b
  | _, _, .str b => .str b
  | _, _, .tup h r => .tup (h.imp (l.1 _ _) id) (RVs.mono l r)
  | _, _, .lst h r => .lst (l.1 _ _ h) (RVs.mono l r)
  | _, _, .kst h r => .kst (h.imp (fun ⟨o, z⟩ => ⟨o, l.1 _ _ z⟩) id) (RVs.mono l r)
  | _, _, .dct h r => .dct (l.1 _ _ h) (RKs.mono l r)
  | _, _, .ref h => .ref (by
      obtain ⟨t, e⟩ := l.2.1
      rw [← e, List.getElem?_append_left (List.getElem?_eq_some_iff.mp h).1]; exact h)
  | _, _, .st v => .st v
  | _, _, .exn c h hl r => .exn c (l.1 _ _ h) hl (RKs.mono l r)
  | _, _, .exb c => .exb c
theorem RVs.mono (l : w.le w') : ∀ {v : List V} {d : List D}, RVs K w v d → RVs K w' v d
  | _, _, .nil => .nil
  | _, _, .cons h r => .cons (RV.mono l h) (RVs.mono l r)
theorem RKs.mono (l : w.le w') : ∀ {v : List (Key × V)} {d : List (Key × D)}, RKs K w v d → RKs K w' v d
  | _, _, .nil => .nil
  | _, _, .cons h r => .cons (RV.mono l h) (RKs.mono l r)
end
theorem RVs.length : ∀ {v : List V} {d : List D}, RVs K w v d → v.length = d.length
  | _, _, .nil => rfl
  | _, _, .cons h r => by simp [RVs.length r]
theorem RVs.append : ∀ {v v' : List V} {d d' : List D}, RVs K w v d → RVs K w v' d' → RVs K w (v ++ v') (d ++ d')
  | _, _, _, _, .nil, s => s
  | _, _, _, _, .cons h r, s => .cons h (RVs.append r s)
theorem RVs.get : ∀ {v : List V} {d : List D} {i : Nat} {x : D}, RVs K w v d → d[i]? = some x → ∃ y, v[i]? = some y ∧ RV K w y x
  | _, _, _, _, .nil, e => by simp at e
  | _, _, 0, _, .cons h r, e => by simp at e; subst e; exact ⟨_, rfl, h⟩
  | _, _, i + 1, _, .cons h r, e => by
    obtain ⟨y, a, b⟩ := RVs.get (i := i) r (by simpa using e)
    exact ⟨y, by simpa using a, b⟩
theorem RVs.get' : ∀ {v : List V} {d : List D} {i : Nat} {y : V}, RVs K w v d → v[i]? = some y → ∃ x, d[i]? = some x ∧ RV K w y x
  | _, _, _, _, .nil, e => by simp at e
  | _, _, 0, _, .cons h r, e => by simp at e; subst e; exact ⟨_, rfl, h⟩
  | _, _, i + 1, _, .cons h r, e => by
    obtain ⟨y, a, b⟩ := RVs.get' (i := i) r (by simpa using e)
    exact ⟨y, by simpa using a, b⟩
theorem RVs.take : ∀ {v : List V} {d : List D} (n : Nat), RVs K w v d → RVs K w (v.take n) (d.take n)
  | _, _, 0, _ => .nil
  | _, _, _ + 1, .nil => .nil
  | _, _, n + 1, .cons r t => .cons r (RVs.take n t)
theorem RVs.drop : ∀ {v : List V} {d : List D} (n : Nat), RVs K w v d → RVs K w (v.drop n) (d.drop n)
  | _, _, 0, r => r
  | _, _, _ + 1, .nil => .nil
  | _, _, n + 1, .cons _ t => RVs.drop n t
theorem RVs.set {y : V} {x : D} (r : RV K w y x) : ∀ {v : List V} {d : List D} (i : Nat), RVs K w v d → RVs K w (v.set i y) (d.set i x)
  | _, _, _, .nil => .nil
  | _, _, 0, .cons _ t => .cons r t
  | _, _, i + 1, .cons q t => .cons q (RVs.set r i t)
theorem RVs.reverse : ∀ {v : List V} {d : List D}, RVs K w v d → RVs K w v.reverse d.reverse
  | _, _, .nil => .nil
  | _, _, .cons h r => by
    rw [List.reverse_cons, List.reverse_cons]
    exact (RVs.reverse r).append (.cons h .nil)
/-! ### the state -/
inductive RO (w : Wd) : HO → LO → Prop where
  | lst {vs : List V} {ds : List D} (r : RVs K w vs ds) : RO w (.lst vs) (.lst ds)
  | dct {vs : List (Key × V)} {ds : List (Key × D)} (r : RKs K w vs ds) : RO w (.dK vs) (.dct ds)
theorem RO.mono (l : w.le w') {o : HO} {p : LO} (r : RO (K := K) w o p) : RO (K := K) w' o p := by
  cases r with
  | lst r => exact .lst (r.mono l)
  | dct r => exact .dct (r.mono l)
variable (K)
structure HW (w : Wd) (H : Hp) (h : LH) : Prop where
  fz : ∀ a o, w.fz a o → H a = some o
  len : w.at_.length = h.length
  ats : ∀ (n : Nat) (a : Addr) (p : LO), w.at_[n]? = some a → h[n]? = some p → ∃ o, H a = some o ∧ RO (K := K) w o p
  nd : w.at_.Nodup
  sep : ∀ a o, a ∈ w.at_ → ¬ w.fz a o
  rs : ∀ a o, w.rs a o → H a = some o ∧ a ∉ w.at_ ∧ ∀ u, ¬ w.fz a u
  /-- where the table of modules stands, no list of ours stands -/
  sm : ∃ o u, w.fz sysModules (.frz o u)
def RS (w : Wd) (σ : St) (s : Sg) : Prop := σ.length = s.length ∧ ∀ (i : Nat) (d : D), s[i]? = some (some d) → ∃ v, σ[i]? = some (some v) ∧ RV K w v d
variable {K}
theorem RS.mono (l : w.le w') {σ : St} {s : Sg} (r : RS K w σ s) : RS K w' σ s := ⟨r.1, fun i d e =>
  let ⟨v, h1, h2⟩ := r.2 i d e
  ⟨v, h1, h2.mono l⟩⟩
theorem RS.set {σ : St} {s : Sg} (r : RS K w σ s) {i : Nat} {v : V} {d : D} (q : RV K w v d) : RS K w (σ.set i (some v)) (s.set i (some d)) := ⟨by simp [r.1], fun j x e => by
  by_cases hj : i = j
  · subst hj
    have hl : i < s.length := by
      have := (List.getElem?_eq_some_iff.mp e).1
      simpa using this
    rw [List.getElem?_set_self hl] at e
    cases e
    exact ⟨v, by rw [List.getElem?_set_self (by rw [r.1]; exact hl)], q⟩
  · rw [List.getElem?_set_ne hj] at e
    rw [List.getElem?_set_ne hj]
    exact r.2 j x e⟩
end

/-! ### what a piece of syntax means: readings out of results -/
section
variable (K : PySem.W.Frag)
/-- an exception at hand -/
inductive RX (w : Wd) (H : Hp) : Value → Option Addr → EX → Prop where
  | bare (c : Value) : RX w H c none ⟨c, none⟩
  | own (c : Value) {a : Addr} {vs : List (Str × V)} {us : List (Key × V)} {ds : List (Key × D)} (h : H a = some (.xd vs)) (hl : ∀ f v, valV us (.inr f) = some v → vs.lookup f = some v) (r : RKs K w us ds) (hn : ∀ o, ¬ w.rs a o) : RX w H c (some a) ⟨c, some ds⟩
def Pv (w : Wd) (Q : VK) (d : D) (h : LH) : Prop := ∀ w' v H', w.le w' → RV K w' v d → HW K w' H' h → Q v H'
def Px (w : Wd) (W : XK) (x : EX) (h : LH) : Prop := ∀ w' c dd H', w.le w' → RX K w' H' c dd x → HW K w' H' h → W c dd H'
def WpE (w : Wd) (Q : VK) (W : XK) : R D → Prop
  | .ok d h => Pv K w Q d h
  | .ex x h => Px K w W x h
  | .no => False
def WpB (w : Wd) (Q : Bool → Hp → Prop) (W : XK) : R Bool → Prop
  | .ok d h => ∀ w' H', w.le w' → HW K w' H' h → Q d H'
  | .ex x h => Px K w W x h
  | .no => False
def WpA (w : Wd) (Q : List V → Hp → Prop) (W : XK) : R (List D) → Prop
  | .ok d h => ∀ w' v H', w.le w' → RVs K w' v d → HW K w' H' h → Q v H'
  | .ex x h => Px K w W x h
  | .no => False
def TE_ (W : WX) (m : EM) : TE := fun σ H Q => ∃ w s h, RS K w σ s ∧ HW K w H h ∧ WpE K w Q (fun c d H => W c d σ H) (m s h)
def TB_ (W : WX) (m : BM) : TT := fun σ H Q => ∃ w s h, RS K w σ s ∧ HW K w H h ∧ WpB K w Q (fun c d H => W c d σ H) (m s h)
def TA_ (W : WX) (m : AM) : TA := fun σ H Q => ∃ w s h, RS K w σ s ∧ HW K w H h ∧ WpA K w Q (fun c d H => W c d σ H) (m s h)
end

/-- an expression means m -/
def DE (X : Cx) (W : WX) (e : Expr) (m : EM) : Prop := PE X e (TE_ X.K W m)
def DT (X : Cx) (W : WX) (e : Expr) (m : BM) : Prop := PT X e (TB_ X.K W m)
def DW (X : Cx) (W : WX) (e : Expr) (m : BM) : Prop := PW X e (TB_ X.K W m)
def DA (X : Cx) (W : WX) (es : List Expr) (m : AM) : Prop := PA X es (TA_ X.K W m)

theorem PE.imp {X : Cx} {e : Expr} {t t' : TE} (h : PE X e t) (k : ∀ σ H Q, t' σ H Q → t σ H Q) : PE X e t' := ⟨fun pins s σ H Q I q => h.run pins s σ H Q I (k σ H Q q)⟩
theorem PT.imp {X : Cx} {e : Expr} {t t' : TT} (h : PT X e t) (k : ∀ σ H Q, t' σ H Q → t σ H Q) : PT X e t' := ⟨fun pins s σ H Q I q => h.run pins s σ H Q I (k σ H Q q)⟩
theorem PW.imp {X : Cx} {e : Expr} {t t' : TT} (h : PW X e t) (k : ∀ σ H Q, t' σ H Q → t σ H Q) : PW X e t' := ⟨fun wh pins s σ H Q I q => h.run wh pins s σ H Q I (k σ H Q q)⟩
theorem PA.imp {X : Cx} {e : List Expr} {t t' : TA} (h : PA X e t) (k : ∀ σ H Q, t' σ H Q → t σ H Q) : PA X e t' := ⟨fun pos pins s σ H Q I q => h.run pos pins s σ H Q I (k σ H Q q)⟩

/-! ### results in a row -/
@[inline] def R.bind {α β : Type} (r : R α) (f : α → LH → R β) : R β := match r with
  | .ok a h => f a h
  | .ex x h => .ex x h
  | .no => .no
@[simp] theorem R.bind_ok {α β : Type} (a : α) (h : LH) (f : α → LH → R β) : (R.ok a h).bind f = f a h := rfl
@[simp] theorem R.bind_ex {α β : Type} (x : EX) (h : LH) (f : α → LH → R β) : (R.ex x h).bind f = .ex x h := rfl
@[simp] theorem R.bind_no {α β : Type} (f : α → LH → R β) : (R.no : R α).bind f = .no := rfl

section
variable {K : PySem.W.Frag} {w w' : Wd}
theorem Px.mono {W : XK} {x : EX} {h : LH}  (l : w.le w') (p : Px K w W x h) : Px K w' W x h := fun v c d H k r q => p v c d H (l.trans k) r q
theorem WpE.mono {Q : VK} {W : XK} {r : R D} (l : w.le w') (p : WpE K w Q W r) : WpE K w' Q W r := by
  cases r with
  | ok d h => exact fun v c H k r q => p v c H (l.trans k) r q
  | ex x h => exact Px.mono l p
  | no => exact p
theorem WpB.mono {Q : Bool → Hp → Prop} {W : XK} {r : R Bool} (l : w.le w') (p : WpB K w Q W r) : WpB K w' Q W r := by
  cases r with
  | ok d h => exact fun v H k q => p v H (l.trans k) q
  | ex x h => exact Px.mono l p
  | no => exact p
theorem WpA.mono {Q : List V → Hp → Prop} {W : XK} {r : R (List D)} (l : w.le w') (p : WpA K w Q W r) : WpA K w' Q W r := by
  cases r with
  | ok d h => exact fun v c H k r q => p v c H (l.trans k) r q
  | ex x h => exact Px.mono l p
  | no => exact p
/-- first one, then the other -/
theorem WpE.bind {α : Type} {Q : VK} {W : XK} {r : R D} {f : D → LH → R α} {G : R α → Prop}
    (h : G (r.bind f)) (hx : ∀ x h, G (.ex x h) → Px K w W x h) (hn : ¬ G .no)
    (k : ∀ d h1 w1 v H1, w.le w1 → RV K w1 v d → HW K w1 H1 h1 → G (f d h1) → Q v H1) : WpE K w Q W r := by
  cases r with
  | ok d h1 => exact fun w1 v H1 l rv hw => k d h1 w1 v H1 l rv hw h
  | ex x h1 => exact hx x h1 h
  | no => exact (hn h).elim
theorem WpB.bind {α : Type} {Q : Bool → Hp → Prop} {W : XK} {r : R Bool} {f : Bool → LH → R α} {G : R α → Prop}
    (h : G (r.bind f)) (hx : ∀ x h, G (.ex x h) → Px K w W x h) (hn : ¬ G .no)
    (k : ∀ d h1 w1 H1, w.le w1 → HW K w1 H1 h1 → G (f d h1) → Q d H1) : WpB K w Q W r := by
  cases r with
  | ok d h1 => exact fun w1 H1 l hw => k d h1 w1 H1 l hw h
  | ex x h1 => exact hx x h1 h
  | no => exact (hn h).elim
theorem WpA.bind {α : Type} {Q : List V → Hp → Prop} {W : XK} {r : R (List D)} {f : List D → LH → R α} {G : R α → Prop}
    (h : G (r.bind f)) (hx : ∀ x h, G (.ex x h) → Px K w W x h) (hn : ¬ G .no)
    (k : ∀ d h1 w1 v H1, w.le w1 → RVs K w1 v d → HW K w1 H1 h1 → G (f d h1) → Q v H1) : WpA K w Q W r := by
  cases r with
  | ok d h1 => exact fun w1 v H1 l rv hw => k d h1 w1 v H1 l rv hw h
  | ex x h1 => exact hx x h1 h
  | no => exact (hn h).elim
end

/-! ### names, constants -/
section
variable {X : Cx} {W : WX}
def mVar (i : Nat) : EM := fun s h => match s[i]? with
  | some (some d) => .ok d h
  | _ => .no
def mC (d : D) : EM := fun _ h => .ok d h
theorem d_var {i : Nat} {e : Expr} (h : PE X e (tVar i)) : DE X W e (mVar i) := PE.imp h fun σ H Q ⟨w, s, h, rs, hw, q⟩ => by
  unfold mVar at q
  split at q
  · rename_i d e
    obtain ⟨v, h1, h2⟩ := rs.2 i d e
    exact ⟨v, h1, q w v H (.refl w) h2 hw⟩
  · exact q.elim
theorem d_c {d : D} {v : V} {e : Expr} (h : PE X e (tC v)) (r : ∀ K w, RV K w v d) : DE X W e (mC d) := PE.imp h fun σ H Q ⟨w, s, h, rs, hw, q⟩ => q w v H (.refl w) (r _ _) hw
theorem d_int {i j pos} : DE X W (.Constant (.int i) j pos) (mC (.int i)) := d_c pe_int fun _ _ => .int i
theorem d_bl {b j pos} : DE X W (.Constant (.bool b) j pos) (mC (.bl b)) := d_c pe_bl fun _ _ => .bl b
theorem d_non {j pos} : DE X W (.Constant .none j pos) (mC .non) := d_c pe_non fun _ _ => .non
theorem d_str {x j pos} : DE X W (.Constant (.str x) j pos) (mC (.str x)) := d_c pe_str fun _ _ => .str x
end
end DN
namespace DN
open PySem L2

/-! ### sequences seen -/
def seqL (h : LH) : D → Option (List D)
  | .lst l => some l
  | .kst l => some l
  | .ref n => match h[n]? with
    | some (.lst l) => some l
    | _ => none
  | _ => none
/-- .. that may be joined -/
def catL (h : LH) : D → Option (List D)
  | .lst l => some l
  | .ref n => match h[n]? with
    | some (.lst l) => some l
    | _ => none
  | _ => none
def seqT : D → Option (List D)
  | .tup l => some l
  | _ => none

section
variable {K : PySem.W.Frag} {w : Wd} {H : Hp} {h : LH}
theorem HW.get (hw : HW K w H h) {n : Nat} {p : LO} (e : h[n]? = some p) : ∃ a o, w.at_[n]? = some a ∧ H a = some o ∧ RO (K := K) w o p := by
  have hl : n < w.at_.length := by rw [hw.len]; exact (List.getElem?_eq_some_iff.mp e).1
  obtain ⟨o, h1, h2⟩ := hw.ats n w.at_[n] p (List.getElem?_eq_getElem hl) e
  exact ⟨_, o, List.getElem?_eq_getElem hl, h1, h2⟩
theorem seqL_ok (hw : HW K w H h) {v : V} {d : D} {l : List D} (r : RV K w v d) (e : seqL h d = some l) : ∃ a vs, v = .ref a ∧ SqL K H a vs ∧ RVs K w vs l := by
  cases r with
  | lst q r => cases e; exact ⟨_, _, rfl, .inl (.inl (hw.fz _ _ q)), r⟩
  | kst q r =>
    cases e
    rcases q with ⟨o, q⟩ | q
    · exact ⟨_, _, rfl, .inl (.inr ⟨o, hw.fz _ _ q⟩), r⟩
    · exact ⟨_, _, rfl, .inr q, r⟩
  | @ref a n q =>
    unfold seqL at e
    simp only at e
    split at e
    · rename_i l' e'
      cases e
      obtain ⟨a', o, h1, h2, h3⟩ := hw.get e'
      rw [q] at h1
      cases h1
      cases h3 with
      | lst r => exact ⟨_, _, rfl, .inl (.inl h2), r⟩
    · cases e
  | _ => cases e
theorem catL_ok (hw : HW K w H h) {v : V} {d : D} {l : List D} (r : RV K w v d) (e : catL h d = some l) : ∃ a vs, v = .ref a ∧ H a = some (.lst vs) ∧ RVs K w vs l := by
  cases r with
  | lst q r => cases e; exact ⟨_, _, rfl, hw.fz _ _ q, r⟩
  | @ref a n q =>
    unfold catL at e
    simp only at e
    split at e
    · rename_i l' e'
      cases e
      obtain ⟨a', o, h1, h2, h3⟩ := hw.get e'
      rw [q] at h1
      cases h1
      cases h3 with
      | lst r => exact ⟨_, _, rfl, h2, r⟩
    · cases e
  | _ => cases e
theorem seqT_ok (hw : HW K w H h) {v : V} {d : D} {l : List D} (r : RV K w v d) (e : seqT d = some l) : ∃ a vs, v = .ref a ∧ SqT K H a vs ∧ RVs K w vs l := by
  cases r with
  | tup q r =>
    cases e
    rcases q with q | q
    · exact ⟨_, _, rfl, .inl (.inl (hw.fz _ _ q)), r⟩
    · exact ⟨_, _, rfl, .inr q, r⟩
  | _ => cases e

/-! ### the state grows -/
def Wd.add (w : Wd) (p : Addr) (o : HO) : Wd := ⟨fun a u => w.fz a u ∨ (a = p ∧ u = o), w.at_, w.rs⟩
def Wd.push (w : Wd) (p : Addr) : Wd := ⟨w.fz, w.at_ ++ [p], w.rs⟩
theorem Wd.le_add {p : Addr} {o : HO} : w.le (w.add p o) := ⟨fun _ _ h => .inl h, List.prefix_refl _, fun _ _ h => h⟩
theorem Wd.le_push {p : Addr} : w.le (w.push p) := ⟨fun _ _ h => h, ⟨[p], rfl⟩, fun _ _ h => h⟩
theorem HW.there (hw : HW K w H h) {p : Addr} (hp : p ∈ w.at_) : ∃ o, H p = some o := by
  obtain ⟨n, hn, e⟩ := List.getElem_of_mem hp
  have hh : n < h.length := by rw [← hw.len]; exact hn
  obtain ⟨o, h1, _⟩ := hw.ats n p h[n] (by rw [List.getElem?_eq_getElem hn, e]) (List.getElem?_eq_getElem hh)
  exact ⟨o, h1⟩
theorem HW.free (hw : HW K w H h) {p : Addr} (hp : H p = none) : p ∉ w.at_ ∧ (∀ o, ¬ w.fz p o) ∧ ∀ o, ¬ w.rs p o := by
  refine ⟨fun hm => ?_, fun o q => ?_, fun o q => ?_⟩
  · obtain ⟨o, h1⟩ := hw.there hm
    rw [hp] at h1; cases h1
  · have := hw.fz p o q
    rw [hp] at this; cases this
  · have := (hw.rs p o q).1
    rw [hp] at this; cases this
theorem HW.add (hw : HW K w H h) {p : Addr} {o : HO} (hp : H p = none) : HW K (w.add p o) (upd H p o) h := by
  obtain ⟨f1, f2, f3⟩ := hw.free hp
  refine ⟨fun a u q => ?_, hw.len, fun n a x e1 e2 => ?_, hw.nd, fun a u hm q => ?_, fun a u q => ?_, hw.sm.imp fun _ z => z.imp fun _ z => .inl z⟩
  · rcases q with q | ⟨rfl, rfl⟩
    · have hq := hw.fz a u q
      rw [upd_ne (ne_of_none hq hp)]; exact hq
    · exact upd_same
  · obtain ⟨u, h1, h2⟩ := hw.ats n a x e1 e2
    exact ⟨u, by rw [upd_ne (ne_of_none h1 hp)]; exact h1, h2.mono Wd.le_add⟩
  · rcases q with q | ⟨rfl, rfl⟩
    · exact hw.sep a u hm q
    · exact f1 hm
  · obtain ⟨q1, q2, q3⟩ := hw.rs a u q
    refine ⟨by rw [upd_ne (ne_of_none q1 hp)]; exact q1, q2, fun x z => ?_⟩
    rcases z with z | ⟨rfl, rfl⟩
    · exact q3 x z
    · exact f3 u q
theorem HW.push (hw : HW K w H h) {p : Addr} {o : HO} {x : LO} (hp : H p = none) (r : RO (K := K) w o x) : HW K (w.push p) (upd H p o) (h ++ [x]) := by
  obtain ⟨f1, f2, f3⟩ := hw.free hp
  refine ⟨fun a u q => ?_, by simp [Wd.push, hw.len], fun n a y e1 e2 => ?_, ?_, fun a u hm q => ?_, fun a u q => ?_, hw.sm⟩
  · have hq := hw.fz a u q
    rw [upd_ne (ne_of_none hq hp)]; exact hq
  · by_cases hn : n < h.length
    · have e1' : w.at_[n]? = some a := by
        have : (w.at_ ++ [p])[n]? = some a := e1
        rwa [List.getElem?_append_left (by rw [hw.len]; exact hn)] at this
      rw [List.getElem?_append_left hn] at e2
      obtain ⟨u, h1, h2⟩ := hw.ats n a y e1' e2
      exact ⟨u, by rw [upd_ne (ne_of_none h1 hp)]; exact h1, h2.mono Wd.le_push⟩
    · have hn2 : n = h.length := by
        have := (List.getElem?_eq_some_iff.mp e2).1
        simp at this
        omega
      have e1' : (w.at_ ++ [p])[n]? = some a := e1
      rw [hn2, ← hw.len, List.getElem?_append_right (Nat.le_refl _)] at e1'
      simp at e1'
      rw [hn2, List.getElem?_append_right (Nat.le_refl _)] at e2
      simp at e2
      subst e1' e2
      exact ⟨o, upd_same, r.mono Wd.le_push⟩
  · show (w.at_ ++ [p]).Nodup
    rw [List.nodup_append]
    refine ⟨hw.nd, by simp, fun a ha b hb => ?_⟩
    simp at hb
    subst hb
    exact fun e => f1 (e ▸ ha)
  · have hm' : a ∈ w.at_ ++ [p] := hm
    rcases List.mem_append.mp hm' with hm | hm
    · exact hw.sep a u hm q
    · simp at hm
      subst hm
      exact f2 u q
  · obtain ⟨q1, q2, q3⟩ := hw.rs a u q
    refine ⟨by rw [upd_ne (ne_of_none q1 hp)]; exact q1, fun hm => ?_, q3⟩
    have hm' : a ∈ w.at_ ++ [p] := hm
    rcases List.mem_append.mp hm' with hm | hm
    · exact q2 hm
    · simp at hm
      subst hm
      exact f3 u q
theorem HW.set (hw : HW K w H h) {n : Nat} {a : Addr} {o : HO} {x : LO} (e : w.at_[n]? = some a) (hn : n < h.length) (r : RO (K := K) w o x) : HW K w (upd H a o) (h.set n x) := by
  have hma := List.mem_of_getElem? e
  refine ⟨fun b u q => ?_, by simp [hw.len], fun m b y e1 e2 => ?_, hw.nd, hw.sep, fun b u q => ?_, hw.sm⟩
  · have ne : b ≠ a := by
      rintro rfl
      exact hw.sep b u hma q
    rw [upd_ne ne]
    exact hw.fz b u q
  · by_cases hm : n = m
    · subst hm
      rw [List.getElem?_set_self hn] at e2
      cases e2
      rw [e] at e1
      cases e1
      exact ⟨o, upd_same, r⟩
    · rw [List.getElem?_set_ne hm] at e2
      obtain ⟨u, h1, h2⟩ := hw.ats m b y e1 e2
      have ne : b ≠ a := by
        rintro rfl
        exact hm (nd_ix hw.nd e e1)
      exact ⟨u, by rw [upd_ne ne]; exact h1, h2⟩
  · obtain ⟨q1, q2, q3⟩ := hw.rs b u q
    have ne : b ≠ a := by
      rintro rfl
      exact q2 hma
    exact ⟨by rw [upd_ne ne]; exact q1, q2, q3⟩
/-- an object reserved, and let go -/
def Wd.res (w : Wd) (p : Addr) (o : HO) : Wd := ⟨w.fz, w.at_, fun a u => w.rs a u ∨ (a = p ∧ u = o)⟩
def Wd.unres (w : Wd) (p : Addr) : Wd := ⟨w.fz, w.at_, fun a u => w.rs a u ∧ a ≠ p⟩
theorem Wd.le_res {p : Addr} {o : HO} : w.le (w.res p o) := ⟨fun _ _ h => h, List.prefix_refl _, fun _ _ h => .inl h⟩
theorem Wd.le_unres {w' : Wd} {p : Addr} (l : w.le w') (hp : ∀ o, ¬ w.rs p o) : w.le (w'.unres p) := ⟨l.1, l.2.1, fun a o h => ⟨l.2.2 a o h, fun e => hp o (e ▸ h)⟩⟩
mutual
theorem RV.eqv {w' : Wd} (e1 : w.fz = w'.fz) (e2 : w.at_ = w'.at_) : ∀ {v : V} {d : D}, RV K w v d → RV K w' v d
  | _, _, .non => .non
  | _, _, .bl b => .bl b
  | _, _, .int b => .int b
  | _, _, .str b => .str b
  | _, _, .tup h r => .tup (e1 ▸ h) (RVs.eqv e1 e2 r)
  | _, _, .lst h r => .lst (e1 ▸ h) (RVs.eqv e1 e2 r)
  | _, _, .kst h r => .kst (e1 ▸ h) (RVs.eqv e1 e2 r)
  | _, _, .dct h r => .dct (e1 ▸ h) (RKs.eqv e1 e2 r)
  | _, _, .ref h => .ref (e2 ▸ h)
  | _, _, .st v => .st v
  | _, _, .exn c h hl r => .exn c (e1 ▸ h) hl (RKs.eqv e1 e2 r)
  | _, _, .exb c => .exb c
theorem RVs.eqv {w' : Wd} (e1 : w.fz = w'.fz) (e2 : w.at_ = w'.at_) : ∀ {v : List V} {d : List D}, RVs K w v d → RVs K w' v d
  | _, _, .nil => .nil
  | _, _, .cons h r => .cons (RV.eqv e1 e2 h) (RVs.eqv e1 e2 r)
theorem RKs.eqv {w' : Wd} (e1 : w.fz = w'.fz) (e2 : w.at_ = w'.at_) : ∀ {v : List (Key × V)} {d : List (Key × D)}, RKs K w v d → RKs K w' v d
  | _, _, .nil => .nil
  | _, _, .cons h r => .cons (RV.eqv e1 e2 h) (RKs.eqv e1 e2 r)
end
theorem RO.eqv {w' : Wd} (e1 : w.fz = w'.fz) (e2 : w.at_ = w'.at_) {o : HO} {x : LO} (r : RO (K := K) w o x) : RO (K := K) w' o x := by
  cases r with
  | lst r => exact .lst (r.eqv e1 e2)
  | dct r => exact .dct (r.eqv e1 e2)
theorem HW.res (hw : HW K w H h) {p : Addr} {o : HO} (hp : H p = none) : HW K (w.res p o) (upd H p o) h := by
  obtain ⟨f1, f2, f3⟩ := hw.free hp
  refine ⟨fun a u q => ?_, hw.len, fun n a x e1 e2 => ?_, hw.nd, hw.sep, fun a u q => ?_, hw.sm⟩
  · have hq := hw.fz a u q
    rw [upd_ne (ne_of_none hq hp)]; exact hq
  · obtain ⟨u, h1, h2⟩ := hw.ats n a x e1 e2
    exact ⟨u, by rw [upd_ne (ne_of_none h1 hp)]; exact h1, h2.eqv (w := w) (w' := w.res p o) rfl rfl⟩
  · rcases q with q | ⟨rfl, rfl⟩
    · obtain ⟨q1, q2, q3⟩ := hw.rs a u q
      exact ⟨by rw [upd_ne (ne_of_none q1 hp)]; exact q1, q2, q3⟩
    · exact ⟨upd_same, f1, f2⟩
/-- what is reserved changes -/
theorem HW.reset (hw : HW K w H h) {p : Addr} {o : HO} (hp : ∃ u, w.rs p u) : HW K ((w.unres p).res p o) (upd H p o) h := by
  obtain ⟨u0, hp⟩ := hp
  obtain ⟨p1, p2, p3⟩ := hw.rs p u0 hp
  refine ⟨fun a u q => ?_, hw.len, fun n a x e1 e2 => ?_, hw.nd, hw.sep, fun a u q => ?_, hw.sm⟩
  · have ne : a ≠ p := fun e => p3 u (e ▸ q)
    rw [upd_ne ne]; exact hw.fz a u q
  · obtain ⟨u, h1, h2⟩ := hw.ats n a x e1 e2
    have ne : a ≠ p := fun e => p2 (e ▸ List.mem_of_getElem? e1)
    exact ⟨u, by rw [upd_ne ne]; exact h1, h2.eqv (w := w) (w' := (w.unres p).res p o) rfl rfl⟩
  · rcases q with ⟨q, ne⟩ | ⟨rfl, rfl⟩
    · obtain ⟨q1, q2, q3⟩ := hw.rs a u q
      exact ⟨by rw [upd_ne ne]; exact q1, q2, q3⟩
    · exact ⟨upd_same, p2, p3⟩
/-- what was reserved is frozen; or it is one of those that change -/
theorem HW.frz (hw : HW K w H h) {p : Addr} {o : HO} (hp : w.rs p o) : HW K ((w.unres p).add p o) H h := by
  obtain ⟨p1, p2, p3⟩ := hw.rs p o hp
  refine ⟨fun a u q => ?_, hw.len, fun n a x e1 e2 => ?_, hw.nd, fun a u hm q => ?_, fun a u q => ?_, hw.sm.imp fun _ z => z.imp fun _ z => .inl z⟩
  · rcases q with q | ⟨rfl, rfl⟩
    · exact hw.fz a u q
    · exact p1
  · obtain ⟨u, h1, h2⟩ := hw.ats n a x e1 e2
    exact ⟨u, h1, (h2.eqv (w := w) (w' := w.unres p) rfl rfl).mono Wd.le_add⟩
  · rcases q with q | ⟨rfl, rfl⟩
    · exact hw.sep a u hm q
    · exact p2 hm
  · obtain ⟨q, ne⟩ := q
    obtain ⟨q1, q2, q3⟩ := hw.rs a u q
    refine ⟨q1, q2, fun x z => ?_⟩
    rcases z with z | ⟨rfl, rfl⟩
    · exact q3 x z
    · exact ne rfl
theorem HW.own (hw : HW K w H h) {p : Addr} {o : HO} {x : LO} (hp : w.rs p o) (r : RO (K := K) w o x) : HW K ((w.unres p).push p) H (h ++ [x]) := by
  obtain ⟨p1, p2, p3⟩ := hw.rs p o hp
  have r' : RO (K := K) ((w.unres p).push p) o x := (r.eqv (w := w) (w' := w.unres p) rfl rfl).mono Wd.le_push
  refine ⟨fun a u q => hw.fz a u q, by simp [Wd.push, Wd.unres, hw.len], fun n a y e1 e2 => ?_, ?_, fun a u hm q => ?_, fun a u q => ?_, hw.sm⟩
  · by_cases hn : n < h.length
    · have e1' : w.at_[n]? = some a := by
        have : (w.at_ ++ [p])[n]? = some a := e1
        rwa [List.getElem?_append_left (by rw [hw.len]; exact hn)] at this
      rw [List.getElem?_append_left hn] at e2
      obtain ⟨u, h1, h2⟩ := hw.ats n a y e1' e2
      exact ⟨u, h1, (h2.eqv (w := w) (w' := w.unres p) rfl rfl).mono Wd.le_push⟩
    · have hn2 : n = h.length := by
        have := (List.getElem?_eq_some_iff.mp e2).1
        simp at this
        omega
      have e1' : (w.at_ ++ [p])[n]? = some a := e1
      rw [hn2, ← hw.len, List.getElem?_append_right (Nat.le_refl _)] at e1'
      simp at e1'
      rw [hn2, List.getElem?_append_right (Nat.le_refl _)] at e2
      simp at e2
      subst e1' e2
      exact ⟨o, p1, r'⟩
  · show (w.at_ ++ [p]).Nodup
    rw [List.nodup_append]
    refine ⟨hw.nd, by simp, fun a ha b hb => ?_⟩
    simp at hb
    subst hb
    exact fun e => p2 (e ▸ ha)
  · have hm' : a ∈ w.at_ ++ [p] := hm
    rcases List.mem_append.mp hm' with hm | hm
    · exact hw.sep a u hm q
    · simp at hm
      subst hm
      exact p3 u q
  · obtain ⟨q, ne⟩ := q
    obtain ⟨q1, q2, q3⟩ := hw.rs a u q
    refine ⟨q1, fun hm => ?_, q3⟩
    have hm' : a ∈ w.at_ ++ [p] := hm
    rcases List.mem_append.mp hm' with hm | hm
    · exact q2 hm
    · simp at hm
      exact ne hm
/-! what follows a new object -/
theorem Pv.tup {Q : VK} {ds : List D} {vs : List V} {p : Addr} (q : Pv K w Q (.tup ds) h) (hw : HW K w H h) (r : RVs K w vs ds) (hp : H p = none) : Q (.ref p) (upd H p (.tup vs)) :=
  q _ _ _ Wd.le_add (.tup (.inl (.inr ⟨rfl, rfl⟩)) (r.mono Wd.le_add)) (hw.add hp)
theorem Pv.lst {Q : VK} {ds : List D} {vs : List V} {p : Addr} (q : Pv K w Q (.lst ds) h) (hw : HW K w H h) (r : RVs K w vs ds) (hp : H p = none) : Q (.ref p) (upd H p (.lst vs)) :=
  q _ _ _ Wd.le_add (.lst (.inr ⟨rfl, rfl⟩) (r.mono Wd.le_add)) (hw.add hp)
theorem Pv.new {Q : VK} {ds : List D} {vs : List V} {p : Addr} (q : Pv K w Q (.ref h.length) (h ++ [.lst ds])) (hw : HW K w H h) (r : RVs K w vs ds) (hp : H p = none) : Q (.ref p) (upd H p (.lst vs)) :=
  q _ _ _ Wd.le_push (.ref (by show (w.at_ ++ [p])[h.length]? = some p; rw [← hw.len]; simp)) (hw.push hp (.lst r))
theorem Pv.here {Q : VK} {d : D} {v : V} (q : Pv K w Q d h) (hw : HW K w H h) (r : RV K w v d) : Q v H := q w v H (.refl w) r hw
end

/-! ### operators: by the two values -/
abbrev O2 := LH → D → D → Option D
def rO (K : PySem.W.Frag) (g : O2) : R2 := fun x y H Q => ∃ w h dx dy d, RV K w x dx ∧ RV K w y dy ∧ HW K w H h ∧ g h dx dy = some d ∧ Pv K w Q d h
def OD (X : Cx) (f : Value → Value → Sem Value) (g : O2) : Prop := OpR X f (rO X.K g)
def mOp (g : O2) (a b : EM) : EM := fun s h => (a s h).bind fun x h1 => (b s h1).bind fun y h2 => match g h2 x y with
  | some d => .ok d h2
  | none => .no
section
variable {X : Cx} {W : WX} {a b c : Expr} {ma mb mc : EM} {pos : Pos}
theorem te_op {K : PySem.W.Frag} {g : O2} {σ : St} {H : Hp} {Q : VK} (q : TE_ K W (mOp g ma mb) σ H Q) : tOp (rO K g) (TE_ K W ma) (TE_ K W mb) σ H Q := by
  obtain ⟨w, s, h, rs, hw, q⟩ := q
  refine ⟨w, s, h, rs, hw, WpE.bind (G := WpE K w Q _) q (fun _ _ z => z) (fun z => z) fun x h1 w1 v H1 l1 rx hw1 q1 => ?_⟩
  refine ⟨w1, s, h1, rs.mono l1, hw1, WpE.bind (G := WpE K w Q _) q1 (fun _ _ z => Px.mono l1 z) (fun z => z) fun y h2 w2 u H2 l2 ry hw2 q2 => ?_⟩
  split at q2
  · rename_i d e
    exact ⟨w2, h2, x, y, d, rx.mono l2, ry, hw2, e, fun w3 z H3 l3 => q2 w3 z H3 ((l1.trans l2).trans l3)⟩
  · exact q2.elim
theorem d_op {op : Operator} {g : O2} (ho : OD X (binaryOp op) g) (ha : DE X W a ma) (hb : DE X W b mb) : DE X W (.BinOp a op b pos) (mOp g ma mb) := PE.imp (pe_op ho ha hb) fun _ _ _ q => te_op q
theorem d_cmp {op : CmpOp} {g : O2} (ho : OD X (compareOp op) g) (ha : DE X W a ma) (hb : DE X W b mb) (hm : behindInMarks op b = false) : DE X W (.Compare a [op] [b] pos) (mOp g ma mb) := PE.imp (pe_cmpR ho ha hb hm) fun _ _ _ q => te_op q

/-! ### tests -/
def toB (r : R D) : R Bool := match r with
  | .ok (.bl k) h => .ok k h
  | .ok _ _ => .no
  | .ex x h => .ex x h
  | .no => .no
def mTest (m : EM) : BM := fun s h => toB (m s h)
theorem wpb_toB {K : PySem.W.Frag} {w : Wd} {Q : Bool → Hp → Prop} {E : XK} {r : R D} (q : WpB K w Q E (toB r)) : WpE K w (fun v H => ∃ k, v = .bl k ∧ Q k H) E r := by
  unfold toB at q
  split at q
  · rename_i k h
    intro w' v H' l rv hw
    cases rv with
    | bl k => exact ⟨k, rfl, q w' H' l hw⟩
  · exact q.elim
  · exact q
  · exact q.elim
theorem te_test {K : PySem.W.Frag} {m : EM} {σ : St} {H : Hp} {Q : Bool → Hp → Prop} (q : TB_ K W (mTest m) σ H Q) : tTest (TE_ K W m) σ H Q := by
  obtain ⟨w, s, h, rs, hw, q⟩ := q
  exact ⟨w, s, h, rs, hw, wpb_toB q⟩
theorem dt_cmp {op : CmpOp} {g : O2} (ho : OD X (compareOp op) g) (ha : DE X W a ma) (hb : DE X W b mb) (hm : behindInMarks op b = false) : DT X W (.Compare a [op] [b] pos) (mTest (mOp g ma mb)) := PT.imp (pt_cmpR ho ha hb hm) fun σ H Q q => by
  obtain ⟨w, s, h, rs, hw, q⟩ := te_test q
  exact te_op ⟨w, s, h, rs, hw, q⟩
/-- an expression whose value is a truth, as a test -/
theorem dt_val {e : Expr} {m : EM} (he : DE X W e m) (hp : ∀ whole, isTrue e X.env whole = (do let v ← whole; standAt e.pos; holding [v] (truthy v)) := by intro _; rfl) : DT X W e (mTest m) := PT.imp (pt_val he hp) fun σ H Q q => te_test q
def mNotT (m : BM) : BM := fun s h => (m s h).bind fun k h => .ok (!k) h
theorem dt_not {m : BM} (ha : DT X W a m) : DT X W (.UnaryOp .Not a pos) (mNotT m) := PT.imp (pt_not ha) fun σ H Q ⟨w, s, h, rs, hw, q⟩ =>
  ⟨w, s, h, rs, hw, WpB.bind (G := WpB X.K w Q _) q (fun _ _ z => z) (fun z => z) fun k h1 w1 H1 l hw1 q1 => q1 w1 H1 l hw1⟩
def mAndT (m n : BM) : BM := fun s h => (m s h).bind fun k h1 => if k = true then n s h1 else .ok false h1
def mOrT (m n : BM) : BM := fun s h => (m s h).bind fun k h1 => if k = true then .ok true h1 else n s h1
variable {rest : List Expr} {m n : BM}
theorem dw_and1 (ha : DT X W a m) : DW X W (.BoolOp .And [a] pos) m := pw_and1 ha
theorem dw_or1 (ha : DT X W a m) : DW X W (.BoolOp .Or [a] pos) m := pw_or1 ha
theorem dw_and (ha : DT X W a m) (hb : DW X W (.BoolOp .And (b :: rest) pos) n) : DW X W (.BoolOp .And (a :: b :: rest) pos) (mAndT m n) := PW.imp (pw_and ha hb) fun σ H Q ⟨w, s, h, rs, hw, q⟩ =>
  ⟨w, s, h, rs, hw, WpB.bind (G := WpB X.K w Q _) q (fun _ _ z => z) (fun z => z) fun k h1 w1 H1 l hw1 q1 => by
    cases k with
    | true => exact iteT ⟨w1, s, h1, rs.mono l, hw1, WpB.mono l q1⟩
    | false => exact iteF (q1 w1 H1 l hw1)⟩
theorem dw_or (ha : DT X W a m) (hb : DW X W (.BoolOp .Or (b :: rest) pos) n) : DW X W (.BoolOp .Or (a :: b :: rest) pos) (mOrT m n) := PW.imp (pw_or ha hb) fun σ H Q ⟨w, s, h, rs, hw, q⟩ =>
  ⟨w, s, h, rs, hw, WpB.bind (G := WpB X.K w Q _) q (fun _ _ z => z) (fun z => z) fun k h1 w1 H1 l hw1 q1 => by
    cases k with
    | true => exact iteT (q1 w1 H1 l hw1)
    | false => exact iteF ⟨w1, s, h1, rs.mono l, hw1, WpB.mono l q1⟩⟩
theorem dt_w {e : Expr} (h : DW X W e m) : DT X W e m := PW.pt h
/-! .. as values -/
def mAndV (m n : EM) : EM := fun s h => (m s h).bind fun k h1 => match k with
  | .bl true => n s h1
  | .bl false => .ok (.bl false) h1
  | _ => .no
def mOrV (m n : EM) : EM := fun s h => (m s h).bind fun k h1 => match k with
  | .bl true => .ok (.bl true) h1
  | .bl false => n s h1
  | _ => .no
theorem d_one {op} {m : EM} (h : DE X W a m) : DE X W (.BoolOp op [a] pos) m := pe_one h
theorem d_and (ha : DE X W a ma) (hb : DE X W (.BoolOp .And (b :: rest) pos) mb) : DE X W (.BoolOp .And (a :: b :: rest) pos) (mAndV ma mb) := PE.imp (pe_and ha hb) fun σ H Q ⟨w, s, h, rs, hw, q⟩ =>
  ⟨w, s, h, rs, hw, WpE.bind (G := WpE X.K w Q _) q (fun _ _ z => z) (fun z => z) fun k h1 w1 v H1 l rv hw1 q1 => by
    split at q1
    · cases rv
      exact ⟨true, rfl, iteT ⟨w1, s, h1, rs.mono l, hw1, WpE.mono l q1⟩⟩
    · cases rv
      exact ⟨false, rfl, iteF (q1 w1 _ H1 l (.bl false) hw1)⟩
    · exact q1.elim⟩
theorem d_or (ha : DE X W a ma) (hb : DE X W (.BoolOp .Or (b :: rest) pos) mb) : DE X W (.BoolOp .Or (a :: b :: rest) pos) (mOrV ma mb) := PE.imp (pe_or ha hb) fun σ H Q ⟨w, s, h, rs, hw, q⟩ =>
  ⟨w, s, h, rs, hw, WpE.bind (G := WpE X.K w Q _) q (fun _ _ z => z) (fun z => z) fun k h1 w1 v H1 l rv hw1 q1 => by
    split at q1
    · cases rv
      exact ⟨true, rfl, iteT (q1 w1 _ H1 l (.bl true) hw1)⟩
    · cases rv
      exact ⟨false, rfl, iteF ⟨w1, s, h1, rs.mono l, hw1, WpE.mono l q1⟩⟩
    · exact q1.elim⟩
def mNotV (m : EM) : EM := fun s h => (m s h).bind fun k h1 => match k with
  | .bl k => .ok (.bl (!k)) h1
  | _ => .no
theorem d_not (ha : DE X W a ma) : DE X W (.UnaryOp .Not a pos) (mNotV ma) := PE.imp (pe_not ha) fun σ H Q ⟨w, s, h, rs, hw, q⟩ =>
  ⟨w, s, h, rs, hw, WpE.bind (G := WpE X.K w Q _) q (fun _ _ z => z) (fun z => z) fun k h1 w1 v H1 l rv hw1 q1 => by
    split at q1
    · cases rv
      exact ⟨_, rfl, q1 w1 _ H1 l (.bl _) hw1⟩
    · exact q1.elim⟩
def mIf (c : BM) (a b : EM) : EM := fun s h => (c s h).bind fun k h1 => if k = true then a s h1 else b s h1
theorem d_if {c : Expr} (hc : DT X W c m) (ha : DE X W a ma) (hb : DE X W b mb) : DE X W (.IfExp c a b pos) (mIf m ma mb) := PE.imp (pe_ifExp hc ha hb) fun σ H Q ⟨w, s, h, rs, hw, q⟩ =>
  ⟨w, s, h, rs, hw, WpB.bind (G := WpE X.K w Q _) q (fun _ _ z => z) (fun z => z) fun k h1 w1 H1 l hw1 q1 => by
    cases k with
    | true => exact iteT ⟨w1, s, h1, rs.mono l, hw1, WpE.mono l q1⟩
    | false => exact iteF ⟨w1, s, h1, rs.mono l, hw1, WpE.mono l q1⟩⟩
/-- a < b < c -/
def mChain (g g' : O2) (a b c : EM) : EM := fun s h => (a s h).bind fun x h1 => (b s h1).bind fun y h2 => match g h2 x y with
  | some (.bl true) => (c s h2).bind fun z h3 => match g' h3 y z with
    | some d => .ok d h3
    | none => .no
  | some (.bl false) => .ok (.bl false) h2
  | _ => .no
theorem te_chain {K : PySem.W.Frag} {g g' : O2} {σ : St} {H : Hp} {Q : VK} (q : TE_ K W (mChain g g' ma mb mc) σ H Q) : tChain (rO K g) (rO K g') (TE_ K W ma) (TE_ K W mb) (TE_ K W mc) σ H Q := by
  obtain ⟨w, s, h, rs, hw, q⟩ := q
  refine ⟨w, s, h, rs, hw, WpE.bind (G := WpE K w Q _) q (fun _ _ z => z) (fun z => z) fun x h1 w1 v H1 l1 rx hw1 q1 => ?_⟩
  refine ⟨w1, s, h1, rs.mono l1, hw1, WpE.bind (G := WpE K w Q _) q1 (fun _ _ z => Px.mono l1 z) (fun z => z) fun y h2 w2 u H2 l2 ry hw2 q2 => ?_⟩
  split at q2
  · rename_i e
    refine ⟨w2, h2, x, y, .bl true, rx.mono l2, ry, hw2, e, fun w3 z H3 l3 rz hw3 => ?_⟩
    cases rz
    refine ⟨true, rfl, iteT ⟨w3, s, h2, rs.mono ((l1.trans l2).trans l3), hw3, WpE.bind (G := WpE K w Q _) q2 (fun _ _ z => Px.mono ((l1.trans l2).trans l3) z) (fun z => z) fun z h4 w4 t H4 l4 rt hw4 q4 => ?_⟩⟩
    split at q4
    · rename_i d e'
      exact ⟨w4, h4, y, z, d, ry.mono (l3.trans l4), rt, hw4, e', fun w5 z5 H5 l5 => q4 w5 z5 H5 ((((l1.trans l2).trans l3).trans l4).trans l5)⟩
    · exact q4.elim
  · rename_i e
    refine ⟨w2, h2, x, y, .bl false, rx.mono l2, ry, hw2, e, fun w3 z H3 l3 rz hw3 => ?_⟩
    cases rz
    exact ⟨false, rfl, iteF (q2 w3 _ H3 ((l1.trans l2).trans l3) (.bl false) hw3)⟩
  · exact q2.elim
theorem d_chain {op op' : CmpOp} {g g' : O2} (ho : OD X (compareOp op) g) (ho' : OD X (compareOp op') g') (ha : DE X W a ma) (hb : DE X W b mb) (hc : DE X W c mc) (hm : lastMarks [op, op'] [b, c] = false := by with_unfolding_all rfl) :
    DE X W (.Compare a [op, op'] [b, c] pos) (mChain g g' ma mb mc) := PE.imp (pe_chain ho ho' ha hb hc hm) fun _ _ _ q => te_chain q
theorem dt_chain {op op' : CmpOp} {g g' : O2} (ho : OD X (compareOp op) g) (ho' : OD X (compareOp op') g') (ha : DE X W a ma) (hb : DE X W b mb) (hc : DE X W c mc) (hm : lastMarks [op, op'] [b, c] = false := by with_unfolding_all rfl) :
    DT X W (.Compare a [op, op'] [b, c] pos) (mTest (mChain g g' ma mb mc)) := PT.imp (pt_chain ho ho' ha hb hc hm) fun σ H Q q => by
  obtain ⟨w, s, h, rs, hw, q⟩ := te_test q
  exact te_chain ⟨w, s, h, rs, hw, q⟩
/-! ### argument lists, displays -/
def aNil : AM := fun _ h => .ok [] h
def aCons (m : EM) (r : AM) : AM := fun s h => (m s h).bind fun x h1 => (r s h1).bind fun xs h2 => .ok (x :: xs) h2
variable {es : List Expr} {e : Expr} {me : EM} {mr : AM}
theorem da_nil : DA X W [] aNil := PA.imp pa_nil fun σ H Q ⟨w, s, h, rs, hw, q⟩ => q w [] H (.refl w) .nil hw
theorem da_cons (ha : DE X W e me) (hr : DA X W es mr) (hs : starEach (e :: es) X.env = (false, eval e X.env) :: starEach es X.env := by rfl) : DA X W (e :: es) (aCons me mr) := PA.imp (pa_cons ha hr hs) fun σ H Q ⟨w, s, h, rs, hw, q⟩ =>
  ⟨w, s, h, rs, hw, WpE.bind (G := WpA X.K w Q _) q (fun _ _ z => z) (fun z => z) fun x h1 w1 v H1 l1 rv hw1 q1 =>
    ⟨w1, s, h1, rs.mono l1, hw1, WpA.bind (G := WpA X.K w Q _) q1 (fun _ _ z => Px.mono l1 z) (fun z => z) fun y h2 w2 u H2 l2 ru hw2 q2 => q2 w2 _ H2 (l1.trans l2) (.cons (rv.mono l2) ru) hw2⟩⟩
def small (n : Nat) : Bool := decide (n ≤ sizeLine)
def mTup (m : AM) : EM := fun s h => (m s h).bind fun l h1 => if small l.length = true then .ok (.tup l) h1 else .no
/-- a list that is never changed; a new one that may be -/
def mLst (m : AM) : EM := fun s h => (m s h).bind fun l h1 => if small l.length = true then .ok (.lst l) h1 else .no
def mNew (m : AM) : EM := fun s h => (m s h).bind fun l h1 => if small l.length = true then .ok (.ref h1.length) (h1 ++ [.lst l]) else .no
theorem small_le {n : Nat} (e : small n = true) : n ≤ sizeLine := of_decide_eq_true e
theorem d_tup {x1} {m : AM} (ha : DA X W es m) : DE X W (.Tuple es x1 pos) (mTup m) := PE.imp (pe_tup ha) fun σ H Q ⟨w, s, h, rs, hw, q⟩ =>
  ⟨w, s, h, rs, hw, WpA.bind (G := WpE X.K w Q _) q (fun _ _ z => z) (fun z => z) fun l h1 w1 v H1 l1 rv hw1 q1 => by
    split at q1
    · rename_i e
      exact ⟨by rw [rv.length]; exact small_le e, fun p hp => Pv.tup (fun w3 z H3 l3 => q1 w3 z H3 (l1.trans l3)) hw1 rv hp⟩
    · exact q1.elim⟩
theorem d_lst {m : AM} (ha : DA X W es m) : DE X W (.List es pos) (mLst m) := PE.imp (pe_lst ha) fun σ H Q ⟨w, s, h, rs, hw, q⟩ =>
  ⟨w, s, h, rs, hw, WpA.bind (G := WpE X.K w Q _) q (fun _ _ z => z) (fun z => z) fun l h1 w1 v H1 l1 rv hw1 q1 => by
    split at q1
    · rename_i e
      exact ⟨by rw [rv.length]; exact small_le e, fun p hp => Pv.lst (fun w3 z H3 l3 => q1 w3 z H3 (l1.trans l3)) hw1 rv hp⟩
    · exact q1.elim⟩
theorem d_new {m : AM} (ha : DA X W es m) : DE X W (.List es pos) (mNew m) := PE.imp (pe_lst ha) fun σ H Q ⟨w, s, h, rs, hw, q⟩ =>
  ⟨w, s, h, rs, hw, WpA.bind (G := WpE X.K w Q _) q (fun _ _ z => z) (fun z => z) fun l h1 w1 v H1 l1 rv hw1 q1 => by
    split at q1
    · rename_i e
      exact ⟨by rw [rv.length]; exact small_le e, fun p hp => Pv.new (fun w3 z H3 l3 => q1 w3 z H3 (l1.trans l3)) hw1 rv hp⟩
    · exact q1.elim⟩
end
end DN
namespace DN
open PySem L2

/-! ### data as plain data -/
mutual
def pyG (g : Nat → Option PyData) : D → Option PyData
  | .non => some .none
  | .bl b => some (.bool b)
  | .int i => some (.int i)
  | .str s => some (.str s)
  | .tup l => (pyGs g l).map .tuple
  | .lst l => (pyGs g l).map .list
  | .kst l => (pyGs g l).map .list
  | .dct _ => none
  | .ref n => g n
  | .st _ => none
  | .exn _ _ _ _ => none
def pyGs (g : Nat → Option PyData) : List D → Option (List PyData)
  | [] => some []
  | d :: ds => (pyG g d).bind fun p => (pyGs g ds).map (p :: ·)
end
def pyN : Nat → LH → Nat → Option PyData
  | 0, _, _ => none
  | n + 1, h, k => match h[k]? with
    | some (.lst l) => (pyGs (pyN n h) l).map .list
    | _ => none
def py (h : LH) (d : D) : Option PyData := pyG (pyN 6 h) d
section
variable {K : PySem.W.Frag} {w : Wd} {H : Hp} {h : LH}
mutual
theorem pyG_ok {g : Nat → Option PyData} (hw : HW K w H h) (hg : ∀ n a p, w.at_[n]? = some a → g n = some p → Dp K H (.ref a) p) : ∀ (d : D) (v : V) (p : PyData), RV K w v d → pyG g d = some p → Dp K H v p
  | .non, _, _, .non, e => by cases e; exact .non
  | .bl _, _, _, .bl _, e => by cases e; exact .bl _
  | .int _, _, _, .int _, e => by cases e; exact .int _
  | .str _, _, _, .str _, e => by cases e; exact .str _
  | .tup l, _, _, .tup q r, e => by
    simp only [pyG, Option.map_eq_some_iff] at e
    obtain ⟨ps, e1, rfl⟩ := e
    exact .tup (q.elim (fun z => .inl (.inl (hw.fz _ _ z))) .inr) (pyGs_ok hw hg l _ _ r e1)
  | .lst l, _, _, .lst q r, e => by
    simp only [pyG, Option.map_eq_some_iff] at e
    obtain ⟨ps, e1, rfl⟩ := e
    exact .lst (.inl (.inl (hw.fz _ _ q))) (pyGs_ok hw hg l _ _ r e1)
  | .kst l, _, _, .kst q r, e => by
    simp only [pyG, Option.map_eq_some_iff] at e
    obtain ⟨ps, e1, rfl⟩ := e
    refine .lst ?_ (pyGs_ok hw hg l _ _ r e1)
    rcases q with ⟨o, q⟩ | q
    · exact .inl (.inr ⟨o, hw.fz _ _ q⟩)
    · exact .inr q
  | .ref n, _, _, .ref q, e => hg _ _ _ q (by simpa only [pyG] using e)
theorem pyGs_ok {g : Nat → Option PyData} (hw : HW K w H h) (hg : ∀ n a p, w.at_[n]? = some a → g n = some p → Dp K H (.ref a) p) : ∀ (d : List D) (v : List V) (p : List PyData), RVs K w v d → pyGs g d = some p → DpAll K H v p
  | [], _, _, .nil, e => by cases e; exact .nil
  | d :: ds, _, _, .cons r rs, e => by
    simp only [pyGs, Option.bind_eq_some_iff, Option.map_eq_some_iff] at e
    obtain ⟨p, e1, ps, e2, rfl⟩ := e
    exact .cons (pyG_ok hw hg d _ _ r e1) (pyGs_ok hw hg ds _ _ rs e2)
end
theorem pyN_ok (hw : HW K w H h) : ∀ (m n : Nat) (a : Addr) (p : PyData), w.at_[n]? = some a → pyN m h n = some p → Dp K H (.ref a) p
  | 0, _, _, _, _, e => by cases e
  | m + 1, n, a, p, q, e => by
    unfold pyN at e
    split at e
    · rename_i l e'
      simp only [Option.map_eq_some_iff] at e
      obtain ⟨ps, e1, rfl⟩ := e
      obtain ⟨a', o, h1, h2, h3⟩ := hw.get e'
      rw [q] at h1
      cases h1
      cases h3 with
      | lst r => exact .lst (.inl (.inl h2)) (pyGs_ok hw (pyN_ok hw m) l _ _ r e1)
    · cases e
theorem py_ok (hw : HW K w H h) {d : D} {v : V} {p : PyData} (r : RV K w v d) (e : py h d = some p) : Dp K H v p := pyG_ok hw (pyN_ok hw 6) d v p r e
end

/-! ### arithmetic -/
def oAdd : O2 := fun h x y => match x, y with
  | .int i, .int j => some (.int (i + j))
  | .str i, .str j => if small (i.length + j.length) = true then some (.str (i ++ j)) else none
  | .tup i, .tup j => if small (i.length + j.length) = true then some (.tup (i ++ j)) else none
  | x, y => (catL h x).bind fun i => (catL h y).bind fun j => if small (i.length + j.length) = true then some (.lst (i ++ j)) else none
def oSub : O2 := fun _ x y => match x, y with
  | .int i, .int j => some (.int (i - j))
  | _, _ => none
/-- a text times an int -/
def sRep (x : Str) (j : Int) : Str := if j < 1 then Str.empty else if (j == 1 || x.length == 0) = true then x else ⟨(List.replicate j.toNat x.cps).foldl (· ++ ·) #[]⟩
/-- a * n: ints, texts, lists and tuples -/
def oMul : O2 := fun h x y => match x, y with
  | .int i, .int j => if decide (i.natAbs.log2 + j.natAbs.log2 < 1000000) = true then some (.int (i * j)) else none
  | .tup i, .int j => if decide (i ≠ [] ∧ 2 ≤ j ∧ j ≤ 1000 ∧ i.length ≤ 1000) = true then some (.tup (List.replicate j.toNat i).flatten) else none
  | .str x, .int j => if decide (-1000000 ≤ j ∧ j ≤ 1000000 ∧ x.length ≤ 1000000 ∧ x.length * j.toNat ≤ sizeLine ∧ (sRep x j).length ≤ sizeLine) = true then some (.str (sRep x j)) else none
  | x, .int j => (catL h x).bind fun i => if decide (-(2 ^ 63) ≤ j ∧ j < 2 ^ 63 ∧ i.length * j.toNat ≤ sizeLine) = true then some (.lst (List.replicate j.toNat i).flatten) else none
  | _, _ => none
def oDiv : O2 := fun _ x y => match x, y with
  | .int i, .int j => if decide (0 < j ∧ j.natAbs.log2 < 9000) = true then some (.int (i / j)) else none
  | _, _ => none
def oMod : O2 := fun _ x y => match x, y with
  | .int i, .int j => if decide (0 < j) = true then some (.int (i % j)) else none
  | _, _ => none
def oPow : O2 := fun _ x y => match x, y with
  | .int i, .int j => if decide (0 ≤ j ∧ j ≤ 1000000 ∧ i.natAbs < 2 ^ 64) = true then some (.int (i ^ j.toNat)) else none
  | _, _ => none
def oCmpI (p : Int → Int → Bool) (q : List Nat → List Nat → Bool) : O2 := fun _ x y => match x, y with
  | .int i, .int j => some (.bl (p i j))
  | .str i, .str j => some (.bl (q i.cps.toList j.cps.toList))
  | _, _ => none
def oLt : O2 := oCmpI (fun i j => decide (i < j)) (fun i j => decide (i < j))
def oLe : O2 := oCmpI (fun i j => decide (i ≤ j)) (fun i j => !decide (j < i))
def oGt : O2 := oCmpI (fun i j => decide (j < i)) (fun i j => decide (j < i))
def oGe : O2 := oCmpI (fun i j => decide (j ≤ i)) (fun i j => !decide (i < j))
def oEq : O2 := fun h x y => match x, y with
  | .str a, .str b => some (.bl (a == b))
  | .tup l, .tup [] => some (.bl (l.isEmpty))
  | .lst l, .lst [] => some (.bl (l.isEmpty))
  | .kst l, .lst [] => some (.bl (l.isEmpty))
  | .ref n, .lst [] => (seqL h (.ref n)).map fun l => .bl (l.isEmpty)
  | x, y => (py h x).bind fun p => (py h y).bind fun q => if (SeqAt.shaped p && SeqAt.shaped q) = true then some (.bl (PyData.eqv p q)) else none
def oNe : O2 := fun h x y => match x, y with
  | .str a, .str b => some (.bl (!(a == b)))
  | .tup l, .tup [] => some (.bl (!l.isEmpty))
  | .lst l, .lst [] => some (.bl (!l.isEmpty))
  | .kst l, .lst [] => some (.bl (!l.isEmpty))
  | .ref n, .lst [] => (seqL h (.ref n)).map fun l => .bl (!l.isEmpty)
  | x, y => (py h x).bind fun p => (py h y).bind fun q => if (SeqAt.shaped p && SeqAt.shaped q) = true then some (.bl (!PyData.eqv p q)) else none
/-- in: a sign in a text; a text in a text; data in a list -/
def isIn (h : LH) (x y : D) : Option Bool := match x, y with
  | .str i, .str j => if decide (i.cps.size = 1) = true then some (decide (i.cps.getD 0 0 ∈ j.cps.toList)) else some (!(Builtin.Str.occurrences j i 0 j.length 1).isEmpty)
  | x, .tup l => (flatOf x).bind fun a => (flatsOf l).map fun b => inV a b
  | x, y => (py h x).bind fun p => (py h y).bind fun q => match q with
    | .list ds => if (SeqAt.shaped p && SeqAt.shaped (.list ds)) = true then some (ds.any fun z => PyData.eqv z p) else none
    | _ => none
where
  flatOf : D → Option V
    | .non => some .non
    | .bl b => some (.bl b)
    | .int i => some (.int i)
    | .str s => some (.str s)
    | _ => none
  flatsOf : List D → Option (List V)
    | [] => some []
    | d :: ds => (flatOf d).bind fun v => (flatsOf ds).map (v :: ·)
def oIn : O2 := fun h x y => (isIn h x y).map .bl
def oNotIn : O2 := fun h x y => (isIn h x y).map fun b => .bl (!b)
def oIs : O2 := fun _ x y => match x, y with
  | x, .non => match x with
    | .non => some (.bl true)
    | .st _ => none
    | _ => some (.bl false)
  | .bl a, .bl b => some (.bl (decide (a = b)))
  | _, _ => none
def oIsNot : O2 := fun h x y => match oIs h x y with
  | some (.bl b) => some (.bl (!b))
  | _ => none

section
variable {X : Cx}
theorem rep_ok {K : PySem.W.Frag} {w : Wd} {vs : List V} {ds : List D} (r : RVs K w vs ds) : ∀ n : Nat, RVs K w (List.replicate n vs).flatten (List.replicate n ds).flatten
  | 0 => .nil
  | n + 1 => by
    rw [List.replicate_succ, List.replicate_succ, List.flatten_cons, List.flatten_cons]
    exact r.append (rep_ok r n)
theorem rvs_nil {K : PySem.W.Frag} {w : Wd} {vs : List V} {ds : List D} (r : RVs K w vs ds) : vs = [] ↔ ds = [] := by
  cases r <;> simp
theorem od_add : OD X (binaryOp .Add) oAdd := by
  intro pins s σ H x y v u Q I rx ry ⟨w, h, dx, dy, d, r1, r2, hw, e, q⟩
  unfold oAdd at e
  split at e
  · cases r1; cases r2; cases e
    exact op_add pins s σ H _ _ v u Q I rx ry ⟨_, _, rfl, rfl, Pv.here q hw (.int _)⟩
  · cases r1; cases r2
    split at e
    · rename_i z
      cases e
      exact op_add_str pins s σ H _ _ v u Q I rx ry ⟨_, _, rfl, rfl, small_le z, Pv.here q hw (.str _)⟩
    · cases e
  · rename_i i j
    split at e
    · rename_i z
      cases e
      obtain ⟨a, vs, rfl, s1, q1⟩ := seqT_ok hw r1 (l := i) rfl
      obtain ⟨b, us, rfl, s2, q2⟩ := seqT_ok hw r2 (l := j) rfl
      refine op_catA pins s σ H _ _ v u Q I rx ry ⟨a, b, vs, us, rfl, rfl, s1, s2, by rw [q1.length, q2.length]; exact small_le z, fun e0 => ?_, fun _ e0 => ?_, fun _ _ p hp => Pv.tup q hw (q1.append q2) hp⟩
      · have e1 := (rvs_nil q1).mp e0
        subst e1
        exact Pv.here q hw r2
      · have e1 := (rvs_nil q2).mp e0
        subst e1
        rw [List.append_nil] at q
        exact Pv.here q hw r1
    · cases e
  · simp only [Option.bind_eq_some_iff] at e
    obtain ⟨i, e1, j, e2, e3⟩ := e
    split at e3
    · rename_i z
      cases e3
      obtain ⟨a, vs, rfl, s1, q1⟩ := catL_ok hw r1 e1
      obtain ⟨b, us, rfl, s2, q2⟩ := catL_ok hw r2 e2
      exact op_cat pins s σ H _ _ v u Q I rx ry ⟨a, b, vs, us, rfl, rfl, s1, s2, by rw [q1.length, q2.length]; exact small_le z, fun p hp => Pv.lst q hw (q1.append q2) hp⟩
    · cases e3
theorem od_sub : OD X (binaryOp .Sub) oSub := by
  intro pins s σ H x y v u Q I rx ry ⟨w, h, dx, dy, d, r1, r2, hw, e, q⟩
  unfold oSub at e
  split at e
  · cases r1; cases r2; cases e
    exact op_sub pins s σ H _ _ v u Q I rx ry ⟨_, _, rfl, rfl, Pv.here q hw (.int _)⟩
  · cases e
theorem op_mul_str {X : Cx} : OpR X (binaryOp .Mult) (fun x y H Q => ∃ (i : Str) (j : Int), x = .str i ∧ y = .int j ∧ -1000000 ≤ j ∧ j ≤ 1000000 ∧ i.length ≤ 1000000 ∧ i.length * j.toNat ≤ sizeLine ∧ (sRep i j).length ≤ sizeLine ∧ Q (.str (sRep i j)) H) := by
  intro pins s σ H x y v u Q I rx ry h
  obtain ⟨i, j, rfl, rfl, z1, z2, z3, z4, z5, q⟩ := h
  obtain ⟨t, rfl⟩ := rx
  obtain ⟨t', rfl⟩ := ry
  refine PySem.P.mul_str (by rw [decide_eq_false (by omega), decide_eq_false (by omega)]; rfl) (fun h1 h2 => ?_) (fun _ _ => ?_) ?_
  · have hj : 0 < j := by omega
    have h3 : (1000000 : Int) ≤ (2 ^ 63 - 1) / j := by
      rw [Int.le_ediv_iff_mul_le hj]
      omega
    omega
  · unfold Builtin.Str.tooLong
    exact decide_eq_false (by omega)
  · unfold sRep at z5 q
    split
    · rename_i c
      rw [if_pos c] at q
      exact ⟨by decide, .str _, H, I.tok _, ⟨_, rfl⟩, q⟩
    · rename_i c
      rw [if_neg c] at q z5
      split
      · rename_i c2
        rw [if_pos c2] at q
        exact ⟨.str _, H, I, ⟨_, rfl⟩, q⟩
      · rename_i c2
        rw [if_neg c2] at q z5
        exact ⟨z5, .str _, H, I.tok _, ⟨_, rfl⟩, q⟩
theorem od_mul : OD X (binaryOp .Mult) oMul := by
  intro pins s σ H x y v u Q I rx ry ⟨w, h, dx, dy, d, r1, r2, hw, e, q⟩
  unfold oMul at e
  split at e
  · cases r1; cases r2
    split at e
    · rename_i z
      cases e
      have z := of_decide_eq_true z
      exact op_mulW pins s σ H _ _ v u Q I rx ry ⟨_, _, rfl, rfl, z, Pv.here q hw (.int _)⟩
    · cases e
  · rename_i i j
    cases r2
    split at e
    · rename_i z
      cases e
      obtain ⟨z1, z2, z3, z4⟩ := of_decide_eq_true z
      obtain ⟨a, vs, rfl, s1, q1⟩ := seqT_ok hw r1 (l := i) rfl
      exact op_repT pins s σ H _ _ v u Q I rx ry ⟨a, j, vs, rfl, rfl, s1, fun e0 => z1 ((rvs_nil q1).mp e0), z2, z3, by rw [q1.length]; exact z4, fun p hp => Pv.tup q hw (rep_ok q1 _) hp⟩
    · cases e
  · rename_i x j
    cases r1; cases r2
    split at e
    · rename_i z
      cases e
      obtain ⟨z1, z2, z3, z4, z5⟩ := of_decide_eq_true z
      exact op_mul_str pins s σ H _ _ v u Q I rx ry ⟨_, _, rfl, rfl, z1, z2, z3, z4, z5, Pv.here q hw (.str _)⟩
    · cases e
  · rename_i j hx hy hz
    cases r2
    simp only [Option.bind_eq_some_iff] at e
    obtain ⟨i, e1, e3⟩ := e
    split at e3
    · rename_i z
      cases e3
      obtain ⟨z1, z2, z3⟩ := of_decide_eq_true z
      obtain ⟨a, vs, rfl, s1, q1⟩ := catL_ok hw r1 e1
      exact op_rep pins s σ H _ _ v u Q I rx ry ⟨a, j, vs, rfl, rfl, s1, z1, z2, by rw [q1.length]; exact z3, fun p hp => Pv.lst q hw (rep_ok q1 _) hp⟩
    · cases e3
  · cases e
theorem od_div : OD X (binaryOp .FloorDiv) oDiv := by
  intro pins s σ H x y v u Q I rx ry ⟨w, h, dx, dy, d, r1, r2, hw, e, q⟩
  unfold oDiv at e
  split at e
  · cases r1; cases r2
    split at e
    · rename_i z
      cases e
      have z := of_decide_eq_true z
      exact op_fdivW pins s σ H _ _ v u Q I rx ry ⟨_, _, rfl, rfl, z, Pv.here q hw (.int _)⟩
    · cases e
  · cases e
theorem od_mod : OD X (binaryOp .Mod) oMod := by
  intro pins s σ H x y v u Q I rx ry ⟨w, h, dx, dy, d, r1, r2, hw, e, q⟩
  unfold oMod at e
  split at e
  · cases r1; cases r2
    split at e
    · rename_i z
      cases e
      exact op_mod pins s σ H _ _ v u Q I rx ry ⟨_, _, rfl, rfl, of_decide_eq_true z, Pv.here q hw (.int _)⟩
    · cases e
  · cases e
theorem od_pow : OD X (binaryOp .Pow) oPow := by
  intro pins s σ H x y v u Q I rx ry ⟨w, h, dx, dy, d, r1, r2, hw, e, q⟩
  unfold oPow at e
  split at e
  · cases r1; cases r2
    split at e
    · rename_i z
      cases e
      have z := of_decide_eq_true z
      exact op_pow pins s σ H _ _ v u Q I rx ry ⟨_, _, rfl, rfl, z, Pv.here q hw (.int _)⟩
    · cases e
  · cases e
theorem od_cmpI {op : CmpOp} {p : Int → Int → Bool} {q : List Nat → List Nat → Bool} (h1 : OpR X (compareOp op) (rI0 fun i j => .bl (p i j)))
    (h2 : OpR X (compareOp op) (fun x y H Q => ∃ i j, x = .str i ∧ y = .str j ∧ Q (.bl (q i.cps.toList j.cps.toList)) H)) : OD X (compareOp op) (oCmpI p q) := by
  intro pins s σ H x y v u Q I rx ry ⟨w, h, dx, dy, d, r1, r2, hw, e, q⟩
  unfold oCmpI at e
  split at e
  · cases r1; cases r2; cases e
    exact h1 pins s σ H _ _ v u Q I rx ry ⟨_, _, rfl, rfl, Pv.here q hw (.bl _)⟩
  · cases r1; cases r2; cases e
    exact h2 pins s σ H _ _ v u Q I rx ry ⟨_, _, rfl, rfl, Pv.here q hw (.bl _)⟩
  · cases e
theorem od_lt : OD X (compareOp .Lt) oLt := od_cmpI op_lt op_lt_str
theorem od_le : OD X (compareOp .LtE) oLe := od_cmpI op_le op_le_str
theorem od_gt : OD X (compareOp .Gt) oGt := od_cmpI op_gt op_gt_str
theorem od_ge : OD X (compareOp .GtE) oGe := od_cmpI op_ge op_ge_str
theorem rvs_emp {K : PySem.W.Frag} {w : Wd} {vs : List V} {ds : List D} (r : RVs K w vs ds) : ds.isEmpty = vs.isEmpty := by cases r <;> rfl
theorem plainL_is {h : Heap} {a : Addr} {its : Array Value} (p : PlainL h a its) : h.IsList a its := by
  obtain ⟨o, n, e, hc, hd, hs⟩ := p
  exact ⟨o, e, hc, n, hs⟩
theorem tup_is {h : Heap} {a : Addr} {its : Array Value} (p : PyProof.Rows.IsTup h a its) : h.IsTuple a its := p
section
variable {pins : List (Addr × Obj)} {σ : L2.St} {H : Hp} {s : Shared} {a b : Addr} {vs : List V} {Q : VK}
theorem vals_nil {us : List Value} (r : Vals [] us) : us = [] := by cases r; rfl
theorem vals_emp {vs : List V} {us : List Value} (r : Vals vs us) : ((List.range (min us.toArray.size (#[] : Array Value).size)).all (fun _ => true) && us.toArray.size == (#[] : Array Value).size) = vs.isEmpty := by cases r <;> simp
theorem eEq_t0 (I : Inv X pins σ H s) (hu : X.A.units + 64 < cLine) (h1 : SqT X.K H a vs) (h2 : SqT X.K H b []) (q : Q (.bl vs.isEmpty) H) : wpAny (model X.prog X.w) X.A (compareOp .Eq (.ref a) (.ref b)) (EP X pins σ Q) X.xe s := by
  obtain ⟨us, r1, p1, _⟩ := I.tuple h1
  obtain ⟨ws, r2, p2, _⟩ := I.tuple h2
  cases vals_nil r2
  refine SeqAt.eq_tupleAt (items2 := #[]) (e := fun _ => true) (tup_is p1) (tup_is p2) (by omega) (fun j j1 j2 => absurd j2 (Nat.not_lt_zero j)) ?_
  rw [vals_emp r1]
  exact fin_bl I q rfl
theorem eNe_t0 (I : Inv X pins σ H s) (hu : X.A.units + 64 < cLine) (h1 : SqT X.K H a vs) (h2 : SqT X.K H b []) (q : Q (.bl (!vs.isEmpty)) H) : wpAny (model X.prog X.w) X.A (compareOp .NotEq (.ref a) (.ref b)) (EP X pins σ Q) X.xe s := by
  obtain ⟨us, r1, p1, _⟩ := I.tuple h1
  obtain ⟨ws, r2, p2, _⟩ := I.tuple h2
  cases vals_nil r2
  have z := SeqAt.RcNeAt.tuples (A := X.A) (items2 := #[]) (e := fun _ => true) (tup_is p1) (tup_is p2) (by omega) (fun j j1 j2 => absurd j2 (Nat.not_lt_zero j))
  refine z _ _ _ _ ?_
  rw [vals_emp r1]
  exact fin_bl I q rfl
theorem eEq_l0 (I : Inv X pins σ H s) (hu : X.A.units + 64 < cLine) (h1 : SqL X.K H a vs) (h2 : SqL X.K H b []) (q : Q (.bl vs.isEmpty) H) : wpAny (model X.prog X.w) X.A (compareOp .Eq (.ref a) (.ref b)) (EP X pins σ Q) X.xe s := by
  obtain ⟨us, r1, p1, _⟩ := I.list h1
  obtain ⟨ws, r2, p2, _⟩ := I.list h2
  cases vals_nil r2
  cases vs with
  | nil =>
    cases vals_nil r1
    refine SeqAt.eq_listAt (items2 := #[]) (e := fun _ => true) (plainL_is p1) (plainL_is p2) rfl (by omega) (fun j j1 j2 => absurd j2 (Nat.not_lt_zero j)) ?_
    exact fin_bl I q rfl
  | cons v vs =>
    refine SeqAt.eq_list_lengthsAt (plainL_is p1) (plainL_is p2) ?_ (by omega) (fin_bl I q rfl)
    cases r1
    simp
theorem eNe_l0 (I : Inv X pins σ H s) (hu : X.A.units + 64 < cLine) (h1 : SqL X.K H a vs) (h2 : SqL X.K H b []) (q : Q (.bl (!vs.isEmpty)) H) : wpAny (model X.prog X.w) X.A (compareOp .NotEq (.ref a) (.ref b)) (EP X pins σ Q) X.xe s := by
  obtain ⟨us, r1, p1, _⟩ := I.list h1
  obtain ⟨ws, r2, p2, _⟩ := I.list h2
  cases vals_nil r2
  cases vs with
  | nil =>
    cases vals_nil r1
    have z := SeqAt.RcNeAt.lists (A := X.A) (items2 := #[]) (e := fun _ => true) (plainL_is p1) (plainL_is p2) rfl (by omega) (fun j j1 j2 => absurd j2 (Nat.not_lt_zero j))
    exact z _ _ _ _ (fin_bl I q rfl)
  | cons v vs =>
    have z := SeqAt.RcNeAt.lists_lengths (A := X.A) (plainL_is p1) (plainL_is p2) (by cases r1; simp) (by omega)
    exact z _ _ _ _ (fin_bl I q rfl)
end
theorem od_eq (hu : X.A.units + 64 < cLine) : OD X (compareOp .Eq) oEq := by
  intro pins s σ H x y v u Q I rx ry ⟨w, h, dx, dy, d, r1, r2, hw, e, q⟩
  unfold oEq at e
  split at e
  · rename_i a b
    cases e
    cases r1; cases r2
    exact op_eq pins s σ H _ _ v u Q I rx ry ⟨rfl, by rw [dec_str]; exact Pv.here q hw (.bl _)⟩
  · rename_i l
    cases e
    obtain ⟨a, vs, rfl, s1, q1⟩ := seqT_ok hw r1 (l := l) rfl
    obtain ⟨b, us, rfl, s2, q2⟩ := seqT_ok hw r2 (l := []) rfl
    cases q2
    cases rx; cases ry
    exact eEq_t0 I hu s1 s2 (by rw [← rvs_emp q1]; exact Pv.here q hw (.bl _))
  · rename_i l
    cases e
    obtain ⟨a, vs, rfl, s1, q1⟩ := seqL_ok hw r1 (l := l) rfl
    obtain ⟨b, us, rfl, s2, q2⟩ := seqL_ok hw r2 (l := []) rfl
    cases q2
    cases rx; cases ry
    exact eEq_l0 I hu s1 s2 (by rw [← rvs_emp q1]; exact Pv.here q hw (.bl _))
  · rename_i l
    cases e
    obtain ⟨a, vs, rfl, s1, q1⟩ := seqL_ok hw r1 (l := l) rfl
    obtain ⟨b, us, rfl, s2, q2⟩ := seqL_ok hw r2 (l := []) rfl
    cases q2
    cases rx; cases ry
    exact eEq_l0 I hu s1 s2 (by rw [← rvs_emp q1]; exact Pv.here q hw (.bl _))
  · rename_i n
    simp only [Option.map_eq_some_iff] at e
    obtain ⟨l, e1, rfl⟩ := e
    obtain ⟨a, vs, rfl, s1, q1⟩ := seqL_ok hw r1 e1
    obtain ⟨b, us, rfl, s2, q2⟩ := seqL_ok hw r2 (l := []) rfl
    cases q2
    cases rx; cases ry
    exact eEq_l0 I hu s1 s2 (by rw [← rvs_emp q1]; exact Pv.here q hw (.bl _))
  · simp only [Option.bind_eq_some_iff] at e
    obtain ⟨i, e1, j, e2, e3⟩ := e
    split at e3
    · rename_i z
      cases e3
      rw [Bool.and_eq_true] at z
      exact op_eqD hu pins s σ H _ _ v u Q I rx ry ⟨i, j, py_ok hw r1 e1, py_ok hw r2 e2, z.1, z.2, Pv.here q hw (.bl _)⟩
    · cases e3
theorem od_ne (hu : X.A.units + 64 < cLine) : OD X (compareOp .NotEq) oNe := by
  intro pins s σ H x y v u Q I rx ry ⟨w, h, dx, dy, d, r1, r2, hw, e, q⟩
  unfold oNe at e
  split at e
  · rename_i a b
    cases e
    cases r1; cases r2
    exact op_ne pins s σ H _ _ v u Q I rx ry ⟨rfl, by rw [dec_str]; exact Pv.here q hw (.bl _)⟩
  · rename_i l
    cases e
    obtain ⟨a, vs, rfl, s1, q1⟩ := seqT_ok hw r1 (l := l) rfl
    obtain ⟨b, us, rfl, s2, q2⟩ := seqT_ok hw r2 (l := []) rfl
    cases q2
    cases rx; cases ry
    exact eNe_t0 I hu s1 s2 (by rw [← rvs_emp q1]; exact Pv.here q hw (.bl _))
  · rename_i l
    cases e
    obtain ⟨a, vs, rfl, s1, q1⟩ := seqL_ok hw r1 (l := l) rfl
    obtain ⟨b, us, rfl, s2, q2⟩ := seqL_ok hw r2 (l := []) rfl
    cases q2
    cases rx; cases ry
    exact eNe_l0 I hu s1 s2 (by rw [← rvs_emp q1]; exact Pv.here q hw (.bl _))
  · rename_i l
    cases e
    obtain ⟨a, vs, rfl, s1, q1⟩ := seqL_ok hw r1 (l := l) rfl
    obtain ⟨b, us, rfl, s2, q2⟩ := seqL_ok hw r2 (l := []) rfl
    cases q2
    cases rx; cases ry
    exact eNe_l0 I hu s1 s2 (by rw [← rvs_emp q1]; exact Pv.here q hw (.bl _))
  · rename_i n
    simp only [Option.map_eq_some_iff] at e
    obtain ⟨l, e1, rfl⟩ := e
    obtain ⟨a, vs, rfl, s1, q1⟩ := seqL_ok hw r1 e1
    obtain ⟨b, us, rfl, s2, q2⟩ := seqL_ok hw r2 (l := []) rfl
    cases q2
    cases rx; cases ry
    exact eNe_l0 I hu s1 s2 (by rw [← rvs_emp q1]; exact Pv.here q hw (.bl _))
  · simp only [Option.bind_eq_some_iff] at e
    obtain ⟨i, e1, j, e2, e3⟩ := e
    split at e3
    · rename_i z
      cases e3
      rw [Bool.and_eq_true] at z
      exact op_neD hu pins s σ H _ _ v u Q I rx ry ⟨i, j, py_ok hw r1 e1, py_ok hw r2 e2, z.1, z.2, Pv.here q hw (.bl _)⟩
    · cases e3
theorem flatOf_ok {K : PySem.W.Frag} {w : Wd} {x : V} {d : D} {v : V} (r : RV K w x d) (e : isIn.flatOf d = some v) : x = v ∧ flatV x = true := by
  cases r <;> (unfold isIn.flatOf at e; cases e) <;> exact ⟨rfl, rfl⟩
theorem flatsOf_ok {K : PySem.W.Frag} {w : Wd} : ∀ {xs : List V} {ds : List D} {vs : List V}, RVs K w xs ds → isIn.flatsOf ds = some vs → xs = vs ∧ xs.all flatV = true
  | _, _, _, .nil, e => by cases e; exact ⟨rfl, rfl⟩
  | _, _, _, .cons r rs, e => by
    simp only [isIn.flatsOf, Option.bind_eq_some_iff, Option.map_eq_some_iff] at e
    obtain ⟨v, e1, vs, e2, rfl⟩ := e
    obtain ⟨a, b⟩ := flatOf_ok r e1
    obtain ⟨c, d⟩ := flatsOf_ok rs e2
    refine ⟨by rw [a, c], ?_⟩
    rw [List.all_cons, b, d]; rfl
theorem one_sign {i : Str} (e : i.cps.size = 1) : i = ⟨#[i.cps.getD 0 0]⟩ := by
  obtain ⟨c⟩ := i
  have e' : c.size = 1 := e
  congr 1
  apply Array.ext
  · simp [e']
  · intro k h1 h2
    have : k = 0 := by omega
    subst this
    simp [Array.getD, h1]
theorem od_in (hu : X.A.units + 65 < cLine) : OD X (compareOp .In) oIn := by
  intro pins s σ H x y v u Q I rx ry ⟨w, h, dx, dy, d, r1, r2, hw, e, q⟩
  unfold oIn at e
  simp only [Option.map_eq_some_iff] at e
  obtain ⟨b, e, rfl⟩ := e
  unfold isIn at e
  split at e
  · rename_i i j
    cases r1; cases r2
    split at e
    · rename_i z
      cases e
      have o := one_sign (of_decide_eq_true z)
      refine op_in_sign pins s σ H _ _ v u Q I rx ry ⟨i.cps.getD 0 0, j, by rw [← o], rfl, Pv.here q hw (.bl _)⟩
    · cases e
      exact op_in_str pins s σ H _ _ v u Q I rx ry ⟨i, j, rfl, rfl, Pv.here q hw (.bl _)⟩
  · simp only [Option.bind_eq_some_iff, Option.map_eq_some_iff] at e
    obtain ⟨a, e1, vs, e2, rfl⟩ := e
    obtain ⟨p, us, rfl, s1, q1⟩ := seqT_ok hw r2 rfl
    obtain ⟨c1, c2⟩ := flatOf_ok r1 e1
    obtain ⟨c3, c4⟩ := flatsOf_ok q1 e2
    subst c1 c3
    exact op_in_seq pins s σ H _ _ v u Q I rx ry ⟨p, us, rfl, .inr s1, c2, c4, Pv.here q hw (.bl _)⟩
  · simp only [Option.bind_eq_some_iff] at e
    obtain ⟨p, e1, p2, e2, e3⟩ := e
    split at e3
    · rename_i ds
      split at e3
      · rename_i z
        cases e3
        rw [Bool.and_eq_true] at z
        exact op_inD hu pins s σ H _ _ v u Q I rx ry ⟨p, ds, py_ok hw r1 e1, py_ok hw r2 e2, z.1, z.2, Pv.here q hw (.bl _)⟩
      · cases e3
    · cases e3
theorem od_notIn (hu : X.A.units + 65 < cLine) : OD X (compareOp .NotIn) oNotIn := by
  intro pins s σ H x y v u Q I rx ry ⟨w, h, dx, dy, d, r1, r2, hw, e, q⟩
  unfold oNotIn at e
  simp only [Option.map_eq_some_iff] at e
  obtain ⟨b, e, rfl⟩ := e
  unfold isIn at e
  split at e
  · rename_i i j
    cases r1; cases r2
    split at e
    · rename_i z
      cases e
      have o := one_sign (of_decide_eq_true z)
      refine op_notIn_sign pins s σ H _ _ v u Q I rx ry ⟨i.cps.getD 0 0, j, by rw [← o], rfl, Pv.here q hw (.bl _)⟩
    · cases e
      exact L2.op_notIn_str pins s σ H _ _ v u Q I rx ry ⟨i, j, rfl, rfl, Pv.here q hw (.bl _)⟩
  · simp only [Option.bind_eq_some_iff, Option.map_eq_some_iff] at e
    obtain ⟨a, e1, vs, e2, rfl⟩ := e
    obtain ⟨p, us, rfl, s1, q1⟩ := seqT_ok hw r2 rfl
    obtain ⟨c1, c2⟩ := flatOf_ok r1 e1
    obtain ⟨c3, c4⟩ := flatsOf_ok q1 e2
    subst c1 c3
    exact op_notIn_seq pins s σ H _ _ v u Q I rx ry ⟨p, us, rfl, .inr s1, c2, c4, Pv.here q hw (.bl _)⟩
  · simp only [Option.bind_eq_some_iff] at e
    obtain ⟨p, e1, p2, e2, e3⟩ := e
    split at e3
    · rename_i ds
      split at e3
      · rename_i z
        cases e3
        rw [Bool.and_eq_true] at z
        exact op_notInD hu pins s σ H _ _ v u Q I rx ry ⟨p, ds, py_ok hw r1 e1, py_ok hw r2 e2, z.1, z.2, Pv.here q hw (.bl _)⟩
      · cases e3
    · cases e3
theorem is_none_rv {K : PySem.W.Frag} {w : Wd} {x : V} {d : D} {b : Bool} (r : RV K w x d) (e : (match d with
    | .non => some (D.bl true)
    | .st _ => none
    | _ => some (.bl false)) = some (.bl b)) : decide (x = V.non) = b := by
  cases r <;> (simp at e; try subst e) <;> simp
theorem od_is : OD X (compareOp .Is) oIs := by
  intro pins s σ H x y v u Q I rx ry ⟨w, h, dx, dy, d, r1, r2, hw, e, q⟩
  unfold oIs at e
  split at e
  · cases r2
    have hb : ∃ b, d = .bl b := by
      split at e <;> cases e <;> exact ⟨_, rfl⟩
    obtain ⟨b, rfl⟩ := hb
    have e' := is_none_rv r1 e
    refine op_isN pins s σ H _ _ v u Q I rx ry ⟨rfl, ?_⟩
    rw [e']
    exact Pv.here q hw (.bl _)
  · cases r1; cases r2; cases e
    exact op_isBl pins s σ H _ _ v u Q I rx ry ⟨_, _, rfl, rfl, Pv.here q hw (.bl _)⟩
  · cases e
theorem od_isNot : OD X (compareOp .IsNot) oIsNot := by
  intro pins s σ H x y v u Q I rx ry ⟨w, h, dx, dy, d, r1, r2, hw, e, q⟩
  unfold oIsNot at e
  split at e
  · rename_i b e0
    cases e
    unfold oIs at e0
    split at e0
    · cases r2
      have e' := is_none_rv r1 e0
      refine op_notN pins s σ H _ _ v u Q I rx ry ⟨rfl, ?_⟩
      rw [e']
      exact Pv.here q hw (.bl _)
    · cases r1; cases r2; cases e0
      exact op_notBl pins s σ H _ _ v u Q I rx ry ⟨_, _, rfl, rfl, Pv.here q hw (.bl _)⟩
    · cases e0
  · cases e
end
end DN
namespace DN
open PySem L2

/-! ### repr -/
def pyKey : Key → PyData
  | .inl i => .int i
  | .inr s => .str s
mutual
/-- data without changing parts -/
def pyF : D → Option PyData
  | .non => some .none
  | .bl b => some (.bool b)
  | .int i => some (.int i)
  | .str s => some (.str s)
  | .tup l => (pyFs l).map .tuple
  | .lst l => (pyFs l).map .list
  | .dct l => (pyFk l).map .dict
  | _ => none
def pyFs : List D → Option (List PyData)
  | [] => some []
  | d :: ds => (pyF d).bind fun p => (pyFs ds).map (p :: ·)
def pyFk : List (Key × D) → Option (List (PyData × PyData))
  | [] => some []
  | (k, d) :: r => (pyF d).bind fun p => (pyFk r).map ((pyKey k, p) :: ·)
end
/-- data that may be shown -/
def pyR (h : LH) (d : D) : Option PyData := match py h d with
  | some p => some p
  | none => pyF d

section
variable {X : Cx} {w : Wd} {H : Hp} {h : LH} {pins : List (Addr × Obj)} {σ : St} {s : Shared}
theorem key_reads (g : Heap) {k : Key} {u : Value} (e : (mixKind X.prog X.w).is k u = true) : Reads g u (pyKey k) [] := by
  rw [mixKind_is] at e
  rcases keyIs_shape e with ⟨i, t, rfl, rfl⟩ | ⟨x, t, rfl, rfl⟩
  · exact .int _ _
  · exact .str _ _
theorem keys_read (g : Heap) : ∀ {es : List DictEntry} {kvs : List (Key × Value)} {vs : List (Key × V)} {ps : List (PyData × PyData)} {ds : List (Key × D)},
    Pairs (mixKind X.prog X.w) es kvs → KV vs kvs → RKs X.K w vs ds → pyFk ds = some ps → ReadsAll g (es.map (·.key)) (ps.map (·.1)) []
  | es, kvs, vs, ps, [], hp, hk, hr, e => by
    cases hr
    cases hk
    cases hp
    cases e
    exact .nil
  | es, kvs, vs, ps, (k, d) :: ds, hp, hk, hr, e => by
    cases hr with
    | cons q qs =>
      cases hk with
      | cons k1 k2 =>
        cases hp with
        | cons h1 h2 r =>
          simp only [pyFk, Option.bind_eq_some_iff, Option.map_eq_some_iff] at e
          obtain ⟨p, e1, ps, e2, rfl⟩ := e
          obtain ⟨k11, k12⟩ := k1
          dsimp only at k11 k12
          rw [← k11] at h1
          exact ReadsAll.cons (as := []) (key_reads g h1) (keys_read g r k2 qs e2)
theorem vals_of : ∀ {es : List DictEntry} {kvs : List (Key × Value)}, Pairs (mixKind X.prog X.w) es kvs → es.map (·.val) = kvs.map (·.2)
  | _, _, .nil => rfl
  | _, _, .cons h1 h2 r => by simp [h2, vals_of r]
theorem kv_vals : ∀ {kvs : List (Key × Value)} {vs : List (Key × V)}, KV vs kvs → Vals (vs.map (·.2)) (kvs.map (·.2))
  | _, _, .nil => .nil
  | _, _, .cons h r => .cons h.2 (kv_vals r)
theorem HW.ne_sm (hw : HW X.K w H h) {a : Addr} {o : HO} (e : H a = some o) (hn : ∀ u x, o ≠ .frz u x) : a ≠ sysModules := by
  rintro rfl
  obtain ⟨u, x, z⟩ := hw.sm
  have := hw.fz _ _ z
  rw [e] at this
  exact hn u x (Option.some.inj this)
mutual
theorem pyF_reads (I : Inv X pins σ H s) (hw : HW X.K w H h) : ∀ (d : D) (v : V) (u : Value) (p : PyData), RV X.K w v d → RelV v u → pyF d = some p → ∃ as, Reads s.heap u p as ∧ sysModules ∉ as
  | .non, v, u, p, r, ru, e => by cases r; cases e; cases ru; exact ⟨[], .none, by simp⟩
  | .bl b, v, u, p, r, ru, e => by cases r; cases e; cases ru; exact ⟨[], .bool _, by simp⟩
  | .int i, v, u, p, r, ru, e => by cases r; cases e; obtain ⟨t, rfl⟩ := ru; exact ⟨[], .int _ _, by simp⟩
  | .str x, v, u, p, r, ru, e => by cases r; cases e; obtain ⟨t, rfl⟩ := ru; exact ⟨[], .str _ _, by simp⟩
  | .tup l, v, u, p, r, ru, e => by
    cases r with
    | tup q r =>
      simp only [pyF, Option.map_eq_some_iff] at e
      obtain ⟨ps, e1, rfl⟩ := e
      cases ru
      obtain ⟨its, rv, ⟨o, ho, hc, n, hd⟩, _⟩ := I.tuple (q.elim (fun z => Or.inl (Or.inl (hw.fz _ _ z))) Or.inr : SqT X.K H _ _)
      obtain ⟨as, a1, a2⟩ := pyFs_reads I hw l _ _ _ r rv e1
      exact ⟨as, Reads.tuple ho hc hd a1, a2⟩
  | .lst l, v, u, p, r, ru, e => by
    cases r with
    | lst q r =>
      simp only [pyF, Option.map_eq_some_iff] at e
      obtain ⟨ps, e1, rfl⟩ := e
      cases ru
      obtain ⟨its, rv, ⟨o, n, ho, hc, _, hd⟩, _⟩ := I.list (Or.inl (Or.inl (hw.fz _ _ q)) : SqL X.K H _ _)
      obtain ⟨as, a1, a2⟩ := pyFs_reads I hw l _ _ _ r rv e1
      refine ⟨_, Reads.list ho hc hd a1, ?_⟩
      have := hw.ne_sm (hw.fz _ _ q) (fun _ _ z => by cases z)
      simp [a2]
      exact fun z => this z.symm
  | .dct l, v, u, p, r, ru, e => by
    cases r with
    | dct q r =>
      simp only [pyF, Option.map_eq_some_iff] at e
      obtain ⟨ps, e1, rfl⟩ := e
      cases ru
      obtain ⟨_, sm, kvs, kv, o, es, ep, h1, h2, h3, _, h5, _⟩ := I.hok _ _ (hw.fz _ _ q)
      obtain ⟨as, a1, a2⟩ := pyFk_reads I hw l _ _ _ r (kv_vals kv) e1
      have b1 := keys_read (X := X) s.heap h5 kv r e1
      rw [← vals_of h5] at a1
      refine ⟨_, Reads.dict h1 h2.1 h3 b1 a1, ?_⟩
      simp [a2]
      exact fun e => by rw [← e] at sm; simp at sm
  | .kst l, v, u, p, r, ru, e => by simp [pyF] at e
  | .ref l, v, u, p, r, ru, e => by simp [pyF] at e
  | .st l, v, u, p, r, ru, e => by simp [pyF] at e
  | .exn _ _ _ l, v, u, p, r, ru, e => by simp [pyF] at e
theorem pyFs_reads (I : Inv X pins σ H s) (hw : HW X.K w H h) : ∀ (ds : List D) (vs : List V) (us : List Value) (ps : List PyData), RVs X.K w vs ds → Vals vs us → pyFs ds = some ps → ∃ as, ReadsAll s.heap us ps as ∧ sysModules ∉ as
  | [], _, _, _, hr, hv, e => by
    cases hr
    cases hv
    cases e
    exact ⟨[], .nil, by simp⟩
  | d :: ds, _, _, _, hr, hv, e => by
    cases hr with
    | cons r rs =>
      cases hv with
      | cons ru rus =>
        simp only [pyFs, Option.bind_eq_some_iff, Option.map_eq_some_iff] at e
        obtain ⟨p, e1, ps, e2, rfl⟩ := e
        obtain ⟨bs, b1, b2⟩ := pyFs_reads I hw ds _ _ _ rs rus e2
        obtain ⟨as, a1, a2⟩ := pyF_reads I hw d _ _ _ r ru e1
        exact ⟨as ++ bs, .cons a1 b1, by simp [a2, b2]⟩
theorem pyFk_reads (I : Inv X pins σ H s) (hw : HW X.K w H h) : ∀ (ds : List (Key × D)) (vs : List (Key × V)) (us : List Value) (ps : List (PyData × PyData)), RKs X.K w vs ds → Vals (vs.map (·.2)) us → pyFk ds = some ps → ∃ as, ReadsAll s.heap us (ps.map (·.2)) as ∧ sysModules ∉ as
  | [], _, _, _, hr, hv, e => by
    cases hr
    cases hv
    cases e
    exact ⟨[], .nil, by simp⟩
  | (k, d) :: ds, _, _, _, hr, hv, e => by
    cases hr with
    | cons r rs =>
      cases hv with
      | cons ru rus =>
        simp only [pyFk, Option.bind_eq_some_iff, Option.map_eq_some_iff] at e
        obtain ⟨p, e1, ps, e2, rfl⟩ := e
        obtain ⟨bs, b1, b2⟩ := pyFk_reads I hw ds _ _ _ rs rus e2
        obtain ⟨as, a1, a2⟩ := pyF_reads I hw d _ _ _ r ru e1
        exact ⟨as ++ bs, .cons a1 b1, by simp [a2, b2]⟩
end
mutual
theorem py_nodict {g : Nat → Option PyData} (hg : ∀ n p, g n = some p → p.hasDict = false) : ∀ {d : D} {p : PyData}, pyG g d = some p → p.hasDict = false
  | .non, _, e => by simp [pyG] at e; subst e; rfl
  | .bl _, _, e => by simp [pyG] at e; subst e; rfl
  | .int _, _, e => by simp [pyG] at e; subst e; rfl
  | .str _, _, e => by simp [pyG] at e; subst e; rfl
  | .tup l, _, e => by
    simp only [pyG, Option.map_eq_some_iff] at e
    obtain ⟨ps, e1, rfl⟩ := e
    simp only [PyData.hasDict, pys_nodict hg e1]
  | .lst l, _, e => by
    simp only [pyG, Option.map_eq_some_iff] at e
    obtain ⟨ps, e1, rfl⟩ := e
    simp only [PyData.hasDict, pys_nodict hg e1]
  | .kst l, _, e => by
    simp only [pyG, Option.map_eq_some_iff] at e
    obtain ⟨ps, e1, rfl⟩ := e
    simp only [PyData.hasDict, pys_nodict hg e1]
  | .dct _, _, e => by simp [pyG] at e
  | .ref n, _, e => hg n _ (by simpa only [pyG] using e)
  | .st _, _, e => by simp [pyG] at e
  | .exn _ _ _ _, _, e => by simp [pyG] at e
theorem pys_nodict {g : Nat → Option PyData} (hg : ∀ n p, g n = some p → p.hasDict = false) : ∀ {d : List D} {p : List PyData}, pyGs g d = some p → PyData.hasDictAll p = false
  | [], _, e => by simp [pyGs] at e; subst e; rfl
  | d :: ds, _, e => by
    simp only [pyGs, Option.bind_eq_some_iff, Option.map_eq_some_iff] at e
    obtain ⟨p, e1, ps, e2, rfl⟩ := e
    simp only [PyData.hasDictAll, py_nodict hg e1, pys_nodict hg e2, Bool.or_self]
end
theorem pyN_nodict (h : LH) : ∀ (m n : Nat) (p : PyData), pyN m h n = some p → p.hasDict = false
  | 0, _, _, e => by cases e
  | m + 1, n, p, e => by
    unfold pyN at e
    split at e
    · simp only [Option.map_eq_some_iff] at e
      obtain ⟨ps, e1, rfl⟩ := e
      simp only [PyData.hasDict, pys_nodict (pyN_nodict h m) e1]
    · cases e
theorem py_reads (I : Inv X pins σ H s) (hw : HW X.K w H h) {d : D} {v : V} {u : Value} {p : PyData} (r : RV X.K w v d) (ru : RelV v u) (e : py h d = some p) : ∃ as, Reads s.heap u p as ∧ (p.hasDict = true → sysModules ∉ as) := by
  obtain ⟨as, z⟩ := Dp.reads I p v u (py_ok hw r e) ru
  exact ⟨as, z, PyData.noDict_hsm (py_nodict (pyN_nodict h 6) e)⟩
theorem pyR_reads (I : Inv X pins σ H s) (hw : HW X.K w H h) {d : D} {v : V} {u : Value} {p : PyData} (r : RV X.K w v d) (ru : RelV v u) (e : pyR h d = some p) : ∃ as, Reads s.heap u p as ∧ (p.hasDict = true → sysModules ∉ as) := by
  unfold pyR at e
  split at e
  · rename_i p' e'
    cases e
    exact py_reads I hw r ru e'
  · obtain ⟨as, a, b⟩ := pyF_reads I hw _ _ _ _ r ru e
    exact ⟨as, a, fun _ => b⟩
/-- what repr shows -/
def showD (h : LH) (d : D) : Option Str := (pyR h d).bind fun p => if (p.showable && decide (p.depth ≤ 600) && small p.shown.length) = true then some p.shown else none

/-! ### builtin functions by their arguments -/
abbrev OC := LH → List D → Option D
def rC (K : PySem.W.Frag) (g : OC) : List V → Hp → VK → Prop := fun vs H Q => ∃ w h ds d, RVs K w vs ds ∧ HW K w H h ∧ g h ds = some d ∧ Pv K w Q d h
def OCD (X : Cx) (f : Value) (g : OC) : Prop := CallR X f (rC X.K g)
def mCall (g : OC) (m : AM) : EM := fun s h => (m s h).bind fun l h1 => match g h1 l with
  | some d => .ok d h1
  | none => .no
theorem te_call {K : PySem.W.Frag} {W : WX} {g : OC} {m : AM} {σ : St} {H : Hp} {Q : VK} (q : TE_ K W (mCall g m) σ H Q) : tCB (rC K g) (TA_ K W m) σ H Q := by
  obtain ⟨w, s, h, rs, hw, q⟩ := q
  refine ⟨w, s, h, rs, hw, WpA.bind (G := WpE K w Q _) q (fun _ _ z => z) (fun z => z) fun x h1 w1 v H1 l1 rx hw1 q1 => ?_⟩
  split at q1
  · rename_i d e
    exact ⟨w1, h1, x, d, rx, hw1, e, fun w3 z H3 l3 => q1 w3 z H3 (l1.trans l3)⟩
  · exact q1.elim
section
variable {W : WX} {x : Str} {p pos : Pos} {e : Expr} {es : List Expr} {m : AM} {id T : String} {g : OC}
theorem d_callB (hc : OCD X (.builtin id) g) (hg : Gl X x) (hm : X.mg x = none) (hv : bootBuiltins x = some (.builtin id)) (ha : DA X W (e :: es) m) (hn : x ≠ "__name__" := by decide) (hdb : (x == ("__debug__" : Str)) = false := by decide)
    (he : starEach (e :: es) X.env = (false, eval e X.env) :: starEach es X.env := by rfl) (hpl : (backTo pos (starEach es X.env)).any (·.1) = false := by rfl) : DE X W (.Call (.Name x p) (e :: es) [] pos) (mCall g m) :=
  PE.imp (pe_callB hc hg hm hv ha hn hdb he hpl) fun _ _ _ q => te_call q
theorem d_callTy (hc : OCD X (.type T) g) (hg : Gl X x) (hm : X.mg x = none) (hv : bootBuiltins x = some (.type T)) (ha : DA X W (e :: es) m) (hn : x ≠ "__name__" := by decide) (hdb : (x == ("__debug__" : Str)) = false := by decide)
    (he : starEach (e :: es) X.env = (false, eval e X.env) :: starEach es X.env := by rfl) (hpl : (backTo pos (starEach es X.env)).any (·.1) = false := by rfl) : DE X W (.Call (.Name x p) (e :: es) [] pos) (mCall g m) :=
  PE.imp (pe_callTy hc hg hm hv ha hn hdb he hpl) fun _ _ _ q => te_call q
end
theorem rv1 {K : PySem.W.Frag} {vs : List V} {d : D} (r : RVs K w vs [d]) : ∃ v, vs = [v] ∧ RV K w v d := by
  cases r with
  | cons r rs => cases rs; exact ⟨_, rfl, r⟩
theorem rv2 {K : PySem.W.Frag} {vs : List V} {d e : D} (r : RVs K w vs [d, e]) : ∃ v u, vs = [v, u] ∧ RV K w v d ∧ RV K w u e := by
  cases r with
  | cons r rs =>
    obtain ⟨u, rfl, q⟩ := rv1 rs
    exact ⟨_, _, rfl, r, q⟩
/-- repr(x) -/
def cRepr : OC := fun h ds => match ds with
  | [d] => (showD h d).map .str
  | _ => none
theorem oc_repr (hu : X.A.units + 700 < cLine) (hg : X.A.guards = some []) : OCD X (.builtin "repr") cRepr := by
  intro pins s σ H vs us Q I r ⟨w, h, ds, d, rd, hw, e, q⟩
  unfold cRepr at e
  split at e
  · rename_i d0
    obtain ⟨v, rfl, rv⟩ := rv1 rd
    obtain ⟨u, rfl, ru⟩ := vals1 r
    simp only [Option.map_eq_some_iff, showD, Option.bind_eq_some_iff] at e
    obtain ⟨t, ⟨p, e1, e2⟩, rfl⟩ := e
    split at e2
    · rename_i z
      cases e2
      simp only [Bool.and_eq_true, decide_eq_true_eq] at z
      obtain ⟨⟨z1, z2⟩, z3⟩ := z
      have z3 := small_le z3
      obtain ⟨as, rd, sm⟩ := pyR_reads I hw rv ru e1
      have fin := Pv.here q hw (.str p.shown)
      cases rd with
      | none => exact PySem.P.repr_of_none ⟨.str _, H, I.tok _, ⟨_, rfl⟩, by simpa only [PyData.shown] using fin⟩
      | bool b => exact PySem.P.repr_of_bool ⟨.str _, H, I.tok _, ⟨_, rfl⟩, by simpa only [PyData.shown] using fin⟩
      | int i t => exact PySem.P.repr_of_int (by simpa [PyData.showable] using z1) ⟨.str _, H, I.tok _, ⟨_, rfl⟩, by simpa only [PyData.shown] using fin⟩
      | str x t => exact PySem.P.repr_of_str ⟨.str _, H, I.tok _, ⟨_, rfl⟩, by simpa only [PyData.shown] using fin⟩ (by simpa only [PyData.shown] using z3)
      | list a b c k => exact repr_of_reads' (.list a b c k) z1 sm hg (by omega) (fun _ _ e => e) (fun h' u tk hk => ⟨.str _, H, I.kept hk, ⟨_, rfl⟩, fin⟩) z3
      | tuple a b c k => exact repr_of_reads' (.tuple a b c k) z1 sm hg (by omega) (fun _ _ e => e) (fun h' u tk hk => ⟨.str _, H, I.kept hk, ⟨_, rfl⟩, fin⟩) z3
      | dict a b c k l => exact repr_of_reads' (.dict a b c k l) z1 sm hg (by omega) (fun _ _ e => e) (fun h' u tk hk => ⟨.str _, H, I.kept hk, ⟨_, rfl⟩, fin⟩) z3
    · cases e2
  · cases e
end
end DN
namespace DN
open PySem L2

theorem RVs.toVals {K : PySem.W.Frag} {w : Wd} {f : D → Option V} (hf : ∀ d v x, RV K w x d → f d = some v → x = v) : ∀ {vs : List V} {ds : List D} {ys : List V}, RVs K w vs ds → ds.mapM f = some ys → vs = ys
  | vs, [], ys, h, e => by
    cases h
    simp at e
    exact e.symm ▸ rfl
  | vs, d :: ds, ys, h, e => by
    cases h with
    | cons r rs =>
      simp only [List.mapM_cons, Option.bind_eq_bind, Option.bind_eq_some_iff] at e
      obtain ⟨y, e1, zs, e2, e3⟩ := e
      cases e3
      rw [hf _ _ _ r e1, RVs.toVals hf rs e2]

/-! ### a[i] -/
def oIx : O2 := fun h x y => match y with
  | .int i => match x with
    | .str z => if small z.length = true then (atI z.cps.toList i).map fun c => .str ⟨#[c]⟩ else none
    | .tup l => atI l i
    | x => (seqL h x).bind fun l => atI l i
  | _ => none
theorem atI_rv {K : PySem.W.Frag} {w : Wd} {vs : List V} {ds : List D} {i : Int} {d : D} (r : RVs K w vs ds) (e : atI ds i = some d) : ∃ v, atI vs i = some v ∧ RV K w v d := by
  unfold atI at e ⊢
  rw [r.length]
  simp only [Option.bind_eq_some_iff] at e
  obtain ⟨j, e1, e2⟩ := e
  obtain ⟨v, h1, h2⟩ := r.get e2
  exact ⟨v, by rw [e1]; exact h1, h2⟩
section
variable {X : Cx} {W : WX}
theorem ix_d : IxR X (rO X.K oIx) := by
  intro value slice pins s σ H x y v u Q I rx ry ⟨w, h, dx, dy, d, r1, r2, hw, e, q⟩ hs
  unfold oIx at e
  split at e
  · cases r2
    rename_i i
    split at e
    · cases r1
      split at e
      · rename_i z
        simp only [Option.map_eq_some_iff] at e
        obtain ⟨c, e1, rfl⟩ := e
        exact ix_str value slice pins s σ H _ _ v u Q I rx ry ⟨_, i, c, rfl, rfl, small_le z, e1, Pv.here q hw (.str _)⟩ hs
      · cases e
    · obtain ⟨a, vs, rfl, s1, q1⟩ := seqT_ok hw r1 rfl
      obtain ⟨z, z1, z2⟩ := atI_rv q1 e
      exact ix_tup value slice pins s σ H _ _ v u Q I rx ry ⟨a, vs, i, z, rfl, rfl, s1, z1, Pv.here q hw z2⟩ hs
    · simp only [Option.bind_eq_some_iff] at e
      obtain ⟨l, e1, e2⟩ := e
      obtain ⟨a, vs, rfl, s1, q1⟩ := seqL_ok hw r1 e1
      obtain ⟨z, z1, z2⟩ := atI_rv q1 e2
      exact ix_list value slice pins s σ H _ _ v u Q I rx ry ⟨a, vs, i, z, rfl, rfl, s1, z1, Pv.here q hw z2⟩ hs
  · cases e
variable {a b e : Expr} {ma mb me : EM} {pos p2 : Pos}
theorem d_ix (ha : DE X W a ma) (hb : DE X W b mb) (hs : PlainIx b := by exact fun _ _ => rfl) : DE X W (.Subscript a b pos) (mOp oIx ma mb) := PE.imp (pe_ix ix_d ha hb hs) fun _ _ _ q => te_op q

/-! ### a[lo:hi] -/
abbrev OM := Sg → LH → R (Option Int)
def WpO (K : PySem.W.Frag) (w : Wd) (Q : Option Int → Hp → Prop) (W : XK) : R (Option Int) → Prop
  | .ok d h => ∀ w' H', w.le w' → HW K w' H' h → Q d H'
  | .ex x h => Px K w W x h
  | .no => False
def TO_ (K : PySem.W.Frag) (W : WX) (m : OM) : TO := fun σ H Q => ∃ w s h, RS K w σ s ∧ HW K w H h ∧ WpO K w Q (fun c d H => W c d σ H) (m s h)
def DO (X : Cx) (W : WX) (e : Option Expr) (m : OM) : Prop := ∀ σ H Q, TO_ X.K W m σ H Q → ∃ t, PO X e t ∧ t σ H Q
def oNo : OM := fun _ h => .ok none h
def oPart (m : EM) : OM := fun s h => (m s h).bind fun d h1 => match d with
  | .int i => .ok (some i) h1
  | _ => .no
theorem po_imp {o : Option Expr} {t t' : TO} (h : PO X o t) (k : ∀ σ H Q, t' σ H Q → t σ H Q) : PO X o t' := ⟨fun pins s σ H Q I q => h.run pins s σ H Q I (k σ H Q q)⟩
theorem do_no : PO X none (TO_ X.K W oNo) := po_imp po_none fun σ H Q ⟨w, s, h, rs, hw, q⟩ => q w H (.refl w) hw
theorem do_some (ha : DE X W e me) : PO X (some e) (TO_ X.K W (oPart me)) := po_imp (po_some ha) fun σ H Q ⟨w, s, h, rs, hw, q⟩ =>
  ⟨w, s, h, rs, hw, WpE.bind (G := WpO X.K w Q _) q (fun _ _ z => z) (fun z => z) fun x h1 w1 v H1 l1 rx hw1 q1 => by
    split at q1
    · cases rx
      exact ⟨_, rfl, q1 w1 H1 l1 hw1⟩
    · exact q1.elim⟩
def cut {α : Type} (xs : List α) (lo hi : Option Int) : List α := (xs.drop (HT.sIx xs.length 0 lo)).take (HT.sIx xs.length xs.length hi - HT.sIx xs.length 0 lo)
def oCut (h : LH) (d : D) (lo hi : Option Int) : Option D := match d with
  | .str z => if small z.length = true then some (.str (cutS z lo hi)) else none
  | .tup l => some (.tup (cut l lo hi))
  | d => (seqL h d).map fun l => .lst (cut l lo hi)
def mSl (m : EM) (lo hi : OM) : EM := fun s h => (m s h).bind fun d h1 => (lo s h1).bind fun l h2 => (hi s h2).bind fun u h3 => match oCut h3 d l u with
  | some d => .ok d h3
  | none => .no
def rSl (K : PySem.W.Frag) : V → Option Int → Option Int → Hp → VK → Prop := fun x lo hi H Q => ∃ w h dx d, RV K w x dx ∧ HW K w H h ∧ oCut h dx lo hi = some d ∧ Pv K w Q d h
theorem cut_rv {K : PySem.W.Frag} {w : Wd} {vs : List V} {ds : List D} {lo hi : Option Int} (r : RVs K w vs ds) : RVs K w (cutV vs lo hi) (cut ds lo hi) := by
  unfold cutV cut
  rw [r.length]
  exact (r.drop _).take _
theorem sl_d : SlR X (rSl X.K) := by
  intro pins s σ H x v vl vu lo hi sl Q I rx hs pl pu ⟨w, h, dx, d, r1, hw, e, q⟩
  unfold oCut at e
  split at e
  · cases r1
    split at e
    · rename_i z
      cases e
      exact sl_str pins s σ H _ v vl vu lo hi sl Q I rx hs pl pu ⟨_, rfl, small_le z, Pv.here q hw (.str _)⟩
    · cases e
  · rename_i l0
    cases e
    obtain ⟨a, vs, rfl, s1, q1⟩ := seqT_ok hw r1 rfl
    refine sl_tupA pins s σ H _ v vl vu lo hi sl Q I rx hs pl pu ⟨a, vs, rfl, s1, fun ⟨z1, z2⟩ => ?_, fun _ p hp => Pv.tup q hw (cut_rv q1) hp⟩
    have : cut l0 lo hi = l0 := by
      unfold cut
      rw [q1.length] at z1 z2
      rw [z1, z2, List.drop_zero, Nat.sub_zero, List.take_length]
    rw [this] at q
    exact Pv.here q hw r1
  · simp only [Option.map_eq_some_iff] at e
    obtain ⟨l, e1, rfl⟩ := e
    obtain ⟨a, vs, rfl, s1, q1⟩ := seqL_ok hw r1 e1
    exact sl_list pins s σ H _ v vl vu lo hi sl Q I rx hs pl pu ⟨a, vs, rfl, s1, fun p hp => Pv.lst q hw (cut_rv q1) hp⟩
theorem WpO.bind {α : Type} {K : PySem.W.Frag} {w : Wd} {Q : Option Int → Hp → Prop} {W : XK} {r : R (Option Int)} {f : Option Int → LH → R α} {G : R α → Prop}
    (h : G (r.bind f)) (hx : ∀ x h, G (.ex x h) → Px K w W x h) (hn : ¬ G .no)
    (k : ∀ d h1 w1 H1, w.le w1 → HW K w1 H1 h1 → G (f d h1) → Q d H1) : WpO K w Q W r := by
  cases r with
  | ok d h1 => exact fun w1 H1 l hw => k d h1 w1 H1 l hw h
  | ex x h1 => exact hx x h1 h
  | no => exact (hn h).elim
theorem d_slice {lo hi : Option Expr} {ml mh : OM} (he : DE X W e me) (hl : PO X lo (TO_ X.K W ml)) (hu : PO X hi (TO_ X.K W mh)) : DE X W (.Subscript e (.Slice lo hi none p2) pos) (mSl me ml mh) :=
  PE.imp (pe_slice sl_d he hl hu) fun σ H Q ⟨w, s, h, rs, hw, q⟩ =>
    ⟨w, s, h, rs, hw, WpE.bind (G := WpE X.K w Q _) q (fun _ _ z => z) (fun z => z) fun x h1 w1 v H1 l1 rx hw1 q1 =>
      ⟨w1, s, h1, rs.mono l1, hw1, WpO.bind (G := WpE X.K w Q _) q1 (fun _ _ z => Px.mono l1 z) (fun z => z) fun lo h2 w2 H2 l2 hw2 q2 =>
        ⟨w2, s, h2, rs.mono (l1.trans l2), hw2, WpO.bind (G := WpE X.K w Q _) q2 (fun _ _ z => Px.mono (l1.trans l2) z) (fun z => z) fun hi h3 w3 H3 l3 hw3 q3 => by
          split at q3
          · rename_i d e
            exact ⟨w3, h3, x, d, rx.mono (l2.trans l3), hw3, e, fun w4 z H4 l4 => q3 w4 z H4 (((l1.trans l2).trans l3).trans l4)⟩
          · exact q3.elim⟩⟩⟩
/-- xs[::-1] of a list: frozen, or new -/
def mRev (m : EM) : EM := fun s h => (m s h).bind fun d h1 => match seqL h1 d with
  | some l => .ok (.lst l.reverse) h1
  | none => .no
def mRevN (m : EM) : EM := fun s h => (m s h).bind fun d h1 => match seqL h1 d with
  | some l => .ok (.ref h1.length) (h1 ++ [.lst l.reverse])
  | none => .no
variable {k : Nat} {p1 p3 : Pos}
theorem d_rev (he : DE X W e me) : DE X W (.Subscript e (.Slice none none (some (.UnaryOp .USub (.Constant (.int 1) k p1) p2)) p3) pos) (mRev me) := PE.imp (pe_revL he) fun σ H Q ⟨w, s, h, rs, hw, q⟩ =>
  ⟨w, s, h, rs, hw, WpE.bind (G := WpE X.K w Q _) q (fun _ _ z => z) (fun z => z) fun x h1 w1 v H1 l1 rx hw1 q1 => by
    split at q1
    · rename_i l e
      obtain ⟨a, vs, rfl, s1, r1⟩ := seqL_ok hw1 rx e
      exact ⟨a, vs, rfl, s1, fun p hp => Pv.lst (fun w3 z H3 l3 => q1 w3 z H3 (l1.trans l3)) hw1 r1.reverse hp⟩
    · exact q1.elim⟩
theorem d_revN (he : DE X W e me) : DE X W (.Subscript e (.Slice none none (some (.UnaryOp .USub (.Constant (.int 1) k p1) p2)) p3) pos) (mRevN me) := PE.imp (pe_revL he) fun σ H Q ⟨w, s, h, rs, hw, q⟩ =>
  ⟨w, s, h, rs, hw, WpE.bind (G := WpE X.K w Q _) q (fun _ _ z => z) (fun z => z) fun x h1 w1 v H1 l1 rx hw1 q1 => by
    split at q1
    · rename_i l e
      obtain ⟨a, vs, rfl, s1, r1⟩ := seqL_ok hw1 rx e
      exact ⟨a, vs, rfl, s1, fun p hp => Pv.new (fun w3 z H3 l3 => q1 w3 z H3 (l1.trans l3)) hw1 r1.reverse hp⟩
    · exact q1.elim⟩

/-! ### builtin functions -/
def tyD (h : LH) : D → Option String
  | .non => some "NoneType"
  | .bl _ => some "bool"
  | .int _ => some "int"
  | .str _ => some "str"
  | .tup _ => some "tuple"
  | .lst _ => some "list"
  | .kst _ => some "list"
  | .dct _ => some "dict"
  | .ref n => match h[n]? with
    | some (.lst _) => some "list"
    | some (.dct _) => some "dict"
    | none => none
  | .st _ => none
  | .exn _ _ _ _ => none
def allTys : List String := ["NoneType", "bool", "int", "str", "tuple", "list", "dict"]
def askTys : List String := ["bool", "int", "str", "tuple", "list", "dict"]
def subTy (a b : String) : Bool := a == b || (a == "bool" && b == "int")
theorem kit_all : ∀ a ∈ allTys, ∀ b ∈ askTys, kitB a b = some (subTy a b) := by decide +kernel
theorem tyD_in {h : LH} {d : D} {t : String} (e : tyD h d = some t) : t ∈ allTys := by
  unfold tyD at e
  split at e <;> first
    | (cases e; decide)
    | cases e
    | (split at e <;> first | (cases e; decide) | cases e)
theorem tyD_ok {K : PySem.W.Frag} {w : Wd} {H : Hp} {h : LH} (hw : HW K w H h) {v : V} {d : D} {t : String} (r : RV K w v d) (e : tyD h d = some t) : TyX K H v (.type t) := by
  cases r with
  | non => cases e; exact .base .non
  | bl b => cases e; exact .base (.bl b)
  | int b => cases e; exact .base (.int b)
  | str b => cases e; exact .base (.str b)
  | tup q r =>
    cases e
    rcases q with q | ⟨o, its, n, h1, h2, _⟩
    · exact .base (.tup (hw.fz _ _ q))
    · exact .kTuple h1 h2
  | lst q r => cases e; exact .base (.lst (hw.fz _ _ q))
  | kst q r =>
    cases e
    rcases q with ⟨o, q⟩ | ⟨o, its, n, h1, h2, _⟩
    · exact .base (.frz (hw.fz _ _ q))
    · exact .kList h1 h2
  | dct q r => cases e; exact .base (.dK (hw.fz _ _ q))
  | @ref a n q =>
    unfold tyD at e
    simp only at e
    split at e
    · rename_i l e'
      cases e
      obtain ⟨a', o, h1, h2, h3⟩ := hw.get e'
      rw [q] at h1
      cases h1
      cases h3 with
      | lst r => exact .base (.lst h2)
    · rename_i l e'
      cases e
      obtain ⟨a', o, h1, h2, h3⟩ := hw.get e'
      rw [q] at h1
      cases h1
      cases h3 with
      | dct r => exact .base (.dK h2)
    · cases e
  | st v => cases e
  | exn _ _ _ _ => cases e
  | exb _ => cases e
/-- isinstance(x, T), T a built-in class -/
def cIsi : OC := fun h ds => match ds with
  | [d, .st (.ty b)] => (tyD h d).bind fun a => if askTys.contains b = true then some (.bl (subTy a b)) else none
  | _ => none
theorem oc_isi : OCD X (.builtin "isinstance") cIsi := by
  intro pins s σ H vs us Q I r ⟨w, h, ds, d, rd, hw, e, q⟩
  unfold cIsi at e
  split at e
  · rename_i d0 b
    obtain ⟨v, c, rfl, rv, rc⟩ := rv2 rd
    simp only [Option.bind_eq_some_iff] at e
    obtain ⟨t, e1, e2⟩ := e
    split at e2
    · rename_i z
      cases e2
      have hc : c = .ty b := by
        cases rc
        rfl
      subst hc
      exact call_isi pins s σ H _ us Q I r ⟨v, .ty b, .type t, .type b, _, rfl, .ty b, tyD_ok hw rv e1, kit_ty (kit_all t (tyD_in e1) b (by simpa using z)), Pv.here q hw (.bl _)⟩
    · cases e2
  · cases e
def lenD (h : LH) : D → Option Nat
  | .str z => if small z.length = true then some z.length else none
  | .tup l => some l.length
  | d => (seqL h d).map List.length
def cLen : OC := fun h ds => match ds with
  | [d] => (lenD h d).map fun (n : Nat) => D.int (n : Int)
  | _ => none
theorem oc_len : OCD X (.builtin "len") cLen := by
  intro pins s σ H vs us Q I r ⟨w, h, ds, d, rd, hw, e, q⟩
  unfold cLen at e
  split at e
  · obtain ⟨v, rfl, rv⟩ := rv1 rd
    simp only [Option.map_eq_some_iff] at e
    obtain ⟨n, e1, rfl⟩ := e
    refine call_len pins s σ H _ us Q I r ⟨v, n, rfl, ?_, Pv.here q hw (.int _)⟩
    unfold lenD at e1
    split at e1
    · cases rv
      split at e1
      · rename_i z
        cases e1
        exact ⟨small_le z, rfl⟩
      · cases e1
    · cases e1
      obtain ⟨a, vs, rfl, s1, r1⟩ := seqT_ok hw rv rfl
      exact .inr ⟨vs, s1, r1.length.symm⟩
    · simp only [Option.map_eq_some_iff] at e1
      obtain ⟨l, e1, rfl⟩ := e1
      obtain ⟨a, vs, rfl, s1, r1⟩ := seqL_ok hw rv e1
      exact .inl ⟨vs, s1, r1.length.symm⟩
  · cases e
def asB : D → Option Bool
  | .bl b => some b
  | _ => none
def asI : D → Option Int
  | .int b => some b
  | _ => none
def asS : D → Option Str
  | .str b => some b
  | _ => none
theorem bls_ok {K : PySem.W.Frag} {w : Wd} : ∀ {vs : List V} {ds : List D} {bs : List Bool}, RVs K w vs ds → ds.mapM asB = some bs → vs = bs.map V.bl
  | vs, [], ys, h, e => by cases h; simp at e; subst e; rfl
  | vs, d :: ds, ys, h, e => by
    cases h with
    | cons r rs =>
      simp only [List.mapM_cons, Option.bind_eq_bind, Option.bind_eq_some_iff] at e
      obtain ⟨y, e1, zs, e2, e3⟩ := e
      cases e3
      rw [bls_ok rs e2]
      cases d <;> cases e1
      cases r
      rfl
theorem ints_ok {K : PySem.W.Frag} {w : Wd} : ∀ {vs : List V} {ds : List D} {bs : List Int}, RVs K w vs ds → ds.mapM asI = some bs → vs = bs.map V.int
  | vs, [], ys, h, e => by cases h; simp at e; subst e; rfl
  | vs, d :: ds, ys, h, e => by
    cases h with
    | cons r rs =>
      simp only [List.mapM_cons, Option.bind_eq_bind, Option.bind_eq_some_iff] at e
      obtain ⟨y, e1, zs, e2, e3⟩ := e
      cases e3
      rw [ints_ok rs e2]
      cases d <;> cases e1
      cases r
      rfl
theorem strs_ok {K : PySem.W.Frag} {w : Wd} : ∀ {vs : List V} {ds : List D} {bs : List Str}, RVs K w vs ds → ds.mapM asS = some bs → vs = bs.map V.str
  | vs, [], ys, h, e => by cases h; simp at e; subst e; rfl
  | vs, d :: ds, ys, h, e => by
    cases h with
    | cons r rs =>
      simp only [List.mapM_cons, Option.bind_eq_bind, Option.bind_eq_some_iff] at e
      obtain ⟨y, e1, zs, e2, e3⟩ := e
      cases e3
      rw [strs_ok rs e2]
      cases d <;> cases e1
      cases r
      rfl
theorem ints_rv {K : PySem.W.Frag} {w : Wd} : ∀ ns : List Int, RVs K w (ns.map V.int) (ns.map D.int)
  | [] => .nil
  | n :: ns => .cons (.int n) (ints_rv ns)
theorem strs_rv {K : PySem.W.Frag} {w : Wd} : ∀ ns : List Str, RVs K w (ns.map V.str) (ns.map D.str)
  | [] => .nil
  | n :: ns => .cons (.str n) (strs_rv ns)
def cAll : OC := fun h ds => match ds with
  | [d] => (seqL h d).bind fun l => (l.mapM asB).map fun bs => .bl (bs.all id)
  | _ => none
theorem oc_all (hc : X.calm = true) : OCD X (.builtin "all") cAll := by
  intro pins s σ H vs us Q I r ⟨w, h, ds, d, rd, hw, e, q⟩
  unfold cAll at e
  split at e
  · obtain ⟨v, rfl, rv⟩ := rv1 rd
    simp only [Option.bind_eq_some_iff, Option.map_eq_some_iff] at e
    obtain ⟨l, e1, bs, e2, rfl⟩ := e
    obtain ⟨a, vs, rfl, s1, r1⟩ := seqL_ok hw rv e1
    rw [bls_ok r1 e2] at s1
    exact cr_all hc pins s σ H _ us Q I r ⟨a, bs, rfl, s1, Pv.here q hw (.bl _)⟩
  · cases e
def cAny : OC := fun h ds => match ds with
  | [d] => (seqL h d).bind fun l => (l.mapM asB).map fun bs => .bl (bs.any id)
  | _ => none
theorem oc_any (hc : X.calm = true) : OCD X (.builtin "any") cAny := by
  intro pins s σ H vs us Q I r ⟨w, h, ds, d, rd, hw, e, q⟩
  unfold cAny at e
  split at e
  · obtain ⟨v, rfl, rv⟩ := rv1 rd
    simp only [Option.bind_eq_some_iff, Option.map_eq_some_iff] at e
    obtain ⟨l, e1, bs, e2, rfl⟩ := e
    obtain ⟨a, vs, rfl, s1, r1⟩ := seqL_ok hw rv e1
    rw [bls_ok r1 e2] at s1
    exact cr_any hc pins s σ H _ us Q I r ⟨a, bs, rfl, s1, Pv.here q hw (.bl _)⟩
  · cases e
def cSum : OC := fun h ds => match ds with
  | [d] => (seqL h d).bind fun l => (l.mapM asI).map fun bs => .int bs.sum
  | _ => none
theorem oc_sum (hc : X.calm = true) : OCD X (.builtin "sum") cSum := by
  intro pins s σ H vs us Q I r ⟨w, h, ds, d, rd, hw, e, q⟩
  unfold cSum at e
  split at e
  · obtain ⟨v, rfl, rv⟩ := rv1 rd
    simp only [Option.bind_eq_some_iff, Option.map_eq_some_iff] at e
    obtain ⟨l, e1, bs, e2, rfl⟩ := e
    obtain ⟨a, vs, rfl, s1, r1⟩ := seqL_ok hw rv e1
    rw [ints_ok r1 e2] at s1
    exact cr_sum hc pins s σ H _ us Q I r ⟨a, bs, rfl, s1, Pv.here q hw (.int _)⟩
  · cases e
/-- list(xs), tuple(xs) of a list or a tuple -/
def cList : OC := fun h ds => match ds with
  | [.tup l] => some (.lst l)
  | [d] => (seqL h d).map .lst
  | _ => none
def cTuple : OC := fun h ds => match ds with
  | [.tup l] => some (.tup l)
  | [d] => (seqL h d).map .tup
  | _ => none
theorem oc_list : OCD X (.type "list") cList := by
  intro pins s σ H vs us Q I r ⟨w, h, ds, d, rd, hw, e, q⟩
  unfold cList at e
  split at e
  · obtain ⟨v, rfl, rv⟩ := rv1 rd
    cases e
    obtain ⟨a, vs, rfl, s1, r1⟩ := seqT_ok hw rv rfl
    exact call_list_of pins s σ H _ us Q I r ⟨a, vs, rfl, .inr s1, fun p hp => Pv.lst q hw r1 hp⟩
  · obtain ⟨v, rfl, rv⟩ := rv1 rd
    simp only [Option.map_eq_some_iff] at e
    obtain ⟨l, e1, rfl⟩ := e
    obtain ⟨a, vs, rfl, s1, r1⟩ := seqL_ok hw rv e1
    exact call_list_of pins s σ H _ us Q I r ⟨a, vs, rfl, .inl s1, fun p hp => Pv.lst q hw r1 hp⟩
  · cases e
theorem oc_tuple : OCD X (.type "tuple") cTuple := by
  intro pins s σ H vs us Q I r ⟨w, h, ds, d, rd, hw, e, q⟩
  unfold cTuple at e
  split at e
  · obtain ⟨v, rfl, rv⟩ := rv1 rd
    cases e
    obtain ⟨a, vs, rfl, s1, r1⟩ := seqT_ok hw rv rfl
    exact call_tuple_of pins s σ H _ us Q I r ⟨a, vs, rfl, .inr ⟨s1, Pv.here q hw rv⟩⟩
  · obtain ⟨v, rfl, rv⟩ := rv1 rd
    simp only [Option.map_eq_some_iff] at e
    obtain ⟨l, e1, rfl⟩ := e
    obtain ⟨a, vs, rfl, s1, r1⟩ := seqL_ok hw rv e1
    exact call_tuple_of pins s σ H _ us Q I r ⟨a, vs, rfl, .inl ⟨s1, fun p hp => Pv.tup q hw r1 hp⟩⟩
  · cases e
def cOrd : OC := fun _ ds => match ds with
  | [.str z] => if decide (z.length = 1) = true then some (.int (z.cps.getD 0 0 : Nat)) else none
  | _ => none
theorem oc_ord : OCD X (.builtin "ord") cOrd := by
  intro pins s σ H vs us Q I r ⟨w, h, ds, d, rd, hw, e, q⟩
  unfold cOrd at e
  split at e
  · obtain ⟨v, rfl, rv⟩ := rv1 rd
    cases rv
    split at e
    · rename_i z
      cases e
      exact call_ord pins s σ H _ us Q I r ⟨_, rfl, of_decide_eq_true z, Pv.here q hw (.int _)⟩
    · cases e
  · cases e
def cAbs : OC := fun _ ds => match ds with
  | [.int i] => some (.int (if i < 0 then -i else i))
  | _ => none
theorem oc_abs : OCD X (.builtin "abs") cAbs := by
  intro pins s σ H vs us Q I r ⟨w, h, ds, d, rd, hw, e, q⟩
  unfold cAbs at e
  split at e
  · obtain ⟨v, rfl, rv⟩ := rv1 rd
    cases rv
    cases e
    exact call_abs pins s σ H _ us Q I r ⟨_, rfl, Pv.here q hw (.int _)⟩
  · cases e
/-- int(n), int(flag), int(text) -/
def cInt : OC := fun _ ds => match ds with
  | [.int i] => some (.int i)
  | [.bl k] => some (.int (if k then 1 else 0))
  | [.str z] => if decide (z.length ≤ 640) = true then (PySem.intText? z).map .int else none
  | _ => none
theorem oc_int : OCD X (.type "int") cInt := by
  intro pins s σ H vs us Q I r ⟨w, h, ds, d, rd, hw, e, q⟩
  unfold cInt at e
  split at e
  · obtain ⟨v, rfl, rv⟩ := rv1 rd
    cases rv
    cases e
    exact call_int1 pins s σ H _ us Q I r (.inl ⟨_, rfl, Pv.here q hw (.int _)⟩)
  · obtain ⟨v, rfl, rv⟩ := rv1 rd
    cases rv
    cases e
    exact call_int1 pins s σ H _ us Q I r (.inr ⟨_, rfl, Pv.here q hw (.int _)⟩)
  · obtain ⟨v, rfl, rv⟩ := rv1 rd
    cases rv
    split at e
    · rename_i z
      simp only [Option.map_eq_some_iff] at e
      obtain ⟨n, e1, rfl⟩ := e
      exact call_int_str pins s σ H _ us Q I r ⟨_, n, rfl, e1, of_decide_eq_true z, Pv.here q hw (.int _)⟩
    · cases e
  · cases e
/-- str(n) -/
def cStr : OC := fun _ ds => match ds with
  | [.int i] => if decide (i.natAbs.log2 < 1920) = true then some (.str (toString i)) else none
  | _ => none
theorem oc_str : OCD X (.type "str") cStr := by
  intro pins s σ H vs us Q I r ⟨w, h, ds, d, rd, hw, e, q⟩
  unfold cStr at e
  split at e
  · obtain ⟨v, rfl, rv⟩ := rv1 rd
    cases rv
    split at e
    · rename_i z
      cases e
      exact call_str_int pins s σ H _ us Q I r ⟨_, rfl, of_decide_eq_true z, Pv.here q hw (.str _)⟩
    · cases e
  · cases e

/-! ### methods of built-in types: by the receiver and the arguments; the state may change -/
abbrev OMt := LH → D → List D → Option (D × LH)
def rM (K : PySem.W.Frag) (T : String) (g : OMt) : V → List V → Hp → VK → Prop := fun x vs H Q => ∃ w h dx ds d h', RV K w x dx ∧ RVs K w vs ds ∧ HW K w H h ∧ g h dx ds = some (d, h') ∧ Pv K w Q d h'
def mMeth (T : String) (g : OMt) (m : EM) (a : AM) : EM := fun s h => (m s h).bind fun x h1 => if decide (tyD h1 x = some T) = true then (a s h1).bind fun l h2 => match g h2 x l with
  | some (d, h3) => .ok d h3
  | none => .no
  else .no
theorem tyV_ok {K : PySem.W.Frag} {w : Wd} {H : Hp} {h : LH} (hw : HW K w H h) {v : V} {d : D} {T : String} (hT : T = "str" ∨ T = "list" ∨ T = "dict") (r : RV K w v d) (e : tyD h d = some T) : tyV K T v H := by
  have nt : T ≠ "tuple" ∧ T ≠ "int" ∧ T ≠ "bool" ∧ T ≠ "NoneType" := by rcases hT with rfl | rfl | rfl <;> decide
  cases r with
  | non => cases e; exact (nt.2.2.2 rfl).elim
  | bl b => cases e; exact (nt.2.2.1 rfl).elim
  | int b => cases e; exact (nt.2.1 rfl).elim
  | str b => cases e; rfl
  | tup q r => cases e; exact (nt.1 rfl).elim
  | lst q r => cases e; exact .inl ⟨rfl, _, .inl (.inl (hw.fz _ _ q))⟩
  | kst q r =>
    cases e
    rcases q with ⟨o, q⟩ | q
    · exact .inl ⟨rfl, _, .inl (.inr ⟨o, hw.fz _ _ q⟩)⟩
    · exact .inl ⟨rfl, _, .inr q⟩
  | dct q r => cases e; exact .inr (.inr (.inl ⟨rfl, .inl ⟨_, hw.fz _ _ q⟩⟩))
  | @ref a n q =>
    unfold tyD at e
    simp only at e
    split at e
    · rename_i l e'
      cases e
      obtain ⟨a', o, h1, h2, h3⟩ := hw.get e'
      rw [q] at h1
      cases h1
      cases h3 with
      | lst r => exact .inl ⟨rfl, _, .inl (.inl h2)⟩
    · rename_i l e'
      cases e
      obtain ⟨a', o, h1, h2, h3⟩ := hw.get e'
      rw [q] at h1
      cases h1
      cases h3 with
      | dct r => exact .inr (.inr (.inl ⟨rfl, .inl ⟨_, h2⟩⟩))
    · cases e
  | st v => cases e
  | exn _ _ _ _ => cases e
  | exb _ => cases e
theorem te_meth {T : String} {g : OMt} {a : AM} (hT : T = "str" ∨ T = "list" ∨ T = "dict") {σ : St} {H : Hp} {Q : VK} (q : TE_ X.K W (mMeth T g me a) σ H Q) : tBM X.K T (rM X.K T g) (TE_ X.K W me) (TA_ X.K W a) σ H Q := by
  obtain ⟨w, s, h, rs, hw, q⟩ := q
  refine ⟨w, s, h, rs, hw, WpE.bind (G := WpE X.K w Q _) q (fun _ _ z => z) (fun z => z) fun x h1 w1 v H1 l1 rx hw1 q1 => ?_⟩
  split at q1
  · rename_i e0
    refine ⟨tyV_ok hw1 hT rx (of_decide_eq_true e0), w1, s, h1, rs.mono l1, hw1, WpA.bind (G := WpE X.K w Q _) q1 (fun _ _ z => Px.mono l1 z) (fun z => z) fun l h2 w2 vs H2 l2 rl hw2 q2 => ?_⟩
    split at q2
    · rename_i d h3 e
      exact ⟨w2, h2, x, l, d, h3, rx.mono l2, rl, hw2, e, fun w3 z H3 l3 => q2 w3 z H3 ((l1.trans l2).trans l3)⟩
    · exact q2.elim
  · exact q1.elim
theorem te_meth0 {T : String} {g : OMt} (hT : T = "str" ∨ T = "list" ∨ T = "dict") {σ : St} {H : Hp} {Q : VK} (q : TE_ X.K W (mMeth T g me aNil) σ H Q) : tBM0 X.K T (rM X.K T g) (TE_ X.K W me) σ H Q := by
  obtain ⟨w, s, h, rs, hw, q⟩ := q
  refine ⟨w, s, h, rs, hw, WpE.bind (G := WpE X.K w Q _) q (fun _ _ z => z) (fun z => z) fun x h1 w1 v H1 l1 rx hw1 q1 => ?_⟩
  split at q1
  · rename_i e0
    refine ⟨tyV_ok hw1 hT rx (of_decide_eq_true e0), ?_⟩
    simp only [aNil, R.bind_ok] at q1
    split at q1
    · rename_i d h3 e
      exact ⟨w1, h1, x, [], d, h3, rx, .nil, hw1, e, fun w3 z H3 l3 => q1 w3 z H3 (l1.trans l3)⟩
    · exact q1.elim
  · exact q1.elim
variable {o : Expr} {es : List Expr} {mo : EM} {a' : AM} {name : Str} {apos cpos : Pos} {T id : String} {g : OMt}
theorem d_meth0 (pa : PlainAttrs T) (slot : Slot T name id) (hty : typeOf (.builtin id) = pure (.type "method_descriptor")) (hm : MtR X id (rM X.K T g)) (hT : T = "str" ∨ T = "list" ∨ T = "dict") (ho : DE X W o mo)
    (hbase : attributeBase o name X.env (eval o X.env) = eval o X.env := by rfl) (hline : (apos.endLine == cpos.line) = true := by rfl) : DE X W (.Call (.Attribute o name apos) [] [] cpos) (mMeth T g mo aNil) :=
  PE.imp (pe_bm0 pa slot hty hm ho hbase hline) fun _ _ _ q => te_meth0 hT q
theorem d_meth (pa : PlainAttrs T) (slot : Slot T name id) (hty : typeOf (.builtin id) = pure (.type "method_descriptor")) (hm : MtR X id (rM X.K T g)) (hT : T = "str" ∨ T = "list" ∨ T = "dict") (ho : DE X W o mo) (ha : DA X W (e :: es) a')
    (hbase : attributeBase o name X.env (eval o X.env) = eval o X.env := by rfl)
    (hfew : ((backTo cpos (starEach (e :: es) X.env)).all (fun x => !x.1) && (backToKw cpos (keywordEach [] X.env)).all (fun x => x.1.isSome)
      && decide ((e :: es).length + ([] : List Keyword).length + (if ([] : List Keyword).isEmpty then 0 else 1) < 30)) = true := by rfl)
    (hline : (apos.endLine == cpos.line) = true := by rfl) (hs : starEach (e :: es) X.env = (false, eval e X.env) :: starEach es X.env := by rfl) (hplain : (backTo cpos (starEach es X.env)).any (·.1) = false := by rfl) :
    DE X W (.Call (.Attribute o name apos) (e :: es) [] cpos) (mMeth T g mo a') := PE.imp (pe_bm pa slot hty hm ho ha hbase hfew hline hs hplain) fun _ _ _ q => te_meth hT q

theorem refL_ok {K : PySem.W.Frag} {w : Wd} {H : Hp} {h : LH} (hw : HW K w H h) {v : V} {n : Nat} {l : List D} (r : RV K w v (.ref n)) (e : h[n]? = some (.lst l)) : ∃ a vs, v = .ref a ∧ w.at_[n]? = some a ∧ H a = some (.lst vs) ∧ RVs K w vs l := by
  cases r with
  | @ref a n q =>
    obtain ⟨a', o, h1, h2, h3⟩ := hw.get e
    rw [q] at h1
    cases h1
    cases h3 with
    | lst r => exact ⟨_, _, rfl, q, h2, r⟩
theorem Pv.set {K : PySem.W.Frag} {w : Wd} {H : Hp} {h : LH} {Q : VK} {n : Nat} {a : Addr} {d : D} {v : V} {vs : List V} {l l0 : List D} (q : Pv K w Q d (h.set n (.lst l))) (hw : HW K w H h) (ea : w.at_[n]? = some a) (e0 : h[n]? = some (.lst l0)) (r : RVs K w vs l) (rv : RV K w v d) : Q v (upd H a (.lst vs)) :=
  q _ _ _ (.refl w) rv (hw.set ea (List.getElem?_eq_some_iff.mp e0).1 (.lst r))
/-- xs.append(e), xs.pop(), xs.extend(ys) -/
def gAppend : OMt := fun h x ds => match x, ds with
  | .ref n, [d] => match h[n]? with
    | some (.lst l) => if decide (l.length < sizeLine) = true then some (.non, h.set n (.lst (l ++ [d]))) else none
    | _ => none
  | _, _ => none
def gPop : OMt := fun h x ds => match x, ds with
  | .ref n, [] => match h[n]? with
    | some (.lst l) => l[l.length - 1]?.map fun d => (d, h.set n (.lst l.dropLast))
    | _ => none
  | _, _ => none
def gExtend : OMt := fun h x ds => match x, ds with
  | .ref n, [d] => match h[n]? with
    | some (.lst l) => (catL h d).bind fun k => if small (l.length + k.length) = true then some (.non, h.set n (.lst (l ++ k))) else none
    | _ => none
  | _, _ => none
theorem mt_gAppend : MtR X "list.append" (rM X.K "list" gAppend) := by
  intro pins s σ H x xs v us Q I rx rxs ⟨w, h, dx, ds, d, h', r1, r2, hw, e, q⟩
  unfold gAppend at e
  split at e
  · split at e
    · rename_i n y _ l e0
      split at e
      · rename_i z
        cases e
        obtain ⟨a, vs, rfl, ea, s1, q1⟩ := refL_ok hw r1 e0
        obtain ⟨u, rfl, ru⟩ := rv1 r2
        exact mt_append pins s σ H _ _ v us Q I rx rxs ⟨a, vs, u, rfl, rfl, s1, by rw [q1.length]; exact of_decide_eq_true z, Pv.set q hw ea e0 (q1.append (.cons ru .nil)) .non⟩
      · cases e
    · cases e
  · cases e
theorem RVs.dropLast {K : PySem.W.Frag} {w : Wd} {v : List V} {d : List D} (r : RVs K w v d) : RVs K w v.dropLast d.dropLast := by
  rw [List.dropLast_eq_take, List.dropLast_eq_take, r.length]
  exact r.take _
theorem mt_gPop : MtR X "list.pop" (rM X.K "list" gPop) := by
  intro pins s σ H x xs v us Q I rx rxs ⟨w, h, dx, ds, d, h', r1, r2, hw, e, q⟩
  unfold gPop at e
  split at e
  · split at e
    · rename_i n _ l e0
      simp only [Option.map_eq_some_iff, Prod.mk.injEq] at e
      obtain ⟨y, e1, rfl, rfl⟩ := e
      obtain ⟨a, vs, rfl, ea, s1, q1⟩ := refL_ok hw r1 e0
      cases r2
      obtain ⟨z, z1, z2⟩ := q1.get e1
      exact mt_pop pins s σ H _ _ v us Q I rx rxs ⟨a, vs, z, rfl, rfl, s1, by rw [q1.length]; exact z1, Pv.set q hw ea e0 q1.dropLast z2⟩
    · cases e
  · cases e
theorem mt_gExtend : MtR X "list.extend" (rM X.K "list" gExtend) := by
  intro pins s σ H x xs v us Q I rx rxs ⟨w, h, dx, ds, d, h', r1, r2, hw, e, q⟩
  unfold gExtend at e
  split at e
  · split at e
    · rename_i n y _ l e0
      simp only [Option.bind_eq_some_iff] at e
      obtain ⟨k, e1, e2⟩ := e
      split at e2
      · rename_i z
        cases e2
        obtain ⟨a, vs, rfl, ea, s1, q1⟩ := refL_ok hw r1 e0
        obtain ⟨u, rfl, ru⟩ := rv1 r2
        obtain ⟨b, us', rfl, s2, q2⟩ := catL_ok hw ru e1
        exact mt_extend pins s σ H _ _ v us Q I rx rxs ⟨a, b, vs, us', rfl, rfl, s1, s2, by rw [q1.length, q2.length]; exact small_le z, Pv.set q hw ea e0 (q1.append q2) .non⟩
      · cases e2
    · cases e
  · cases e
/-- s.find(t), s.join(ts) .. -/
def gFind : OMt := fun h x ds => match x, ds with
  | .str a, [.str b] => some (.int (Txt.find a b), h)
  | _, _ => none
def gCount : OMt := fun h x ds => match x, ds with
  | .str a, [.str b] => some (.int (Txt.count a b), h)
  | _, _ => none
def gIsdigit : OMt := fun h x ds => match x, ds with
  | .str a, [] => some (.bl (Txt.isdigit a), h)
  | _, _ => none
def strsOf (h : LH) : D → Option (List Str)
  | .tup l => l.mapM asS
  | d => (seqL h d).bind fun l => l.mapM asS
def gJoin : OMt := fun h x ds => match x, ds with
  | .str a, [d] => (strsOf h d).bind fun ys => if decide ((ys.map (·.length)).sum + ys.length * a.length ≤ 16777216) = true then some (.str (Txt.join a ys), h) else none
  | _, _ => none
def gSplit : OMt := fun h x ds => match x, ds with
  | .str a, [.str b] => if decide ((b.length == 0) = false ∧ a.length + 2 ≤ sizeLine) = true then some (.lst ((Txt.split a b).map .str), h) else none
  | _, _ => none
theorem mt_gFind : MtR X "str.find" (rM X.K "str" gFind) := by
  intro pins s σ H x xs v us Q I rx rxs ⟨w, h, dx, ds, d, h', r1, r2, hw, e, q⟩
  unfold gFind at e
  split at e
  · cases e
    cases r1
    obtain ⟨u, rfl, ru⟩ := rv1 r2
    cases ru
    exact mt_find pins s σ H _ _ v us Q I rx rxs ⟨_, _, rfl, rfl, Pv.here q hw (.int _)⟩
  · cases e
theorem mt_gCount : MtR X "str.count" (rM X.K "str" gCount) := by
  intro pins s σ H x xs v us Q I rx rxs ⟨w, h, dx, ds, d, h', r1, r2, hw, e, q⟩
  unfold gCount at e
  split at e
  · cases e
    cases r1
    obtain ⟨u, rfl, ru⟩ := rv1 r2
    cases ru
    exact mt_count pins s σ H _ _ v us Q I rx rxs ⟨_, _, rfl, rfl, Pv.here q hw (.int _)⟩
  · cases e
theorem mt_gIsdigit : MtR X "str.isdigit" (rM X.K "str" gIsdigit) := by
  intro pins s σ H x xs v us Q I rx rxs ⟨w, h, dx, ds, d, h', r1, r2, hw, e, q⟩
  unfold gIsdigit at e
  split at e
  · cases e
    cases r1
    cases r2
    exact mt_isdigit pins s σ H _ _ v us Q I rx rxs ⟨_, rfl, rfl, trivial, Pv.here q hw (.bl _)⟩
  · cases e
theorem mt_gJoin : MtR X "str.join" (rM X.K "str" gJoin) := by
  intro pins s σ H x xs v us Q I rx rxs ⟨w, h, dx, ds, d, h', r1, r2, hw, e, q⟩
  unfold gJoin at e
  split at e
  · cases r1
    obtain ⟨u, rfl, ru⟩ := rv1 r2
    simp only [Option.bind_eq_some_iff] at e
    obtain ⟨ys, e1, e2⟩ := e
    split at e2
    · rename_i z
      cases e2
      unfold strsOf at e1
      split at e1
      · obtain ⟨a, vs, rfl, s1, q1⟩ := seqT_ok hw ru rfl
        rw [strs_ok q1 e1] at s1
        exact mt_join pins s σ H _ _ v us Q I rx rxs ⟨_, a, ys, rfl, rfl, .inr s1, of_decide_eq_true z, Pv.here q hw (.str _)⟩
      · simp only [Option.bind_eq_some_iff] at e1
        obtain ⟨l, e3, e4⟩ := e1
        obtain ⟨a, vs, rfl, s1, q1⟩ := seqL_ok hw ru e3
        rw [strs_ok q1 e4] at s1
        exact mt_join pins s σ H _ _ v us Q I rx rxs ⟨_, a, ys, rfl, rfl, .inl s1, of_decide_eq_true z, Pv.here q hw (.str _)⟩
    · cases e2
  · cases e
theorem mt_gSplit : MtR X "str.split" (rM X.K "str" gSplit) := by
  intro pins s σ H x xs v us Q I rx rxs ⟨w, h, dx, ds, d, h', r1, r2, hw, e, q⟩
  unfold gSplit at e
  split at e
  · cases r1
    obtain ⟨u, rfl, ru⟩ := rv1 r2
    cases ru
    split at e
    · rename_i z
      cases e
      obtain ⟨z1, z2⟩ := of_decide_eq_true z
      exact mt_split pins s σ H _ _ v us Q I rx rxs ⟨_, _, rfl, rfl, z1, z2, fun p hp => Pv.lst q hw (strs_rv _) hp⟩
    · cases e
  · cases e
end
end DN
namespace DN
open PySem L2

inductive RQ where
  | nx (s : Sg) (h : LH) | rt (d : D) (h : LH) | bk (s : Sg) (h : LH) | ct (s : Sg) (h : LH) | ex (x : EX) (s : Sg) (h : LH) | no
abbrev SM := Sg → LH → RQ
def RQ.then (r : RQ) (f : SM) : RQ := match r with
  | .nx s h => f s h
  | r => r
@[simp] theorem RQ.then_nx (s : Sg) (h : LH) (f : SM) : (RQ.nx s h).then f = f s h := rfl
@[simp] theorem RQ.then_rt (d : D) (h : LH) (f : SM) : (RQ.rt d h).then f = .rt d h := rfl
@[simp] theorem RQ.then_bk (s : Sg) (h : LH) (f : SM) : (RQ.bk s h).then f = .bk s h := rfl
@[simp] theorem RQ.then_ct (s : Sg) (h : LH) (f : SM) : (RQ.ct s h).then f = .ct s h := rfl
@[simp] theorem RQ.then_ex (x : EX) (s : Sg) (h : LH) (f : SM) : (RQ.ex x s h).then f = .ex x s h := rfl
@[simp] theorem RQ.then_no (f : SM) : RQ.no.then f = .no := rfl
/-- an expression, then .. -/
def R.q {α : Type} (r : R α) (s : Sg) (f : α → LH → RQ) : RQ := match r with
  | .ok a h => f a h
  | .ex x h => .ex x s h
  | .no => .no
@[simp] theorem R.q_ok {α : Type} (a : α) (h : LH) (s : Sg) (f : α → LH → RQ) : (R.ok a h).q s f = f a h := rfl
@[simp] theorem R.q_ex {α : Type} (x : EX) (h : LH) (s : Sg) (f : α → LH → RQ) : (R.ex x h : R α).q s f = .ex x s h := rfl
@[simp] theorem R.q_no {α : Type} (s : Sg) (f : α → LH → RQ) : (R.no : R α).q s f = .no := rfl

section
variable (K : PySem.W.Frag)
def WpS (w : Wd) (D : Ends) (W : WX) : RQ → Prop
  | .nx s h => ∀ w' σ' H', w.le w' → RS K w' σ' s → HW K w' H' h → D.nx σ' H'
  | .rt d h => ∀ w' v H', w.le w' → RV K w' v d → HW K w' H' h → D.rt v H'
  | .bk s h => ∀ w' σ' H', w.le w' → RS K w' σ' s → HW K w' H' h → D.bk σ' H'
  | .ct s h => ∀ w' σ' H', w.le w' → RS K w' σ' s → HW K w' H' h → D.ct σ' H'
  | .ex x s h => ∀ w' c dd σ' H', w.le w' → RS K w' σ' s → RX K w' H' c dd x → HW K w' H' h → W c dd σ' H'
  | .no => False
def TS_ (W : WX) (m : SM) : TS := fun D σ H => ∃ w s h, RS K w σ s ∧ HW K w H h ∧ WpS K w D W (m s h)
end
def DS (X : Cx) (W : WX) (st : Stmt) (m : SM) : Prop := PS X st (TS_ X.K W m)
def DSs (X : Cx) (W : WX) (st : List Stmt) (m : SM) : Prop := PSs X st (TS_ X.K W m)
theorem PS.imp {X : Cx} {e : Stmt} {t t' : TS} (h : PS X e t) (k : ∀ D σ H, t' D σ H → t D σ H) : PS X e t' := ⟨fun pins s σ H D I q => h.run pins s σ H D I (k D σ H q)⟩
theorem PSs.imp {X : Cx} {e : List Stmt} {t t' : TS} (h : PSs X e t) (k : ∀ D σ H, t' D σ H → t D σ H) : PSs X e t' := ⟨fun pins s σ H D I q => h.run pins s σ H D I (k D σ H q)⟩

section
variable {K : PySem.W.Frag} {w w' : Wd} {W : WX}
theorem WpS.mono {D : Ends} {r : RQ} (l : w.le w') (p : WpS K w D W r) : WpS K w' D W r := by
  cases r with
  | nx s h => exact fun v σ H k r q => p v σ H (l.trans k) r q
  | rt s h => exact fun v σ H k r q => p v σ H (l.trans k) r q
  | bk s h => exact fun v σ H k r q => p v σ H (l.trans k) r q
  | ct s h => exact fun v σ H k r q => p v σ H (l.trans k) r q
  | ex x s h => exact fun v c d σ H k r a q => p v c d σ H (l.trans k) r a q
  | no => exact p
/-- a statement, then the rest -/
theorem WpS.then {D : Ends} {r : RQ} {f : SM} (p : WpS K w D W (r.then f)) : WpS K w { D with nx := TS_ K W f D } W r := by
  cases r with
  | nx s h => exact fun v σ H k r q => ⟨v, s, h, r, q, WpS.mono k p⟩
  | rt s h => exact p
  | bk s h => exact p
  | ct s h => exact p
  | ex x s h => exact p
  | no => exact p
/-- an expression's value, then .. -/
theorem WpS.q {D : Ends} {Q : VK} {r : R DN.D} {s : Sg} {σ : St} {f : DN.D → LH → RQ} (rs : RS K w σ s) (p : WpS K w D W (r.q s f))
    (k : ∀ d h1 w1 v H1, w.le w1 → RV K w1 v d → HW K w1 H1 h1 → WpS K w1 D W (f d h1) → Q v H1) : WpE K w Q (fun c d H => W c d σ H) r := by
  cases r with
  | ok d h1 => exact fun w1 v H1 l rv hw => k d h1 w1 v H1 l rv hw (WpS.mono l p)
  | ex x h1 => exact fun v c d H l a q => p v c d σ H l (rs.mono l) a q
  | no => exact p
theorem WpS.qB {D : Ends} {Q : Bool → Hp → Prop} {r : R Bool} {s : Sg} {σ : St} {f : Bool → LH → RQ} (rs : RS K w σ s) (p : WpS K w D W (r.q s f))
    (k : ∀ d h1 w1 H1, w.le w1 → HW K w1 H1 h1 → WpS K w1 D W (f d h1) → Q d H1) : WpB K w Q (fun c d H => W c d σ H) r := by
  cases r with
  | ok d h1 => exact fun w1 H1 l hw => k d h1 w1 H1 l hw (WpS.mono l p)
  | ex x h1 => exact fun v c d H l a q => p v c d σ H l (rs.mono l) a q
  | no => exact p
theorem WpS.qA {D : Ends} {Q : List V → Hp → Prop} {r : R (List DN.D)} {s : Sg} {σ : St} {f : List DN.D → LH → RQ} (rs : RS K w σ s) (p : WpS K w D W (r.q s f))
    (k : ∀ d h1 w1 v H1, w.le w1 → RVs K w1 v d → HW K w1 H1 h1 → WpS K w1 D W (f d h1) → Q v H1) : WpA K w Q (fun c d H => W c d σ H) r := by
  cases r with
  | ok d h1 => exact fun w1 v H1 l rv hw => k d h1 w1 v H1 l rv hw (WpS.mono l p)
  | ex x h1 => exact fun v c d H l a q => p v c d σ H l (rs.mono l) a q
  | no => exact p
end

section
variable {X : Cx} {W : WX} {st : Stmt} {rest : List Stmt} {m n : SM} {e : Expr} {me : EM} {pos : Pos}
def sNil : SM := fun s h => .nx s h
def sSeq (m n : SM) : SM := fun s h => (m s h).then n
theorem ds_nil : DSs X W [] sNil := PSs.imp pss_nil fun D σ H ⟨w, s, h, rs, hw, q⟩ => q w σ H (.refl w) rs hw
theorem ds_cons (h1 : DS X W st m) (h2 : DSs X W rest n) : DSs X W (st :: rest) (sSeq m n) := PSs.imp (pss_cons h1 h2) fun D σ H ⟨w, s, h, rs, hw, q⟩ => ⟨w, s, h, rs, hw, WpS.then q⟩
theorem ds_one (h1 : DS X W st m) : DSs X W [st] m := pss_one h1
theorem ds_pass : DS X W (.Pass pos) sNil := PS.imp ps_pass fun D σ H ⟨w, s, h, rs, hw, q⟩ => q w σ H (.refl w) rs hw
def sBreak : SM := fun s h => .bk s h
def sCont : SM := fun s h => .ct s h
theorem ds_break : DS X W (.Break pos) sBreak := PS.imp ps_break fun D σ H ⟨w, s, h, rs, hw, q⟩ => q w σ H (.refl w) rs hw
theorem ds_continue : DS X W (.Continue pos) sCont := PS.imp ps_continue fun D σ H ⟨w, s, h, rs, hw, q⟩ => q w σ H (.refl w) rs hw
theorem ds_doc {x j pos pos'} : DS X W (.Expr (.Constant (.str x) j pos) pos') sNil := PS.imp ps_doc fun D σ H ⟨w, s, h, rs, hw, q⟩ => q w σ H (.refl w) rs hw
def sExpr (m : EM) : SM := fun s h => (m s h).q s fun _ h1 => .nx s h1
theorem ds_expr (he : DE X W e me) (hs : swapsWith e none pos.line X.env = pure false := by rfl) : DS X W (.Expr e pos) (sExpr me) := PS.imp (ps_expr he hs) fun D σ H ⟨w, s, h, rs, hw, q⟩ =>
  ⟨w, s, h, rs, hw, WpS.q rs q fun d h1 w1 v H1 l rv hw1 q1 => q1 w1 σ H1 (.refl w1) (rs.mono l) hw1⟩
def sRet (m : EM) : SM := fun s h => (m s h).q s fun d h1 => .rt d h1
theorem ds_ret (he : DE X W e me) : DS X W (.Return (some e) pos) (sRet me) := PS.imp (ps_ret he) fun D σ H ⟨w, s, h, rs, hw, q⟩ =>
  ⟨w, s, h, rs, hw, WpS.q rs q fun d h1 w1 v H1 l rv hw1 q1 => q1 w1 v H1 (.refl w1) rv hw1⟩
def sRetN : SM := fun s h => .rt .non h
theorem ds_retN : DS X W (.Return none pos) sRetN := PS.imp ps_retN fun D σ H ⟨w, s, h, rs, hw, q⟩ => q w .non H (.refl w) .non hw
def sIf (c : BM) (a b : SM) : SM := fun s h => (c s h).q s fun k h1 => if k = true then a s h1 else b s h1
theorem ds_if {c : Expr} {a b : List Stmt} {mc : BM} (hc : DT X W c mc) (ha : DSs X W a m) (hb : DSs X W b n) : DS X W (.If c a b pos) (sIf mc m n) := PS.imp (ps_if hc ha hb) fun D σ H ⟨w, s, h, rs, hw, q⟩ =>
  ⟨w, s, h, rs, hw, WpS.qB rs q fun k h1 w1 H1 l hw1 q1 => by
    cases k with
    | true => exact iteT ⟨w1, s, h1, rs.mono l, hw1, q1⟩
    | false => exact iteF ⟨w1, s, h1, rs.mono l, hw1, q1⟩⟩

/-! ### targets -/
abbrev GM := D → Sg → LH → Option (Sg × LH)
/-- what a target does; vs: the slots that it may store -/
def TG_ (K : PySem.W.Frag) (vs : List Nat) (g : GM) : TG := fun v σ H Q => ∃ w d s h s' h', RV K w v d ∧ RS K w σ s ∧ HW K w H h ∧ g d s h = some (s', h') ∧
  ∀ w' σ' H', w.le w' → RS K w' σ' s' → HW K w' H' h' → wipe σ' vs = wipe σ vs → Q σ' H'
def DG (X : Cx) (vs : List Nat) (t : Expr) (g : GM) : Prop := PG X t (TG_ X.K vs g)
theorem PG.imp {X : Cx} {e : Expr} {t t' : TG} (h : PG X e t) (k : ∀ v σ H Q, t' v σ H Q → t v σ H Q) : PG X e t' := ⟨fun pins s σ H v u Q I r q => h.run pins s σ H v u Q I r (k v σ H Q q)⟩
theorem wipe_set_out {i : Nat} {x : Option V} : ∀ {vs : List Nat} {σ : St}, i ∉ vs → wipe (σ.set i x) vs = (wipe σ vs).set i x
  | [], _, _ => rfl
  | v :: vs, σ, h => by
    simp only [List.mem_cons, not_or] at h
    unfold wipe
    rw [wipe_set_out h.2, List.set_comm _ _ h.1]
theorem wipe_set_in {i : Nat} {x : Option V} : ∀ {vs : List Nat} {σ : St}, i ∈ vs → wipe (σ.set i x) vs = wipe σ vs
  | v :: vs, σ, h => by
    unfold wipe
    by_cases hv : i ∈ vs
    · rw [wipe_set_in hv]
    · rcases List.mem_cons.mp h with rfl | h
      · rw [wipe_set_out hv, List.set_set]
      · exact (hv h).elim
def gNm (i : Nat) : GM := fun d s h => some (s.set i (some d), h)
theorem dg_name {vs : List Nat} {i : Nat} {x : Str} (hN : X.N.Nodup) (hi : X.N[i]? = some x) (hx : Loc X.env.scope x) (hf : X.fn x = true ∨ X.env.scope.names.lookup x = some .local := by first | exact .inl rfl | exact .inr rfl | assumption) (hv : i ∈ vs) : DG X vs (.Name x pos) (gNm i) :=
  PG.imp (pg_name hN hi hx hf) fun v σ H Q ⟨w, d, s, h, s', h', rv, rs, hw, e, q⟩ => by
    cases e
    exact q w _ H (.refl w) (rs.set rv) hw (wipe_set_in hv)
abbrev GMs := List D → Sg → LH → Option (Sg × LH)
def TGs_ (K : PySem.W.Frag) (vs : List Nat) (g : GMs) : TGs := fun v σ H Q => ∃ w d s h s' h', RVs K w v d ∧ RS K w σ s ∧ HW K w H h ∧ g d s h = some (s', h') ∧
  ∀ w' σ' H', w.le w' → RS K w' σ' s' → HW K w' H' h' → wipe σ' vs = wipe σ vs → Q σ' H'
def DGs (X : Cx) (vs : List Nat) (t : List Expr) (g : GMs) : Prop := PGs X t (TGs_ X.K vs g)
theorem PGs.imp {X : Cx} {e : List Expr} {t t' : TGs} (h : PGs X e t) (k : ∀ v σ H Q, t' v σ H Q → t v σ H Q) : PGs X e t' := ⟨fun pins s σ H v u Q I r q => h.run pins s σ H v u Q I r (k v σ H Q q)⟩
def gNl : GMs := fun d s h => match d with
  | [] => some (s, h)
  | _ => none
def gCn (g : GM) (gs : GMs) : GMs := fun d s h => match d with
  | x :: xs => (g x s h).bind fun p => gs xs p.1 p.2
  | _ => none
theorem dgs_nil {vs : List Nat} : DGs X vs [] gNl := PGs.imp pgs_nil fun v σ H Q ⟨w, d, s, h, s', h', rv, rs, hw, e, q⟩ => by
  unfold gNl at e
  split at e
  · cases e
    cases rv
    exact ⟨rfl, q w σ H (.refl w) rs hw rfl⟩
  · cases e
theorem dgs_cons {vs : List Nat} {t : Expr} {ts : List Expr} {g : GM} {gs : GMs} (h1 : DG X vs t g) (h2 : DGs X vs ts gs) (hs : (assignEach (t :: ts) X.env).map (·.2) = assign t X.env :: (assignEach ts X.env).map (·.2) := by rfl) : DGs X vs (t :: ts) (gCn g gs) :=
  PGs.imp (pgs_cons h1 h2 hs) fun v σ H Q ⟨w, d, s, h, s', h', rv, rs, hw, e, q⟩ => by
    unfold gCn at e
    split at e
    · simp only [Option.bind_eq_some_iff] at e
      obtain ⟨⟨s1, h1⟩, e1, e2⟩ := e
      cases rv with
      | cons r rr =>
        exact ⟨_, _, rfl, w, _, s, h, s1, h1, r, rs, hw, e1, fun w1 σ1 H1 l1 rs1 hw1 k1 => ⟨w1, _, s1, h1, s', h', rr.mono l1, rs1, hw1, e2, fun w2 σ2 H2 l2 rs2 hw2 k2 => q w2 σ2 H2 (l1.trans l2) rs2 hw2 (k2.trans k1)⟩⟩
    · cases e
/-- (a, b, ..) = a tuple -/
def gTp (n : Nat) (gs : GMs) : GM := fun d s h => match d with
  | .tup l => if decide (l.length = n) = true then gs l s h else none
  | _ => none
theorem dg_tup {vs : List Nat} {ts : List Expr} {k n : Nat} {gs : GMs} (hc : X.calm = true) (h : DGs X vs ts gs) (hn : (assignEach ts X.env).length = n := by rfl) (hst : (assignEach ts X.env).findIdx? (·.1) = none := by rfl) : DG X vs (.Tuple ts k pos) (gTp n gs) :=
  PG.imp (pg_tup hc h hn hst) fun v σ H Q ⟨w, d, s, h, s', h', rv, rs, hw, e, q⟩ => by
    unfold gTp at e
    split at e
    · split at e
      · rename_i z
        obtain ⟨a, us, rfl, s1, q1⟩ := seqT_ok hw rv rfl
        exact ⟨a, us, rfl, s1, q1.length.trans (of_decide_eq_true z), w, _, s, h, s', h', q1, rs, hw, e, q⟩
      · cases e
    · cases e
/-- o[i] = .. of a list that may change -/
def gSb (o i : EM) : GM := fun d s h => match o s h with
  | .ok (.ref n) h1 => match i s h1 with
    | .ok (.int k) h2 => match h2[n]? with
      | some (.lst l) => (ixN l.length k).map fun j => (s, h2.set n (.lst (l.set j d)))
      | _ => none
    | _ => none
  | _ => none
theorem dg_sub {vs : List Nat} {o i : Expr} {mo mi : EM} (ho : DE X W o mo) (hi : DE X W i mi)
    (ha : ∀ v, assign (.Subscript o i pos) X.env v = (do
      let ov ← holding [v] (eval o X.env)
      let iv ← holding [v, ov] (eval i X.env)
      standAt pos
      holding [v, ov, iv] (setItem ov iv v)
      release [v, ov, iv] []) := by intro _; rfl) : DG X vs (.Subscript o i pos) (gSb mo mi) :=
  PG.imp (pg_sub ho hi set_list ha) fun v σ H Q ⟨w, d, s, h, s', h', rv, rs, hw, e, q⟩ => by
    unfold gSb at e
    split at e
    · rename_i n h1 e1
      split at e
      · rename_i k h2 e2
        split at e
        · rename_i l e3
          simp only [Option.map_eq_some_iff, Prod.mk.injEq] at e
          obtain ⟨j, e4, rfl, rfl⟩ := e
          refine ⟨w, s, h, rs, hw, ?_⟩
          rw [e1]
          refine fun w1 x H1 l1 rx hw1 => ⟨w1, s, h1, rs.mono l1, hw1, ?_⟩
          rw [e2]
          refine fun w2 y H2 l2 ry hw2 => ?_
          cases ry
          obtain ⟨a, us, rfl, ea, s1, q1⟩ := refL_ok hw2 (rx.mono l2) e3
          exact ⟨a, us, k, j, rfl, rfl, s1, by rw [q1.length]; exact e4, q w2 σ _ (l1.trans l2) (rs.mono (l1.trans l2)) (hw2.set ea (List.getElem?_eq_some_iff.mp e3).1 (.lst (q1.set ((rv.mono (l1.trans l2))) j))) rfl⟩
        · cases e
      · cases e
    · cases e
def sAsg (m : EM) (g : GM) : SM := fun s h => (m s h).q s fun d h1 => match g d s h1 with
  | some (s', h') => .nx s' h'
  | none => .no
theorem ds_asg {tg : Expr} {g : GM} {vs : List Nat} (he : DE X W e me) (hg : DG X vs tg g) (hs : swapsWithSole [tg] e pos.line X.env = pure false := by rfl) (hw : swappedStores [tg] e X.env = pure none := by rfl)
    (h1 : (assignEach [tg] X.env).map (·.2) = [assign tg X.env] := by rfl) : DS X W (.Assign [tg] e pos) (sAsg me g) := PS.imp (ps_asg he hg hs hw h1) fun D σ H ⟨w, s, h, rs, hw, q⟩ =>
  ⟨w, s, h, rs, hw, WpS.q rs q fun d h1 w1 v H1 l rv hw1 q1 => by
    split at q1
    · rename_i s' h' e
      exact ⟨w1, d, s, h1, s', h', rv, rs.mono l, hw1, e, fun w2 σ2 H2 l2 rs2 hw2 _ => q1 w2 σ2 H2 l2 rs2 hw2⟩
    · exact q1.elim⟩
def sSet (i : Nat) (m : EM) : SM := fun s h => (m s h).q s fun d h1 => .nx (s.set i (some d)) h1
theorem ds_set {i : Nat} {x : Str} {pos' : Pos} (hN : X.N.Nodup) (hi : X.N[i]? = some x) (hx : Loc X.env.scope x) (he : DE X W e me) (hs : swapsWith e (some (.Name x pos')) pos.line X.env = pure false := by rfl) (hf : X.fn x = true ∨ X.env.scope.names.lookup x = some .local := by first | exact .inl rfl | exact .inr rfl | assumption) :
    DS X W (.Assign [.Name x pos'] e pos) (sSet i me) := PS.imp (ps_set hN hi hx he hs hf) fun D σ H ⟨w, s, h, rs, hw, q⟩ =>
  ⟨w, s, h, rs, hw, WpS.q rs q fun d h1 w1 v H1 l rv hw1 q1 => q1 w1 _ H1 (.refl w1) ((rs.mono l).set rv) hw1⟩
/-- a, b = x, y; a, b, c = x, y, z -/
def sPar (i j : Nat) (m : AM) : SM := fun s h => (m s h).q s fun l h1 => match l with
  | [x, y] => .nx ((s.set i (some x)).set j (some y)) h1
  | _ => .no
theorem ds_par {i j : Nat} {x y : Str} {a b : Expr} {ma : AM} {px py pt : Pos} {kt k2 pt2} (hc : X.calm = true) (hN : X.N.Nodup) (hi : X.N[i]? = some x) (hj : X.N[j]? = some y) (hij : i ≠ j)
    (hx : X.env.scope.names.lookup x = some .local) (hy : X.env.scope.names.lookup y = some .local) (ha : DA X W [a, b] ma)
    (hw : swappedStores [.Tuple [.Name x px, .Name y py] kt pt] (.Tuple [a, b] k2 pt2) X.env = pure (some [x, y]))
    (hs : swapsWithSole [.Tuple [.Name x px, .Name y py] kt pt] (.Tuple [a, b] k2 pt2) pos.line X.env = pure false := by rfl) :
    DS X W (.Assign [.Tuple [.Name x px, .Name y py] kt pt] (.Tuple [a, b] k2 pt2) pos) (sPar i j ma) := PS.imp (ps_par hc hN hi hj hij hx hy ha hw hs) fun D σ H ⟨w, s, h, rs, hw, q⟩ =>
  ⟨w, s, h, rs, hw, WpS.qA rs q fun l h1 w1 v H1 l1 rv hw1 q1 => by
    split at q1
    · obtain ⟨x, y, rfl, r1, r2⟩ := rv2 rv
      exact ⟨x, y, rfl, q1 w1 _ H1 (.refl w1) (((rs.mono l1).set r1).set r2) hw1⟩
    · exact q1.elim⟩
/-- x op= e -/
def sAug (i : Nat) (g : O2) (m : EM) : SM := fun s h => match s[i]? with
  | some (some x) => (m s h).q s fun y h1 => match g h1 x y with
    | some d => .nx (s.set i (some d)) h1
    | none => .no
  | _ => .no
def IPD (X : Cx) (op : Operator) (g : O2) : Prop := PIp X op (rO X.K g)
theorem ds_aug {i : Nat} {x : Str} {op : Operator} {g : O2} {pos' : Pos} (hN : X.N.Nodup) (hi : X.N[i]? = some x) (hx : Loc X.env.scope x) (he : DE X W e me) (ho : IPD X op g) (hf : X.fn x = true ∨ X.env.scope.names.lookup x = some .local := by first | exact .inl rfl | exact .inr rfl | assumption) :
    DS X W (.AugAssign (.Name x pos') op e pos) (sAug i g me) := PS.imp (ps_aug hN hi hx he ho hf) fun D σ H ⟨w, s, h, rs, hw, q⟩ => by
  unfold sAug at q
  split at q
  · rename_i x0 e0
    obtain ⟨u, h1, h2⟩ := rs.2 i x0 e0
    refine ⟨u, h1, w, s, h, rs, hw, WpS.q rs q fun d h1 w1 v H1 l rv hw1 q1 => ?_⟩
    split at q1
    · rename_i d' e'
      exact ⟨w1, h1, x0, d, d', h2.mono l, rv, hw1, e', fun w2 z H2 l2 rz hw2 => q1 w2 _ H2 l2 ((rs.mono (l.trans l2)).set rz) hw2⟩
    · exact q1.elim
  · exact q.elim
def oAddI : O2 := fun _ x y => match x, y with
  | .int i, .int j => some (.int (i + j))
  | _, _ => none
theorem ipd_add : IPD X .Add oAddI := by
  intro pins s σ H x y v u Q I rx ry ⟨w, h, dx, dy, d, r1, r2, hw, e, q⟩
  unfold oAddI at e
  split at e
  · cases r1; cases r2; cases e
    exact ip_add pins s σ H _ _ v u Q I rx ry ⟨_, _, rfl, rfl, Pv.here q hw (.int _)⟩
  · cases e
theorem ipd_sub : IPD X .Sub oSub := by
  intro pins s σ H x y v u Q I rx ry ⟨w, h, dx, dy, d, r1, r2, hw, e, q⟩
  unfold oSub at e
  split at e
  · cases r1; cases r2; cases e
    exact ip_sub pins s σ H _ _ v u Q I rx ry ⟨_, _, rfl, rfl, Pv.here q hw (.int _)⟩
  · cases e

/-! ### while -/
def whileM : Nat → BM → SM → SM
  | 0, _, _ => fun _ _ => .no
  | n + 1, t, b => fun s h => (t s h).q s fun k h1 => if k = true then (match b s h1 with
    | .nx s' h' => whileM n t b s' h'
    | .ct s' h' => whileM n t b s' h'
    | .bk s' h' => .nx s' h'
    | r => r) else .nx s h1
theorem te_while {K : PySem.W.Frag} {t : BM} {b : SM} {D : Ends} {σ : St} {H : Hp} (n : Nat) (q : TS_ K W (whileM n t b) D σ H) : tWhile (TB_ K W t) (TS_ K W b) D σ H := by
  refine ⟨fun m σ H => TS_ K W (whileM m t b) D σ H, ⟨n, q⟩, ?_⟩
  rintro m σ H ⟨w, s, h, rs, hw, q⟩
  cases m with
  | zero => exact False.elim q
  | succ m =>
    refine ⟨w, s, h, rs, hw, WpS.qB rs q fun k h1 w1 H1 l hw1 q1 => ?_⟩
    cases k with
    | true =>
      refine iteT ⟨TS_ K W (whileM m t b) D, fun σ' H' z => ⟨m, Nat.lt_succ_self m, z⟩, w1, s, h1, rs.mono l, hw1, ?_⟩
      rw [if_pos rfl] at q1
      revert q1
      cases b s h1 with
      | nx s' h' => exact fun q1 w2 σ2 H2 l2 rs2 hw2 => ⟨w2, s', h', rs2, hw2, WpS.mono l2 q1⟩
      | ct s' h' => exact fun q1 w2 σ2 H2 l2 rs2 hw2 => ⟨w2, s', h', rs2, hw2, WpS.mono l2 q1⟩
      | bk s' h' => exact fun q1 => q1
      | rt d h' => exact fun q1 => q1
      | ex x s' h' => exact fun q1 => q1
      | no => exact fun q1 => q1
    | false => exact iteF (q1 w1 σ H1 (.refl w1) (rs.mono l) hw1)
theorem ds_while {c : Expr} {body : List Stmt} {mc : BM} (n : Nat) (hp : PassesOwn (model X.prog X.w) X.A X.env X.xe) (hc : DT X W c mc) (hb : DSs X W body m) : DS X W (.While c body [] pos) (whileM n mc m) := PS.imp (ps_while hp hc hb) fun D σ H q => te_while n q

end
end DN
namespace DN
open PySem L2

/-! ### what is walked: a stream of items; none: not known -/
abbrev Strm := LH → Nat → Option (Option D)
abbrev IM := Sg → LH → R Strm
def ItOk (K : PySem.W.Frag) (w : Wd) (J : It) (f : Strm) : Prop := ∀ (i : Nat) (w1 : Wd) (H1 : Hp) (h1 : LH), w.le w1 → HW K w1 H1 h1 →
  (∀ d, f h1 i = some (some d) → J.go i H1 ∧ ∀ x H2, J.yld i H1 x H2 → ∃ w2, w1.le w2 ∧ HW K w2 H2 h1 ∧ RV K w2 x d) ∧ (f h1 i = some none → J.stop i H1)
def WpI (K : PySem.W.Frag) (w : Wd) (Q : It → Hp → Prop) (W : XK) : R Strm → Prop
  | .ok f h => ∀ w' H' J, w.le w' → HW K w' H' h → ItOk K w' J f → Q J H'
  | .ex x h => Px K w W x h
  | .no => False
def TI_ (K : PySem.W.Frag) (W : WX) (m : IM) : TI := fun σ H R => ∃ w s h, RS K w σ s ∧ HW K w H h ∧ WpI K w R (fun c d H => W c d σ H) (m s h)
def DI (X : Cx) (W : WX) (tg it : Expr) (m : IM) : Prop := PI X tg it (TI_ X.K W m)
theorem PI.imp {X : Cx} {a b : Expr} {t t' : TI} (h : PI X a b t) (k : ∀ σ H R, t' σ H R → t σ H R) : PI X a b t' := ⟨fun pins s σ H R I q => h.run pins s σ H R I (k σ H R q)⟩
/-- of a fixed list of items; of a list that may change -/
def fixS (l : List D) : Strm := fun _ i => some l[i]?
def refS (n : Nat) : Strm := fun h i => match h[n]? with
  | some (.lst l) => some l[i]?
  | _ => none
section
variable {K : PySem.W.Frag} {w w1 : Wd}
theorem ItOk.of_fix {J : It} {l : List D} (h : ∀ (i : Nat) (w1 : Wd) (H1 : Hp) (h1 : LH), w.le w1 → HW K w1 H1 h1 → (∀ d, l[i]? = some d → J.go i H1 ∧ ∀ x H2, J.yld i H1 x H2 → ∃ w2, w1.le w2 ∧ HW K w2 H2 h1 ∧ RV K w2 x d) ∧ (l.length ≤ i → J.stop i H1)) : ItOk K w J (fixS l) := fun i w1 H1 h1 l1 hw1 =>
  ⟨fun d e => (h i w1 H1 h1 l1 hw1).1 d (Option.some.inj e), fun e => (h i w1 H1 h1 l1 hw1).2 (List.getElem?_eq_none_iff.mp (Option.some.inj e))⟩
theorem fix_itl {a : Addr} {vs : List V} {l : List D} (hS : ∀ w1 H1 h1, w.le w1 → HW K w1 H1 h1 → SqL K H1 a vs) (r : RVs K w vs l) : ItOk K w (Itl K a) (fixS l) := ItOk.of_fix fun i w1 H1 h1 l1 hw1 => by
  refine ⟨fun d e => ?_, fun e => ⟨vs, hS w1 H1 h1 l1 hw1, by rw [r.length]; exact e⟩⟩
  obtain ⟨v, e1, rv⟩ := r.get e
  refine ⟨⟨vs, v, hS w1 H1 h1 l1 hw1, e1⟩, fun x H2 ⟨e2, e3⟩ => ?_⟩
  subst e2
  have ex := e3 vs (hS w1 H2 h1 l1 hw1)
  rw [e1] at ex
  cases ex
  exact ⟨w1, .refl w1, hw1, rv.mono l1⟩
theorem fix_itt {a : Addr} {vs : List V} {l : List D} (hS : ∀ w1 H1 h1, w.le w1 → HW K w1 H1 h1 → SqT K H1 a vs) (r : RVs K w vs l) : ItOk K w (Itt K a) (fixS l) := ItOk.of_fix fun i w1 H1 h1 l1 hw1 => by
  refine ⟨fun d e => ?_, fun e => ⟨vs, hS w1 H1 h1 l1 hw1, by rw [r.length]; exact e⟩⟩
  obtain ⟨v, e1, rv⟩ := r.get e
  refine ⟨⟨vs, v, hS w1 H1 h1 l1 hw1, e1⟩, fun x H2 ⟨e2, e3⟩ => ?_⟩
  subst e2
  have ex := e3 vs (hS w1 H2 h1 l1 hw1)
  rw [e1] at ex
  cases ex
  exact ⟨w1, .refl w1, hw1, rv.mono l1⟩
theorem at_mono {n : Nat} {a : Addr} (l : w.le w1) (e : w.at_[n]? = some a) : w1.at_[n]? = some a := by
  obtain ⟨t, q⟩ := l.2.1
  rw [← q, List.getElem?_append_left (List.getElem?_eq_some_iff.mp e).1]; exact e
theorem ref_itl {a : Addr} {n : Nat} (ea : w.at_[n]? = some a) : ItOk K w (Itl K a) (refS n) := by
  intro i w1 H1 h1 l1 hw1
  have key : ∀ o, refS n h1 i = some o → ∃ l vs, h1[n]? = some (.lst l) ∧ H1 a = some (.lst vs) ∧ RVs K w1 vs l ∧ o = l[i]? := fun o e => by
    unfold refS at e
    split at e
    · rename_i l el
      cases e
      obtain ⟨u, h2, h3⟩ := hw1.ats n a _ (at_mono l1 ea) el
      cases h3 with
      | lst r => exact ⟨l, _, el, h2, r, rfl⟩
    · cases e
  refine ⟨fun d e => ?_, fun e => ?_⟩
  · obtain ⟨l, vs, el, h2, r, e1⟩ := key _ e
    obtain ⟨v, e1, rv⟩ := r.get e1.symm
    refine ⟨⟨vs, v, .inl (.inl h2), e1⟩, fun x H2 ⟨e2, e3⟩ => ?_⟩
    subst e2
    have ex := e3 _ (.inl (.inl h2))
    rw [e1] at ex
    cases ex
    exact ⟨w1, .refl w1, hw1, rv⟩
  · obtain ⟨l, vs, el, h2, r, e1⟩ := key _ e
    exact ⟨vs, .inl (.inl h2), by rw [r.length]; exact List.getElem?_eq_none_iff.mp e1.symm⟩
theorem rng_it {lo : Int} {n : Nat} : ItOk K w (Itr lo n) (fixS ((List.range n).map fun (k : Nat) => D.int (lo + (k : Int)))) := ItOk.of_fix fun i w1 H1 h1 l1 hw1 => by
  refine ⟨fun d e => ?_, fun e => show n ≤ i by simpa using e⟩
  rw [List.getElem?_map] at e
  simp only [Option.map_eq_some_iff] at e
  obtain ⟨k, e1, rfl⟩ := e
  obtain ⟨hi, e1⟩ := List.getElem?_eq_some_iff.mp e1
  simp at hi e1
  subst e1
  refine ⟨hi, fun x H2 ⟨e2, e3⟩ => ?_⟩
  subst e2 e3
  exact ⟨w1, .refl w1, hw1, .int _⟩
def signs (z : Str) : List D := z.cps.toList.map fun c => .str ⟨#[c]⟩
theorem str_it {z : Str} : ItOk K w (Its z) (fixS (signs z)) := ItOk.of_fix fun i w1 H1 h1 l1 hw1 => by
  refine ⟨fun d e => ?_, fun e => show z.cps.size ≤ i by simpa [signs] using e⟩
  unfold signs at e
  rw [List.getElem?_map] at e
  simp only [Option.map_eq_some_iff] at e
  obtain ⟨c, e1, rfl⟩ := e
  have hi : i < z.cps.size := by simpa using (List.getElem?_eq_some_iff.mp e1).1
  refine ⟨hi, fun x H2 ⟨e2, c', e3, e4⟩ => ?_⟩
  subst e2 e4
  have : c' = c := by
    rw [Array.getElem?_toList] at e1
    rw [e1] at e3
    exact (Option.some.inj e3).symm
  subst this
  exact ⟨w1, .refl w1, hw1, .str _⟩
end
section
variable {X : Cx} {W : WX} {tg e : Expr} {me : EM}
/-- for x in a list; in a tuple; in a text -/
def iVal (m : EM) : IM := fun s h => (m s h).bind fun d h1 => match d with
  | .lst l => .ok (fixS l) h1
  | .kst l => .ok (fixS l) h1
  | .ref n => match h1[n]? with
    | some (.lst _) => .ok (refS n) h1
    | _ => .no
  | _ => .no
def iTupV (m : EM) : IM := fun s h => (m s h).bind fun d h1 => match d with
  | .tup l => .ok (fixS l) h1
  | _ => .no
def iStrV (m : EM) : IM := fun s h => (m s h).bind fun d h1 => match d with
  | .str z => .ok (fixS (signs z)) h1
  | _ => .no
theorem di_val (he : DE X W e me) : DI X W tg e (iVal me) := PI.imp (pi_list he) fun σ H R ⟨w, s, h, rs, hw, q⟩ =>
  ⟨w, s, h, rs, hw, WpE.bind (G := WpI X.K w R _) q (fun _ _ z => z) (fun z => z) fun d h1 w1 v H1 l rv hw1 q1 => by
    cases rv with
    | lst z r => exact ⟨_, rfl, ⟨_, .inl (.inl (hw1.fz _ _ z))⟩, q1 w1 H1 _ l hw1 (fix_itl (fun w2 H2 h2 l2 hw2 => .inl (.inl (hw2.fz _ _ (l2.1 _ _ z)))) r)⟩
    | @kst a vs ds z r =>
      refine ⟨a, rfl, ⟨vs, ?_⟩, q1 w1 H1 _ l hw1 (fix_itl (vs := vs) (fun w2 H2 h2 l2 hw2 => ?_) r)⟩
      · rcases z with ⟨o, z⟩ | z
        · exact .inl (.inr ⟨o, hw1.fz _ _ z⟩)
        · exact .inr z
      · rcases z with ⟨o, z⟩ | z
        · exact .inl (.inr ⟨o, hw2.fz _ _ (l2.1 _ _ z)⟩)
        · exact .inr z
    | @ref a n z =>
      dsimp only at q1
      split at q1
      · rename_i l0 e0
        obtain ⟨o, z1, z2⟩ := hw1.ats n a _ z e0
        cases z2 with
        | lst r => exact ⟨a, rfl, ⟨_, .inl (.inl z1)⟩, q1 w1 H1 _ l hw1 (ref_itl z)⟩
      · exact q1.elim
    | _ => exact q1.elim⟩
theorem di_tup (he : DE X W e me) : DI X W tg e (iTupV me) := PI.imp (pi_tup he) fun σ H R ⟨w, s, h, rs, hw, q⟩ =>
  ⟨w, s, h, rs, hw, WpE.bind (G := WpI X.K w R _) q (fun _ _ z => z) (fun z => z) fun d h1 w1 v H1 l rv hw1 q1 => by
    cases rv with
    | tup z r =>
      have hS : ∀ w2 H2 h2, w1.le w2 → HW X.K w2 H2 h2 → SqT X.K H2 _ _ := fun w2 H2 h2 l2 hw2 => z.elim (fun z => .inl (.inl (hw2.fz _ _ (l2.1 _ _ z)))) .inr
      exact ⟨_, rfl, ⟨_, hS w1 H1 h1 (.refl w1) hw1⟩, q1 w1 H1 _ l hw1 (fix_itt hS r)⟩
    | _ => exact q1.elim⟩
theorem di_str (he : DE X W e me) : DI X W tg e (iStrV me) := PI.imp (pi_str he) fun σ H R ⟨w, s, h, rs, hw, q⟩ =>
  ⟨w, s, h, rs, hw, WpE.bind (G := WpI X.K w R _) q (fun _ _ z => z) (fun z => z) fun d h1 w1 v H1 l rv hw1 q1 => by
    cases rv with
    | str z => exact ⟨_, rfl, q1 w1 H1 _ l hw1 str_it⟩
    | _ => exact q1.elim⟩
/-- range(n), range(a, b) -/
def rngL (lo : Int) (n : Nat) : List D := (List.range n).map fun (k : Nat) => D.int (lo + (k : Int))
def inRng (j : Int) : Bool := decide (-(2 ^ 62) ≤ j ∧ j < 2 ^ 62)
def iRng1 (m : AM) : IM := fun s h => (m s h).bind fun l h1 => match l with
  | [.int j] => if inRng j = true then .ok (fixS (rngL 0 j.toNat)) h1 else .no
  | _ => .no
def iRng2 (m : AM) : IM := fun s h => (m s h).bind fun l h1 => match l with
  | [.int i, .int j] => if (inRng i && inRng j) = true then .ok (fixS (rngL i (j - i).toNat)) h1 else .no
  | _ => .no
theorem di_rng1 {a : Expr} {ma : AM} {p pos : Pos} (hg : Gl X "range") (hm : X.mg "range" = none) (ha : DA X W [a] ma) (hs : starEach [a] X.env = [(false, eval a X.env)] := by rfl) : DI X W tg (.Call (.Name "range" p) [a] [] pos) (iRng1 ma) :=
  PI.imp (pi_range1 hg hm ha hs) fun σ H R ⟨w, s, h, rs, hw, q⟩ => ⟨w, s, h, rs, hw, WpA.bind (G := WpI X.K w R _) q (fun _ _ z => z) (fun z => z) fun l h1 w1 v H1 l1 rv hw1 q1 => by
    split at q1
    · obtain ⟨u, rfl, ru⟩ := rv1 rv
      cases ru
      split at q1
      · rename_i z
        obtain ⟨z1, z2⟩ := of_decide_eq_true z
        exact ⟨_, rfl, z1, z2, q1 w1 H1 _ l1 hw1 rng_it⟩
      · exact q1.elim
    · exact q1.elim⟩
theorem di_rng2 {a b : Expr} {ma : AM} {p pos : Pos} (hg : Gl X "range") (hm : X.mg "range" = none) (ha : DA X W [a, b] ma) (hs : starEach [a, b] X.env = [(false, eval a X.env), (false, eval b X.env)] := by rfl) (hs2 : starEach [b] X.env = [(false, eval b X.env)] := by rfl) :
    DI X W tg (.Call (.Name "range" p) [a, b] [] pos) (iRng2 ma) :=
  PI.imp (pi_range2 hg hm ha hs hs2) fun σ H R ⟨w, s, h, rs, hw, q⟩ => ⟨w, s, h, rs, hw, WpA.bind (G := WpI X.K w R _) q (fun _ _ z => z) (fun z => z) fun l h1 w1 v H1 l1 rv hw1 q1 => by
    split at q1
    · obtain ⟨u, u2, rfl, ru, ru2⟩ := rv2 rv
      cases ru
      cases ru2
      split at q1
      · rename_i z
        rw [Bool.and_eq_true] at z
        obtain ⟨z1, z2⟩ := of_decide_eq_true z.1
        obtain ⟨z3, z4⟩ := of_decide_eq_true z.2
        exact ⟨_, _, rfl, ⟨z1, z2, z3, z4⟩, q1 w1 H1 _ l1 hw1 rng_it⟩
      · exact q1.elim
    · exact q1.elim⟩
/-- enumerate(xs), zip(xs, ys) of lists: pairs are new tuples -/
def enumL (l : List D) : List D := (List.range l.length).map fun i => .tup [.int (i : Nat), l.getD i .non]
def zipL : List D → List D → List D
  | x :: xs, y :: ys => .tup [x, y] :: zipL xs ys
  | _, _ => []
def listOf (h : LH) : D → Option (List D)
  | .lst l => some l
  | .kst l => some l
  | _ => none
theorem listOf_ok {K : PySem.W.Frag} {w : Wd} {v : V} {d : D} {l : List D} {h : LH} (r : RV K w v d) (e : listOf h d = some l) : ∃ a vs, v = .ref a ∧ RVs K w vs l ∧ ∀ w1 H1 h1, w.le w1 → HW K w1 H1 h1 → SqL K H1 a vs := by
  cases r with
  | lst z r => cases e; exact ⟨_, _, rfl, r, fun w2 H2 h2 l2 hw2 => .inl (.inl (hw2.fz _ _ (l2.1 _ _ z)))⟩
  | @kst a vs ds z r =>
    cases e
    refine ⟨a, vs, rfl, r, fun w2 H2 h2 l2 hw2 => ?_⟩
    rcases z with ⟨o, z⟩ | z
    · exact .inl (.inr ⟨o, hw2.fz _ _ (l2.1 _ _ z)⟩)
    · exact .inr z
  | _ => cases e
def iEnumM (m : AM) : IM := fun s h => (m s h).bind fun l h1 => match l with
  | [d] => match listOf h1 d with
    | some l => .ok (fixS (enumL l)) h1
    | none => .no
  | _ => .no
theorem enum_it {K : PySem.W.Frag} {w : Wd} {a : Addr} {vs : List V} {l : List D} (hS : ∀ w1 H1 h1, w.le w1 → HW K w1 H1 h1 → SqL K H1 a vs) (r : RVs K w vs l) : ItOk K w (Ite K a) (fixS (enumL l)) := ItOk.of_fix fun i w1 H1 h1 l1 hw1 => by
  refine ⟨fun d e => ?_, fun e => ⟨vs, hS w1 H1 h1 l1 hw1, by rw [r.length]; simpa [enumL] using e⟩⟩
  unfold enumL at e
  rw [List.getElem?_map] at e
  simp only [Option.map_eq_some_iff] at e
  obtain ⟨k, e1, rfl⟩ := e
  obtain ⟨hi, e1⟩ := List.getElem?_eq_some_iff.mp e1
  simp at hi e1
  subst e1
  obtain ⟨v, e2, rv⟩ := r.get (List.getElem?_eq_getElem hi)
  refine ⟨⟨vs, v, hS w1 H1 h1 l1 hw1, e2⟩, fun x H2 ⟨T, y, e3, e4, e5, e6⟩ => ?_⟩
  subst e3 e5
  have ey := e6 vs (hS w1 H1 h1 l1 hw1)
  rw [e2] at ey
  cases ey
  refine ⟨_, Wd.le_add, hw1.add e4, .tup (.inl (.inr ⟨rfl, rfl⟩)) (.cons (.int _) (.cons ?_ .nil))⟩
  rw [List.getD_eq_getElem?_getD, List.getElem?_eq_getElem hi]
  exact (rv.mono l1).mono Wd.le_add
theorem di_enum {e : Expr} {ma : AM} {p pos tpos : Pos} {elts : List Expr} {kk : Nat} (hg : Gl X "enumerate") (hm : X.mg "enumerate" = none) (ha : DA X W [e] ma) (hs : starEach [e] X.env = [(false, eval e X.env)] := by rfl) :
    DI X W (.Tuple elts kk tpos) (.Call (.Name "enumerate" p) [e] [] pos) (iEnumM ma) := PI.imp (pi_enum hg hm ha hs) fun σ H R ⟨w, s, h, rs, hw, q⟩ =>
  ⟨w, s, h, rs, hw, WpA.bind (G := WpI X.K w R _) q (fun _ _ z => z) (fun z => z) fun l h1 w1 v H1 l1 rv hw1 q1 => by
    split at q1
    · obtain ⟨u, rfl, ru⟩ := rv1 rv
      split at q1
      · rename_i l0 e0
        obtain ⟨a, vs, rfl, r, hS⟩ := listOf_ok ru e0
        exact ⟨a, vs, rfl, hS w1 H1 h1 (.refl w1) hw1, q1 w1 H1 _ l1 hw1 (enum_it hS r)⟩
      · exact q1.elim
    · exact q1.elim⟩
theorem zipL_get : ∀ {xs ys : List D} {i : Nat} {d : D}, (zipL xs ys)[i]? = some d → ∃ x y, xs[i]? = some x ∧ ys[i]? = some y ∧ d = .tup [x, y]
  | [], _, _, _, e => by simp [zipL] at e
  | _ :: _, [], _, _, e => by simp [zipL] at e
  | x :: xs, y :: ys, 0, d, e => by
    simp [zipL] at e
    exact ⟨x, y, rfl, rfl, e.symm⟩
  | x :: xs, y :: ys, i + 1, d, e => by
    simp [zipL] at e
    simpa using zipL_get e
theorem zipL_len : ∀ (xs ys : List D), (zipL xs ys).length = min xs.length ys.length
  | [], _ => by simp [zipL]
  | _ :: _, [] => by simp [zipL]
  | x :: xs, y :: ys => by simp [zipL, zipL_len xs ys]
def iZipM (m : AM) : IM := fun s h => (m s h).bind fun l h1 => match l with
  | [x, y] => match listOf h1 x, listOf h1 y with
    | some xs, some ys => .ok (fixS (zipL xs ys)) h1
    | _, _ => .no
  | _ => .no
theorem zip_it {K : PySem.W.Frag} {w : Wd} {a b : Addr} {vs us : List V} {xs ys : List D} (hS : ∀ w1 H1 h1, w.le w1 → HW K w1 H1 h1 → SqL K H1 a vs) (hT : ∀ w1 H1 h1, w.le w1 → HW K w1 H1 h1 → SqL K H1 b us) (r : RVs K w vs xs) (r' : RVs K w us ys) : ItOk K w (Itz K a b) (fixS (zipL xs ys)) := ItOk.of_fix fun i w1 H1 h1 l1 hw1 => by
  refine ⟨fun d e => ?_, fun e => ⟨vs, us, hS w1 H1 h1 l1 hw1, hT w1 H1 h1 l1 hw1, ?_⟩⟩
  · obtain ⟨x, y, e1, e2, rfl⟩ := zipL_get e
    obtain ⟨v, z1, z2⟩ := r.get e1
    obtain ⟨u, y1, y2⟩ := r'.get e2
    refine ⟨⟨vs, us, v, u, hS w1 H1 h1 l1 hw1, hT w1 H1 h1 l1 hw1, z1, y1⟩, fun x H2 ⟨T, p, q, e3, e4, e5, e6, e7⟩ => ?_⟩
    subst e3 e5
    have ey := e6 vs (hS w1 H1 h1 l1 hw1)
    rw [z1] at ey
    cases ey
    have ey := e7 us (hT w1 H1 h1 l1 hw1)
    rw [y1] at ey
    cases ey
    exact ⟨_, Wd.le_add, hw1.add e4, .tup (.inl (.inr ⟨rfl, rfl⟩)) (.cons ((z2.mono l1).mono Wd.le_add) (.cons ((y2.mono l1).mono Wd.le_add) .nil))⟩
  · rw [zipL_len] at e
    rw [r.length, r'.length]
    omega
theorem di_zip {e e2 : Expr} {ma : AM} {p pos tpos : Pos} {elts : List Expr} {kk : Nat} (hg : Gl X "zip") (hm : X.mg "zip" = none) (ha : DA X W [e, e2] ma)
    (hs : starEach [e, e2] X.env = (false, eval e X.env) :: starEach [e2] X.env := by rfl) (hpl : (backTo pos (starEach [e2] X.env)).any (·.1) = false := by rfl) :
    DI X W (.Tuple elts kk tpos) (.Call (.Name "zip" p) [e, e2] [] pos) (iZipM ma) := PI.imp (pi_zip hg hm ha hs hpl) fun σ H R ⟨w, s, h, rs, hw, q⟩ =>
  ⟨w, s, h, rs, hw, WpA.bind (G := WpI X.K w R _) q (fun _ _ z => z) (fun z => z) fun l h1 w1 v H1 l1 rv hw1 q1 => by
    split at q1
    · obtain ⟨u, u2, rfl, ru, ru2⟩ := rv2 rv
      split at q1
      · rename_i xs ys e1 e2
        obtain ⟨a, vs, rfl, r, hS⟩ := listOf_ok ru e1
        obtain ⟨b, us, rfl, r2, hT⟩ := listOf_ok ru2 e2
        exact ⟨a, b, vs, us, rfl, hS w1 H1 h1 (.refl w1) hw1, hT w1 H1 h1 (.refl w1) hw1, q1 w1 H1 _ l1 hw1 (zip_it hS hT r r2)⟩
      · exact q1.elim
    · exact q1.elim⟩

/-! ### for -/
def forS : Nat → Strm → Nat → GM → SM → SM
  | 0, _, _, _, _ => fun _ _ => .no
  | n + 1, f, i, g, b => fun s h => match f h i with
    | none => .no
    | some none => .nx s h
    | some (some d) => match g d s h with
      | none => .no
      | some (s1, h1) => match b s1 h1 with
        | .nx s' h' => forS n f (i + 1) g b s' h'
        | .ct s' h' => forS n f (i + 1) g b s' h'
        | .bk s' h' => .nx s' h'
        | r => r
def forL (g : GM) (b : SM) : List D → SM
  | [] => fun s h => .nx s h
  | d :: ds => fun s h => match g d s h with
    | none => .no
    | some (s1, h1) => match b s1 h1 with
      | .nx s' h' => forL g b ds s' h'
      | .ct s' h' => forL g b ds s' h'
      | .bk s' h' => .nx s' h'
      | r => r
theorem forS_fix (g : GM) (b : SM) (l : List D) : ∀ (n i : Nat), l.length - i < n → forS n (fixS l) i g b = forL g b (l.drop i)
  | 0, i, h => by omega
  | n + 1, i, h => by
    funext s h0
    unfold forS
    cases e : l[i]? with
    | none =>
      have e' := List.getElem?_eq_none_iff.mp e
      rw [List.drop_eq_nil_of_le e']
      simp only [fixS, e, forL]
    | some d =>
      have hi := (List.getElem?_eq_some_iff.mp e).1
      rw [List.drop_eq_getElem_cons hi]
      have ed : l[i] = d := (List.getElem?_eq_some_iff.mp e).2
      simp only [fixS, e, ed, forL]
      rw [forS_fix g b l n (i + 1) (by omega)]
def sFor (n : Nat) (im : IM) (g : GM) (b : SM) : SM := fun s h => (im s h).q s fun f h1 => forS n f 0 g b s h1
theorem te_for {vs : List Nat} {im : IM} {g : GM} {b : SM} {D : Ends} {σ : St} {H : Hp} (n : Nat) (q : TS_ X.K W (sFor n im g b) D σ H) : tFor (TI_ X.K W im) (TG_ X.K vs g) (TS_ X.K W b) D σ H := by
  obtain ⟨w, s, h, rs, hw, q⟩ := q
  refine ⟨w, s, h, rs, hw, ?_⟩
  unfold sFor at q
  revert q
  cases im s h with
  | ex x h1 => exact fun q v c d H' l a q' => q v c d σ H' l (rs.mono l) a q'
  | no => exact fun q => q
  | ok f h1 =>
    intro q w1 H1 J l1 hw1 it
    refine ⟨fun i m σ' H' => ∃ w2 s2 h2, w1.le w2 ∧ RS X.K w2 σ' s2 ∧ HW X.K w2 H' h2 ∧ WpS X.K w2 D W (forS m f i g b s2 h2), ⟨n, w1, s, h1, .refl w1, rs.mono l1, hw1, WpS.mono l1 q⟩, ?_⟩
    rintro i m σ2 H2 ⟨w2, s2, h2, l2, rs2, hw2, q2⟩
    cases m with
    | zero => exact False.elim q2
    | succ m =>
      unfold forS at q2
      obtain ⟨it1, it2⟩ := it i w2 H2 h2 l2 hw2
      split at q2
      · exact q2.elim
      · rename_i e
        exact .inl ⟨it2 e, q2 w2 σ2 H2 (.refl w2) rs2 hw2⟩
      · rename_i d e
        obtain ⟨go, yl⟩ := it1 d e
        refine .inr ⟨go, fun σ' H' => ∃ w3 s3 h3, w1.le w3 ∧ RS X.K w3 σ' s3 ∧ HW X.K w3 H' h3 ∧ WpS X.K w3 D W (forS m f (i + 1) g b s3 h3), fun σ' H' z => ⟨m, Nat.lt_succ_self m, z⟩, fun x H3 y3 => ?_⟩
        obtain ⟨w3, l3, hw3, rv⟩ := yl x H3 y3
        split at q2
        · exact q2.elim
        · rename_i s4 h4 e4
          refine ⟨w3, d, s2, h2, s4, h4, rv, rs2.mono l3, hw3, e4, fun w5 σ5 H5 l5 rs5 hw5 _ => ⟨w5, s4, h4, rs5, hw5, ?_⟩⟩
          have l25 := l3.trans l5
          revert q2
          cases b s4 h4 with
          | nx s' h' => exact fun q1 w6 σ6 H6 l6 rs6 hw6 => ⟨w6, s', h', (l2.trans l25).trans l6, rs6, hw6, WpS.mono (l25.trans l6) q1⟩
          | ct s' h' => exact fun q1 w6 σ6 H6 l6 rs6 hw6 => ⟨w6, s', h', (l2.trans l25).trans l6, rs6, hw6, WpS.mono (l25.trans l6) q1⟩
          | bk s' h' => exact fun q1 => WpS.mono l25 q1
          | rt d h' => exact fun q1 => WpS.mono l25 q1
          | ex x s' h' => exact fun q1 => WpS.mono l25 q1
          | no => exact fun q1 => q1
theorem ds_for {iter : Expr} {body : List Stmt} {vs : List Nat} {im : IM} {g : GM} {b : SM} {pos : Pos} (n : Nat) (hp : PassesOwn (model X.prog X.w) X.A X.env X.xe) (hc : X.calm = true) (hi : DI X W tg iter im) (hg : DG X vs tg g) (hb : DSs X W body b)
    (hs : ∀ x, foldedSetIterable iter X.env x = pure x := by intro _; rfl) : DS X W (.For tg iter body [] pos) (sFor n im g b) := PS.imp (ps_for hp hc hi hg hb hs) fun D σ H q => te_for n q

/-! ### list comprehensions -/
def wipeS (s : Sg) : List Nat → Sg
  | [] => s
  | v :: vs => (wipeS s vs).set v none
theorem RS.wipe {K : PySem.W.Frag} {w : Wd} {σ : St} {s : Sg} (r : RS K w σ s) : ∀ vs : List Nat, RS K w (wipe σ vs) (wipeS s vs)
  | [] => r
  | v :: vs => by
    have ih := RS.wipe r vs
    unfold L2.wipe wipeS
    refine ⟨by simp [ih.1], fun i d e => ?_⟩
    by_cases hj : v = i
    · subst hj
      by_cases hl : v < (wipeS s vs).length
      · rw [List.getElem?_set_self hl] at e; cases e
      · rw [List.getElem?_eq_none (by simpa using hl)] at e; cases e
    · rw [List.getElem?_set_ne hj] at e
      rw [List.getElem?_set_ne hj]
      exact ih.2 i d e
theorem wipe_idem (σ : St) : ∀ vs : List Nat, wipe (wipe σ vs) vs = wipe σ vs := by
  intro vs
  have key : ∀ (us vs : List Nat) (σ : St), (∀ u ∈ vs, u ∈ us) → wipe (wipe σ vs) us = wipe σ us := by
    intro us vs
    induction vs with
    | nil => intro σ _; rfl
    | cons v vs ih =>
      intro σ hs
      show wipe ((wipe σ vs).set v none) us = wipe σ us
      rw [wipe_set_in (hs v List.mem_cons_self), ih σ fun u hu => hs u (List.mem_cons_of_mem _ hu)]
  exact key vs vs σ fun _ h => h
/-- nothing may be raised -/
def R.bindN {α β : Type} (r : R α) (f : α → LH → R β) : R β := match r with
  | .ok a h => f a h
  | _ => .no
@[simp] theorem R.bindN_ok {α β : Type} (a : α) (h : LH) (f : α → LH → R β) : (R.ok a h).bindN f = f a h := rfl
/-- the turns over a stream: what was made so far -/
def lcS (vs : List Nat) (g : GM) (t : BM) (e : EM) (s : Sg) : Nat → Strm → Nat → List D → LH → R (List D)
  | 0, _, _, _, _ => .no
  | n + 1, f, i, acc, h => match f h i with
    | none => .no
    | some none => .ok acc h
    | some (some d) => match g d (wipeS s vs) h with
      | none => .no
      | some (s1, h1) => (t s1 h1).bindN fun k h2 => if k = true then ((e s1 h2).bindN fun y h3 => if decide (acc.length < sizeLine) = true then lcS vs g t e s n f (i + 1) (acc ++ [y]) h3 else .no)
        else lcS vs g t e s n f (i + 1) acc h2
def lcL (vs : List Nat) (g : GM) (t : BM) (e : EM) (s : Sg) : List D → List D → LH → R (List D)
  | [], acc, h => .ok acc h
  | d :: ds, acc, h => match g d (wipeS s vs) h with
    | none => .no
    | some (s1, h1) => (t s1 h1).bindN fun k h2 => if k = true then ((e s1 h2).bindN fun y h3 => if decide (acc.length < sizeLine) = true then lcL vs g t e s ds (acc ++ [y]) h3 else .no)
      else lcL vs g t e s ds acc h2
theorem lcS_fix (vs : List Nat) (g : GM) (t : BM) (e : EM) (s : Sg) (l : List D) : ∀ (n i : Nat), l.length - i < n → lcS vs g t e s n (fixS l) i = lcL vs g t e s (l.drop i)
  | 0, i, h => by omega
  | n + 1, i, h => by
    funext acc h0
    unfold lcS
    cases q : l[i]? with
    | none =>
      have q' := List.getElem?_eq_none_iff.mp q
      rw [List.drop_eq_nil_of_le q']
      simp only [fixS, q, lcL]
    | some d =>
      have hi := (List.getElem?_eq_some_iff.mp q).1
      rw [List.drop_eq_getElem_cons hi]
      have ed : l[i] = d := (List.getElem?_eq_some_iff.mp q).2
      simp only [fixS, q, ed, lcL]
      rw [lcS_fix vs g t e s l n (i + 1) (by omega)]
def mLcG (fin : List D → LH → R D) (n : Nat) (vs : List Nat) (im : IM) (g : GM) (t : BM) (e : EM) : EM := fun s h => (im s h).bind fun f h1 => (lcS vs g t e s n f 0 [] h1).bindN fin
def mLc : Nat → List Nat → IM → GM → BM → EM → EM := mLcG fun l h => .ok (.lst l) h
/-- .. a new list that may change -/
def mLcN : Nat → List Nat → IM → GM → BM → EM → EM := mLcG fun l h => .ok (.ref h.length) (h ++ [.lst l])
/-- what a finished list may be -/
def FinOk (K : PySem.W.Frag) (fin : List D → LH → R D) : Prop := ∀ (w w1 : Wd) (H : Hp) (h : LH) (p : Addr) (us : List V) (l : List D) (Q : VK) (E : XK), w.le w1 → (∀ o, ¬ w.rs p o) → w1.rs p (.lst us) → RVs K w1 us l → HW K w1 H h → WpE K w Q E (fin l h) → Q (.ref p) H
theorem fin_lst {K : PySem.W.Frag} : FinOk K fun l h => .ok (.lst l) h := fun w w1 H h p us l Q E l1 np rp rv hw q =>
  q _ _ _ ((Wd.le_unres l1 np).trans Wd.le_add) (.lst (.inr ⟨rfl, rfl⟩) ((rv.eqv (w := w1) (w' := w1.unres p) rfl rfl).mono Wd.le_add)) (hw.frz rp)
theorem fin_new {K : PySem.W.Frag} : FinOk K fun l h => .ok (.ref h.length) (h ++ [.lst l]) := fun w w1 H h p us l Q E l1 np rp rv hw q =>
  q _ _ _ ((Wd.le_unres l1 np).trans Wd.le_push) (.ref (by show (w1.at_ ++ [p])[h.length]? = some p; rw [← hw.len]; simp)) (hw.own rp (.lst rv))
/-- nothing is raised in a comprehension -/
abbrev WX0 : WX := fun _ _ _ _ => False
def WpN (K : PySem.W.Frag) (w : Wd) (Q : VK) (E : XK) (fin : List D → LH → R D) (r : R (List D)) : Prop := WpE K w Q E (r.bindN fin)
theorem te_lc {fin : List D → LH → R D} (hf : FinOk X.K fin) {vs : List Nat} {im : IM} {g : GM} {t : BM} {e : EM} {σ : St} {H : Hp} {Q : VK} (n : Nat) (q : TE_ X.K W (mLcG fin n vs im g t e) σ H Q) :
    tLc (TI_ X.K W im) (TG_ X.K vs g) (TB_ X.K WX0 t) (TE_ X.K WX0 e) vs σ H Q := by
  obtain ⟨w, s, h, rs, hw, q⟩ := q
  refine ⟨w, s, h, rs, hw, ?_⟩
  unfold mLcG at q
  revert q
  cases im s h with
  | ex x h1 => exact fun q => q
  | no => exact fun q => q
  | ok f h1 =>
    intro q w1 H1 J l1 hw1 it D nD
    have f1 := hw1.free nD
    refine ⟨fun i m H' => ∃ w2 h2 us acc, w1.le w2 ∧ w2.rs D (.lst us) ∧ RVs X.K w2 us acc ∧ HW X.K w2 H' h2 ∧ WpE X.K w Q _ ((lcS vs g t e s m f i acc h2).bindN fin),
      ⟨n, w1.res D (.lst []), h1, [], [], Wd.le_res, .inr ⟨rfl, rfl⟩, .nil, hw1.res nD, q⟩, ?_⟩
    rintro i m H2 ⟨w2, h2, us, acc, l2, rD, rv, hw2, q2⟩
    cases m with
    | zero => exact False.elim q2
    | succ m =>
      unfold lcS at q2
      obtain ⟨it1, it2⟩ := it i w2 H2 h2 l2 hw2
      split at q2
      · exact q2.elim
      · rename_i e1
        exact .inl ⟨it2 e1, hf w w2 H2 h2 D us acc Q _ (l1.trans l2) (fun o z => f1.2.2 o (l1.2.2 _ _ z)) rD rv hw2 q2⟩
      · rename_i d e1
        obtain ⟨go, yl⟩ := it1 d e1
        refine .inr ⟨go, fun H' => ∃ w3 h3 us acc, w1.le w3 ∧ w3.rs D (.lst us) ∧ RVs X.K w3 us acc ∧ HW X.K w3 H' h3 ∧ WpE X.K w Q _ ((lcS vs g t e s m f (i + 1) acc h3).bindN fin), fun H' z => ⟨m, Nat.lt_succ_self m, z⟩, fun x H3 y3 => ?_⟩
        obtain ⟨w3, l3, hw3, rd⟩ := yl x H3 y3
        split at q2
        · exact q2.elim
        · rename_i s4 h4 e4
          refine ⟨w3, d, wipeS s vs, h2, s4, h4, rd, (rs.mono ((l1.trans l2).trans l3)).wipe vs, hw3, e4, fun w5 σ5 H5 l5 rs5 hw5 k5 => ⟨k5.trans (wipe_idem σ vs), w5, s4, h4, rs5, hw5, ?_⟩⟩
          revert q2
          cases t s4 h4 with
          | ex x h' => exact fun q2 => q2.elim
          | no => exact fun q2 => q2.elim
          | ok k h6 =>
            rw [R.bindN_ok]
            intro q2 w6 H6 l6 hw6
            have l26 := (l3.trans l5).trans l6
            cases k with
            | false =>
              rw [if_neg Bool.false_ne_true] at q2
              exact iteF ⟨w6, h6, us, acc, l2.trans l26, l26.2.2 _ _ rD, rv.mono l26, hw6, q2⟩
            | true =>
              rw [if_pos rfl] at q2
              refine iteT ⟨w6, s4, h6, rs5.mono l6, hw6, ?_⟩
              revert q2
              cases e s4 h6 with
              | ex x h' => exact fun q2 => q2.elim
              | no => exact fun q2 => q2.elim
              | ok y h7 =>
                rw [R.bindN_ok]
                intro q2 w7 v7 H7 l7 r7 hw7
                split at q2
                · rename_i z
                  have l27 := l26.trans l7
                  have rD7 := l27.2.2 _ _ rD
                  refine ⟨us, (hw7.rs _ _ rD7).1, by rw [rv.length]; exact of_decide_eq_true z, (w7.unres D).res D (.lst (us ++ [v7])), h7, us ++ [v7], acc ++ [y], ?_, .inr ⟨rfl, rfl⟩, ?_, hw7.reset ⟨_, rD7⟩, q2⟩
                  · exact (Wd.le_unres (l2.trans l27) f1.2.2).trans Wd.le_res
                  · exact ((rv.mono l27).append (.cons r7 .nil)).eqv (w := w7) (w' := (w7.unres D).res D (.lst (us ++ [v7]))) rfl rfl
                · exact q2.elim
section
variable {elt iter : Expr} {ifs : List Expr} {scope : Scope} {own : List (Str × Nat)} {pos spos : Pos} {im : IM} {g : GM} {t : BM} {el : EM} {fin : List D → LH → R D}
def DTs (X : Cx) (W : WX) (es : List Expr) (m : BM) : Prop := PTs X es (TB_ X.K W m)
def bYes : BM := fun _ h => .ok true h
theorem dts_nil {X : Cx} {W : WX} : DTs X W [] bYes := ⟨fun pins s σ H Q I ⟨w, s', h, rs, hw, q⟩ => pts_nil.run pins s σ H Q I (q w H (.refl w) hw)⟩
theorem dts_one {X : Cx} {W : WX} {c : Expr} {m : BM} (h : DT X W c m) : DTs X W [c] m := pts_one h
theorem d_lc (hf : FinOk X.K fin) (n : Nat) (hc : X.calm = true) (hN : X.N.Nodup) (hi : DI X W tg iter im) (ok : BlkOk X.N X.env.scope scope own)
    (hg : ∀ (s : Shared) (H : Hp) (C : Addr) (cl : List (Str × Addr)) (fp : List Addr), DG (X.blk s H scope (compEnvC scope cl C X.env) fp) (own.map (·.2)) tg g) (ht : ∀ (s : Shared) (H : Hp) (C : Addr) (cl : List (Str × Addr)) (fp : List Addr), DTs (X.blk s H scope (compEnvC scope cl C X.env) fp) WX0 ifs t)
    (he : ∀ (s : Shared) (H : Hp) (C : Addr) (cl : List (Str × Addr)) (fp : List Addr), DE (X.blk s H scope (compEnvC scope cl C X.env) fp) WX0 elt el) (hs : ∀ x, foldedSetIterable iter X.env x = pure x := by intro _; rfl) :
    DE X W (.ListComp elt [⟨tg, iter, ifs, 0⟩] scope pos) (mLcG fin n (own.map (·.2)) im g t el) := PE.imp (pe_lc (g := TG_ X.K (own.map fun (p : Str × Nat) => p.2) g) (tt := TB_ X.K WX0 t) (te := TE_ X.K WX0 el) hc hN hi ok hg ht he hs) fun σ H Q q => te_lc hf n q
theorem ds_setLc {i : Nat} {y : Str} {py : Pos} (hf : FinOk X.K fin) (n : Nat) (hc : X.calm = true) (hN : X.N.Nodup) (hy : X.N[i]? = some y) (hyl : X.env.scope.names.lookup y = some .local)
    (hsw : swapsWith (.ListComp elt [⟨tg, iter, ifs, 0⟩] scope pos) (some (.Name y py)) spos.line X.env = pure true) (hi : DI X W tg iter im) (ok : BlkOk X.N X.env.scope scope own)
    (hg : ∀ (s : Shared) (H : Hp) (C : Addr) (cl : List (Str × Addr)) (fp : List Addr), DG (X.blk s H scope (compEnvC scope cl C X.env) fp) (own.map (·.2)) tg g) (ht : ∀ (s : Shared) (H : Hp) (C : Addr) (cl : List (Str × Addr)) (fp : List Addr), DTs (X.blk s H scope (compEnvC scope cl C X.env) fp) WX0 ifs t)
    (he : ∀ (s : Shared) (H : Hp) (C : Addr) (cl : List (Str × Addr)) (fp : List Addr), DE (X.blk s H scope (compEnvC scope cl C X.env) fp) WX0 elt el) (hs : ∀ x, foldedSetIterable iter X.env x = pure x := by intro _; rfl) :
    DS X W (.Assign [.Name y py] (.ListComp elt [⟨tg, iter, ifs, 0⟩] scope pos) spos) (sSet i (mLcG fin n (own.map (·.2)) im g t el)) := PS.imp (ps_setLc (g := TG_ X.K (own.map fun (p : Str × Nat) => p.2) g) (tt := TB_ X.K WX0 t) (te := TE_ X.K WX0 el) hc hN hy hyl hsw hi ok hg ht he hs) fun D σ H ⟨w, s, h, rs, hw, q⟩ =>
  te_lc hf n ⟨w, s, h, rs, hw, WpS.q rs q fun d h1 w1 v H1 l rv hw1 q1 => q1 w1 _ H1 (.refl w1) ((rs.mono l).set rv) hw1⟩
end
end
end DN
namespace DN
open PySem PySem.Spec PyProof.Rows L2

/-! ### defs: what a call gives, by the arguments and the state -/
abbrev FM := List D → LH → R D
/-- room for k calls; no repr goes on -/
structure Rm (k : Nat) (A : Around) : Prop where
  room : Room k A
  gd : A.guards = some []
  sl : A.units + 16 * k + 1000 < cLine
theorem Rm.mono {j k : Nat} {A : Around} (r : Rm k A) (h : j ≤ k) : Rm j A := ⟨r.room.mono h, r.gd, by have := r.sl; omega⟩
theorem Rm.u700 {k : Nat} {A : Around} (r : Rm k A) : A.units + 700 < cLine := by have := r.sl; omega
theorem Rm.deeper {k : Nat} {A : Around} (r : Rm (k + 1) A) (env : Env) : Rm k (A.deeper env) := ⟨r.room.deeper env, r.gd, by have := r.sl; show A.units + 3 + 16 * k + 1000 < cLine; omega⟩
theorem Rm.u65 {k : Nat} {A : Around} (r : Rm k A) : A.units + 65 < cLine := by have := r.room.un; omega
theorem Rm.u64 {k : Nat} {A : Around} (r : Rm k A) : A.units + 64 < cLine := by have := r.room.un; omega
structure FnG (P : Program) (w : World) (K : PySem.W.Frag) (mg : Str → Option Value) (base : Heap) (k : Nat) (f : Addr) (fd : FuncData) (ps : List Str) (m : FM) : Prop where
  run : ∀ (A : Around) (outer : List Env) (s : Shared) (H : Hp) (args : Args) (us : List Value) (vs : List V) (Q : VK) (E : XK) (v : Wd) (ds : List D) (h : LH), Rm k A → Env0 P w K mg base A outer s H →
    BindsTo s fd args (ps.zip us) → Vals vs us → RVs K v vs ds → HW K v H h → ds.length = ps.length → WpE K v Q E (m ds h) → codeAny (model P w) A (.call (.ref f) args) (CR (L2.CX P w) outer P w H s Q E) s
section
variable {P : Program} {w : World} {K : PySem.W.Frag} {mg : Str → Option Value} {base : Heap} {k : Nat} {f : Addr} {fd : FuncData} {ps : List Str} {m m' : FM}
theorem FnG.mono {j : Nat} (F : FnG P w K mg base j f fd ps m) (h : j ≤ k) : FnG P w K mg base k f fd ps m := ⟨fun A o s H a us vs Q E v ds h' r => F.run A o s H a us vs Q E v ds h' (r.mono h)⟩
/-- another way to say what it gives -/
theorem FnG.imp (F : FnG P w K mg base k f fd ps m) (h : ∀ (v : Wd) (Q : VK) (E : XK) (H : Hp) (ds : List D) (s : LH), HW K v H s → ds.length = ps.length → WpE K v Q E (m' ds s) → WpE K v Q E (m ds s)) : FnG P w K mg base k f fd ps m' :=
  ⟨fun A o s H a us vs Q E v ds h' r e b q1 q2 q3 q4 q5 => F.run A o s H a us vs Q E v ds h' r e b q1 q2 q3 q4 (h v Q E H ds h' q3 q4 q5)⟩
theorem FnG.eq (F : FnG P w K mg base k f fd ps m) (h : ∀ ds s, m' ds s ≠ .no → m ds s = m' ds s) : FnG P w K mg base k f fd ps m' := F.imp fun v Q E H ds s _ _ q => by
  by_cases e : m' ds s = .no
  · rw [e] at q; exact q.elim
  · rw [h ds s e]; exact q

def fin_ (r : RQ) : R D := match r with
  | .rt d h => .ok d h
  | .nx _ h => .ok .non h
  | .ex x _ h => .ex x h
  | _ => .no
def fnM (n : Nat) (m : SM) : FM := fun ds h => fin_ (m (ds.map some ++ List.replicate (n - ds.length) none) h)
theorem start_rs {v : Wd} {N : List Str} {vs : List V} {ds : List D} (r : RVs K v vs ds) : RS K v (L2.start N vs) (ds.map some ++ List.replicate (N.length - ds.length) none) := by
  unfold L2.start
  rw [r.length]
  refine ⟨by simp [r.length], fun i d e => ?_⟩
  by_cases hi : i < ds.length
  · rw [List.getElem?_append_left (by simpa using hi), List.getElem?_map] at e
    cases q : ds[i]? with
    | none => rw [q] at e; cases e
    | some x =>
      rw [q] at e
      cases e
      obtain ⟨u, h1, h2⟩ := r.get q
      exact ⟨u, by rw [List.getElem?_append_left (by simpa [r.length] using hi), List.getElem?_map, h1]; rfl, h2⟩
  · rw [List.getElem?_append_right (by simpa using hi), List.getElem?_replicate] at e
    split at e <;> cases e
/-- a def by its body -/
theorem fnG_of {x qual : Str} {st : Stmt} {N : List Str} {sm : SM} (F : Fun K x qual st f fd) (S : FnScope N ps (defScope st))
    (hbody : ∀ (cdv : Value) (A : Around) (outer : List Env) (s : Shared) (H : Hp) (E : XK), Rm k (A.deeper (envOfC qual (defScope st) s.heap.objs.size f cdv)) →
      DSs (cxOf (L2.CX P w) P w K mg base N qual (defScope st) f cdv A outer s H E) (fun c d _ H => E c d H) (defBody st) sm) : FnG P w K mg base (k + 1) f fd ps (fnM N.length sm) := by
  obtain ⟨oc, od, kV, doc, pm, an, cdv, ct, osl, efd, lk, hcd⟩ := F.ex
  subst efd
  refine ⟨fun A outer s H args us vs Q E v ds h hr e0 hb rv rd hw hl q => ?_⟩
  have hl' : vs.length = ps.length := rd.length.trans hl
  have inK : K.In s.heap := e0.mod.kin.keeps fun b o e => (e0.bs b o e).1
  have kinds : ∀ y ∈ ps.zip us, (defScope st).names.lookup y.1 = some .local ∨ ((defScope st).names.lookup y.1 = some .cell ∧ ((cellsFrom (s.heap.objs.size + 1) (defScope st).names []).lookup y.1).isSome = true) := by
    rintro ⟨n, u⟩ hy
    cases S.par n (List.of_mem_zip hy).1 with
    | inl z => exact .inl z
    | inr z => exact .inr ⟨z, PySem.W.cellsFrom_some _ _ _ (.inl z)⟩
  refine codeAny_call_function hr.room.depth (inK _ _ lk) rfl S.co S.gen rfl (PySem.W.codeRec_of inK hcd) (hb _ _ _ _ (wpAny_newFunctionEnv_cells S.kind kinds ?_))
  intro env he s1 x1
  cases he
  refine ⟨(e0.mod.nolimit.keeps fun b o e => (e0.bs b o e).1).keeps x1.toInCall.keep, codeAny_func ?_⟩
  have start_ : Inv (cxOf (L2.CX P w) P w K mg base N qual (defScope st) f cdv A outer s H E) [] (L2.start N vs) H s1 := inv_start S hr.room.hd e0 hl' rv x1
  have body := hbody cdv A outer s H E (hr.deeper _)
  refine wpAny_mono (body.run [] s1 (L2.start N vs) H { nx := fun _ H' => Q .non H', rt := Q } start_ ⟨v, _, h, start_rs rd, hw, ?_⟩) ?_ (fun e s' hs => hs)
  · unfold fnM fin_ at q
    revert q
    cases sm (ds.map some ++ List.replicate (N.length - ds.length) none) h with
    | nx s' h' => exact fun q w' σ' H' l rs hw' => q w' .non H' l .non hw'
    | rt d h' => exact fun q => q
    | ex x s' h' => exact fun q w' c dd σ' H' l rs rx hw' => q w' c dd H' l rx hw'
    | bk s' h' => exact fun q => q.elim
    | ct s' h' => exact fun q => q.elim
    | no => exact fun q => q.elim
  · intro fl s' hs
    cases fl with
    | ret u =>
      obtain ⟨v', σ', H', J, r', q'⟩ := hs
      exact ⟨v', H', J.os, J.bare, J.base, J.hok, r', q'⟩
    | next =>
      obtain ⟨σ', H', J, q'⟩ := hs
      exact ⟨.non, H', J.os, J.bare, J.base, J.hok, rfl, q'⟩
    | brk =>
      obtain ⟨_, _, _, z⟩ := hs
      exact False.elim z
    | cont =>
      obtain ⟨_, _, _, z⟩ := hs
      exact False.elim z

/-! what a def leaves of its own state: nothing, its value frozen -/
mutual
/-- no reference from n on -/
def below (n : Nat) : D → Bool
  | .tup l => belows n l
  | .lst l => belows n l
  | .kst l => belows n l
  | .dct l => belowk n l
  | .ref k => decide (k < n)
  | .exn _ _ _ l => belowk n l
  | _ => true
def belows (n : Nat) : List D → Bool
  | [] => true
  | d :: ds => below n d && belows n ds
def belowk (n : Nat) : List (Key × D) → Bool
  | [] => true
  | (_, d) :: ds => below n d && belowk n ds
end
/-- the value, a new list frozen -/
def frzD (n : Nat) (h : LH) (d : D) : Option D := match d with
  | .ref k => if decide (k < n) = true then some (.ref k) else match h[k]? with
    | some (.lst l) => if belows n l = true then some (.lst l) else none
    | some (.dct l) => if belowk n l = true then some (.dct l) else none
    | none => none
  | d => if below n d = true then some d else none
open Classical in
noncomputable def gcM (m : FM) : FM := fun ds h => match m ds h with
  | .ok d h' => if h'.take h.length = h then (match frzD h.length h' d with
    | some d' => .ok d' h
    | none => .no) else .no
  | .ex x h' => .ex x h'
  | .no => .no
end
section
variable {K : PySem.W.Frag} {w : Wd} {n : Nat}
def Wd.cutW (w : Wd) (n : Nat) : Wd := ⟨w.fz, w.at_.take n, w.rs⟩
mutual
theorem RV.cutW : ∀ {v : V} {d : D}, RV K w v d → below n d = true → RV K (w.cutW n) v d
  | _, _, .non, _ => .non
  | _, _, .bl b, _ => .bl b
  | _, _, .int b, _ => .int b
  | _, _, .str b, _ => .str b
  | _, _, .tup h r, e => .tup h (RVs.cutW r (by simpa only [below] using e))
  | _, _, .lst h r, e => .lst h (RVs.cutW r (by simpa only [below] using e))
  | _, _, .kst h r, e => .kst h (RVs.cutW r (by simpa only [below] using e))
  | _, _, .dct h r, e => .dct h (RKs.cutW r (by simpa only [below] using e))
  | _, _, .ref (n := k) h, e => .ref (by
      have e' : k < n := by simpa only [below, decide_eq_true_eq] using e
      show (w.at_.take n)[k]? = _
      rw [List.getElem?_take_of_lt e']
      exact h)
  | _, _, .st v, _ => .st v
  | _, _, .exn c h hl r, e => .exn c h hl (RKs.cutW r (by simpa only [below] using e))
  | _, _, .exb c, _ => .exb c
theorem RVs.cutW : ∀ {v : List V} {d : List D}, RVs K w v d → belows n d = true → RVs K (w.cutW n) v d
  | _, _, .nil, _ => .nil
  | _, _, .cons h r, e => by
    simp only [belows, Bool.and_eq_true] at e
    exact .cons (RV.cutW h e.1) (RVs.cutW r e.2)
theorem RKs.cutW : ∀ {v : List (Key × V)} {d : List (Key × D)}, RKs K w v d → belowk n d = true → RKs K (w.cutW n) v d
  | _, _, .nil, _ => .nil
  | _, _, .cons h r, e => by
    simp only [belowk, Bool.and_eq_true] at e
    exact .cons (RV.cutW h e.1) (RKs.cutW r e.2)
end
mutual
theorem RV.lows : ∀ {v : V} {d : D}, RV K w v d → below w.at_.length d = true
  | _, _, .non => rfl
  | _, _, .bl b => rfl
  | _, _, .int b => rfl
  | _, _, .str b => rfl
  | _, _, .tup h r => by simpa only [DN.below] using RVs.lows r
  | _, _, .lst h r => by simpa only [DN.below] using RVs.lows r
  | _, _, .kst h r => by simpa only [DN.below] using RVs.lows r
  | _, _, .dct h r => by simpa only [DN.below] using RKs.lows r
  | _, _, .ref h => by simpa only [DN.below, decide_eq_true_eq] using (List.getElem?_eq_some_iff.mp h).1
  | _, _, .st v => rfl
  | _, _, .exn c h hl r => by simpa only [DN.below] using RKs.lows r
  | _, _, .exb c => rfl
theorem RVs.lows : ∀ {v : List V} {d : List D}, RVs K w v d → belows w.at_.length d = true
  | _, _, .nil => rfl
  | _, _, .cons h r => by simp only [belows, RV.lows h, RVs.lows r, Bool.and_self]
theorem RKs.lows : ∀ {v : List (Key × V)} {d : List (Key × D)}, RKs K w v d → belowk w.at_.length d = true
  | _, _, .nil => rfl
  | _, _, .cons h r => by simp only [belowk, RV.lows h, RKs.lows r, Bool.and_self]
end
/-- back to the state ahead: what was made since is no longer known -/
theorem HW.cutW {w0 : Wd} {H0 H : Hp} {h h' : LH} (hw0 : HW K w0 H0 h) (l : w0.le w) (hw : HW K w H h') (e : h'.take h.length = h) : HW K (w.cutW h.length) H h ∧ w0.le (w.cutW h.length) := by
  have hle : h.length ≤ h'.length := by
    have := congrArg List.length e
    rw [List.length_take] at this
    omega
  have eat : w.at_.take h.length = w0.at_ := by
    obtain ⟨t, q⟩ := l.2.1
    rw [← q, ← hw0.len]
    simp
  refine ⟨⟨fun a o q => hw.fz a o q, ?_, fun m a p e1 e2 => ?_, ?_, fun a o hm => hw.sep a o (List.mem_of_mem_take hm), fun a o q => ?_, hw.sm⟩, l.1, ?_, l.2.2⟩
  · show (w.at_.take h.length).length = h.length
    rw [eat, hw0.len]
  · -- the old objects stand as ahead: the state of then tells how
    have e1' : (w.at_.take h.length)[m]? = some a := e1
    have hm : m < h.length := (List.getElem?_eq_some_iff.mp e2).1
    have e3 : h'[m]? = some p := by
      rw [← e, List.getElem?_take_of_lt hm] at e2
      exact e2
    rw [List.getElem?_take_of_lt hm] at e1'
    obtain ⟨o, h1, h2⟩ := hw.ats m a p e1' e3
    refine ⟨o, h1, ?_⟩
    -- its parts were known ahead, so they lie below
    obtain ⟨a0, o0, _, _, r0⟩ := hw0.get e2
    cases r0 with
    | lst r0 =>
      cases h2 with
      | lst r => exact .lst (r.cutW (by rw [← hw0.len]; exact r0.lows))
    | dct r0 =>
      cases h2 with
      | dct r => exact .dct (r.cutW (by rw [← hw0.len]; exact r0.lows))
  · show (w.at_.take h.length).Nodup
    exact hw.nd.sublist (List.take_sublist _ _)
  · obtain ⟨q1, q2, q3⟩ := hw.rs a o q
    exact ⟨q1, fun z => q2 (List.mem_of_mem_take z), q3⟩
  · show w0.at_ <+: w.at_.take h.length
    rw [eat]
    exact List.prefix_refl _
end
section
variable {P : Program} {w : World} {K : PySem.W.Frag} {mg : Str → Option Value} {base : Heap} {k : Nat} {f : Addr} {fd : FuncData} {ps : List Str} {m m' : FM}
theorem frzD_ok {v : Wd} {w1 : Wd} {H0 H1 : Hp} {h h1 : LH} {u : V} {d d' : D} {Q : VK} (hw0 : HW K v H0 h) (l : v.le w1) (hw : HW K w1 H1 h1) (e : h1.take h.length = h) (r : RV K w1 u d) (e2 : frzD h.length h1 d = some d') (q : Pv K v Q d' h) : Q u H1 := by
  obtain ⟨hc, lc⟩ := hw0.cutW l hw e
  have plain : ∀ d, below h.length d = true → RV K w1 u d → Pv K v Q d h → Q u H1 := fun d b r q => q _ u H1 lc (r.cutW b) hc
  cases r with
  | @ref a n z =>
    unfold frzD at e2
    dsimp only at e2
    split at e2
    · rename_i z0
      cases e2
      exact plain _ (by simpa only [below] using z0) (.ref z) q
    · rename_i z0
      have nin : a ∉ w1.at_.take h.length := fun hm => by
        obtain ⟨i, hi, ei⟩ := List.getElem_of_mem hm
        have hi' : i < h.length := by
          have := hi
          rw [List.length_take] at this
          omega
        rw [List.getElem_take] at ei
        have hlt : i < w1.at_.length := by
          rw [List.length_take] at hi
          omega
        have : i = n := nd_ix hw.nd (by rw [List.getElem?_eq_getElem hlt]; exact congrArg some ei) z
        subst this
        exact z0 (decide_eq_true hi')
      have nfz : ∀ o, ¬ w1.fz a o := fun o => hw.sep a o (List.mem_of_getElem? z)
      have nrs : ∀ o, ¬ w1.rs a o := fun o q => (hw.rs a o q).2.1 (List.mem_of_getElem? z)
      -- the object becomes one of the frozen
      have frz : ∀ o, H1 a = some o → HW K ((w1.cutW h.length).add a o) H1 h := fun o ho =>
        ⟨fun b u z => z.elim (fun z => hc.fz b u z) fun ⟨e1, e2⟩ => by rw [e1, e2]; exact ho, hc.len, fun i b p e1 e2 => let ⟨u, h1, h2⟩ := hc.ats i b p e1 e2; ⟨u, h1, h2.mono Wd.le_add⟩, hc.nd,
          fun b u hm z => z.elim (fun z => hc.sep b u hm z) fun ⟨e1, _⟩ => nin (e1 ▸ hm), fun b u z => let ⟨q1, q2, q3⟩ := hc.rs b u z; ⟨q1, q2, fun x y => y.elim (q3 x) fun ⟨e1, _⟩ => nrs u (e1 ▸ z)⟩, hc.sm.imp fun _ z => z.imp fun _ z => .inl z⟩
      split at e2
      · rename_i l0 e0
        split at e2
        · rename_i zb
          cases e2
          obtain ⟨o, h2, h3⟩ := hw.ats n a _ z e0
          cases h3 with
          | lst r => exact q _ _ _ (lc.trans Wd.le_add) (.lst (.inr ⟨rfl, rfl⟩) ((r.cutW zb).mono Wd.le_add)) (frz _ h2)
        · cases e2
      · rename_i l0 e0
        split at e2
        · rename_i zb
          cases e2
          obtain ⟨o, h2, h3⟩ := hw.ats n a _ z e0
          cases h3 with
          | dct r => exact q _ _ _ (lc.trans Wd.le_add) (.dct (.inr ⟨rfl, rfl⟩) ((r.cutW zb).mono Wd.le_add)) (frz _ h2)
        · cases e2
      · cases e2
  | non => cases e2; exact plain _ rfl .non q
  | bl b => cases e2; exact plain _ rfl (.bl b) q
  | int b => cases e2; exact plain _ rfl (.int b) q
  | str b => cases e2; exact plain _ rfl (.str b) q
  | st b =>
    have e3 : some (D.st u) = some d' := e2
    cases e3
    exact plain _ rfl (.st _) q
  | exb c =>
    cases e2
    exact plain _ rfl (.exb c) q
  | exn c hx hl hr =>
    unfold frzD at e2
    dsimp only at e2
    split at e2
    · rename_i z
      cases e2
      exact plain _ z (.exn c hx hl hr) q
    · cases e2
  | tup a b =>
    unfold frzD at e2
    dsimp only at e2
    split at e2
    · rename_i z
      cases e2
      exact plain _ z (.tup a b) q
    · cases e2
  | lst a b =>
    unfold frzD at e2
    dsimp only at e2
    split at e2
    · rename_i z
      cases e2
      exact plain _ z (.lst a b) q
    · cases e2
  | kst a b =>
    unfold frzD at e2
    dsimp only at e2
    split at e2
    · rename_i z
      cases e2
      exact plain _ z (.kst a b) q
    · cases e2
  | dct a b =>
    unfold frzD at e2
    dsimp only at e2
    split at e2
    · rename_i z
      cases e2
      exact plain _ z (.dct a b) q
    · cases e2
theorem FnG.gc (F : FnG P w K mg base k f fd ps m) : FnG P w K mg base k f fd ps (gcM m) := F.imp fun v Q E H ds h hw hl q => by
  unfold gcM at q
  revert q
  cases m ds h with
  | ex x h1 => exact fun q => q
  | no => exact fun q => q
  | ok d h1 =>
    intro q w1 u H1 l rv hw1
    dsimp only at q
    split at q
    · rename_i e
      split at q
      · rename_i d' e2
        exact frzD_ok hw l hw1 e rv e2 q
      · exact q.elim
    · exact q.elim
end
/-! ### calls of defs -/
def mFn (n : Nat) (m : FM) (dvs : List D) (a : AM) : EM := fun s h => (a s h).bind fun l h1 => if decide ((l ++ dvs).length = n) = true then m (l ++ dvs) h1 else .no
section
variable {X : Cx} {W : WX} {k : Nat} {f : Addr} {fd : FuncData} {ps : List Str} {m : FM} {x : Str} {p pos : Pos} {e : Expr} {es : List Expr} {a : AM} {dvs : List D} {dvv : List V} {ds : List Value}
theorem run_fg {pins : List (Addr × Obj)} {σ : L2.St} {H : Hp} {s : Shared} {Q : VK} {us all : List Value} {kw : List (Str × Value)} {vs : List V} {w : Wd} {l : List D} {h : LH} (F : FnG X.prog X.w X.K X.mg X.base k f fd ps m) (hr : Rm k X.A) (tk : Takes X W)
    (I : Inv X pins σ H s) (hb : BindsTo s fd ⟨us, kw⟩ (ps.zip all)) (r : Vals vs all) (rd : RVs X.K w vs l) (hw : HW X.K w H h) (hl : l.length = ps.length) (q : WpE X.K w Q (fun c d H => W c d σ H) (m l h)) :
    wpAny (model X.prog X.w) X.A (call (.ref f) us kw) (EP X pins σ Q) X.xe s := by
  have run := F.run X.A X.stack s H ⟨us, kw⟩ all vs Q (fun c d H => W c d σ H) w l h hr I.env0 hb r rd hw hl q
  refine wpAny_call (codeAny_mono run ?_)
  intro res s2 hres
  cases res with
  | error err => exact tk err s2 (XE.of_call I (fun c d H' z => z) hres)
  | ok fl =>
    cases fl with
    | ret u => exact I.after hres
    | next => exact False.elim hres
    | brk => exact False.elim hres
    | cont => exact False.elim hres
/-- f(e, ..), defaults behind -/
theorem d_call (F : FnG X.prog X.w X.K X.mg X.base k f fd ps m) (hr : Rm k X.A) (tk : Takes X W) (hg : Gl X x) (hm : X.mg x = some (.ref f)) (hk : PySem.W.keepIn X.K (.ref f) = true) (hb : Binds X.K fd ps ds) (hd : Vals dvv ds) (hv : ∀ w, RVs X.K w dvv dvs)
    (ha : DA X W (e :: es) a) (hdb : (x == ("__debug__" : Str)) = false := by decide) (he : starEach (e :: es) X.env = (false, eval e X.env) :: starEach es X.env := by rfl) (hpl : (backTo pos (starEach es X.env)).any (·.1) = false := by rfl) :
    DE X W (.Call (.Name x p) (e :: es) [] pos) (mFn ps.length m dvs a) := ⟨fun pins s σ H Q I ⟨w, sg, h, rs, hw, q⟩ => by
  refine wpAny_Call_Name_kw (ld_glob I hg hm ?_ hdb)
  refine PySem.W.callWith_K (h₀ := X.base) I.ok.mod.kin hk (thn (ha.run pos pins s σ H (fun vs H1 => ∃ w1 l h1, RVs X.K w1 vs l ∧ HW X.K w1 H1 h1 ∧ (l ++ dvs).length = ps.length ∧ WpE X.K w1 Q (fun c d H => W c d σ H) (m (l ++ dvs) h1)) I
    ⟨w, sg, h, rs, hw, WpA.bind (G := WpE X.K w Q _) q (fun _ _ z => z) (fun z => z) fun l h1 w1 vs H1 l1 rv hw1 q1 => ?_⟩) ?_) he hpl
  · split at q1
    · rename_i z
      exact ⟨w1, l, h1, rv, hw1, of_decide_eq_true z, WpE.mono l1 q1⟩
    · exact q1.elim
  · rintro us s1 ⟨vs, H1, I1, r, w1, l, h1, rv, hw1, hl, q1⟩
    refine ⟨I1.kIn, run_fg F hr tk I1 (hb s1 us I1.kIn ?_) (r.append hd) (rv.append (hv w1)) hw1 hl q1⟩
    rw [← (r.append hd).length, (rv.append (hv w1)).length, hl]⟩
theorem d_call0 (F : FnG X.prog X.w X.K X.mg X.base k f fd ps m) (hr : Rm k X.A) (tk : Takes X W) (hg : Gl X x) (hm : X.mg x = some (.ref f)) (hk : PySem.W.keepIn X.K (.ref f) = true) (hb : Binds X.K fd ps ds) (hd : Vals dvv ds) (hv : ∀ w, RVs X.K w dvv dvs)
    (hdb : (x == ("__debug__" : Str)) = false := by decide) : DE X W (.Call (.Name x p) [] [] pos) (mFn ps.length m dvs aNil) := ⟨fun pins s σ H Q I ⟨w, sg, h, rs, hw, q⟩ => by
  refine wpAny_Call_Name_kw (ld_glob I hg hm ?_ hdb)
  unfold mFn aNil at q
  rw [R.bind_ok] at q
  split at q
  · rename_i z
    have hl : ([] ++ dvs).length = ps.length := of_decide_eq_true z
    refine PySem.W.callWith_K0 I.kIn hk (run_fg (us := []) F hr tk I (hb s [] I.kIn ?_) (Vals.append .nil hd) (RVs.append .nil (hv w)) hw hl q)
    rw [← (Vals.append .nil hd).length, (RVs.append .nil (hv w)).length, hl]
  · exact q.elim⟩

/-! .. with keywords: each parameter is the j-th positional one, the j-th keyword's, or a default -/
inductive Src where
  | pos (j : Nat) | kw (j : Nat) | df (j : Nat)
def pick {α : Type} (l z d : List α) : List Src → List α
  | [] => []
  | .pos j :: r => l[j]?.toList ++ pick l z d r
  | .kw j :: r => z[j]?.toList ++ pick l z d r
  | .df j :: r => d[j]?.toList ++ pick l z d r
theorem rv_opt {K : PySem.W.Frag} {w : Wd} {vs : List V} {ds : List D} (r : RVs K w vs ds) (j : Nat) : RVs K w vs[j]?.toList ds[j]?.toList := by
  cases e : ds[j]? with
  | none =>
    have : vs[j]? = none := by
      rw [List.getElem?_eq_none_iff] at e ⊢
      rw [r.length]; exact e
    rw [this]
    exact .nil
  | some d =>
    obtain ⟨v, e1, e2⟩ := r.get e
    rw [e1]
    exact .cons e2 .nil
theorem vals_opt {vs : List V} {us : List Value} (r : Vals vs us) (j : Nat) : Vals vs[j]?.toList us[j]?.toList := by
  cases e : vs[j]? with
  | none => rw [r.none_of e]; exact .nil
  | some v =>
    obtain ⟨u, e1, e2⟩ := r.get e
    rw [e1]
    exact .cons e2 .nil
theorem pick_rv {K : PySem.W.Frag} {w : Wd} {l z d : List V} {l' z' d' : List D} (r : RVs K w l l') (q : RVs K w z z') (t : RVs K w d d') : ∀ ix : List Src, RVs K w (pick l z d ix) (pick l' z' d' ix)
  | [] => .nil
  | .pos j :: ix => (rv_opt r j).append (pick_rv r q t ix)
  | .kw j :: ix => (rv_opt q j).append (pick_rv r q t ix)
  | .df j :: ix => (rv_opt t j).append (pick_rv r q t ix)
theorem pick_vals {l z d : List V} {l' z' d' : List Value} (r : Vals l l') (q : Vals z z') (t : Vals d d') : ∀ ix : List Src, Vals (pick l z d ix) (pick l' z' d' ix)
  | [] => .nil
  | .pos j :: ix => (vals_opt r j).append (pick_vals r q t ix)
  | .kw j :: ix => (vals_opt q j).append (pick_vals r q t ix)
  | .df j :: ix => (vals_opt t j).append (pick_vals r q t ix)
/-- how a call with na positional values and the keywords ks binds -/
def BindsK (K : PySem.W.Frag) (fd : FuncData) (ps ks : List Str) (na : Nat) (ds : List Value) (ix : List Src) : Prop :=
  ∀ (s : Shared) (us ws : List Value), K.In s.heap → us.length = na → ws.length = ks.length → BindsTo s fd ⟨us, ks.zip ws⟩ (ps.zip (pick us ws ds ix))
def DK (X : Cx) (W : WX) (ks : List Keyword) (m : AM) : Prop := PK X ks (TA_ X.K W m)
theorem PK.imp {X : Cx} {e : List Keyword} {t t' : TA} (h : PK X e t) (k : ∀ σ H Q, t' σ H Q → t σ H Q) : PK X e t' := ⟨fun pos pins s σ H Q I q => h.run pos pins s σ H Q I (k σ H Q q)⟩
theorem dk_nil : DK X W [] aNil := PK.imp pk_nil fun σ H Q ⟨w, s, h, rs, hw, q⟩ => q w [] H (.refl w) .nil hw
theorem dk_cons {nm : Option Str} {kpos : Pos} {kws : List Keyword} {me : EM} {mr : AM} (ha : DE X W e me) (hr : DK X W kws mr) : DK X W (⟨nm, e, kpos⟩ :: kws) (aCons me mr) := PK.imp (pk_cons ha hr) fun σ H Q ⟨w, s, h, rs, hw, q⟩ =>
  ⟨w, s, h, rs, hw, WpE.bind (G := WpA X.K w Q _) q (fun _ _ z => z) (fun z => z) fun x h1 w1 v H1 l1 rv hw1 q1 =>
    ⟨w1, s, h1, rs.mono l1, hw1, WpA.bind (G := WpA X.K w Q _) q1 (fun _ _ z => Px.mono l1 z) (fun z => z) fun y h2 w2 u H2 l2 ru hw2 q2 => q2 w2 _ H2 (l1.trans l2) (.cons (rv.mono l2) ru) hw2⟩⟩
def mFnK (n na nk : Nat) (ix : List Src) (m : FM) (dvs : List D) (a z : AM) : EM := fun s h => (a s h).bind fun l h1 => (z s h1).bind fun y h2 =>
  if decide ((pick l y dvs ix).length = n ∧ l.length = na ∧ y.length = nk) = true then m (pick l y dvs ix) h2 else .no
/-- f(e, .., k = v, ..) -/
theorem d_callK {ks : List Str} {na : Nat} {ix : List Src} {kws : List Keyword} {z : AM} (F : FnG X.prog X.w X.K X.mg X.base k f fd ps m) (hr : Rm k X.A) (tk : Takes X W) (hg : Gl X x) (hm : X.mg x = some (.ref f)) (hk : PySem.W.keepIn X.K (.ref f) = true)
    (hb : BindsK X.K fd ps ks na ds ix) (hd : Vals dvv ds) (hv : ∀ w, RVs X.K w dvv dvs)
    (ha : DA X W (e :: es) a) (hkw : DK X W kws z) (hall : (backToKw pos (keywordEach kws X.env)).all (·.1.isSome) = true := by rfl) (hks : (backToKw pos (keywordEach kws X.env)).filterMap (·.1) = ks := by rfl)
    (hdb : (x == ("__debug__" : Str)) = false := by decide) (he : starEach (e :: es) X.env = (false, eval e X.env) :: starEach es X.env := by rfl)
    (hpl : ((backTo pos (starEach (e :: es) X.env)).any (·.1) || (backToKw pos (keywordEach kws X.env)).any (·.1.isNone)) = false := by rfl) :
    DE X W (.Call (.Name x p) (e :: es) kws pos) (mFnK ps.length na ks.length ix m dvs a z) := ⟨fun pins s σ H Q I ⟨w, sg, h, rs, hw, q⟩ => by
  refine wpAny_Call_Name_kw (ld_glob I hg hm ?_ hdb)
  refine PySem.W.callWith_KW (h₀ := X.base) I.ok.mod.kin hk hall (thn (ha.run pos pins s σ H (fun vs H1 => ∃ w1 l h1, RVs X.K w1 vs l ∧ RS X.K w1 σ sg ∧ HW X.K w1 H1 h1 ∧ WpE X.K w1 Q (fun c d H => W c d σ H) ((z sg h1).bind fun y h2 =>
    if decide ((pick l y dvs ix).length = ps.length ∧ l.length = na ∧ y.length = ks.length) = true then m (pick l y dvs ix) h2 else .no)) I
    ⟨w, sg, h, rs, hw, WpA.bind (G := WpE X.K w Q _) q (fun _ _ z => z) (fun z => z) fun l h1 w1 vs H1 l1 rv hw1 q1 => ⟨w1, l, h1, rv, rs.mono l1, hw1, WpE.mono l1 q1⟩⟩) ?_) hpl he
  rintro us s1 ⟨vs, H1, I1, r, w1, l, h1, rv, rs1, hw1, q1⟩
  refine thn (hkw.run pos pins s1 σ H1 (fun zs H2 => ∃ w2 y h2, w1.le w2 ∧ RVs X.K w2 zs y ∧ HW X.K w2 H2 h2 ∧ ((pick l y dvs ix).length = ps.length ∧ l.length = na ∧ y.length = ks.length) ∧ WpE X.K w2 Q (fun c d H => W c d σ H) (m (pick l y dvs ix) h2)) I1
    ⟨w1, sg, h1, rs1, hw1, WpA.bind (G := WpE X.K w1 Q _) q1 (fun _ _ z => z) (fun z => z) fun y h2 w2 zs H2 l2 rz hw2 q2 => ?_⟩) ?_
  · split at q2
    · rename_i z0
      exact ⟨w2, y, h2, l2, rz, hw2, of_decide_eq_true z0, WpE.mono l2 q2⟩
    · exact q2.elim
  · rintro ws s2 ⟨zs, H2, I2, rws, w2, y, h2, l2, rz, hw2, ⟨n1, n2, n3⟩, q2⟩
    refine ⟨I2.kIn, ?_⟩
    rw [hks]
    refine run_fg F hr tk I2 (hb s2 us ws I2.kIn ?_ ?_) (pick_vals r rws hd ix) (pick_rv (rv.mono l2) rz (hv w2) ix) hw2 n1 q2
    · rw [← r.length, rv.length, n2]
    · rw [← rws.length, rz.length, n3]⟩
end

/-! ### defs by their names -/
/-- the def st of the module, called x, keeps m -/
structure CalP (P : Program) (w : World) (K : PySem.W.Frag) (mg : Str → Option Value) (base : Heap) (k : Nat) (x : Str) (st : Stmt) (ps : List Str) (m : FM) : Prop where
  ex : ∃ f fd, Fun K x x st f fd ∧ mg x = some (.ref f) ∧ FnG P w K mg base k f fd ps m
structure DefAt (K : PySem.W.Frag) (mg : Str → Option Value) (x : Str) (st : Stmt) : Prop where
  ex : ∃ f fd, Fun K x x st f fd ∧ mg x = some (.ref f)
theorem defAt_mk {K : PySem.W.Frag} {h : Heap} {mg : Str → Option Value} {x : Str} {st : Stmt} {f : Addr} {oc : Value} {od an : Option Addr} {osl : Array (Option Value)} {kV doc pm cdv ct : Value} (X : K.In h) (G : h.Ns mainGlobals mg)
    (a : PySem.W.nsIn K mainGlobals x = some (some (.ref f))) (l : K.lookup f = some ⟨oc, od, .func (PySem.W.fnOf x x (defArgs st) (defBody st) (defScope st) .none kV doc pm an cdv ct), osl⟩) (c : PySem.W.codeIn K cdv x = true) (k : PySem.W.keepIn K (.ref f) = true) : DefAt K mg x st :=
  ⟨f, _, fun_mk l c k, PySem.W.mg_of X G a⟩
section
variable {P : Program} {w : World} {K : PySem.W.Frag} {mg : Str → Option Value} {base : Heap} {k : Nat} {x : Str} {st : Stmt} {ps N : List Str} {m m' : FM} {sm : SM}
theorem DefAt.cal (T : DefAt K mg x st) (S : FnScope N ps (defScope st)) {m : FM} (hbody : ∀ (f : Addr) (cdv : Value) (A : Around) (outer : List Env) (s : Shared) (H : Hp) (E : XK), Rm k (A.deeper (envOfC x (defScope st) s.heap.objs.size f cdv)) →
      DSs (cxOf (L2.CX P w) P w K mg base N x (defScope st) f cdv A outer s H E) (fun c d _ H => E c d H) (defBody st) sm) : CalP P w K mg base (k + 1) x st ps (fnM N.length sm) := by
  obtain ⟨f, fd, F, g⟩ := T.ex
  exact ⟨f, fd, F, g, fnG_of F S (hbody f)⟩
theorem DefAt.none (T : DefAt K mg x st) : CalP P w K mg base k x st ps (fun _ _ => .no) := by
  obtain ⟨f, fd, F, g⟩ := T.ex
  exact ⟨f, fd, F, g, ⟨fun _ _ _ _ _ _ _ _ _ _ _ _ _ _ _ _ _ _ _ q => q.elim⟩⟩
theorem CalP.mono {j : Nat} (C : CalP P w K mg base j x st ps m) (h : j ≤ k) : CalP P w K mg base k x st ps m := by
  obtain ⟨f, fd, F, g, r⟩ := C.ex
  exact ⟨f, fd, F, g, r.mono h⟩
theorem CalP.imp (C : CalP P w K mg base k x st ps m) (h : ∀ (v : Wd) (Q : VK) (E : XK) (H : Hp) (ds : List D) (s : LH), HW K v H s → ds.length = ps.length → WpE K v Q E (m' ds s) → WpE K v Q E (m ds s)) : CalP P w K mg base k x st ps m' := by
  obtain ⟨f, fd, F, g, r⟩ := C.ex
  exact ⟨f, fd, F, g, r.imp h⟩
theorem CalP.eq (C : CalP P w K mg base k x st ps m) (h : ∀ ds s, ds.length = ps.length → m' ds s ≠ .no → m ds s = m' ds s) : CalP P w K mg base k x st ps m' := C.imp fun v Q E H ds s _ hl q => by
  by_cases e : m' ds s = .no
  · rw [e] at q; exact q.elim
  · rw [h ds s hl e]; exact q
theorem CalP.gc (C : CalP P w K mg base k x st ps m) : CalP P w K mg base k x st ps (gcM m) := by
  obtain ⟨f, fd, F, g, r⟩ := C.ex
  exact ⟨f, fd, F, g, r.gc⟩
end
section
variable {X : Cx} {W : WX} {k : Nat} {st : Stmt} {ps : List Str} {m : FM} {x : Str} {p pos : Pos} {e : Expr} {es : List Expr} {a : AM}
theorem d_c1 (C : CalP X.prog X.w X.K X.mg X.base k x st ps m) (hr : Rm k X.A) (tk : Takes X W) (hg : Gl X x)
    (hb : ∀ (kV doc pm : Value) (an : Option Addr) (cdv ct : Value) (us : List Value), us.length = ps.length → bindArgs (PySem.W.fnOf x x (defArgs st) (defBody st) (defScope st) .none kV doc pm an cdv ct) ⟨us, []⟩ = pure (ps.zip us))
    (ha : DA X W (e :: es) a) (hdb : (x == ("__debug__" : Str)) = false := by decide) (he : starEach (e :: es) X.env = (false, eval e X.env) :: starEach es X.env := by rfl) (hpl : (backTo pos (starEach es X.env)).any (·.1) = false := by rfl) :
    DE X W (.Call (.Name x p) (e :: es) [] pos) (mFn ps.length m [] a) := by
  obtain ⟨f, fd, F, g, r⟩ := C.ex
  exact d_call (dvv := []) (ds := []) r hr tk hg g F.kp (F.binds hb) .nil (fun _ => .nil) ha hdb he hpl
theorem d_c0 (C : CalP X.prog X.w X.K X.mg X.base k x st ps m) (hr : Rm k X.A) (tk : Takes X W) (hg : Gl X x)
    (hb : ∀ (kV doc pm : Value) (an : Option Addr) (cdv ct : Value) (us : List Value), us.length = ps.length → bindArgs (PySem.W.fnOf x x (defArgs st) (defBody st) (defScope st) .none kV doc pm an cdv ct) ⟨us, []⟩ = pure (ps.zip us))
    (hdb : (x == ("__debug__" : Str)) = false := by decide) : DE X W (.Call (.Name x p) [] [] pos) (mFn ps.length m [] aNil) := by
  obtain ⟨f, fd, F, g, r⟩ := C.ex
  exact d_call0 (dvv := []) (ds := []) r hr tk hg g F.kp (F.binds hb) .nil (fun _ => .nil) hdb
/-- f(k = v, ..) with keywords alone, or behind positional values -/
theorem d_ck {ks : List Str} {na : Nat} {ix : List Src} {kws : List Keyword} {z : AM} (C : CalP X.prog X.w X.K X.mg X.base k x st ps m) (hr : Rm k X.A) (tk : Takes X W) (hg : Gl X x)
    (hb : ∀ (kV doc pm : Value) (an : Option Addr) (cdv ct : Value) (us ws : List Value), us.length = na → ws.length = ks.length → bindArgs (PySem.W.fnOf x x (defArgs st) (defBody st) (defScope st) .none kV doc pm an cdv ct) ⟨us, ks.zip ws⟩ = pure (ps.zip (pick us ws [] ix)))
    (ha : DA X W (e :: es) a) (hkw : DK X W kws z) (hall : (backToKw pos (keywordEach kws X.env)).all (·.1.isSome) = true := by rfl) (hks : (backToKw pos (keywordEach kws X.env)).filterMap (·.1) = ks := by rfl)
    (hdb : (x == ("__debug__" : Str)) = false := by decide) (he : starEach (e :: es) X.env = (false, eval e X.env) :: starEach es X.env := by rfl)
    (hpl : ((backTo pos (starEach (e :: es) X.env)).any (·.1) || (backToKw pos (keywordEach kws X.env)).any (·.1.isNone)) = false := by rfl) :
    DE X W (.Call (.Name x p) (e :: es) kws pos) (mFnK ps.length na ks.length ix m [] a z) := by
  obtain ⟨f, fd, F, g, r⟩ := C.ex
  refine d_callK (dvv := []) (ds := []) r hr tk hg g F.kp (fun s us ws _ h1 h2 => ?_) .nil (fun _ => .nil) ha hkw hall hks hdb he hpl
  obtain ⟨oc, od, kV, doc, pm, an, cdv, ct, osl, rfl, lk, hcd⟩ := F.ex
  exact .of_eq (hb kV doc pm an cdv ct us ws h1 h2)
/-- f(k = v, ..) -/
theorem d_ck0 {ks : List Str} {ix : List Src} {kw : Keyword} {kws : List Keyword} {z : AM} (C : CalP X.prog X.w X.K X.mg X.base k x st ps m) (hr : Rm k X.A) (tk : Takes X W) (hg : Gl X x)
    (hb : ∀ (kV doc pm : Value) (an : Option Addr) (cdv ct : Value) (ws : List Value), ws.length = ks.length → bindArgs (PySem.W.fnOf x x (defArgs st) (defBody st) (defScope st) .none kV doc pm an cdv ct) ⟨[], ks.zip ws⟩ = pure (ps.zip (pick [] ws [] ix)))
    (hkw : DK X W (kw :: kws) z) (hall : (backToKw pos (keywordEach (kw :: kws) X.env)).all (·.1.isSome) = true := by rfl) (hks : (backToKw pos (keywordEach (kw :: kws) X.env)).filterMap (·.1) = ks := by rfl)
    (hdb : (x == ("__debug__" : Str)) = false := by decide)
    (hpl : ((backTo pos (starEach [] X.env)).any (·.1) || (backToKw pos (keywordEach (kw :: kws) X.env)).any (·.1.isNone)) = false := by rfl) :
    DE X W (.Call (.Name x p) [] (kw :: kws) pos) (mFnK ps.length 0 ks.length ix m [] aNil z) := ⟨fun pins s σ H Q I ⟨w, sg, h, rs, hw, q⟩ => by
  obtain ⟨f, fd, F, g, r⟩ := C.ex
  refine wpAny_Call_Name_kw (ld_glob I hg g ?_ hdb)
  unfold mFnK aNil at q
  rw [R.bind_ok] at q
  refine PySem.W.callWith_KW0 (h₀ := X.base) I.ok.mod.kin F.kp hall (thn (hkw.run pos pins s σ H (fun zs H2 => ∃ w2 y h2, w.le w2 ∧ RVs X.K w2 zs y ∧ HW X.K w2 H2 h2 ∧ ((pick [] y [] ix).length = ps.length ∧ y.length = ks.length) ∧ WpE X.K w2 Q (fun c d H => W c d σ H) (m (pick [] y [] ix) h2)) I
    ⟨w, sg, h, rs, hw, WpA.bind (G := WpE X.K w Q _) q (fun _ _ z => z) (fun z => z) fun y h2 w2 zs H2 l2 rz hw2 q2 => ?_⟩) ?_) hpl
  · split at q2
    · rename_i z0
      obtain ⟨z1, _, z3⟩ := of_decide_eq_true z0
      exact ⟨w2, y, h2, l2, rz, hw2, ⟨z1, z3⟩, WpE.mono l2 q2⟩
    · exact q2.elim
  · rintro ws s2 ⟨zs, H2, I2, rws, w2, y, h2, l2, rz, hw2, ⟨n1, n3⟩, q2⟩
    refine ⟨I2.kIn, ?_⟩
    rw [hks]
    refine run_fg r hr tk I2 ?_ (pick_vals .nil rws .nil ix) (pick_rv .nil rz .nil ix) hw2 n1 q2
    obtain ⟨oc, od, kV, doc, pm, an, cdv, ct, osl, rfl, lk, hcd⟩ := F.ex
    exact .of_eq (hb kV doc pm an cdv ct ws (by rw [← rws.length, rz.length, n3]))⟩
end

/-! ### the law's own call -/
section
variable {P : Program} {w : World} {K : PySem.W.Frag} {mg mb : Str → Option Value} {k : Nat} {fa a : Addr} {fd : FuncData} {x : Str} {m : FM} {s₁ : Shared} {vs : List Value} {ns : List Int}
/-- the heap of which nothing but the script is known -/
theorem head_at {H : Hp} (inK : K.In s₁.heap) (ng : s₁.heap.Ns mainGlobals mg) (nb : s₁.heap.Ns builtinsNs mb) (bb : ∀ x : Str, x ≠ "__name__" → mb x = bootBuiltins x) (nl : s₁.heap.NoLimit) (gens : s₁.gens = #[])
    (ho : ∃ o, s₁.heap.get? a = some o ∧ ∀ es ep, o.data ≠ .dict es ep) (room : Rm k callerA) (F : ∀ base : Heap, K.In base → base.Ns mainGlobals mg → FnG P w K mg base k fa fd [x] m) (hbind : ∀ (s : Shared) (u : Value), BindsTo s fd ⟨[u], []⟩ [(x, u)])
    (only : ∀ b o, H b = some o → (b = a ∨ b = sysModules) ∧ ∃ ob u, o = .frz ob u) (hsm : ∃ o u, H sysModules = some (.frz o u)) (okH : HOk P w H s₁.heap) (freeK : ∀ b, H b ≠ none → K.lookup b = none) (rd : RV K ⟨fun b o => H b = some o, [], fun _ _ => False⟩ (.ref a) (.kst (ns.map .int)))
    (hm : ∃ h', m [.kst (ns.map .int)] [] = .ok (.bl true) h') :
    codeAny (model P w) callerA (.call (.ref fa) ⟨[.ref a], []⟩) (fun r s' => r = .ok (.ret (.bool true)) ∧ OldK s₁.heap s'.heap ∧ s'.os = s₁.os ∧ AllBare s'.gens) s₁ := by
  obtain ⟨h', em⟩ := hm
  have noDict : ∀ {b : Addr} {o : Obj} {es : Array DictEntry} {ep : Nat}, b ≠ sysModules → s₁.heap.get? b = some o → o.data = .dict es ep → H b = none := by
    intro b o es ep hb e d
    cases q : H b with
    | none => rfl
    | some u =>
      obtain ⟨rfl | h1, _⟩ := only b u q
      · obtain ⟨o', e', nd⟩ := ho
        rw [e] at e'
        cases e'
        exact (nd es ep d).elim
      · exact (hb h1).elim
  have keepNs : ∀ {b : Addr} {mm : Str → Option Value}, b ≠ sysModules → s₁.heap.Ns b mm → (hidT s₁.heap H).Ns b mm := by
    rintro b mm hb ⟨o, es, ep, e, d, r⟩
    exact ⟨o, es, ep, hidT_get e (noDict hb e d), d, r⟩
  have n1 : mainGlobals ≠ sysModules := by decide
  have n2 : builtinsNs ≠ sysModules := by decide
  have n3 : cStatics ≠ sysModules := by decide
  have inB : K.In (hidT s₁.heap H) := fun b o e => hidT_get (inK b o e) (by
    cases q : H b with
    | none => rfl
    | some u =>
      rw [freeK b (by rw [q]; simp)] at e
      cases e)
  have md : Mod K mg (hidT s₁.heap H) := ⟨inB, keepNs n1 ng, ⟨mb, keepNs n2 nb, bb⟩, let ⟨mc, h1, h2⟩ := nl; ⟨mc, keepNs n3 h1, h2⟩⟩
  have e0 : Env0 P w K mg (hidT s₁.heap H) callerA [] s₁ H := ⟨rfl, md, fun b o e => of_hidT e, Nat.le_of_eq (hidT_size _ _), trivial, fun b hb => (nomatch hb), okH, .of_eq gens⟩
  have hw : HW K ⟨fun b o => H b = some o, [], fun _ _ => False⟩ H [] := ⟨fun _ _ e => e, rfl, fun n b p e => (by simp at e), List.nodup_nil, fun _ _ h => (nomatch h), fun _ _ h => h.elim, hsm⟩
  refine codeAny_mono ((F _ inB (keepNs n1 ng)).run callerA [] s₁ H ⟨[.ref a], []⟩ [.ref a] [.ref a] (fun v _ => v = .bl true) (fun _ _ _ => False) _ _ [] room e0 (hbind s₁ (.ref a)) (.cons rfl .nil) (.cons rd .nil) hw rfl ?_) ?_
  · rw [em]
    intro w' v H' _ rv _
    cases rv
    rfl
  · intro r s' hres
    cases r with
    | error e =>
      obtain ⟨_, _, _, _, _, _, _, _, _, _, _, _, z⟩ := hres
      exact z.elim
    | ok fl =>
      cases fl with
      | next => exact False.elim hres
      | brk => exact False.elim hres
      | cont => exact False.elim hres
      | ret u =>
        obtain ⟨v, H', os, bare, un, okH', r', q⟩ := hres
        have q' : v = .bl true := q
        subst q'
        obtain rfl : u = Value.bool true := r'
        refine ⟨rfl, OldK.of_keep fun b o e => ?_, os, bare⟩
        cases q : H b with
        | none => exact un.keep b o e q (fun z => nomatch z) (by simp)
        | some z =>
          obtain ⟨_, ob, xs, rfl⟩ := only b z q
          have q2 := un.frzs b ob _ q
          obtain ⟨e1, _⟩ := okH b _ q
          obtain ⟨e2, _⟩ := okH' b _ q2
          rw [e] at e1
          cases e1
          exact e2
theorem head_call (inK : K.In s₁.heap) (ng : s₁.heap.Ns mainGlobals mg) (nb : s₁.heap.Ns builtinsNs mb) (bb : ∀ x : Str, x ≠ "__name__" → mb x = bootBuiltins x) (nl : s₁.heap.NoLimit) (gens : s₁.gens = #[])
    (nm : ∃ mm, s₁.heap.Ns sysModules mm) (km : K.lookup sysModules = none)
    (ha : s₁.heap.get? a = some { cls := .type "list", data := .seq vs.toArray }) (hi : IntsAre vs ns) (hl : ns.length ≤ sizeLine) (room : Rm k callerA)
    (F : ∀ base : Heap, K.In base → base.Ns mainGlobals mg → FnG P w K mg base k fa fd [x] m) (hbind : ∀ (s : Shared) (u : Value), BindsTo s fd ⟨[u], []⟩ [(x, u)]) (hm : ∃ h', m [.kst (ns.map .int)] [] = .ok (.bl true) h') :
    codeAny (model P w) callerA (.call (.ref fa) ⟨[.ref a], []⟩) (fun r s' => r = .ok (.ret (.bool true)) ∧ OldK s₁.heap s'.heap ∧ s'.os = s₁.os ∧ AllBare s'.gens) s₁ := by
  have rv := vals_ints hi
  have ho : ∃ o, s₁.heap.get? a = some o ∧ ∀ es ep, o.data ≠ .dict es ep := ⟨_, ha, fun _ _ z => nomatch z⟩
  obtain ⟨mm, om, es, ep, em, dm, _⟩ := nm
  have na : a ≠ sysModules := by
    rintro rfl
    rw [ha] at em
    cases em
    cases dm
  cases hk : K.lookup a with
  | some o =>
    have e := inK a o hk
    rw [ha] at e
    cases e
    have at_ : ∀ b o, (fun b => if b = sysModules then some (HO.frz om (.own 0)) else none : Hp) b = some o → b = sysModules ∧ o = .frz om (.own 0) := fun b o z => by
      dsimp only at z
      split at z
      · rename_i e
        cases z
        exact ⟨e, rfl⟩
      · cases z
    refine head_at (H := fun b => if b = sysModules then some (HO.frz om (.own 0)) else none) inK ng nb bb nl gens ho room F hbind (fun b o z => ?_) ⟨om, .own 0, if_pos rfl⟩ (fun b o z => ?_) (fun b z => ?_) (.kst (vs := ns.map V.int) (.inr ⟨_, vs.toArray, _, hk, rfl, rfl, rfl, ?_, by simpa using rv⟩) (ints_rv ns)) hm
    · obtain ⟨e1, e2⟩ := at_ b o z
      exact ⟨.inr e1, _, _, e2⟩
    · obtain ⟨e1, e2⟩ := at_ b o z
      subst e1 e2
      exact ⟨em, om, em⟩
    · cases q : (fun b => if b = sysModules then some (HO.frz om (.own 0)) else none : Hp) b with
      | none => exact (z q).elim
      | some o => rw [(at_ b o q).1]; exact km
    · rw [List.size_toArray, hi.length]
      exact hl
  | none =>
    have at_ : ∀ b o, (fun b => if b = a then some (HO.frz { cls := .type "list", data := .seq vs.toArray } (.lst (ns.map V.int))) else if b = sysModules then some (HO.frz om (.own 0)) else none : Hp) b = some o →
        (b = a ∧ o = .frz { cls := .type "list", data := .seq vs.toArray } (.lst (ns.map V.int))) ∨ (b = sysModules ∧ o = .frz om (.own 0)) := fun b o z => by
      dsimp only at z
      split at z
      · rename_i e
        cases z
        exact .inl ⟨e, rfl⟩
      · split at z
        · rename_i e
          cases z
          exact .inr ⟨e, rfl⟩
        · cases z
    refine head_at (H := fun b => if b = a then some (HO.frz { cls := .type "list", data := .seq vs.toArray } (.lst (ns.map V.int))) else if b = sysModules then some (HO.frz om (.own 0)) else none) inK ng nb bb nl gens ho room F hbind (fun b o z => ?_) ⟨om, .own 0, ?_⟩ (fun b o z => ?_) (fun b z => ?_)
      (.kst (vs := ns.map V.int) (.inl ⟨_, if_pos rfl⟩) (ints_rv ns)) hm
    · rcases at_ b o z with ⟨e1, e2⟩ | ⟨e1, e2⟩
      · exact ⟨.inl e1, _, _, e2⟩
      · exact ⟨.inr e1, _, _, e2⟩
    · exact (if_neg fun z => na z.symm).trans (if_pos rfl)
    · rcases at_ b o z with ⟨e1, e2⟩ | ⟨e1, e2⟩
      · subst e1 e2
        exact ⟨ha, by rw [List.length_map]; exact hl, vs, _, rv, ha⟩
      · subst e1 e2
        exact ⟨em, om, em⟩
    · cases q : (fun b => if b = a then some (HO.frz { cls := .type "list", data := .seq vs.toArray } (.lst (ns.map V.int))) else if b = sysModules then some (HO.frz om (.own 0)) else none : Hp) b with
      | none => exact (z q).elim
      | some o =>
        rcases at_ b o q with ⟨e1, _⟩ | ⟨e1, _⟩
        · rw [e1]; exact hk
        · rw [e1]; exact km
/-- what the law's head asks, of a law whose call gives True -/
theorem walk_g {l : PySem.W.OpenLaw} {n k : Nat} {q : Program} {loose : List Str} {XP : (Str → Option Value) → Heap → Prop} {YP : World → Heap → Prop} {d : DefRec} {K : Params → PySem.W.Frag} {x : Str} {m : FM}
    (hn : l.most = some n) (hn2 : n ≤ sizeLine) (hdf : d.params.defaults = []) (hr : Rm k callerA)
    (hY : ∀ (w : World) (h : Heap), YP w h → (K w.params).In h) (hi : importsNone q = true) (km : ∀ w : World, (K w.params).lookup sysModules = none)
    (F : ∀ (w : World) (mg : Str → Option Value) (fa : Addr) (h : Heap), (K w.params).In h → h.Ns mainGlobals mg → mg d.name = some (.ref fa) →
      ∃ fd : FuncData, (∀ (s : Shared) (u : Value), BindsTo s fd ⟨[u], []⟩ [(x, u)]) ∧
        ∀ base : Heap, (K w.params).In base → base.Ns mainGlobals mg → FnG l.prog w (K w.params) mg base k fa fd [x] m)
    (hm : ∀ ns : List Int, ns.length ≤ n → ∃ h', m [.kst (ns.map .int)] [] = .ok (.bl true) h') :
    PySem.W.WalkO q loose XP YP l.row.toRowW d [] (fun f vs => PySem.call f vs) := by
  refine Att.attach_call hn hdf ?_
  intro w s₀ s₁ mg mb fa o pm cd doc a vs ns G Y ho hd hcd hmg hobj hints hlen hg
  have inK := hY w _ Y
  obtain ⟨fd, hb, hF⟩ := F w mg fa _ inK G.T.g hmg
  have nm : ∃ mm, s₁.heap.Ns sysModules mm := let ⟨mm, z, _⟩ := (G.T.seer hi).mods; ⟨mm, z⟩
  exact head_call inK G.T.g G.T.b G.T.builtins G.T.nolimit hg nm (km w) hobj hints (Nat.le_trans hlen hn2) hr hF hb (hm ns hlen)
end
end DN
namespace DN
open PySem PySem.Spec PyProof.Rows L2
section
variable {X : Cx} {W : WX} {pos : Pos} {x : Str} {e : Expr}
theorem d_ty (n : String) (hg : Gl X x) (hm : X.mg x = none) (hv : bootBuiltins x = some (.type n)) (hn : x ≠ "__name__" := by decide) (hd : (x == ("__debug__" : Str)) = false := by decide) :
    DE X W (.Name x pos) (mC (.st (.ty n))) := d_c (pe_bltn (v := .ty n) hg hm hv rfl hn hd) fun _ _ => .st _
theorem d_glob {d : D} {v : V} (hg : Gl X x) (h : ∃ u, X.mg x = some u ∧ RelV v u) (hd : (x == ("__debug__" : Str)) = false := by decide) (r : ∀ K w, RV K w v d := by first | exact fun _ _ => .int _ | exact fun _ _ => .str _ | exact fun _ _ => .bl _ | exact fun _ _ => .non) :
    DE X W (.Name x pos) (mC d) := by
  obtain ⟨u, h1, h2⟩ := h
  exact d_c (pe_glob hg h1 h2 hd) r
def mNeg (m : EM) : EM := fun s h => (m s h).bind fun x h1 => match x with
  | .int i => .ok (.int (-i)) h1
  | _ => .no
theorem d_neg {m : EM} (h : DE X W e m) : DE X W (.UnaryOp .USub e pos) (mNeg m) := PE.imp (pe_un un_neg h) fun σ H Q ⟨w, s, h, rs, hw, q⟩ =>
  ⟨w, s, h, rs, hw, WpE.bind (G := WpE X.K w Q _) q (fun _ _ z => z) (fun z => z) fun k h1 w1 v H1 l rv hw1 q1 => by
    split at q1
    · cases rv
      exact ⟨_, rfl, q1 w1 _ H1 l (.int _) hw1⟩
    · exact q1.elim⟩
/-- a, b, c = x, y, z -/
def sPar3 (i j k : Nat) (m : AM) : SM := fun s h => (m s h).q s fun l h1 => match l with
  | [x, y, z] => .nx (((s.set i (some x)).set j (some y)).set k (some z)) h1
  | _ => .no
theorem rv3 {K : PySem.W.Frag} {w : Wd} {v : List V} {a b c : D} (r : RVs K w v [a, b, c]) : ∃ x y z, v = [x, y, z] ∧ RV K w x a ∧ RV K w y b ∧ RV K w z c := by
  cases r with
  | cons p q => cases q with
    | cons p' q' => cases q' with
      | cons p'' q'' => cases q''; exact ⟨_, _, _, rfl, p, p', p''⟩
theorem ds_par3 {i j l : Nat} {x y z : Str} {a b c : Expr} {ma : AM} {px py pz pt : Pos} {kt k2 pt2} (hc : X.calm = true) (hN : X.N.Nodup) (hi : X.N[i]? = some x) (hj : X.N[j]? = some y) (hl : X.N[l]? = some z) (hij : i ≠ j) (hil : i ≠ l) (hjl : j ≠ l)
    (hx : X.env.scope.names.lookup x = some .local) (hy : X.env.scope.names.lookup y = some .local) (hz : X.env.scope.names.lookup z = some .local) (ha : DA X W [a, b, c] ma)
    (hw : swappedStores [.Tuple [.Name x px, .Name y py, .Name z pz] kt pt] (.Tuple [a, b, c] k2 pt2) X.env = pure (some [x, y, z]))
    (hs : swapsWithSole [.Tuple [.Name x px, .Name y py, .Name z pz] kt pt] (.Tuple [a, b, c] k2 pt2) pos.line X.env = pure false := by rfl) :
    DS X W (.Assign [.Tuple [.Name x px, .Name y py, .Name z pz] kt pt] (.Tuple [a, b, c] k2 pt2) pos) (sPar3 i j l ma) := PS.imp (ps_par3 hc hN hi hj hl hij hil hjl hx hy hz ha hw hs) fun D σ H ⟨w, s, h, rs, hw, q⟩ =>
  ⟨w, s, h, rs, hw, WpS.qA rs q fun l h1 w1 v H1 l1 rv hw1 q1 => by
    split at q1
    · obtain ⟨x, y, z, rfl, r1, r2, r3⟩ := rv3 rv
      exact ⟨x, y, z, rfl, q1 w1 _ H1 (.refl w1) ((((rs.mono l1).set r1).set r2).set r3) hw1⟩
    · exact q1.elim⟩
/-! ### dict displays (never changed) -/
def mDNew : EM := fun _ h => .ok (.dct []) h
theorem d_dnew : DE X W (.Dict [] [] pos) mDNew := PE.imp pe_dnewK fun σ H Q ⟨w, s, h, rs, hw, q⟩ p hp => q _ _ _ Wd.le_add (.dct (.inr ⟨rfl, rfl⟩) .nil) (hw.add hp)
def key : D → Option Key
  | .int i => some (.inl i)
  | .str x => some (.inr x)
  | _ => none
theorem key_v {K : PySem.W.Frag} {w : Wd} {v : V} {d : D} {k : Key} (r : RV K w v d) (e : key d = some k) : v = kV k := by
  cases r <;> first | (cases e; rfl) | cases e
abbrev PM := Sg → LH → R (List (Key × D))
def WpP (K : PySem.W.Frag) (w : Wd) (Q : List (V × V) → Hp → Prop) (W : XK) : R (List (Key × D)) → Prop
  | .ok l h => ∀ w' vs H', w.le w' → RKs K w' vs l → HW K w' H' h → Q (vs.map fun kv => (kV kv.1, kv.2)) H'
  | .ex x h => Px K w W x h
  | .no => False
def DP (X : Cx) (W : WX) (pos : Pos) (keys : List (Option Expr)) (values : List Expr) (m : PM) : Prop :=
  ∃ trs, PPs X pos keys values trs ∧ ∀ (w : Wd) (s : Sg) (h : LH) (σ : L2.St) (H : Hp) (Q : List (V × V) → Hp → Prop), RS X.K w σ s → HW X.K w H h → WpP X.K w Q (fun c d H => W c d σ H) (m s h) → tPairs trs σ H Q
def dNil : PM := fun _ h => .ok [] h
def dCons (a b : EM) (r : PM) : PM := fun s h => (a s h).bind fun x h1 => match key x with
  | none => .no
  | some k => (b s h1).bind fun y h2 => (r s h2).bind fun l h3 => .ok ((k, y) :: l) h3
theorem dp_nil : DP X W pos [] [] dNil := ⟨[], pps_nil, fun w s h σ H Q rs hw q => q w [] H (.refl w) .nil hw⟩
theorem WpP.mono {K : PySem.W.Frag} {w w' : Wd} {Q : List (V × V) → Hp → Prop} {W : XK} {r : R (List (Key × D))} (l : w.le w') (p : WpP K w Q W r) : WpP K w' Q W r := by
  cases r with
  | ok d h => exact fun v c H k r q => p v c H (l.trans k) r q
  | ex x h => exact Px.mono l p
  | no => exact p
theorem dp_cons {k v : Expr} {ks : List (Option Expr)} {vs : List Expr} {mk mv : EM} {mr : PM} (hk : DE X W k mk) (hv : DE X W v mv) (hr : DP X W pos ks vs mr) : DP X W pos (some k :: ks) (v :: vs) (dCons mk mv mr) := by
  obtain ⟨trs, p, f⟩ := hr
  refine ⟨_, pps_cons hk hv p, fun w s h σ H Q rs hw q => ?_⟩
  refine ⟨w, s, h, rs, hw, WpE.bind (G := WpP X.K w Q _) q (fun _ _ z => z) (fun z => z) fun x h1 w1 v1 H1 l1 rv hw1 q1 => ?_⟩
  split at q1
  · exact q1.elim
  · rename_i kk ek
    have := key_v rv ek
    subst this
    refine ⟨w1, s, h1, rs.mono l1, hw1, WpE.bind (G := WpP X.K w Q _) q1 (fun _ _ z => Px.mono l1 z) (fun z => z) fun y h2 w2 v2 H2 l2 rv2 hw2 q2 => ?_⟩
    refine f w2 s h2 σ H2 _ (rs.mono (l1.trans l2)) hw2 ?_
    cases er : mr s h2 with
    | ok l h3 =>
      rw [er] at q2
      exact fun w3 vs3 H3 l3 r3 hw3 => q2 w3 ((kk, v2) :: vs3) H3 ((l1.trans l2).trans l3) (.cons (rv2.mono l3) r3) hw3
    | ex x h3 => rw [er] at q2; exact Px.mono (l1.trans l2) q2
    | no => rw [er] at q2; exact q2.elim
def mDct (m : PM) : EM := fun s h => (m s h).bind fun l h1 => if decide ((l.map (·.1)).Nodup ∧ l.length ≤ 15) = true then .ok (.dct l) h1 else .no
theorem any_fst {α : Type} (k : Key) : ∀ l : List (Key × α), (l.any fun kv => decide (kv.1 = k)) = true ↔ k ∈ l.map (·.1)
  | [] => by simp
  | p :: r => by
    rw [List.any_cons, Bool.or_eq_true, any_fst k r, List.map_cons, List.mem_cons, decide_eq_true_iff]
    exact or_congr ⟨fun e => e.symm, fun e => e.symm⟩ Iff.rfl
theorem mergeK_nd : ∀ (more kvs : List (Key × V)), ((kvs ++ more).map (·.1)).Nodup → mergeK kvs more = kvs ++ more
  | [], kvs, _ => by simp [mergeK]
  | p :: r, kvs, h => by
    have h1 : p.1 ∉ kvs.map (·.1) := by
      rw [List.map_append, List.nodup_append] at h
      exact fun m => h.2.2 _ m _ (by simp) rfl
    have e : putK kvs p.1 p.2 = kvs ++ [p] := by
      unfold putK
      rw [if_neg (fun z => h1 ((any_fst _ _).mp z))]
    show mergeK (putK kvs p.1 p.2) r = _
    rw [e, mergeK_nd r (kvs ++ [p]) (by simpa using h)]
    simp
theorem rks_fst {K : PySem.W.Frag} {w : Wd} : ∀ {vs : List (Key × V)} {l : List (Key × D)}, RKs K w vs l → vs.map (·.1) = l.map (·.1)
  | _, _, .nil => rfl
  | _, _, .cons _ r => by simp [rks_fst r]
theorem d_dct {keys : List (Option Expr)} {values : List Expr} {m : PM} (h : DP X W pos keys values m) (hall : keys.all (·.isSome) = true) (hl : keys.length = values.length) (h0 : keys ≠ []) (h15 : keys.length ≤ 15) : DE X W (.Dict keys values pos) (mDct m) := by
  obtain ⟨trs, p, f⟩ := h
  refine PE.imp (pe_disp p hall hl h0 h15) fun σ H Q ⟨w, s, h, rs, hw, q⟩ a ha => ?_
  obtain ⟨f1, f2, f3⟩ := hw.free ha
  refine f (w.res a (.dK [])) s h σ _ _ (rs.mono Wd.le_res) (hw.res ha) ?_
  unfold mDct at q
  cases er : m s h with
  | ok l h1 =>
    rw [er, R.bind_ok] at q
    split at q
    · rename_i z
      obtain ⟨z1, z2⟩ := of_decide_eq_true z
      intro w2 vs H2 l2 rk hw2
      have hres : w2.rs a (.dK []) := l2.2.2 _ _ (.inr ⟨rfl, rfl⟩)
      have ef := rks_fst rk
      have el : vs.length = l.length := by
        have := congrArg List.length ef
        simpa using this
      refine ⟨(hw2.rs _ _ hres).1, vs, rfl, by omega, ?_⟩
      rw [mergeK_nd vs [] (by rw [List.nil_append, ef]; exact z1), List.nil_append]
      have hw3 := (hw2.reset (o := .dK vs) ⟨_, hres⟩).frz (.inr ⟨rfl, rfl⟩)
      have lx : w.le (((w2.unres a).res a (.dK vs)).unres a) := Wd.le_unres ((Wd.le_unres (Wd.le_res.trans l2) f3).trans Wd.le_res) f3
      exact q _ _ _ (lx.trans Wd.le_add) (.dct (.inr ⟨rfl, rfl⟩) ((rk.eqv (w := w2) (w' := ((w2.unres a).res a (.dK vs)).unres a) rfl rfl).mono Wd.le_add)) hw3
    · exact q.elim
  | ex x h1 => rw [er] at q; exact Px.mono Wd.le_res q
  | no => rw [er] at q; exact q.elim
end
end DN
namespace DN
open PySem PySem.Spec PyProof.Rows L2
theorem law_of {P : Program} {w : World} {K : PySem.W.Frag} {mg : Str → Option Value} {k : Nat} {y x : Str} {st : Stmt} {m : FM} {fa : Addr} (T : DefAt K mg y st) (hfa : mg y = some (.ref fa))
    (hb : ∀ (kV doc pm : Value) (an : Option Addr) (cdv ct : Value) (u : Value), bindArgs (PySem.W.fnOf y y (defArgs st) (defBody st) (defScope st) .none kV doc pm an cdv ct) ⟨[u], []⟩ = pure [(x, u)])
    (C : ∀ base, CalP P w K mg base k y st [x] m) :
    ∃ fd : FuncData, (∀ (s : Shared) (u : Value), BindsTo s fd ⟨[u], []⟩ [(x, u)]) ∧ ∀ base : Heap, K.In base → base.Ns mainGlobals mg → FnG P w K mg base k fa fd [x] m := by
  obtain ⟨f, fd, F, g⟩ := T.ex
  obtain rfl : f = fa := by
    rw [hfa] at g
    cases g
    rfl
  obtain ⟨oc, od, kV, doc, pm, an, cdv, ct, osl, e, lk, hcd⟩ := F.ex
  refine ⟨fd, fun s u => by rw [e]; exact .of_eq (hb kV doc pm an cdv ct u), fun base _ _ => ?_⟩
  obtain ⟨f', fd', F', g', r⟩ := (C base).ex
  obtain rfl : f' = f := by
    rw [hfa] at g'
    cases g'
    rfl
  obtain ⟨oc', od', kV', doc', pm', an', cdv', ct', osl', e', lk', hcd'⟩ := F'.ex
  have : fd' = fd := by
    rw [lk] at lk'
    cases lk'
    rfl
  exact this ▸ r
end DN
namespace DN
open PySem PySem.Spec PyProof.Rows L2
/-! ### max(.., default=d) -/
section
variable {P0 : Program} {w : World} {B : Around} {G : Result → Shared → Prop} {it : Addr} {fp wr : List Addr} {n : Nat} {P : Nat → Value → Prop} {St : Nat → Heap → Prop} {d : Value}
/-- what was seen so far -/
def Best (P : Nat → Value → Prop) (bt : Nat → Nat → Bool) (j : Nat) (vs : Array Value) : Prop := (j = 0 ∧ vs = #[]) ∨ ∃ i b, j = i + 1 ∧ vs = #[b, b] ∧ P (argBest bt i) b
theorem max_nm : (toString "max" ++ toString ".loop" : String) = "max.loop" := by decide
theorem mx_loop (W : Walks P0 w B.in1 it fp wr n P St) (bt : Nat → Nat → Bool) (hc : CmpOf P0 w B.in1 .Gt P bt) (z : Addr) (hz : z ∉ fp) :
    ∀ (k j : Nat) (t : Shared) (vs : Array Value) (c : Nat), n - j = k → j ≤ n → St j t.heap → Best P bt j vs → t.heap.get? z = some { cls := .type "list", dict := none, data := .seq vs c, slots := #[] } →
    (n = 0 → ∀ g tk, (∀ b o, b ∉ wr → b ≠ z → t.heap.get? b = some o → g.get? b = some o) → G (.ok (.ret d)) { t with heap := g, toks := tk }) →
    (∀ i, n = i + 1 → ∀ v g tk, P (argBest bt i) v → (∀ b o, b ∉ wr → b ≠ z → t.heap.get? b = some o → g.get? b = some o) → G (.ok (.ret v)) { t with heap := g, toks := tk }) →
    codeAny (model P0 w) B (.builtin "max.loop" ⟨[.ref it, .none, .ref z], [("default", d)]⟩) G t := by
  have zw : z ∉ wr := fun m => hz (W.sub _ m)
  intro k
  induction k with
  | zero =>
    intro j t vs c hk hj hst hb hs h0 h1
    obtain rfl : j = n := by omega
    refine codeAny_builtin F.entry_max_loop ?_
    rw [Around.under_plainId F.plain_max_loop _]
    refine wpAny_bind (M := model P0 w) (m := seqItems? (.ref z)) (wpAny_seqItems hs rfl ?_)
    refine wpAny_bind (M := model P0 w) (m := tryCatch (pyNext (.ref it)) _) (wpAny_tryCatch (W.done t _ _ hst fun g tk keep => ?_))
    have hs2 := keep z _ zw hs
    rcases hb with ⟨rfl, rfl⟩ | ⟨i, b, rfl, rfl, pb⟩
    · refine wpAny_bind (M := model P0 w) (m := rule _) (wpAny_rule (wpAny_pure ?_))
      exact h0 rfl g tk fun b o nb _ e => keep b o nb e
    · refine wpAny_bind (M := model P0 w) (m := updateSeq z (fun _ => #[])) ?_
      refine wpAny_updateSeq hs2 rfl (wpAny_bind (wpAny_letGo (wpAny_pure ?_)))
      exact h1 i rfl b _ tk pb fun a o na nz e => (Heap.get?_update_other _ _ (Ne.symm nz)).trans (keep a o na e)
  | succ k ih =>
    intro j t vs c hk hj hst hb hs h0 h1
    have hlt : j < n := by omega
    refine codeAny_builtin F.entry_max_loop ?_
    rw [Around.under_plainId F.plain_max_loop _]
    refine wpAny_bind (M := model P0 w) (m := seqItems? (.ref z)) (wpAny_seqItems hs rfl ?_)
    refine wpAny_bind (M := model P0 w) (m := tryCatch (pyNext (.ref it)) _) (wpAny_tryCatch (W.item j t _ _ hlt hst fun v g tk pv hst' keep => ?_))
    have hs2 := keep z _ zw hs
    rcases hb with ⟨rfl, rfl⟩ | ⟨i, b, rfl, rfl, pb⟩
    · refine wpAny_bind (M := model P0 w) (m := updateSeq z (fun _ => #[v, v])) ?_
      refine wpAny_updateSeq hs2 rfl ?_
      rw [max_nm]
      refine wpAny_pure ⟨plainId_quiet F.plain_max_loop _, ih 1 _ #[v, v] _ (by omega) hlt (W.frame _ _ _ hst' fun a ha o e => ?_) (.inr ⟨0, v, rfl, rfl, pv⟩) (Heap.get?_update_self _ hs2 rfl) (fun e0 => absurd e0 (by omega)) fun i ei v' g2 tk2 pv' keep2 => ?_⟩
      · exact (Heap.get?_update_other _ _ (fun e1 : z = a => hz (by rw [e1]; exact ha))).trans e
      · exact h1 i ei v' g2 tk2 pv' fun a o na nz e => keep2 a o na nz ((Heap.get?_update_other _ _ (Ne.symm nz)).trans (keep a o na e))
    · refine wpAny_bind (M := model P0 w) (m := tryCatch (holding [v, v] (richCompare .Gt v b >>= _)) _) ?_
      refine wpAny_tryCatch (wpAny_holding (wpAny_bind (hc (i + 1) (argBest bt i) v b _ _ _ pv pb ?_)))
      refine wpAny_bind (wpAny_holding (wpAny_truthy_bool (wpAny_bind (wpAny_letGo (wpAny_pure ?_)))))
      cases hbt : bt (i + 1) (argBest bt i) with
      | true =>
        simp only [if_true]
        refine wpAny_bind (wpAny_updateSeq hs2 rfl (wpAny_bind (wpAny_letGo ?_)))
        rw [max_nm]
        refine wpAny_pure ⟨plainId_quiet F.plain_max_loop _, ih (i + 2) _ #[v, v] _ (by omega) hlt (W.frame _ _ _ hst' fun a ha o e => ?_) (.inr ⟨i + 1, v, rfl, rfl, ?_⟩) (Heap.get?_update_self _ hs2 rfl) (fun e0 => absurd e0 (by omega)) fun i' ei v' g2 tk2 pv' keep2 => ?_⟩
        · exact (Heap.get?_update_other _ _ (fun e1 : z = a => hz (by rw [e1]; exact ha))).trans e
        · simp only [argBest, hbt, if_true]; exact pv
        · exact h1 i' ei v' g2 tk2 pv' fun a o na nz e => keep2 a o na nz ((Heap.get?_update_other _ _ (Ne.symm nz)).trans (keep a o na e))
      | false =>
        simp only [Bool.false_eq_true, if_false]
        refine wpAny_bind (wpAny_letGo ?_)
        rw [max_nm]
        refine wpAny_pure ⟨plainId_quiet F.plain_max_loop _, ih (i + 2) _ #[b, b] c (by omega) hlt hst' (.inr ⟨i + 1, b, rfl, rfl, ?_⟩) hs2 (fun e0 => absurd e0 (by omega)) fun i' ei v' g2 tk2 pv' keep2 => ?_⟩
        · simp only [argBest, hbt, Bool.false_eq_true, if_false]; exact pb
        · exact h1 i' ei v' g2 tk2 pv' fun a o na nz e => keep2 a o na nz (keep a o na e)
end
theorem args_maxD (a d : Value) : argsOk "max" ⟨[a], [("default", d)]⟩ := by unfold argsOk; kernel_rfl
theorem call_tree_kw {P0 : Program} {w : World} {A : Around} {E : Value → Shared → Prop} {s : Shared} {id : String} {b : Builtin} {args : List Value} {kw : List (Str × Value)} {Q : Value → Shared → Prop} (hk : builtinKind id = none) (hp : plainId id = true)
    (hb : entryFor table id = some b) (ha : argsOk id ⟨args, kw⟩)
    (hc : wpAny (model P0 w) A.in1 (b ⟨args, kw⟩) (fun fin t => match fin with
      | .done f => (match (Except.ok f : Result) with | .ok (.ret v) => Q v t | .ok _ => False | .error e => E e t)
      | .again c => c.quiet = true ∧ codeAny (model P0 w) A c (fun r t => match r with | .ok (.ret v) => Q v t | .ok _ => False | .error e => E e t) t) E s) :
    wpAny (model P0 w) A (call (.builtin id) args kw) Q E s := by
  refine wpAny_call (codeAny_call_builtin hp hb ?_)
  simp only [checkBuiltinCall, hk]
  cases sg : Manifest.signature? id with
  | none => exact wpAny_pure hc
  | some sig =>
    simp only [argsOk, sg] at ha
    have e : Bind.checkArgs id sig ⟨args, kw⟩ = pure () := ha
    show wpAny _ A.in1 (Bind.checkArgs id sig ⟨args, kw⟩) _ _ s
    rw [e]
    exact wpAny_pure hc
theorem max_dflt {P0 : Program} {w : World} {A : Around} {E : Value → Shared → Prop} {s : Shared} {l : Addr} {its : List Value} {ns : List Int} {d : Value} {Q : Value → Shared → Prop} (hh : A.handled = none) (hl : s.heap.IsList l its.toArray) (hi : IntsAre its ns)
    (q0 : ns = [] → ∀ g tk, (∀ b o, s.heap.get? b = some o → g.get? b = some o) → Q d { s with heap := g, toks := tk })
    (q1 : ∀ g tk M t, (∀ b o, s.heap.get? b = some o → g.get? b = some o) → M ∈ ns → (∀ a, a ∈ ns → a ≤ M) → Q (.int M t) { s with heap := g, toks := tk }) : wpAny (model P0 w) A (call (.builtin "max") [.ref l] [("default", d)]) Q E s := by
  obtain ⟨xs, e⟩ := hi.allInts.items
  have hn : numsOf (intItems xs).toList = ns := by rw [← e]; exact hi.numsOf
  rw [nums_intItems] at hn
  subst hn
  rw [e] at hl
  refine call_tree_kw F.kind_max F.plain_max F.entry_max (args_maxD _ _) ?_
  show wpAny _ A.in1 (Builtin.Builtins.bindParams "max" ["key", "default"] 0 ⟨[], [("default", d)]⟩ >>= _) _ _ s
  refine wpAny_bind (wpAny_of_eq (show Builtin.Builtins.bindParams "max" ["key", "default"] 0 ⟨[], [("default", d)]⟩ = pure [none, some d] from rfl) ?_)
  refine wpAny_bind (wpAny_pure ?_)
  refine wpAny_bind (iter_intList hl fun s₂ es st hfp hlI => ?_)
  subst es
  refine wpAny_bind (wpAny_newObj_type ?_)
  have W := Walks.list (prog := P0) (w := w) (A := A.in1) hh s.heap.objs.size l hlI (intItems xs)
  have hSf : (s.heap.push { cls := .type "list_iterator", data := .fields #[.ref l, .int 0 0] }).objs.size ∉ [s.heap.objs.size, l] := fun hm => Nat.lt_irrefl _ (hfp _ hm)
  have sz : (intItems xs).size = xs.size := by simp [intItems]
  rw [max_nm]
  refine wpAny_pure ⟨plainId_quiet F.plain_max_loop _, mx_loop W (fun i j => decide (numAt xs i > numAt xs j)) (CmpOf.ints_gt (numAt xs) (fun _ _ => intItems_at)) _ hSf _ 0 _ #[] 0 rfl (Nat.zero_le _)
    (W.frame _ _ _ st fun b _ o e => Heap.get?_push_of_some _ e) (.inl ⟨rfl, rfl⟩) (Heap.get?_push_size _ rfl) (fun n0 g tk keep => ?_) fun i ei v g tk hP keep => ?_⟩
  · refine q0 ?_ g tk (old_kept (l := l) fun b o nb e => ?_)
    · rw [sz] at n0
      have : xs.toList = [] := List.eq_nil_of_length_eq_zero (by simpa using n0)
      rw [this]; rfl
    · exact keep b o nb (Nat.ne_of_lt (Heap.lt_size e)) (Heap.get?_push_of_some _ e)
  · have hP' : (intItems xs)[argBest (fun i j => decide (numAt xs i > numAt xs j)) i]? = some v := by simpa [intItems] using hP
    obtain ⟨t, rfl⟩ := intItems_at hP'
    obtain ⟨h1, h2⟩ := argBest_gt (numAt xs) i
    rw [sz] at ei
    refine q1 g tk _ t (old_kept (l := l) fun b o nb e => keep b o nb (Nat.ne_of_lt (Heap.lt_size e)) (Heap.get?_push_of_some _ e)) ?_ fun a ha => ?_
    · rw [numAt_eq]; exact PySem.getD_mem (by rw [List.length_map, Array.length_toList]; omega)
    · obtain ⟨j, hj, rfl⟩ := mem_getD ha
      rw [List.length_map, Array.length_toList] at hj
      rw [← numAt_eq]; exact h2 j (by omega)
/-! a built-in function with keywords -/
abbrev OK := LH → List D → List D → Option D
def rK (K : PySem.W.Frag) (g : OK) : List V → List V → Hp → VK → Prop := fun vs zs H Q => ∃ w h ds es d, RVs K w vs ds ∧ RVs K w zs es ∧ HW K w H h ∧ g h ds es = some d ∧ Pv K w Q d h
def OKD (X : Cx) (f : Value) (ks : List Str) (g : OK) : Prop := CallRK X f ks (rK X.K g)
def mCallK (g : OK) (m z : AM) : EM := fun s h => (m s h).bind fun l h1 => (z s h1).bind fun y h2 => match g h2 l y with
  | some d => .ok d h2
  | none => .no
def cMaxD : OK := fun h ds es => match ds, es with
  | [d], [z] => (seqL h d).bind fun l => (l.mapM asI).map fun ns => match ns.max? with
    | some m => .int m
    | none => z
  | _, _ => none
section
variable {X : Cx} {W : WX} {x : Str} {p pos : Pos} {e : Expr} {es : List Expr} {kws : List Keyword} {id : String} {ks : List Str} {g : OK} {a z : AM}
theorem d_callBK (hc : OKD X (.builtin id) ks g) (hg : Gl X x) (hm : X.mg x = none) (hv : bootBuiltins x = some (.builtin id)) (ha : DA X W (e :: es) a) (hk : DK X W kws z) (hn : x ≠ "__name__" := by decide) (hdb : (x == ("__debug__" : Str)) = false := by decide)
    (he : backTo pos (starEach (e :: es) X.env) = (false, eval e X.env) :: backTo pos (starEach es X.env) := by rfl) (hpl : (backTo pos (starEach (e :: es) X.env)).any (·.1) = false := by rfl)
    (hall : (backToKw pos (keywordEach kws X.env)).all (·.1.isSome) = true := by rfl) (hnone : (backToKw pos (keywordEach kws X.env)).any (·.1.isNone) = false := by rfl) (hks : (backToKw pos (keywordEach kws X.env)).filterMap (·.1) = ks := by rfl) :
    DE X W (.Call (.Name x p) (e :: es) kws pos) (mCallK g a z) := PE.imp (pe_callBK hc hg hm hv ha hk hn hdb he hpl hall hnone hks) fun σ H Q ⟨w, s, h, rs, hw, q⟩ =>
  ⟨w, s, h, rs, hw, WpA.bind (G := WpE X.K w Q _) q (fun _ _ z => z) (fun z => z) fun l h1 w1 v H1 l1 rv hw1 q1 =>
    ⟨w1, s, h1, rs.mono l1, hw1, WpA.bind (G := WpE X.K w Q _) q1 (fun _ _ z => Px.mono l1 z) (fun z => z) fun y h2 w2 u H2 l2 ru hw2 q2 => by
      split at q2
      · rename_i d ed
        exact ⟨w2, h2, _, _, d, rv.mono l2, ru, hw2, ed, fun w3 x3 H3 l3 => q2 w3 x3 H3 ((l1.trans l2).trans l3)⟩
      · exact q2.elim⟩⟩
theorem asI_vals {K : PySem.W.Frag} {w : Wd} : ∀ {ds : List D} {vs : List V} {ns : List Int}, RVs K w vs ds → ds.mapM asI = some ns → vs = ns.map V.int
  | [], _, ns, r, e => by
    cases r
    have : ns = [] := by simpa using e.symm
    subst this
    rfl
  | d :: ds, _, ns, r, e => by
    cases r with
    | cons r rs =>
      simp only [List.mapM_cons, Option.bind_eq_bind, Option.bind_eq_some_iff] at e
      obtain ⟨y, e1, zs, e2, e3⟩ := e
      cases e3
      cases r <;> cases e1
      rw [asI_vals rs e2]
      rfl
theorem oc_maxD (hcalm : X.calm = true) : OKD X (.builtin "max") ["default"] cMaxD := by
  intro pins s σ H vs zs us ws Q I r rz ⟨w, h, ds, es, d, rd, re, hw, e, q⟩
  unfold cMaxD at e
  split at e
  · rename_i d0 z0
    simp only [Option.bind_eq_some_iff, Option.map_eq_some_iff] at e
    obtain ⟨l, e1, ns, e2, rfl⟩ := e
    obtain ⟨v, rfl, rv⟩ := rv1 rd
    obtain ⟨zv, rfl, rzv⟩ := rv1 re
    obtain ⟨u, rfl, ru⟩ := vals1 rz
    obtain ⟨a, vs', rfl, s1, q1⟩ := seqL_ok hw rv e1
    obtain rfl := asI_vals q1 e2
    obtain ⟨its, rr, hl, _⟩ := I.list s1
    rw [Vals.ref1 r]
    refine max_dflt (I.ok.hd hcalm) hl.isList rr.ints (fun e0 g tk keep => ?_) fun g tk M t keep hM hmx => ?_
    · subst e0
      exact ⟨zv, H, I.kept keep, ru, Pv.here q hw rzv⟩
    · have hm : ns.max? = some M := by
        rw [List.max?_eq_some_iff]
        exact ⟨hM, fun b hb => hmx b hb⟩
      rw [hm] at q
      exact ⟨.int M, H, I.kept keep, ⟨_, rfl⟩, Pv.here q hw (.int M)⟩
  · cases e
end
/-! ### tuples that the top names -/
theorem stT_mk {K : PySem.W.Frag} {a : Addr} {od : Option Addr} {its : Array Value} {n : Nat} {sl : Array (Option Value)} {vs : List V} (l : K.lookup a = some ⟨.type "tuple", od, .seq its n, sl⟩) (hz : its.size ≤ sizeLine) (r : Vals vs its.toList) : StT K a vs :=
  ⟨_, its, n, l, rfl, rfl, hz, r⟩
theorem d_gtup {X : Cx} {W : WX} {x : Str} {pos : Pos} {vs : List V} {ds : List D} (hg : Gl X x) (h : ∃ a, X.mg x = some (.ref a) ∧ StT X.K a vs) (r : ∀ K w, RVs K w vs ds) (hd : (x == ("__debug__" : Str)) = false := by decide) : DE X W (.Name x pos) (mC (.tup ds)) := by
  obtain ⟨a, h1, h2⟩ := h
  exact PE.imp (pe_glob (v := .ref a) hg h1 rfl hd) fun σ H Q ⟨w, s, h, rs, hw, q⟩ => q w _ H (.refl w) (.tup (.inr h2) (r _ _)) hw
/-! ### a + b, a new list that may change -/
def mCatN (a b : EM) : EM := fun s h => (a s h).bind fun x h1 => (b s h1).bind fun y h2 => match catL h2 x, catL h2 y with
  | some i, some j => if small (i.length + j.length) = true then .ok (.ref h2.length) (h2 ++ [.lst (i ++ j)]) else .no
  | _, _ => .no
theorem d_catN {X : Cx} {W : WX} {a b : Expr} {ma mb : EM} {pos : Pos} (ha : DE X W a ma) (hb : DE X W b mb) : DE X W (.BinOp a .Add b pos) (mCatN ma mb) := PE.imp (pe_op op_cat ha hb) fun σ H Q ⟨w, s, h, rs, hw, q⟩ =>
  ⟨w, s, h, rs, hw, WpE.bind (G := WpE X.K w Q _) q (fun _ _ z => z) (fun z => z) fun x h1 w1 v H1 l1 rx hw1 q1 =>
    ⟨w1, s, h1, rs.mono l1, hw1, WpE.bind (G := WpE X.K w Q _) q1 (fun _ _ z => Px.mono l1 z) (fun z => z) fun y h2 w2 u H2 l2 ry hw2 q2 => by
      split at q2
      · rename_i i j e1 e2
        split at q2
        · rename_i z
          obtain ⟨p, vs, rfl, s1, q1⟩ := catL_ok hw2 (rx.mono l2) e1
          obtain ⟨p2, us, rfl, s2, q3⟩ := catL_ok hw2 ry e2
          exact ⟨p, p2, vs, us, rfl, rfl, s1, s2, by rw [q1.length, q3.length]; exact small_le z, fun p hp => Pv.new (fun w3 z H3 l3 => q2 w3 z H3 ((l1.trans l2).trans l3)) hw2 (q1.append q3) hp⟩
        · exact q2.elim
      · exact q2.elim⟩⟩
end DN
namespace DN
open PySem PySem.Spec PyProof.Rows L2
/-! ### f-strings -/
section
variable {X : Cx} {W : WX} {pos : Pos}
def mFmt (m : EM) : EM := fun s h => (m s h).bind fun d h1 => match d with
  | .str y => if small y.length = true then .ok (.str y) h1 else .no
  | .int i => if decide (i.natAbs.log2 < 1920) = true then .ok (.str (toString i)) h1 else .no
  | _ => .no
theorem d_fmt {e : Expr} {m : EM} (h : DE X W e m) : DE X W (.FormattedValue e (-1) none pos) (mFmt m) := PE.imp (pe_fmt h) fun σ H Q ⟨w, s, h, rs, hw, q⟩ =>
  ⟨w, s, h, rs, hw, WpE.bind (G := WpE X.K w Q _) q (fun _ _ z => z) (fun z => z) fun d h1 w1 v H1 l rv hw1 q1 => by
    split at q1
    · cases rv
      split at q1
      · rename_i z
        exact .inl ⟨_, rfl, small_le z, q1 w1 _ H1 l (.str _) hw1⟩
      · exact q1.elim
    · cases rv
      split at q1
      · rename_i z
        exact .inr ⟨_, rfl, of_decide_eq_true z, q1 w1 _ H1 l (.str _) hw1⟩
      · exact q1.elim
    · exact q1.elim⟩
abbrev JM := Str → Sg → LH → R Str
def WpJ (K : PySem.W.Frag) (w : Wd) (Q : Str → Hp → Prop) (W : XK) : R Str → Prop
  | .ok y h => ∀ w' H', w.le w' → HW K w' H' h → Q y H'
  | .ex x h => Px K w W x h
  | .no => False
theorem WpJ.mono {K : PySem.W.Frag} {w w' : Wd} {Q : Str → Hp → Prop} {W : XK} {r : R Str} (l : w.le w') (p : WpJ K w Q W r) : WpJ K w' Q W r := by
  cases r with
  | ok d h => exact fun v H k q => p v H (l.trans k) q
  | ex x h => exact Px.mono l p
  | no => exact p
def DJ (X : Cx) (W : WX) (es : List Expr) (m : JM) : Prop :=
  ∃ ts, PJ X es ts ∧ ∀ (acc : Str) (w : Wd) (s : Sg) (h : LH) (σ : L2.St) (H : Hp) (Q : Str → Hp → Prop), RS X.K w σ s → HW X.K w H h → WpJ X.K w Q (fun c d H => W c d σ H) (m acc s h) → tJs ts acc σ H Q
def jNil : JM := fun acc _ h => .ok acc h
def jCons (m : EM) (r : JM) : JM := fun acc s h => (m s h).bind fun d h1 => match d with
  | .str y => if small (acc ++ y).length = true then r (acc ++ y) s h1 else .no
  | _ => .no
theorem dj_nil : DJ X W [] jNil := ⟨[], .nil, fun acc w s h σ H Q rs hw q => q w H (.refl w) hw⟩
theorem dj_cons {e : Expr} {es : List Expr} {m : EM} {r : JM} (h : DE X W e m) (hr : DJ X W es r) : DJ X W (e :: es) (jCons m r) := by
  obtain ⟨ts, p, f⟩ := hr
  refine ⟨_, .cons h p, fun acc w s h σ H Q rs hw q => ?_⟩
  refine ⟨w, s, h, rs, hw, WpE.bind (G := WpJ X.K w Q _) q (fun _ _ z => z) (fun z => z) fun d h1 w1 v H1 l rv hw1 q1 => ?_⟩
  split at q1
  · cases rv
    split at q1
    · rename_i z
      exact ⟨_, rfl, small_le z, f _ w1 s h1 σ H1 Q (rs.mono l) hw1 (WpJ.mono l q1)⟩
    · exact q1.elim
  · exact q1.elim
def mJn (r : JM) : EM := fun s h => (r Str.empty s h).bind fun y h1 => .ok (.str y) h1
theorem d_joined {v1 v2 : Expr} {rest : List Expr} {r : JM} (h : DJ X W (v1 :: v2 :: rest) r) : DE X W (.JoinedStr (v1 :: v2 :: rest) pos) (mJn r) := by
  obtain ⟨ts, p, f⟩ := h
  refine PE.imp (pe_joined p) fun σ H Q ⟨w, s, h, rs, hw, q⟩ => f Str.empty w s h σ H _ rs hw ?_
  unfold mJn at q
  cases er : r Str.empty s h with
  | ok y h1 =>
    rw [er] at q
    exact fun w1 H1 l hw1 => q w1 _ H1 l (.str _) hw1
  | ex x h1 => rw [er] at q; exact q
  | no => rw [er] at q; exact q.elim
end
/-! ### what stands under a key -/
def look1 (l : List (Key × D)) (k : Key) : Option D := (l.find? fun kv => decide (kv.1 = k)).map (·.2)
theorem look1_ok {K : PySem.W.Frag} {w : Wd} (k : Key) : ∀ {vs : List (Key × V)} {l : List (Key × D)}, RKs K w vs l → (∀ d, look1 l k = some d → ∃ v, valV vs k = some v ∧ RV K w v d) ∧ (look1 l k = none → valV vs k = none)
  | _, _, .nil => ⟨fun d e => by simp [look1] at e, fun _ => rfl⟩
  | _, _, .cons (k := k0) h r => by
    obtain ⟨a, b⟩ := look1_ok k r
    by_cases e : k0 = k
    · subst e
      refine ⟨fun d hd => ?_, fun hn => ?_⟩
      · simp [look1] at hd
        subst hd
        exact ⟨_, valV_pos rfl, h⟩
      · simp [look1] at hn
    · refine ⟨fun d hd => ?_, fun hn => ?_⟩
      · rw [valV_neg (p := (k0, _)) e]
        exact a d (by simpa [look1, e] using hd)
      · rw [valV_neg (p := (k0, _)) e]
        exact b (by simpa [look1, e] using hn)
section
variable {X : Cx} {W : WX} {pos : Pos} {o i : Expr} {mo mi : EM}
def mDg (o i : EM) : EM := fun s h => (o s h).bind fun d h1 => (i s h1).bind fun y h2 => match d, key y with
  | .dct l, some k => match look1 l k with
    | some v => .ok v h2
    | none => .no
  | _, _ => .no
theorem d_dget (hu : X.A.units + 65 < cLine) (ho : DE X W o mo) (hi : DE X W i mi) (hs : NoSl i := by intro _ _; rfl) : DE X W (.Subscript o i pos) (mDg mo mi) := PE.imp (pe_dget (by omega) ho hi hs) fun σ H Q ⟨w, s, h, rs, hw, q⟩ =>
  ⟨w, s, h, rs, hw, WpE.bind (G := WpE X.K w Q _) q (fun _ _ z => z) (fun z => z) fun d h1 w1 v H1 l1 rv hw1 q1 =>
    ⟨w1, s, h1, rs.mono l1, hw1, WpE.bind (G := WpE X.K w Q _) q1 (fun _ _ z => Px.mono l1 z) (fun z => z) fun y h2 w2 u H2 l2 ry hw2 q2 => by
      split at q2
      · rename_i l k ek
        split at q2
        · rename_i dv ev
          have hk := key_v ry ek
          subst hk
          cases rv with
          | dct fz r =>
            obtain ⟨x, hx, rx⟩ := (look1_ok k r).1 dv ev
            refine ⟨_, x, rfl, ?_, q2 w2 x H2 (l1.trans l2) (rx.mono l2) hw2⟩
            rw [← hx]
            exact DGet.k (hw2.fz _ _ (l2.1 _ _ fz))
        · exact q2.elim
      · exact q2.elim⟩⟩
/-! a dict that the top names -/
def StK (P : Program) (w : World) (K : PySem.W.Frag) (a : Addr) (vs : List (Key × V)) : Prop := ∃ (es : Array DictEntry) (ep : Nat) (us : List (Key × Value)), K.lookup a = some ⟨.type "dict", none, .dict es ep, #[]⟩ ∧ KV vs us ∧
  KeysOf (mixKind P w) es ∧ Pairs (mixKind P w) es.toList us ∧ (us.map (·.1)).Nodup ∧ (a == sysModules) = false
theorem kd_of {pins : List (Addr × Obj)} {σ : L2.St} {H : Hp} {s : Shared} {a : Addr} {vs : List (Key × V)} (I : Inv X pins σ H s) (k : StK X.prog X.w X.K a vs) : ∃ us, KV vs us ∧ s.heap.DictOf (mixKind X.prog X.w) a us := by
  obtain ⟨es, ep, us, h1, h2, h3, h4, h5, _⟩ := k
  exact ⟨us, h2, _, es, ep, I.kIn a _ h1, ⟨rfl, rfl, rfl⟩, rfl, h3, h4, h5⟩
/-- entries seen -/
inductive Ents (P : Program) (w : World) : List DictEntry → List (Key × V) → Prop where
  | nil : Ents P w [] []
  | cons {e : DictEntry} {es : List DictEntry} {k : Key} {v : V} {vs : List (Key × V)} (h1 : (mixKind P w).is k e.key = true) (h2 : e.hash = (mixKind P w).hash k) (h3 : RelV v e.val) (r : Ents P w es vs) : Ents P w (e :: es) ((k, v) :: vs)
theorem Ents.all {P : Program} {w : World} : ∀ {es : List DictEntry} {vs : List (Key × V)}, Ents P w es vs → ∃ us, KV vs us ∧ (∀ e ∈ es, ∃ k, (mixKind P w).is k e.key = true ∧ e.hash = (mixKind P w).hash k) ∧ Pairs (mixKind P w) es us ∧ us.map (·.1) = vs.map (·.1)
  | _, _, .nil => ⟨[], .nil, by simp, .nil, rfl⟩
  | _, _, .cons (e := e) (k := k) h1 h2 h3 r => by
    obtain ⟨us, a, b, c, d⟩ := r.all
    refine ⟨(k, e.val) :: us, .cons ⟨rfl, h3⟩ a, fun x hx => ?_, .cons h1 rfl c, by simp [d]⟩
    rcases List.mem_cons.mp hx with rfl | hx
    · exact ⟨k, h1, h2⟩
    · exact b x hx
theorem stK_mk {P : Program} {w : World} {K : PySem.W.Frag} {a : Addr} {es : Array DictEntry} {ep : Nat} {vs : List (Key × V)} (l : K.lookup a = some ⟨.type "dict", none, .dict es ep, #[]⟩) (h : Ents P w es.toList vs) (nd : (vs.map (·.1)).Nodup) (sm : (a == sysModules) = false) : StK P w K a vs := by
  obtain ⟨us, h1, h2, h3, h4⟩ := h.all
  exact ⟨es, ep, us, l, h1, fun e he => h2 e (Array.mem_toList_iff.mpr he), h3, by rw [h4]; exact nd, sm⟩
def mKg (l : List (Key × D)) (i : EM) : EM := fun s h => (i s h).bind fun y h1 => match key y with
  | some k => match look1 l k with
    | some v => .ok v h1
    | none => .no
  | none => .no
def mKin (l : List (Key × D)) (i : EM) : EM := fun s h => (i s h).bind fun y h1 => match key y with
  | some k => .ok (.bl (look1 l k).isSome) h1
  | none => .no
/-- the name stands for such a dict -/
def Kd (X : Cx) (x : Str) (l : List (Key × D)) : Prop := ∃ a vs, X.mg x = some (.ref a) ∧ StK X.prog X.w X.K a vs ∧ ∀ w, RKs X.K w vs l
variable {x : Str} {p : Pos} {l : List (Key × D)}
theorem d_kget (hg : Gl X x) (hk : Kd X x l) (hi : DE X W i mi) (hs : NoSl i := by intro _ _; rfl) (hd : (x == ("__debug__" : Str)) = false := by decide) : DE X W (.Subscript (.Name x p) i pos) (mKg l mi) := ⟨fun pins s σ H Q I ⟨w, sg, h, rs, hw, q⟩ => by
  obtain ⟨a, vs, h1, h2, h3⟩ := hk
  refine subD_of PySem.F.slot_dict_getitem.lookup hs (ld_glob I hg h1 ?_ hd)
  refine thn (hi.run pins s σ H (fun y H1 => ∃ v, (∃ k, y = kV k ∧ valV vs k = some v) ∧ Q v H1) I ⟨w, sg, h, rs, hw, WpE.bind (G := WpE X.K w Q _) q (fun _ _ z => z) (fun z => z) fun y h1 w1 u H1 l1 ru hw1 q1 => ?_⟩) fun iv s2 ⟨y, H2, I2, ry, v, ⟨k, ey, hv⟩, q2⟩ => ?_
  · split at q1
    · rename_i k ek
      split at q1
      · rename_i dv ev
        obtain ⟨v, hv, rv⟩ := (look1_ok k (h3 w1)).1 dv ev
        exact ⟨v, ⟨k, key_v ru ek, hv⟩, q1 w1 v H1 l1 rv hw1⟩
      · exact q1.elim
    · exact q1.elim
  · subst ey
    obtain ⟨us, kv, dd⟩ := kd_of I2 h2
    obtain ⟨w', hw', rw'⟩ := RelO.some_of (v := v) (o := valueAt us k) (by rw [← hv]; exact kv.val k)
    exact ⟨dd.typeIs, wpAny_getItem_of (kV_is ry) dd.mapOf hw' ⟨v, H2, I2.tok _, rw', q2⟩⟩⟩
theorem pc_kin (hg : Gl X x) (hk : Kd X x l) (hi : DE X W i mi) (hd : (x == ("__debug__" : Str)) = false := by decide) : PC X .In i (.Name x p) (TE_ X.K W (mKin l mi)) := ⟨fun pins s σ H Q I ⟨w, sg, h, rs, hw, q⟩ => by
  obtain ⟨a, vs, h1, h2, h3⟩ := hk
  refine thn (hi.run pins s σ H (fun y H1 => ∃ k, y = kV k ∧ Q (.bl (valV vs k).isSome) H1) I ⟨w, sg, h, rs, hw, WpE.bind (G := WpE X.K w Q _) q (fun _ _ z => z) (fun z => z) fun y h1 w1 u H1 l1 ru hw1 q1 => ?_⟩) fun iv s2 ⟨y, H2, I2, ry, k, ey, q2⟩ => ?_
  · split at q1
    · rename_i k ek
      refine ⟨k, key_v ru ek, ?_⟩
      have e : (valV vs k).isSome = (look1 l k).isSome := by
        obtain ⟨z1, z2⟩ := look1_ok k (h3 w1)
        cases el : look1 l k with
        | none => rw [z2 el]; rfl
        | some d =>
          obtain ⟨v, hv, _⟩ := z1 d el
          rw [hv]
          rfl
      rw [e]
      exact q1 w1 _ H1 l1 (.bl _) hw1
    · exact q1.elim
  · subst ey
    refine ld_glob I2 hg h1 ?_ hd
    obtain ⟨us, kv, dd⟩ := kd_of I2 h2
    obtain ⟨_, _, _, _, _, _, _, _, sm⟩ := h2
    refine wpAny_in_of (kV_is ry) sm dd.mapOf ?_
    rw [← (kv.val k).isSome_eq]
    exact ⟨.bl _, H2, I2.tok _, rfl, q2⟩⟩
theorem d_kin (hg : Gl X x) (hk : Kd X x l) (hi : DE X W i mi) (hm : behindInMarks .In (.Name x p) = false := by rfl) (hd : (x == ("__debug__" : Str)) = false := by decide) : DE X W (.Compare i [.In] [.Name x p] pos) (mKin l mi) := pe_cmp (pc_kin hg hk hi hd) hm
theorem dt_kin (hg : Gl X x) (hk : Kd X x l) (hi : DE X W i mi) (hm : behindInMarks .In (.Name x p) = false := by rfl) (hd : (x == ("__debug__" : Str)) = false := by decide) : DT X W (.Compare i [.In] [.Name x p] pos) (mTest (mKin l mi)) := PT.imp (pt_cmp (pc_kin hg hk hi hd) hm) fun σ H Q q => te_test q
end
/-! a statement that is never reached -/
theorem ds_stuck {X : Cx} {W : WX} {st : Stmt} : DS X W st (fun _ _ => .no) := ⟨fun pins s σ H D I ⟨w, sg, h, rs, hw, q⟩ => q.elim⟩
/-! a.find(b, i) -/
def gFind3 : OMt := fun h x ds => match x, ds with
  | .str a, [.str b, .int i] => some (.int (Txt.find3 a b i), h)
  | _, _ => none
theorem mt_gFind3 {X : Cx} : MtR X "str.find" (rM X.K "str" gFind3) := by
  intro pins s σ H x xs v us Q I rx rxs ⟨w, h, dx, ds, d, h', r1, r2, hw, e, q⟩
  unfold gFind3 at e
  split at e
  · cases e
    cases r1
    obtain ⟨u, u2, rfl, ru, ru2⟩ := rv2 r2
    cases ru
    cases ru2
    exact mt_find3 pins s σ H _ _ v us Q I rx rxs ⟨_, _, _, rfl, rfl, Pv.here q hw (.int _)⟩
  · cases e
end DN
set_option maxHeartbeats 1000000
namespace DN
open PySem PySem.Spec PyProof.Rows L2
/-! ### zip(s, t, strict=True) of two tuples -/
section
variable {P0 : Program} {w : World} {B : Around} {G : Value → Shared → Prop} {t : Shared}
theorem zs_stop {α : Type} {Q : α → Shared → Prop} (hh : B.handled = none)
    (he : ∀ g e, (∀ c o, t.heap.get? c = some o → g.get? c = some o) → (∃ o, g.get? e = some o ∧ o.cls = .type "StopIteration") → G (.ref e) { t with heap := g }) :
    wpAny (model P0 w) B (Builtin.SmallTypes.stopIteration : Sem α) Q G t := by
  unfold Builtin.SmallTypes.stopIteration
  refine wpAny_bind ?_
  simp only [newExc, newTuple]
  refine wpAny_bind (wpAny_newObj_type ?_ (by size_fits))
  refine wpAny_bind (m := firstArgMember _ _) (wpAny_of_eq (a := Value.none) (by first | rfl | (simp only [firstArgMember]; rfl)) ?_)
  refine wpAny_newObj_type ?_ (by size_fits)
  simp only [raiseNew]
  refine wpAny_bind (wpAny_handled ?_)
  rw [hh]
  refine wpAny_bind (wpAny_pure (wpAny_throw ?_))
  exact he _ _ (fun c o q => Heap.get?_push_of_some _ (Heap.get?_push_of_some _ q)) ⟨_, Heap.get?_push_size _ rfl, rfl⟩
theorem zs_some {it l : Addr} {i : Nat} {items : Array Value} {x : Value} {Q : Option Value → Shared → Prop} (hit : t.heap.IsTupleIter it l i) (hl : t.heap.IsTuple l items) (hx : items[i]? = some x)
    (k : ∀ g, g.IsTupleIter it l (i + 1) → Heap.SameBut it t.heap g → Q (some x) { t with heap := g }) : wpAny (model P0 w) B (Builtin.SmallTypes.nextOrEnd (.ref it)) Q G t := by
  unfold Builtin.SmallTypes.nextOrEnd
  exact wpAny_bind (wpAny_attempt (RZ.nextOf_tuple_item hit hl hx fun g a b => wpAny_pure (k g a b)))
theorem zs_none {it l : Addr} {i : Nat} {items : Array Value} {Q : Option Value → Shared → Prop} (hh : B.handled = none) (hit : t.heap.IsTupleIter it l i) (hl : t.heap.IsTuple l items) (hx : items[i]? = none)
    (k : ∀ g, Heap.ExtBut it t.heap g → Q none { t with heap := g }) : wpAny (model P0 w) B (Builtin.SmallTypes.nextOrEnd (.ref it)) Q G t := by
  unfold Builtin.SmallTypes.nextOrEnd
  refine wpAny_bind (wpAny_attempt (RZ.nextOf_tuple_end hh hit hl hx fun g e hk ⟨o, ho, hc⟩ => ?_))
  exact wpAny_bind (wpAny_isInstance (T := "StopIteration") (b := true) ⟨o, ho, hc⟩ isSubtype_stop (wpAny_pure (k g hk)))
/-- such a zip object -/
abbrev ZipS (h : Heap) (z TI TO : Addr) (f : Value) : Prop := h.get? z = some { cls := .type "zip", dict := none, data := .fields #[f, .bool false, .bool true, .ref TI, .ref TO], slots := #[] }
variable {z TI TO i j l m : Addr} {xs ys : Array Value} {n : Nat} {a b : Value}
theorem zs_item (D : ZipApart z TI TO i j l m) {x y : Value} (hz : ZipS t.heap z TI TO .none) (hI : IsPair t.heap TI (.ref i) (.ref j)) (hO : IsPair t.heap TO a b)
    (hi : t.heap.IsTupleIter i l n) (hj : t.heap.IsTupleIter j m n) (hl : t.heap.IsTuple l xs) (hm : t.heap.IsTuple m ys) (hx : xs[n]? = some x) (hy : ys[n]? = some y) {Q : Value → Shared → Prop}
    (k : ∀ g, ZipS g z TI TO (rawInt t.heap.objs.size) → IsPair g TO x y → g.IsTupleIter i l (n + 1) → g.IsTupleIter j m (n + 1) → IsPair g t.heap.objs.size x y → g.objs.size = t.heap.objs.size + 1 →
      (∀ c o, c ≠ z → c ≠ TO → c ≠ i → c ≠ j → t.heap.get? c = some o → g.get? c = some o) → Q (.ref t.heap.objs.size) { t with heap := g }) :
    wpAny (model P0 w) B (Builtin.«zip.__next__» ⟨[.ref z], []⟩) (fun f t' => ∃ v, f = .done (.ret v) ∧ Q v t') G t := by
  show wpAny _ _ (field (.ref z) 2 >>= _) _ _ _
  refine wpAny_bind (wpAny_field hz rfl (x := .bool true) rfl ?_)
  show wpAny _ _ (field (.ref z) 3 >>= _) _ _ _
  refine wpAny_bind (wpAny_field hz rfl (x := .ref TI) rfl (wpAny_bind (wpAny_seqItems hI rfl ?_)))
  show wpAny _ _ (Builtin.SmallTypes.ownedTupleIsFree (.ref z) >>= _) _ _ _
  refine wpAny_bind ?_
  unfold Builtin.SmallTypes.ownedTupleIsFree
  refine wpAny_bind (wpAny_field hz rfl (x := .none) rfl (wpAny_pure ?_))
  simp only [if_true]
  refine wpAny_bind (wpAny_rule (wpAny_bind (wpAny_field hz rfl (x := .ref TO) rfl (wpAny_bind (wpAny_setField_rec hz (by simp) fun g1 z1 s1 => ?_)))))
  replace z1 : ZipS g1 z TI TO .ellipsis := z1
  refine wpAny_bind ?_
  simp only [List.zipIdx_cons, List.zipIdx_nil, List.forIn_cons, List.forIn_nil]
  refine wpAny_bind (wpAny_bind (wpAny_onRaise ?_))
  show wpAny _ _ (Builtin.SmallTypes.nextOrEnd (.ref i)) _ _ _
  refine zs_some (hi.extBut s1.extBut D.i1z) (hl.extBut s1.extBut D.l1z) hx fun g2 i2 s2 => ?_
  have o2 : IsPair g2 TO a b := s2.extBut _ _ D.TOi1 (s1.extBut _ _ D.TOz hO)
  refine wpAny_bind (wpAny_seqItems o2 rfl (wpAny_bind (wpAny_updateSeq_pair o2 fun g3 o3 s3 => ?_)))
  replace o3 : IsPair g3 TO x b := o3
  refine wpAny_bind (wpAny_letGo (wpAny_pure ?_))
  refine wpAny_bind (wpAny_bind (wpAny_onRaise ?_))
  show wpAny _ _ (Builtin.SmallTypes.nextOrEnd (.ref j)) _ _ _
  refine zs_some (((hj.extBut s1.extBut D.i2z).extBut s2.extBut D.i12.symm).extBut s3.extBut D.TOi2.symm) (((hm.extBut s1.extBut D.l2z).extBut s2.extBut D.l2i1).extBut s3.extBut D.l2TO) hy fun g4 j4 s4 => ?_
  have o4 : IsPair g4 TO x b := s4.extBut _ _ D.TOi2 o3
  refine wpAny_bind (wpAny_seqItems o4 rfl (wpAny_bind (wpAny_updateSeq_pair o4 fun g5 o5 s5 => ?_)))
  replace o5 : IsPair g5 TO x y := o5
  refine wpAny_bind (wpAny_letGo (wpAny_pure (wpAny_pure ?_)))
  refine wpAny_bind (wpAny_seqItems o5 rfl (wpAny_bind (wpAny_newTuple ?_)))
  have hsz : g5.objs.size = t.heap.objs.size := by rw [s5.1, s4.1, s3.1, s2.1, s1.1]
  have z5 : ZipS g5 z TI TO .ellipsis := s5.extBut _ _ D.TOz.symm (s4.extBut _ _ D.i2z.symm (s3.extBut _ _ D.TOz.symm (s2.extBut _ _ D.i1z.symm z1)))
  have k5 : ∀ c o, c ≠ z → c ≠ TO → c ≠ i → c ≠ j → t.heap.get? c = some o → g5.get? c = some o := fun c o n1 n2 n3 n4 e =>
    s5.extBut _ _ n2 (s4.extBut _ _ n4 (s3.extBut _ _ n2 (s2.extBut _ _ n3 (s1.extBut _ _ n1 e))))
  have i5 : g5.IsTupleIter i l (n + 1) := ((i2.extBut s3.extBut D.TOi1.symm).extBut s4.extBut D.i12).extBut s5.extBut D.TOi1.symm
  have j5 : g5.IsTupleIter j m (n + 1) := j4.extBut s5.extBut D.TOi2.symm
  have zl : z < g5.objs.size := Heap.lt_size z5
  show wpAny _ _ (Builtin.SmallTypes.ownedTupleHandOut (.ref z) (.ref g5.objs.size) >>= _) _ _ _
  refine wpAny_bind ?_
  unfold Builtin.SmallTypes.ownedTupleHandOut
  have z6 : ZipS (g5.push { cls := .type "tuple", data := .seq #[x, y] }) z TI TO .ellipsis := Heap.get?_push_of_some _ z5
  refine wpAny_bind (wpAny_setField_rec z6 (by simp) fun g7 z7 s7 => ?_)
  replace z7 : ZipS g7 z TI TO (rawInt g5.objs.size) := z7
  refine wpAny_setField_rec z7 (by simp) fun g8 z8 s8 => ?_
  replace z8 : ZipS g8 z TI TO (rawInt g5.objs.size) := z8
  have up : ∀ c o, c ≠ z → g5.get? c = some o → g8.get? c = some o := fun c o q e => s8.extBut _ _ q (s7.extBut _ _ q (Heap.get?_push_of_some _ e))
  have t8 : IsPair g8 g5.objs.size x y := s8.extBut _ _ (Nat.ne_of_gt zl) (s7.extBut _ _ (Nat.ne_of_gt zl) (Heap.get?_push_size _ rfl))
  have sz8 : g8.objs.size = g5.objs.size + 1 := by rw [s8.1, s7.1, Heap.size_push]
  rw [hsz] at z8 t8 sz8
  refine wpAny_pure ⟨_, rfl, ?_⟩
  show Q (.ref g5.objs.size) _
  rw [hsz]
  exact k g8 z8 (up _ _ D.TOz o5) (i5.at fun o e => up _ o D.i1z e) (j5.at fun o e => up _ o D.i2z e) t8 sz8 fun c o n1 n2 n3 n4 e => up c o n1 (k5 c o n1 n2 n3 n4 e)
theorem zs_end (hh : B.handled = none) (D : ZipApart z TI TO i j l m) (hz : ZipS t.heap z TI TO .none) (hI : IsPair t.heap TI (.ref i) (.ref j)) (hO : IsPair t.heap TO a b)
    (hi : t.heap.IsTupleIter i l n) (hj : t.heap.IsTupleIter j m n) (hl : t.heap.IsTuple l xs) (hm : t.heap.IsTuple m ys) (hx : xs[n]? = none) (hy : ys[n]? = none) {Q : Fin → Shared → Prop}
    (k : ∀ g e, (∀ c o, c ≠ z → c ≠ TO → c ≠ i → c ≠ j → t.heap.get? c = some o → g.get? c = some o) → (∃ o, g.get? e = some o ∧ o.cls = .type "StopIteration") → G (.ref e) { t with heap := g }) :
    wpAny (model P0 w) B (Builtin.«zip.__next__» ⟨[.ref z], []⟩) Q G t := by
  show wpAny _ _ (field (.ref z) 2 >>= _) _ _ _
  refine wpAny_bind (wpAny_field hz rfl (x := .bool true) rfl ?_)
  show wpAny _ _ (field (.ref z) 3 >>= _) _ _ _
  refine wpAny_bind (wpAny_field hz rfl (x := .ref TI) rfl (wpAny_bind (wpAny_seqItems hI rfl ?_)))
  show wpAny _ _ (Builtin.SmallTypes.ownedTupleIsFree (.ref z) >>= _) _ _ _
  refine wpAny_bind ?_
  unfold Builtin.SmallTypes.ownedTupleIsFree
  refine wpAny_bind (wpAny_field hz rfl (x := .none) rfl (wpAny_pure ?_))
  simp only [if_true]
  refine wpAny_bind (wpAny_rule (wpAny_bind (wpAny_field hz rfl (x := .ref TO) rfl (wpAny_bind (wpAny_setField_rec hz (by simp) fun g1 z1 s1 => ?_)))))
  replace z1 : ZipS g1 z TI TO .ellipsis := z1
  refine wpAny_bind ?_
  simp only [List.zipIdx_cons, List.zipIdx_nil, List.forIn_cons, List.forIn_nil]
  refine wpAny_bind (wpAny_bind (wpAny_onRaise ?_))
  show wpAny _ _ (Builtin.SmallTypes.nextOrEnd (.ref i)) _ _ _
  refine zs_none hh (hi.extBut s1.extBut D.i1z) (hl.extBut s1.extBut D.l1z) hx fun g2 s2 => ?_
  have z2 : ZipS g2 z TI TO .ellipsis := s2 _ _ D.i1z.symm z1
  refine wpAny_bind (wpAny_setField_rec z2 (by simp) fun g3 z3 s3 => ?_)
  refine wpAny_bind ?_
  show wpAny _ _ (((Builtin.SmallTypes.nextOrEnd (.ref j) >>= _) >>= _) >>= _) _ _ _
  have j3 : g3.IsTupleIter j m n := hj.at fun o q => s3.extBut _ _ D.i2z (s2 _ _ D.i12.symm (s1.extBut _ _ D.i2z q))
  have m3 : g3.IsTuple m ys := by
    obtain ⟨o, q, r⟩ := hm
    exact ⟨o, s3.extBut _ _ D.l2z (s2 _ _ D.l2i1 (s1.extBut _ _ D.l2z q)), r⟩
  refine wpAny_bind (wpAny_bind (wpAny_bind (zs_none hh j3 m3 hy fun g4 s4 => ?_)))
  refine wpAny_pure (wpAny_pure ?_)
  refine wpAny_bind (wpAny_rule ?_)
  refine zs_stop hh fun g5 e s5 he => k g5 e (fun c o n1 n2 n3 n4 q => s5 _ _ (s4 _ _ n4 (s3.extBut _ _ n1 (s2 _ _ n3 (s1.extBut _ _ n1 q))))) he
theorem zs_next_item (D : ZipApart z TI TO i j l m) {x y : Value} (hz : ZipS t.heap z TI TO .none) (hI : IsPair t.heap TI (.ref i) (.ref j)) (hO : IsPair t.heap TO a b)
    (hi : t.heap.IsTupleIter i l n) (hj : t.heap.IsTupleIter j m n) (hl : t.heap.IsTuple l xs) (hm : t.heap.IsTuple m ys) (hx : xs[n]? = some x) (hy : ys[n]? = some y) {Q : Option Value → Shared → Prop}
    (k : ∀ g, ZipS g z TI TO (rawInt t.heap.objs.size) → IsPair g TO x y → g.IsTupleIter i l (n + 1) → g.IsTupleIter j m (n + 1) → IsPair g t.heap.objs.size x y → g.objs.size = t.heap.objs.size + 1 →
      (∀ c o, c ≠ z → c ≠ TO → c ≠ i → c ≠ j → t.heap.get? c = some o → g.get? c = some o) → Q (some (.ref t.heap.objs.size)) { t with heap := g }) :
    wpAny (model P0 w) B (pyNext (.ref z)) Q G t := by
  have ty : t.TypeIs (.ref z) "zip" := ⟨_, hz, rfl⟩
  unfold pyNext
  refine wpAny_bind (wpAny_attempt (wpAny_callSpecial?_slot (name := Str.ofString "__next__") ty F.slot_zip_next (wpAny_call_entry F.slot_zip_next ty F.entry_zip_next ?_ (F.args_zip_next_1 _))))
  exact zs_item D hz hI hO hi hj hl hm hx hy fun g q1 q2 q3 q4 q5 q6 q7 => wpAny_pure (k g q1 q2 q3 q4 q5 q6 q7)
theorem zs_next_end (hh : B.handled = none) (D : ZipApart z TI TO i j l m) (hz : ZipS t.heap z TI TO .none) (hI : IsPair t.heap TI (.ref i) (.ref j)) (hO : IsPair t.heap TO a b)
    (hi : t.heap.IsTupleIter i l n) (hj : t.heap.IsTupleIter j m n) (hl : t.heap.IsTuple l xs) (hm : t.heap.IsTuple m ys) (hx : xs[n]? = none) (hy : ys[n]? = none) {Q : Option Value → Shared → Prop}
    (k : ∀ g, (∀ c o, c ≠ z → c ≠ TO → c ≠ i → c ≠ j → t.heap.get? c = some o → g.get? c = some o) → Q none { t with heap := g }) : wpAny (model P0 w) B (pyNext (.ref z)) Q G t := by
  have ty : t.TypeIs (.ref z) "zip" := ⟨_, hz, rfl⟩
  unfold pyNext
  refine wpAny_bind (wpAny_attempt (wpAny_callSpecial?_slot (name := Str.ofString "__next__") ty F.slot_zip_next (wpAny_call_entry F.slot_zip_next ty F.entry_zip_next ?_ (F.args_zip_next_1 _))))
  refine zs_end (B := B.in1) hh D hz hI hO hi hj hl hm hx hy fun g e hk he => ?_
  obtain ⟨o, ho, hc⟩ := he
  exact wpAny_bind (wpAny_isInstance (T := "StopIteration") (b := true) ⟨o, ho, hc⟩ isSubtype_stop (wpAny_pure (k g hk)))
end
/-! made -/
def zs1 (h : Heap) (l : Addr) : Heap := h.push { cls := .type "tuple_iterator", data := .fields #[.ref l, .int 0 0] }
def zs2 (h : Heap) (l m : Addr) : Heap := (zs1 h l).push { cls := .type "tuple_iterator", data := .fields #[.ref m, .int 0 0] }
def zs3 (h : Heap) (l m : Addr) : Heap := (zs2 h l m).push { cls := .type "tuple", data := .seq #[.ref h.objs.size, .ref (zs1 h l).objs.size] }
def zs4 (h : Heap) (l m : Addr) : Heap := (zs3 h l m).push { cls := .type "tuple", data := .seq #[.none, .none] }
def zs5 (h : Heap) (l m : Addr) : Heap := (zs4 h l m).push { cls := .type "zip", data := .fields #[.none, .bool false, .bool true, .ref (zs2 h l m).objs.size, .ref (zs3 h l m).objs.size] }
theorem meets_zs (l m : Addr) (xs ys : Array Value) :
    Meets (Builtin.«zip.__new__» ⟨[.type "zip", .ref l, .ref m], [(Str.ofString "strict", .bool true)]⟩) (fun _ R s => s.heap.IsTuple l xs ∧ s.heap.IsTuple m ys ∧
      R (.ok (.ret (.ref (zs4 s.heap l m).objs.size))) { s with heap := zs5 s.heap l m }) :=
  .of_wp fun prog w A R s h => by
    obtain ⟨hp, g, d, tk, os⟩ := s; obtain ⟨p1, p2, h⟩ := h
    have hsub := sub_zip
    have q1 : Heap.IsTuple (Shared.heap ⟨hp, g, d, tk, os⟩) l xs := p1
    have q2 : Heap.IsTuple (Shared.heap ⟨hp.push { cls := .type "tuple_iterator", data := .fields #[.ref l, .int 0 0] }, g, d, tk, os⟩) m ys := Heap.IsTuple.push p2 _
    have e2 : (Str.ofString "strict" != ("strict" : Str)) = false := by decide +kernel
    unfold zs5 zs4 zs3 zs2 zs1 at h
    wp_walk using wpAny_pyIter_tuple q1, wpAny_pyIter_tuple q2
    exact ⟨_, rfl, h⟩
namespace ZF
theorem typeCall (a b c : Value) : checkTypeCall "zip" ⟨[a, b], [(Str.ofString "strict", c)]⟩ = pure () := by kernel_rfl
theorem newCall (a b c : Value) : checkBuiltinCall "zip.__new__" ⟨[.type "zip", a, b], [(Str.ofString "strict", c)]⟩ = pure () := by kernel_rfl
theorem initArgs (o a b c : Value) : argsOk "object.__init__" ⟨[o, a, b], [(Str.ofString "strict", c)]⟩ := by unfold argsOk; kernel_rfl
end ZF
section
variable {P0 : Program} {w : World} {B : Around} {G : Value → Shared → Prop} {t : Shared}
theorem zs_call {l m : Addr} {xs ys : Array Value} {Q : Value → Shared → Prop} (hl : t.heap.IsTuple l xs) (hm : t.heap.IsTuple m ys)
    (k : ∀ g, ZipS g (t.heap.objs.size + 4) (t.heap.objs.size + 2) (t.heap.objs.size + 3) .none → IsPair g (t.heap.objs.size + 2) (.ref t.heap.objs.size) (.ref (t.heap.objs.size + 1)) →
      IsPair g (t.heap.objs.size + 3) .none .none → g.IsTupleIter t.heap.objs.size l 0 → g.IsTupleIter (t.heap.objs.size + 1) m 0 → (∀ c o, t.heap.get? c = some o → g.get? c = some o) → Q (.ref (t.heap.objs.size + 4)) { t with heap := g }) :
    wpAny (model P0 w) B (call (.type "zip") [.ref l, .ref m] [(Str.ofString "strict", .bool true)]) Q G t := by
  refine callType_newKw F.called_zip (by decide) (ZF.typeCall _ _ _) (ZF.newCall _ _ _) (fun o => ZF.initArgs o _ _ _) F.entry_zip_new (meets_zs l m xs ys) ⟨hl, hm, ?_⟩
  have z1 : (zs1 t.heap l).objs.size = t.heap.objs.size + 1 := Heap.size_push ..
  have z2 : (zs2 t.heap l m).objs.size = t.heap.objs.size + 2 := (Heap.size_push ..).trans (by rw [z1])
  have z3 : (zs3 t.heap l m).objs.size = t.heap.objs.size + 3 := (Heap.size_push ..).trans (by rw [z2])
  have z4 : (zs4 t.heap l m).objs.size = t.heap.objs.size + 4 := (Heap.size_push ..).trans (by rw [z3])
  have up5 : ∀ {c o}, (zs4 t.heap l m).get? c = some o → (zs5 t.heap l m).get? c = some o := fun q => Heap.get?_push_of_some _ q
  have up4 : ∀ {c o}, (zs3 t.heap l m).get? c = some o → (zs4 t.heap l m).get? c = some o := fun q => Heap.get?_push_of_some _ q
  have up3 : ∀ {c o}, (zs2 t.heap l m).get? c = some o → (zs3 t.heap l m).get? c = some o := fun q => Heap.get?_push_of_some _ q
  have up2 : ∀ {c o}, (zs1 t.heap l).get? c = some o → (zs2 t.heap l m).get? c = some o := fun q => Heap.get?_push_of_some _ q
  have up1 : ∀ {c o}, t.heap.get? c = some o → (zs1 t.heap l).get? c = some o := fun q => Heap.get?_push_of_some _ q
  have g5 : (zs5 t.heap l m).get? (zs4 t.heap l m).objs.size = some _ := Heap.get?_push_size _ rfl
  have g4 : (zs5 t.heap l m).get? (zs3 t.heap l m).objs.size = some _ := up5 (Heap.get?_push_size _ rfl)
  have g3 : (zs5 t.heap l m).get? (zs2 t.heap l m).objs.size = some _ := up5 (up4 (Heap.get?_push_size _ rfl))
  have g2 : (zs5 t.heap l m).get? (zs1 t.heap l).objs.size = some _ := up5 (up4 (up3 (Heap.get?_push_size _ rfl)))
  have g1 : (zs5 t.heap l m).get? t.heap.objs.size = some _ := up5 (up4 (up3 (up2 (Heap.get?_push_size _ rfl))))
  show _ ∧ _
  rw [z2, z3, z4] at g5
  rw [z3] at g4
  rw [z2, z1] at g3
  rw [z1] at g2
  rw [z4]
  exact ⟨⟨_, g5, rfl⟩, k _ g5 g3 g4 ⟨_, g1, rfl, rfl⟩ ⟨_, g2, rfl, rfl⟩ fun c o q => up5 (up4 (up3 (up2 (up1 q))))⟩
theorem zs_iter {z TI TO : Addr} {f : Value} {Q : Value → Shared → Prop} (hz : ZipS t.heap z TI TO f) (q : Q (.ref z) t) : wpAny (model P0 w) B (pyIter (.ref z)) Q G t := by
  have ty : t.TypeIs (.ref z) "zip" := ⟨_, hz, rfl⟩
  refine wpAny_pyIter_slot ty F.slot_zip_iter (wpAny_call_entry F.slot_zip_iter ty F.entry_zip_iter ?_ (F.args_zip_iter_1 _))
  show wpAny _ _ (ret (.ref z)) _ _ t
  exact wpAny_pure ⟨_, rfl, _, _, ty, F.slot_zip_next.lookup, q⟩
theorem zs_go {elts : List Expr} {k : Nat} {pos : Pos} {z TI TO T : Addr} {Q : Unit → Shared → Prop} (hz : ZipS t.heap z TI TO (rawInt T)) (q : ∀ g, ZipS g z TI TO .none → Heap.SameBut z t.heap g → Q () { t with heap := g }) :
    wpAny (model P0 w) B (letOwnedTupleGo (.Tuple elts k pos) (.ref z) (.ref T)) Q G t := by
  unfold letOwnedTupleGo
  refine wpAny_bind (wpAny_load hz ?_)
  show wpAny _ _ (if (_ && (#[rawInt T, .bool false, .bool true, .ref TI, .ref TO] : Array Value)[0]? == some (rawInt T)) = true then _ else _) Q G t
  rw [if_pos (by simp)]
  refine wpAny_bind (wpAny_rule ?_)
  show wpAny _ _ (setField (.ref z) 0 .none) Q G t
  exact wpAny_setField_rec hz (by simp) fun g a b => q g a b
end
end DN
namespace DN
open PySem PySem.Spec PyProof.Rows L2
/-- two tuples of one length, the items in new pairs -/
def ItzS (K : PySem.W.Frag) (a b : Addr) : It :=
  ⟨fun i H => ∃ (xs ys : List V) (x y : V), SqT K H a xs ∧ SqT K H b ys ∧ xs[i]? = some x ∧ ys[i]? = some y,
    fun i H v H' => ∃ T x y, v = .ref T ∧ H T = none ∧ H' = upd H T (.tup [x, y]) ∧ (∀ xs, SqT K H a xs → xs[i]? = some x) ∧ ∀ ys, SqT K H b ys → ys[i]? = some y,
    fun i H => ∃ xs ys : List V, SqT K H a xs ∧ SqT K H b ys ∧ xs.length ≤ i ∧ ys.length ≤ i⟩
theorem zs_turn {P0 : Program} {w : World} {K : PySem.W.Frag} {elts : List Expr} {kk : Nat} {tpos : Pos} {a b z TI TO i1 i2 : Addr} (D : ZipApart z TI TO i1 i2 a b) :
    Turn P0 w K (.Tuple elts kk tpos) (ItzS K a b) [z, TI, TO, i1, i2] z (fun i g => ZipS g z TI TO .none ∧ IsPair g TI (.ref i1) (.ref i2) ∧ (∃ x y, IsPair g TO x y) ∧ g.IsTupleIter i1 a i ∧ g.IsTupleIter i2 b i) where
  mem := by simp
  obj := fun i g st c hc => by
    obtain ⟨q1, q2, ⟨x, y, q3⟩, ⟨o1, e1, _, d1⟩, ⟨o2, e2, _, d2⟩⟩ := st
    have hc' : c = z ∨ c = TI ∨ c = TO ∨ c = i1 ∨ c = i2 := by simpa using hc
    rcases hc' with rfl | rfl | rfl | rfl | rfl
    · exact ⟨_, q1, fun v q => nomatch q⟩
    · exact ⟨_, q2, fun v q => nomatch q⟩
    · exact ⟨_, q3, fun v q => nomatch q⟩
    · exact ⟨o1, e1, fun v q => by rw [d1] at q; cases q⟩
    · exact ⟨o2, e2, fun v q => by rw [d2] at q; cases q⟩
  keep := fun i g g' st k => by
    obtain ⟨q1, q2, ⟨x, y, q3⟩, q4, q5⟩ := st
    exact ⟨k z (by simp) _ q1, k TI (by simp) _ q2, ⟨x, y, k TO (by simp) _ q3⟩, q4.at fun o q => k i1 (by simp) o q, q5.at fun o q => k i2 (by simp) o q⟩
  item := by
    intro X hP hw hK hc i pins s σ H E I hf st hg
    subst hP hw hK
    obtain ⟨q1, q2, ⟨x0, y0, q3⟩, q4, q5⟩ := st
    obtain ⟨xs, ys, x, y, sx, sy, hx, hy⟩ := hg
    obtain ⟨its, rv, p, _⟩ := I.tuple sx
    obtain ⟨its2, rv2, p2, _⟩ := I.tuple sy
    obtain ⟨u, hu, ru⟩ := rv.get hx
    obtain ⟨u2, hu2, ru2⟩ := rv2.get hy
    have zlt : z < s.heap.objs.size := Heap.lt_size q1
    refine zs_next_item D q1 q2 q3 q4 q5 p p2 (x := u) (y := u2) (by simpa using hu) (by simpa using hu2) fun g z' TO' i1' i2' hT hsz hk => ?_
    refine ⟨_, rfl, zs_go (t := { s with heap := g }) z' fun g' z'' sb => ?_⟩
    have hT2 : g'.get? s.heap.objs.size = some { cls := .type "tuple", data := .seq #[u, u2] } := (sb.2 _ (Nat.ne_of_gt zlt)).trans hT
    have new : ObjOk X.prog X.w (upd H s.heap.objs.size (.tup [x, y])) g' s.heap.objs.size (.tup [x, y]) := ⟨by show 2 ≤ sizeLine; decide, [u, u2], .cons ru (.cons ru2 .nil), ⟨_, hT2, rfl, _, rfl⟩⟩
    have I1 : Inv X pins σ (upd H s.heap.objs.size (.tup [x, y])) { s with heap := g' } :=
      I.turnedNew (t' := s.toks) (ch := [z, TI, TO, i1, i2]) (fun c o nb q => (sb.2 c (fun r => nb (by simp [r]))).trans (hk c o (fun r => nb (by simp [r])) (fun r => nb (by simp [r])) (fun r => nb (by simp [r])) (fun r => nb (by simp [r])) q)) hf (Nat.le_refl _) new
    have hd : z ≠ TI := D.TIz.symm
    refine ⟨.ref s.heap.objs.size, _, I1, rfl, ⟨_, x, y, rfl, I.hok.fresh (Nat.le_refl _), rfl, fun l hl => by rw [I.tuple_inj hl sx]; exact hx, fun l hl => by rw [I.tuple_inj hl sy]; exact hy⟩, ⟨z'', ?_, ⟨u, u2, ?_⟩, ?_, ?_⟩, fun c hcm => ?_⟩
    · exact (sb.2 _ D.TIz).trans (hk _ _ D.TIz D.TITO D.TIi1 D.TIi2 q2)
    · exact (sb.2 _ D.TOz).trans TO'
    · exact i1'.at fun o q => (sb.2 _ D.i1z).trans q
    · exact i2'.at fun o q => (sb.2 _ D.i2z).trans q
    · have clt : c < s.heap.objs.size := by
        have hc' : c = z ∨ c = TI ∨ c = TO ∨ c = i1 ∨ c = i2 := by simpa using hcm
        rcases hc' with r | r | r | r | r <;> rw [r]
        · exact zlt
        · exact Heap.lt_size q2
        · exact Heap.lt_size q3
        · obtain ⟨_, e1, _⟩ := q4; exact Heap.lt_size e1
        · obtain ⟨_, e1, _⟩ := q5; exact Heap.lt_size e1
      rw [upd_ne (Nat.ne_of_lt clt)]
      exact (hf c hcm).1
  done := by
    intro X hP hw hK hc i pins s σ H E I hf st hg
    subst hP hw hK
    obtain ⟨q1, q2, ⟨x0, y0, q3⟩, q4, q5⟩ := st
    obtain ⟨xs, ys, sx, sy, ex, ey⟩ := hg
    obtain ⟨its, rv, p, _⟩ := I.tuple sx
    obtain ⟨its2, rv2, p2, _⟩ := I.tuple sy
    have l1 := rv.length
    have l2 := rv2.length
    exact zs_next_end (I.ok.hd hc) D q1 q2 q3 q4 q5 p p2 (by simp; omega) (by simp; omega) fun g hk => ⟨rfl, I.turnedL (t' := s.toks) (ch := [z, TI, TO, i1, i2]) (fun c o nb q =>
      hk c o (fun r => nb (by simp [r])) (fun r => nb (by simp [r])) (fun r => nb (by simp [r])) (fun r => nb (by simp [r])) q) hf⟩
  self := fun A i s Q E st h => zs_iter st.1 h
theorem callTy_kw {M : Model} {B : Around} {G : Value → Shared → Prop} {t : Shared} {pos : Pos} {T : String} {args : List (Bool × Sem Value)} {kws : List (Option Str × Sem Value)} {Q : Value → Shared → Prop}
    (h1 : args.any (·.1) = false) (h2 : kws.any (·.1.isNone) = false)
    (h : wpAny M B (evalArgs (.type T) true args kws) (fun a t1 => wpAny M B (call (.type T) a.pos a.kw) Q G t1) G t) : wpAny M B (callWith pos (.type T) [] args kws) Q G t := by
  unfold callWith
  refine wpAny_bind (wpAny_holding (wpAny_mono h (fun a t1 q => wpAny_bind (wpAny_standAt ?_)) fun _ _ x => x))
  simp only [h1, h2, Bool.or_false]
  refine wpAny_bind (wpAny_pure ?_)
  exact wpAny_bind (wpAny_mono q (fun r t2 q2 => wpAny_bind (wpAny_holding (wpAny_point (wpAny_pure q2)))) fun _ _ x => x)
def iZs (K : PySem.W.Frag) (ta tk : TA) : TI := fun σ H R => ta σ H fun vs H1 => tk σ H1 fun zs H2 => zs = [.bl true] ∧ ∃ a b xs ys, vs = [.ref a, .ref b] ∧ SqT K H2 a xs ∧ SqT K H2 b ys ∧ R (ItzS K a b) H2
section
variable {X : Cx} {e e2 kv : Expr} {ta tk : TA} {p pos tpos kp : Pos} {elts : List Expr} {kk : Nat}
theorem pi_zs (hg : Gl X "zip") (hm : X.mg "zip" = none) (ha : PA X [e, e2] ta) (hk : PK X [⟨some (Str.ofString "strict"), kv, kp⟩] tk)
    (he : backTo pos (starEach [e, e2] X.env) = (false, eval e X.env) :: backTo pos (starEach [e2] X.env) := by rfl) (hpl : (backTo pos (starEach [e, e2] X.env)).any (·.1) = false := by rfl)
    (hall : (backToKw pos (keywordEach [⟨some (Str.ofString "strict"), kv, kp⟩] X.env)).all (·.1.isSome) = true := by rfl) (hnone : (backToKw pos (keywordEach [⟨some (Str.ofString "strict"), kv, kp⟩] X.env)).any (·.1.isNone) = false := by rfl)
    (hks : (backToKw pos (keywordEach [⟨some (Str.ofString "strict"), kv, kp⟩] X.env)).filterMap (·.1) = [Str.ofString "strict"] := by rfl) :
    PI X (.Tuple elts kk tpos) (.Call (.Name "zip" p) [e, e2] [⟨some (Str.ofString "strict"), kv, kp⟩] pos) (iZs X.K ta tk) := by
  refine ⟨fun pins s σ H R I h => ?_⟩
  refine wpAny_Call_Name_kw (ld_blt I hg hm PyProof.Rows.boot_zip (callTy_kw hpl hnone ?_))
  rw [he]
  refine evalArgs_kwB hall ?_
  rw [← he, hks]
  refine thn (ha.run pos pins s σ H _ I h) fun us s1 ⟨vs, H1, I1, r1, q1⟩ => thn (hk.run pos pins s1 σ H1 _ I1 q1) fun ws s2 ⟨zs, H2, I2, r2, ez, a, b, xs, ys, ex, sx, sy, q⟩ => ?_
  subst ez ex
  obtain ⟨its, rv, p1, _⟩ := I2.tuple sx
  obtain ⟨its2, rv2, p2, _⟩ := I2.tuple sy
  obtain ⟨o1, ho1, _⟩ := id p1
  obtain ⟨o2, ho2, _⟩ := id p2
  have l1 := Heap.lt_size ho1
  have l2 := Heap.lt_size ho2
  cases r1 with
  | cons r rr =>
    cases rr with
    | cons r' rr =>
      cases rr
      cases r
      cases r'
      cases r2 with
      | cons r rr =>
        cases rr
        obtain rfl := r
        show wpAny _ _ (call (.type "zip") [.ref a, .ref b] [(Str.ofString "strict", .bool true)]) _ _ s2
        refine zs_call (xs := its.toArray) (ys := its2.toArray) p1 p2 fun g hz hTI hTO h1 h2 hk' => zs_iter hz ?_
        have I3 : Inv X pins σ H2 { s2 with heap := g } := I2.kept (t' := s2.toks) hk'
        refine ⟨s2.heap.objs.size + 4, [s2.heap.objs.size + 4, s2.heap.objs.size + 2, s2.heap.objs.size + 3, s2.heap.objs.size, s2.heap.objs.size + 1], _, _, H2, rfl, I3, zs_turn (PySem.W.ktu_apart s2.heap.objs.size a b l1 l2), ⟨hz, hTI, ⟨_, _, hTO⟩, h1, h2⟩, fun c hcm => ?_, q⟩
        have hle : s2.heap.objs.size ≤ c := by
          have hc' : c = s2.heap.objs.size + 4 ∨ c = s2.heap.objs.size + 2 ∨ c = s2.heap.objs.size + 3 ∨ c = s2.heap.objs.size ∨ c = s2.heap.objs.size + 1 := by simpa using hcm
          rcases hc' with z | z | z | z | z <;> rw [z]
          · exact Nat.le_add_right _ _
          · exact Nat.le_add_right _ _
          · exact Nat.le_add_right _ _
          · exact Nat.le_refl _
          · exact Nat.le_add_right _ _
        exact I2.fpOk hle (I2.hok.fresh hle)
end
theorem tup_all {K : PySem.W.Frag} {w : Wd} {v : V} {l : List D} (r : RV K w v (.tup l)) : ∃ a vs, v = .ref a ∧ RVs K w vs l ∧ ∀ w1 H1 h1, w.le w1 → HW K w1 H1 h1 → SqT K H1 a vs := by
  cases r with
  | @tup a vs ds z r =>
    refine ⟨a, vs, rfl, r, fun w2 H2 h2 l2 hw2 => ?_⟩
    rcases z with z | z
    · exact .inl (.inl (hw2.fz _ _ (l2.1 _ _ z)))
    · exact .inr z
theorem zipT_it {K : PySem.W.Frag} {w : Wd} {a b : Addr} {vs us : List V} {xs ys : List D} (hS : ∀ w1 H1 h1, w.le w1 → HW K w1 H1 h1 → SqT K H1 a vs) (hT : ∀ w1 H1 h1, w.le w1 → HW K w1 H1 h1 → SqT K H1 b us) (r : RVs K w vs xs) (r' : RVs K w us ys) :
    ItOk K w (RZ.ItzT K a b) (fixS (zipL xs ys)) := ItOk.of_fix fun i w1 H1 h1 l1 hw1 => by
  refine ⟨fun d e => ?_, fun e => ⟨vs, us, hS w1 H1 h1 l1 hw1, hT w1 H1 h1 l1 hw1, ?_⟩⟩
  · obtain ⟨x, y, e1, e2, rfl⟩ := zipL_get e
    obtain ⟨v, z1, z2⟩ := r.get e1
    obtain ⟨u, y1, y2⟩ := r'.get e2
    refine ⟨⟨vs, us, v, u, hS w1 H1 h1 l1 hw1, hT w1 H1 h1 l1 hw1, z1, y1⟩, fun x H2 ⟨T, p, q, e3, e4, e5, e6, e7⟩ => ?_⟩
    subst e3 e5
    have ep := e6 vs (hS w1 H1 h1 l1 hw1)
    rw [z1] at ep
    cases ep
    have ep := e7 us (hT w1 H1 h1 l1 hw1)
    rw [y1] at ep
    cases ep
    exact ⟨_, Wd.le_add, hw1.add e4, .tup (.inl (.inr ⟨rfl, rfl⟩)) (.cons ((z2.mono l1).mono Wd.le_add) (.cons ((y2.mono l1).mono Wd.le_add) .nil))⟩
  · rw [zipL_len] at e
    rw [r.length, r'.length]
    omega
theorem zipS_it {K : PySem.W.Frag} {w : Wd} {a b : Addr} {vs us : List V} {xs ys : List D} (hl : xs.length = ys.length) (hS : ∀ w1 H1 h1, w.le w1 → HW K w1 H1 h1 → SqT K H1 a vs) (hT : ∀ w1 H1 h1, w.le w1 → HW K w1 H1 h1 → SqT K H1 b us) (r : RVs K w vs xs) (r' : RVs K w us ys) :
    ItOk K w (ItzS K a b) (fixS (zipL xs ys)) := ItOk.of_fix fun i w1 H1 h1 l1 hw1 => by
  refine ⟨fun d e => ?_, fun e => ⟨vs, us, hS w1 H1 h1 l1 hw1, hT w1 H1 h1 l1 hw1, ?_⟩⟩
  · obtain ⟨x, y, e1, e2, rfl⟩ := zipL_get e
    obtain ⟨v, z1, z2⟩ := r.get e1
    obtain ⟨u, y1, y2⟩ := r'.get e2
    refine ⟨⟨vs, us, v, u, hS w1 H1 h1 l1 hw1, hT w1 H1 h1 l1 hw1, z1, y1⟩, fun x H2 ⟨T, p, q, e3, e4, e5, e6, e7⟩ => ?_⟩
    subst e3 e5
    have ep := e6 vs (hS w1 H1 h1 l1 hw1)
    rw [z1] at ep
    cases ep
    have ep := e7 us (hT w1 H1 h1 l1 hw1)
    rw [y1] at ep
    cases ep
    exact ⟨_, Wd.le_add, hw1.add e4, .tup (.inl (.inr ⟨rfl, rfl⟩)) (.cons ((z2.mono l1).mono Wd.le_add) (.cons ((y2.mono l1).mono Wd.le_add) .nil))⟩
  · rw [zipL_len] at e
    rw [r.length, r'.length]
    omega
/-- zip(s, t), zip(s, t, strict=True) of tuples -/
def iZipTM (m : AM) : IM := fun s h => (m s h).bind fun l h1 => match l with
  | [.tup xs, .tup ys] => .ok (fixS (zipL xs ys)) h1
  | _ => .no
def iZipSM (m z : AM) : IM := fun s h => (m s h).bind fun l h1 => (z s h1).bind fun y h2 => match l, y with
  | [.tup xs, .tup ys], [.bl true] => if decide (xs.length = ys.length) = true then .ok (fixS (zipL xs ys)) h2 else .no
  | _, _ => .no
section
variable {X : Cx} {W : WX} {e e2 kv : Expr} {ma mk : AM} {p pos tpos kp : Pos} {elts : List Expr} {kk : Nat}
theorem di_zipT (hg : Gl X "zip") (hm : X.mg "zip" = none) (ha : DA X W [e, e2] ma)
    (hs : starEach [e, e2] X.env = (false, eval e X.env) :: starEach [e2] X.env := by rfl) (hpl : (backTo pos (starEach [e2] X.env)).any (·.1) = false := by rfl) :
    DI X W (.Tuple elts kk tpos) (.Call (.Name "zip" p) [e, e2] [] pos) (iZipTM ma) := PI.imp (RZ.pi_zipA hg hm ha hs hpl) fun σ H R ⟨w, s, h, rs, hw, q⟩ =>
  ⟨w, s, h, rs, hw, WpA.bind (G := WpI X.K w R _) q (fun _ _ z => z) (fun z => z) fun l h1 w1 v H1 l1 rv hw1 q1 => by
    split at q1
    · obtain ⟨u, u2, rfl, ru, ru2⟩ := rv2 rv
      obtain ⟨a, vs, rfl, r, hS⟩ := tup_all ru
      obtain ⟨b, us, rfl, r2, hT⟩ := tup_all ru2
      exact ⟨a, b, vs, us, rfl, .inr ⟨hS w1 H1 h1 (.refl w1) hw1, hT w1 H1 h1 (.refl w1) hw1, q1 w1 H1 _ l1 hw1 (zipT_it hS hT r r2)⟩⟩
    · exact q1.elim⟩
theorem di_zipS (hg : Gl X "zip") (hm : X.mg "zip" = none) (ha : DA X W [e, e2] ma) (hk : DK X W [⟨some (Str.ofString "strict"), kv, kp⟩] mk)
    (he : backTo pos (starEach [e, e2] X.env) = (false, eval e X.env) :: backTo pos (starEach [e2] X.env) := by rfl) (hpl : (backTo pos (starEach [e, e2] X.env)).any (·.1) = false := by rfl)
    (hall : (backToKw pos (keywordEach [⟨some (Str.ofString "strict"), kv, kp⟩] X.env)).all (·.1.isSome) = true := by rfl) (hnone : (backToKw pos (keywordEach [⟨some (Str.ofString "strict"), kv, kp⟩] X.env)).any (·.1.isNone) = false := by rfl)
    (hks : (backToKw pos (keywordEach [⟨some (Str.ofString "strict"), kv, kp⟩] X.env)).filterMap (·.1) = [Str.ofString "strict"] := by rfl) :
    DI X W (.Tuple elts kk tpos) (.Call (.Name "zip" p) [e, e2] [⟨some (Str.ofString "strict"), kv, kp⟩] pos) (iZipSM ma mk) := PI.imp (pi_zs hg hm ha hk he hpl hall hnone hks) fun σ H R ⟨w, s, h, rs, hw, q⟩ =>
  ⟨w, s, h, rs, hw, WpA.bind (G := WpI X.K w R _) q (fun _ _ z => z) (fun z => z) fun l h1 w1 v H1 l1 rv hw1 q1 =>
    ⟨w1, s, h1, rs.mono l1, hw1, WpA.bind (G := WpI X.K w R _) q1 (fun _ _ z => Px.mono l1 z) (fun z => z) fun y h2 w2 u H2 l2 ru hw2 q2 => by
      split at q2
      · split at q2
        · rename_i z
          obtain ⟨u1, u2, rfl, r1, r2⟩ := rv2 rv
          obtain ⟨a, vs, rfl, r, hS⟩ := tup_all r1
          obtain ⟨b, us, rfl, r2, hT⟩ := tup_all r2
          obtain ⟨kx, rfl, rk⟩ := rv1 ru
          cases rk
          exact ⟨rfl, a, b, vs, us, rfl, hS w2 H2 h2 l2 hw2, hT w2 H2 h2 l2 hw2, q2 w2 H2 _ (l1.trans l2) hw2 (zipS_it (of_decide_eq_true z) (fun w3 H3 h3 l3 => hS w3 H3 h3 (l2.trans l3)) (fun w3 H3 h3 l3 => hT w3 H3 h3 (l2.trans l3)) (r.mono l2) (r2.mono l2))⟩
        · exact q2.elim
      · exact q2.elim⟩⟩
end
end DN
namespace DN
open PySem PySem.Spec PyProof.Rows L2
/-! ### a[lo:hi:step] of tuples and texts -/
def SlR3 (X : Cx) (r : V → Option Int → Option Int → Option Int → Hp → VK → Prop) : Prop :=
  ∀ (pins : List (Addr × Obj)) (s : Shared) (σ : L2.St) (H : Hp) (x : V) (v vl vu vk : Value) (lo hi st : Option Int) (sl : Addr) (Q : VK), Inv X pins σ H s → RelV x v → s.heap.IsSliceOf sl vl vu vk → IsPart vl lo → IsPart vu hi → IsPart vk st → r x lo hi st H Q →
    ∃ T id, typeLookup (.type T) "__getitem__" = pure (some (.builtin id)) ∧ s.TypeIs v T ∧ wpAny (model X.prog X.w) X.A (getItem v (.ref sl)) (EP X pins σ Q) X.xe s
def tSl3 (r : V → Option Int → Option Int → Option Int → Hp → VK → Prop) (te : TE) (tl th tk : TO) : TE := fun σ H Q => te σ H fun x H1 => tl σ H1 fun l H2 => th σ H2 fun u H3 => tk σ H3 fun k H4 => r x l u k H4 Q
theorem pe_slice3 {X : Cx} {e ke : Expr} {te : TE} {lo hi : Option Expr} {tl th tk : TO} {pos p2 : Pos} {r : V → Option Int → Option Int → Option Int → Hp → VK → Prop} (hr : SlR3 X r) (he : PE X e te) (hl : PO X lo tl) (hu : PO X hi th) (hk : PO X (some ke) tk) :
    PE X (.Subscript e (.Slice lo hi (some ke) p2) pos) (tSl3 r te tl th tk) := by
  refine ⟨fun pins s σ H Q I h => ?_⟩
  refine Subscript_ (thn (he.run pins s σ H _ I h) fun v s1 ⟨x, H1, I1, r1, q1⟩ => ?_)
  refine wpAny_Slice (thn (hl.run pins s1 σ H1 _ I1 q1) fun vl s2 ⟨l, H2, I2, pl, q2⟩ => thn (hu.run pins s2 σ H2 _ I2 q2) fun vu s3 ⟨u, H3, I3, pu, q3⟩ => thn (hk.run pins s3 σ H3 _ I3 q3) fun vk s4 ⟨k, H4, I4, pk, q4⟩ => ?_)
  have I5 : Inv X pins σ H4 { s4 with heap := s4.heap.push { cls := .type "slice", data := .fields #[vl, vu, vk] } } := I4.kept (t' := s4.toks) fun b ob q => Heap.get?_push_of_some _ q
  obtain ⟨T, id, hT, ht, hg⟩ := hr pins _ σ H4 x v vl vu vk l u k s4.heap.objs.size Q I5 r1 (Heap.IsSliceOf.new ..) pl pu pk q4
  show wpAny (model X.prog X.w) X.A (subscriptTail e (.Slice lo hi (some ke) p2) v (.ref s4.heap.objs.size)) (EP X pins σ Q) X.xe { s4 with heap := s4.heap.push { cls := .type "slice", data := .fields #[vl, vu, vk] } }
  exact tail_any (ops := [v, .ref s4.heap.objs.size]) ht hT hg (by with_unfolding_all rfl)
/-- the items picked -/
def pk3 {α : Type} (xs : List α) (lo hi : Option Int) (st : Int) : List α :=
  (List.range (Builtin.Slice.slicePlaces (Builtin.Slice.sliceAdjust lo hi st xs.length).1 (Builtin.Slice.sliceAdjust lo hi st xs.length).2 st)).filterMap fun (k : Nat) => xs[((Builtin.Slice.sliceAdjust lo hi st xs.length).1 + (k : Int) * st).toNat]?
section
variable {P0 : Program} {w : World} {B : Around} {G : Value → Shared → Prop} {t : Shared}
theorem tup_pk3 {a sl : Addr} {items : List Value} {vl vu vk : Value} {lo hi : Option Int} {st : Int} {Q : Value → Shared → Prop} (ht : IsTup t.heap a items.toArray) (hs : t.heap.IsSliceOf sl vl vu vk) (pl : IsPart vl lo) (pu : IsPart vu hi) (pk : IsPart vk (some st))
    (h0 : st ≠ 0) (h1 : st ≠ 1) (hz : (pk3 items lo hi st).length ≤ sizeLine) (q : Q (.ref t.heap.objs.size) { t with heap := t.heap.push { cls := .type "tuple", data := .seq (pk3 items lo hi st).toArray } }) :
    wpAny (model P0 w) B (getItem (.ref a) (.ref sl)) Q G t := by
  obtain ⟨os, hos, hcs, hds⟩ := id hs
  have ty : t.TypeIs (.ref sl) "slice" := ⟨os, hos, hcs⟩
  unfold getItem
  try with_reducible refine wpAny_holding ?_
  first | refine wpAny_bind (wpAny_pure ?_) | skip
  refine wpAny_bind (wpAny_sequenceKey ht.typeIs (by decide) ?_)
  refine wpAny_bind (wpAny_callSpecial?_slot (name := Str.ofString "__getitem__") ht.typeIs PyProof.Rows.slot_tuple_getitem (wpAny_call_entry PyProof.Rows.slot_tuple_getitem ht.typeIs entry_tuple_getitem ?_ (args_tuple_getitem _ _)))
  show wpAny _ _ (Builtin.Tuple.tupleItemsOf (.ref a) >>= _) _ _ t
  refine wpAny_bind (tupleItemsOf_ ht (wpAny_bind (wpAny_typeOf ty ?_)))
  rw [if_pos (by decide)]
  refine wpAny_bind ?_
  unfold Builtin.Slice.sliceApplied Builtin.Slice.sliceFields
  refine wpAny_bind (wpAny_bind (wpAny_field hos hds (x := vl) rfl (wpAny_bind (wpAny_field hos hds (x := vu) rfl (wpAny_bind (wpAny_field hos hds (x := vk) rfl (wpAny_pure ?_)))))))
  refine wpAny_bind (HT.slicePart_ pk ?_)
  show wpAny _ _ (if (st == 0) = true then _ else _) _ _ t
  rw [if_neg (by simpa using h0)]
  refine wpAny_bind (HT.slicePart_ pl (wpAny_bind (HT.slicePart_ pu (wpAny_bind (wpAny_pure ?_)))))
  refine wpAny_pure ?_
  have e1 : (pk3 items lo hi st).toArray = ((List.range (Builtin.Slice.slicePlaces (Builtin.Slice.sliceAdjust lo hi st (items.toArray.size : Int)).1 (Builtin.Slice.sliceAdjust lo hi st (items.toArray.size : Int)).2 st)).filterMap fun (k : Nat) => items.toArray[((Builtin.Slice.sliceAdjust lo hi st (items.toArray.size : Int)).1 + (k : Int) * st).toNat]?).toArray := by
    unfold pk3
    simp
  rw [e1] at q
  have hz' : sizeOk (.seq (pk3 items lo hi st).toArray) := by
    show (pk3 items lo hi st).toArray.size ≤ sizeLine
    rw [List.size_toArray]; exact hz
  rw [e1] at hz'
  have hno : ¬ (((Builtin.Slice.sliceAdjust lo hi st (items.toArray.size : Int)).1 == 0 && st == 1 && (Builtin.Slice.slicePlaces (Builtin.Slice.sliceAdjust lo hi st (items.toArray.size : Int)).1 (Builtin.Slice.sliceAdjust lo hi st (items.toArray.size : Int)).2 st) == items.toArray.size) = true) := by
    intro z
    rw [Bool.and_eq_true, Bool.and_eq_true] at z
    exact h1 (eq_of_beq z.1.2)
  show wpAny _ _ (if ((Builtin.Slice.sliceAdjust lo hi st (items.toArray.size : Int)).1 == 0 && st == 1 && (Builtin.Slice.slicePlaces (Builtin.Slice.sliceAdjust lo hi st (items.toArray.size : Int)).1 (Builtin.Slice.sliceAdjust lo hi st (items.toArray.size : Int)).2 st) == items.toArray.size) = true then _ else _) _ _ t
  rw [if_neg hno]
  first
    | exact wpAny_bind (m := Builtin.Tuple.tupleExact _) (wpAny_newObj_type (wpAny_pure ⟨_, rfl, wpAny_pure q⟩) hz')
    | exact wpAny_bind (wpAny_bind (m := Builtin.Tuple.tupleExact _) (wpAny_newObj_type (wpAny_pure (wpAny_pure ⟨_, rfl, wpAny_pure q⟩)) hz'))
    | exact wpAny_bind (wpAny_bind (m := Builtin.Tuple.tupleExact _) (wpAny_newObj_type (wpAny_pure ⟨_, rfl, wpAny_pure q⟩) hz'))
end
theorem pk_vals {xs : List V} {its : List Value} (r : Vals xs its) (f : Nat → Nat) : ∀ ks : List Nat, Vals (ks.filterMap fun k => xs[f k]?) (ks.filterMap fun k => its[f k]?)
  | [] => .nil
  | k :: ks => by
    have ih := pk_vals r f ks
    cases e : xs[f k]? with
    | none =>
      have e2 : its[f k]? = none := by
        have := r.length
        rw [List.getElem?_eq_none_iff] at e ⊢
        omega
      rw [List.filterMap_cons, List.filterMap_cons, e, e2]
      exact ih
    | some x =>
      obtain ⟨u, e2, ru⟩ := r.get e
      rw [List.filterMap_cons, List.filterMap_cons, e, e2]
      exact .cons ru ih
theorem pk_rvs {K : PySem.W.Frag} {w : Wd} {vs : List V} {ds : List D} (r : RVs K w vs ds) (f : Nat → Nat) : ∀ ks : List Nat, RVs K w (ks.filterMap fun k => vs[f k]?) (ks.filterMap fun k => ds[f k]?)
  | [] => .nil
  | k :: ks => by
    have ih := pk_rvs r f ks
    cases e : ds[f k]? with
    | none =>
      have e2 : vs[f k]? = none := by
        have := r.length
        rw [List.getElem?_eq_none_iff] at e ⊢
        omega
      rw [List.filterMap_cons, List.filterMap_cons, e, e2]
      exact ih
    | some x =>
      obtain ⟨u, e2, ru⟩ := r.get e
      rw [List.filterMap_cons, List.filterMap_cons, e, e2]
      exact .cons ru ih
theorem pk3_vals {xs : List V} {its : List Value} (r : Vals xs its) (lo hi : Option Int) (st : Int) : Vals (pk3 xs lo hi st) (pk3 its lo hi st) := by
  unfold pk3
  rw [r.length]
  exact pk_vals r _ _
theorem pk3_rvs {K : PySem.W.Frag} {w : Wd} {vs : List V} {ds : List D} (r : RVs K w vs ds) (lo hi : Option Int) (st : Int) : RVs K w (pk3 vs lo hi st) (pk3 ds lo hi st) := by
  unfold pk3
  rw [r.length]
  exact pk_rvs r _ _
def pkS (z : Str) (lo hi : Option Int) (st : Int) : Str := ⟨((Builtin.Str.strSliceIndices lo hi st z.length).filterMap (z.cps[·]?)).toArray⟩
def oCut3 (d : D) (lo hi st : Option Int) : Option D := match d, st with
  | .tup l, some k => if decide (k ≠ 0 ∧ k ≠ 1 ∧ (pk3 l lo hi k).length ≤ sizeLine) = true then some (.tup (pk3 l lo hi k)) else none
  | .str z, some k => if decide (k ≠ 0 ∧ k ≠ 1 ∧ (pkS z lo hi k).length ≤ sizeLine) = true then some (.str (pkS z lo hi k)) else none
  | _, _ => none
def rSl3 (K : PySem.W.Frag) : V → Option Int → Option Int → Option Int → Hp → VK → Prop := fun x lo hi st H Q => ∃ w h dx d, RV K w x dx ∧ HW K w H h ∧ oCut3 dx lo hi st = some d ∧ Pv K w Q d h
theorem sl3_d {X : Cx} : SlR3 X (rSl3 X.K) := by
  intro pins s σ H x v vl vu vk lo hi st sl Q I rx hs pl pu pk ⟨w, h, dx, d, r1, hw, e, q⟩
  unfold oCut3 at e
  split at e
  · rename_i l k
    split at e
    · rename_i z
      obtain ⟨z0, z1, z2⟩ := of_decide_eq_true z
      cases e
      obtain ⟨a, vs, rfl, s1, q1⟩ := seqT_ok hw r1 rfl
      cases rx
      obtain ⟨its, r, ht, hz⟩ := I.tuple s1
      have rr := pk3_vals r lo hi k
      have hlen : (pk3 vs lo hi k).length = (pk3 l lo hi k).length := (pk3_rvs q1 lo hi k).length
      refine ⟨"tuple", _, PyProof.Rows.slot_tuple_getitem.lookup, ht.typeIs, ?_⟩
      refine tup_pk3 ht hs pl pu pk z0 z1 (by rw [← rr.length, hlen]; exact z2) ?_
      refine ⟨.ref s.heap.objs.size, _, I.laid (t' := s.toks) (o := .tup (pk3 vs lo hi k)) (fun b ob q => Heap.get?_push_of_some _ q) (Nat.le_refl _) ?_, rfl, ?_⟩
      · exact ⟨by rw [hlen]; exact z2, _, rr, IsTup.new _ _⟩
      · exact Pv.tup q hw (pk3_rvs q1 lo hi k) (I.hok.fresh (Nat.le_refl _))
    · cases e
  · rename_i z k
    split at e
    · rename_i zz
      obtain ⟨z0, z1, z2⟩ := of_decide_eq_true zz
      cases e
      cases r1
      obtain ⟨t, rfl⟩ := rx
      obtain ⟨os, hos, hcs, hds⟩ := hs
      obtain ⟨l1, rfl, rfl⟩ := IsPart.raw pl
      obtain ⟨u1, rfl, rfl⟩ := IsPart.raw pu
      obtain ⟨k1, rfl, hk1⟩ := IsPart.raw pk
      refine ⟨"str", _, F.slot_str_getitem.lookup, typeIs_str _ _ _, ?_⟩
      have hg : (k1.map (·.1)).getD 1 = k := by rw [hk1]; rfl
      refine wpAny_getItem_str_slice (l := l1) (u := u1) (st := k1) ⟨os, hos, hcs, hds⟩ (by rw [hg]; simpa using z0) ?_
      show Made.post (if (((k1.map (·.1)).getD 1 == 1) && (Builtin.Str.strSliceIndices (l1.map (·.1)) (u1.map (·.1)) ((k1.map (·.1)).getD 1) z.length).length == z.length) = true then Made.val (.str z t)
        else Made.str ⟨((Builtin.Str.strSliceIndices (l1.map (·.1)) (u1.map (·.1)) ((k1.map (·.1)).getD 1) z.length).filterMap (z.cps[·]?)).toArray⟩) (EP X pins σ Q) s
      rw [hg, if_neg (by intro c; rw [Bool.and_eq_true] at c; exact z1 (eq_of_beq c.1))]
      exact ⟨z2, .str _, H, I.tok _, ⟨_, rfl⟩, Pv.here q hw (.str _)⟩
    · cases e
  · cases e
def mSl3 (m : EM) (lo hi st : OM) : EM := fun s h => (m s h).bind fun d h1 => (lo s h1).bind fun l h2 => (hi s h2).bind fun u h3 => (st s h3).bind fun k h4 => match oCut3 d l u k with
  | some d => .ok d h4
  | none => .no
section
variable {X : Cx} {W : WX} {e ke : Expr} {me : EM} {lo hi : Option Expr} {ml mh mk : OM} {p2 pos : Pos}
theorem d_slice3 (he : DE X W e me) (hl : PO X lo (TO_ X.K W ml)) (hu : PO X hi (TO_ X.K W mh)) (hk : PO X (some ke) (TO_ X.K W mk)) : DE X W (.Subscript e (.Slice lo hi (some ke) p2) pos) (mSl3 me ml mh mk) :=
  PE.imp (pe_slice3 sl3_d he hl hu hk) fun σ H Q ⟨w, s, h, rs, hw, q⟩ =>
    ⟨w, s, h, rs, hw, WpE.bind (G := WpE X.K w Q _) q (fun _ _ z => z) (fun z => z) fun x h1 w1 v H1 l1 rx hw1 q1 =>
      ⟨w1, s, h1, rs.mono l1, hw1, WpO.bind (G := WpE X.K w Q _) q1 (fun _ _ z => Px.mono l1 z) (fun z => z) fun lo h2 w2 H2 l2 hw2 q2 =>
        ⟨w2, s, h2, rs.mono (l1.trans l2), hw2, WpO.bind (G := WpE X.K w Q _) q2 (fun _ _ z => Px.mono (l1.trans l2) z) (fun z => z) fun hi h3 w3 H3 l3 hw3 q3 =>
          ⟨w3, s, h3, rs.mono ((l1.trans l2).trans l3), hw3, WpO.bind (G := WpE X.K w Q _) q3 (fun _ _ z => Px.mono ((l1.trans l2).trans l3) z) (fun z => z) fun k h4 w4 H4 l4 hw4 q4 => by
            split at q4
            · rename_i d e
              exact ⟨w4, h4, x, d, ((rx.mono l2).mono l3).mono l4, hw4, e, fun w5 z H5 l5 => q4 w5 z H5 ((((l1.trans l2).trans l3).trans l4).trans l5)⟩
            · exact q4.elim⟩⟩⟩⟩
end
def gUpper : OMt := fun h x ds => match x, ds with
  | .str a, [] => if decide (a.length ≤ 5592405) = true then some (.str (Txt.upper a), h) else none
  | _, _ => none
theorem mt_gUpper {X : Cx} : MtR X "str.upper" (rM X.K "str" gUpper) := by
  intro pins s σ H x xs v us Q I rx rxs ⟨w, h, dx, ds, d, h', r1, r2, hw, e, q⟩
  unfold gUpper at e
  split at e
  · split at e
    · rename_i z
      cases e
      cases r1
      cases r2
      exact mt_upper pins s σ H _ _ v us Q I rx rxs ⟨_, rfl, rfl, of_decide_eq_true z, Pv.here q hw (.str _)⟩
    · cases e
  · cases e
end DN
namespace DN
open PySem PySem.Spec PyProof.Rows L2
/-! ### exceptions of own classes: raise C(e), C keeping e in a field -/
/-- what C.__init__(self, x) does: self.fl = x -/
def initSp (K : PySem.W.Frag) (C : Addr) (fl : Str) : Sp := fun vs H Q _ => ∃ a y, vs = [.ref a, y] ∧ OexC K C ∧ PySem.W.findIn K (.ref C) fl = some none ∧ H a = some (exo a C none) ∧ ∀ dx, H dx = none → dx ≠ a → Q .non (upd (upd H dx (exd dx [(fl, y)])) a (exo a C (some dx)))
structure RaiseAt (P : Program) (w : World) (K : PySem.W.Frag) (mg : Str → Option Value) (base : Heap) (k : Nat) (x fl : Str) (C : Addr) : Prop where
  gm : mg x = some (.ref C)
  T : OexC K C
  no : PySem.W.findIn K (.ref C) fl = some none
  init : ∃ (fI : Addr) (fd : FuncData) (ps : List Str), PySem.W.findIn K (.ref C) "__init__" = some (some (.ref fI)) ∧ PySem.W.typeIn K (.ref fI) = some (.type "function") ∧ FnOk P w K mg base (L2.CX P w) k fI fd ps (initSp K C fl) ∧ Binds K fd ps []
theorem HW.up {K : PySem.W.Frag} {w : Wd} {H H' : Hp} {h : LH} (hw : HW K w H h) (u : ∀ a o, H a = some o → H' a = some o) : HW K w H' h where
  fz := fun a o q => u a o (hw.fz a o q)
  len := hw.len
  ats := fun n a p e1 e2 => let ⟨o, q1, q2⟩ := hw.ats n a p e1 e2; ⟨o, u a o q1, q2⟩
  nd := hw.nd
  sep := hw.sep
  rs := fun a o q => ⟨u a o (hw.rs a o q).1, (hw.rs a o q).2⟩
  sm := hw.sm
def sRaise (C : Value) (fl : Str) (m : AM) : SM := fun s h => match m s h with
  | .ok [d] h1 => .ex ⟨C, some [(.inr fl, d)]⟩ s h1
  | .ex x h1 => .ex x s h1
  | _ => .no
section
variable {X : Cx} {W : WX} {x fl : Str} {C : Addr} {k : Nat} {e : Expr} {a : AM} {p pos pos' : Pos}
theorem ds_raise (hc : X.calm = true) (tk : Takes X W) (R : RaiseAt X.prog X.w X.K X.mg X.base k x fl C) (hr : Room (k + 1) X.A) (hg : Gl X x) (ha : DA X W [e] a)
    (hdb : (x == ("__debug__" : Str)) = false := by decide) (he : starEach [e] X.env = (false, eval e X.env) :: starEach [] X.env := by rfl) (hpl : (backTo pos (starEach [] X.env)).any (·.1) = false := by rfl) :
    DS X W (.Raise (some (.Call (.Name x p) [e] [] pos)) none pos') (sRaise (.ref C) fl a) := by
  obtain ⟨fI, fd, ps, i1, i2, F, hb⟩ := R.init
  refine PS.imp (ps_raise hc tk (pmk_oex R.T i1 i2 F hr hb .nil (passes_call tk fun _ _ _ _ z => z.elim) hg R.gm ha hdb he hpl)) fun D σ H ⟨w, s, h, rs, hw, q⟩ => ?_
  refine ⟨w, s, h, rs, hw, ?_⟩
  unfold sRaise at q
  cases em : a s h with
  | no => rw [em] at q; exact q.elim
  | ex x h1 =>
    rw [em] at q
    exact fun w1 c dd H1 l rx hw1 => q w1 c dd σ H1 l (rs.mono l) rx hw1
  | ok l h1 =>
    rw [em] at q
    intro w1 vs H1 l1 rv hw1
    match l, q, rv with
    | [d], q, rv =>
      obtain ⟨y, rfl, ry⟩ := rv1 rv
      refine ⟨by simp, fun a0 n0 => ⟨a0, y, rfl, R.T, R.no, upd_same, fun dx n1 ne => ⟨rfl, dx, [(fl, y)], upd_same, by rw [upd_ne ne]; exact upd_same, ?_, ?_⟩⟩⟩
      · rw [upd_ne ne] at n1; exact n1
      · have n1' : H1 dx = none := by rw [upd_ne ne] at n1; exact n1
        have fr := hw1.free n1'
        refine q w1 (.ref C) (some dx) σ _ l1 (rs.mono l1) (.own (us := [(.inr fl, y)]) _ upd_same (fun f v hf => ?_) (.cons ry .nil) fr.2.2) (hw1.up fun b o hb => ?_)
        · by_cases z : f = fl
          · subst z
            have : y = v := by
              rw [valV_pos rfl] at hf
              exact Option.some.inj hf
            subst this
            simp [List.lookup]
          · have nk : (Sum.inr fl : Key) ≠ .inr f := fun e => z (Sum.inr.inj e).symm
            unfold valV at hf
            simp [nk] at hf
        · have nb : b ≠ dx := fun z => by rw [z, n1'] at hb; cases hb
          have na : b ≠ a0 := fun z => by rw [z, n0] at hb; cases hb
          rw [upd_ne nb, del_ne na, upd_ne na, upd_ne nb, upd_ne na]
          exact hb
end
/-- __init__(self, x): self.fl = x -/
theorem init_ok {P : Program} {w : World} {K : PySem.W.Frag} {mg : Str → Option Value} {base : Heap} {k : Nat} {qual x fl : Str} {st : Stmt} {C fI : Addr} {fd : FuncData} (F : Fun K "__init__" qual st fI fd) (S : FnScope ["self", x] ["self", x] (defScope st))
    (hb : ∃ p1 p2 p3 p4 : Pos, defBody st = [.Assign [.Attribute (.Name "self" p1) fl p2] (.Name x p3) p4])
    (v0 : Vis (defScope st) "self") (v1 : Vis (defScope st) x) (d1 : (x == ("__debug__" : Str)) = false) (d2 : (x == ("__classdict__" : Str)) = false) : FnOk P w K mg base (L2.CX P w) (k + 1) fI fd ["self", x] (initSp K C fl) := by
  obtain ⟨p1, p2, p3, p4, hb⟩ := hb
  obtain ⟨oc, od, kV, doc, pm, an, cdv, ct, osl, rfl, lk, hcd⟩ := F.ex
  refine fn_of (sp := initSp K C fl) lk hcd S (fun vs H Q E ⟨a, y, e, _⟩ => by rw [e]; rfl) fun A outer s H vs Q E hr ⟨a, y, ev, T, no, ea, q⟩ => ?_
  subst ev
  rw [hb]
  have h1 : PE (cxOf (L2.CX P w) P w K mg base ["self", x] qual (defScope st) fI cdv A outer s H E) (.Name "self" p1) (tVar 0) := pe_var rfl v0
  have h2 : PE (cxOf (L2.CX P w) P w K mg base ["self", x] qual (defScope st) fI cdv A outer s H E) (.Name x p3) (tVar 1) := pe_var rfl v1 d1 d2
  refine ⟨_, pss_one (ps_ost h1 h2), ?_⟩
  refine ⟨y, rfl, .ref a, rfl, a, C, rfl, T, no, .inl ⟨ea, fun dx n ne => q dx n ne⟩⟩
end DN
namespace DN
open PySem PySem.Spec PyProof.Rows L2
/-! ### try: .. except C as e: .. -/
def RQ.unset (i : Nat) : RQ → RQ
  | .nx s h => .nx (s.set i none) h
  | .bk s h => .bk (s.set i none) h
  | .ct s h => .ct (s.set i none) h
  | .rt d h => .rt d h
  | _ => .no
def tryG (i : Nat) (su : Addr → Value → Option Addr → SM) (x : EX) (s : Sg) (h : LH) (a : Addr) (dd : Option Addr) : RQ := (su a x.cls dd (s.set i (some (.exn a x.cls dd (x.fs.getD [])))) h).unset i
open Classical in
noncomputable def sTry (mt : Value → Option Bool) (i : Nat) (b : SM) (su : Addr → Value → Option Addr → SM) : SM := fun s h => match b s h with
  | .ex x s1 h1 => match mt x.cls with
    | some true => if ∀ a dd, dd.isSome = x.fs.isSome → tryG i su x s1 h1 a dd = tryG i su x s1 h1 0 (x.fs.map fun _ => 0) then tryG i su x s1 h1 0 (x.fs.map fun _ => 0) else .no
    | some false => .ex x s1 h1
    | none => .no
  | r => r
theorem HW.keep {K : PySem.W.Frag} {w : Wd} {H : Hp} {h : LH} (hw : HW K w H h) {p : Addr} {vs : List (Str × V)} (hp : H p = some (.xd vs)) (hn : ∀ o, ¬ w.rs p o) : HW K (w.add p (.xd vs)) H h := by
  have nin : p ∉ w.at_ := fun hm => by
    obtain ⟨n, hl, e⟩ := List.getElem_of_mem hm
    have hh : n < h.length := by rw [← hw.len]; exact hl
    obtain ⟨o, h1, h2⟩ := hw.ats n p h[n] (by rw [List.getElem?_eq_getElem hl, e]) (List.getElem?_eq_getElem hh)
    rw [hp] at h1
    cases h1
    cases h2
  refine ⟨fun a o q => ?_, hw.len, fun n a x e1 e2 => ?_, hw.nd, fun a u hm q => ?_, fun a u q => ?_, hw.sm.imp fun _ z => z.imp fun _ z => .inl z⟩
  · rcases q with q | ⟨rfl, rfl⟩
    · exact hw.fz a o q
    · exact hp
  · obtain ⟨u, h1, h2⟩ := hw.ats n a x e1 e2
    exact ⟨u, h1, h2.mono Wd.le_add⟩
  · rcases q with q | ⟨rfl, rfl⟩
    · exact hw.sep a u hm q
    · exact nin hm
  · obtain ⟨q1, q2, q3⟩ := hw.rs a u q
    exact ⟨q1, q2, fun z y => y.elim (q3 z) fun ⟨e1, _⟩ => hn u (e1 ▸ q)⟩
theorem RS.unset {K : PySem.W.Frag} {w : Wd} {σ : L2.St} {s : Sg} (r : RS K w σ s) (i : Nat) : RS K w (σ.set i none) (s.set i none) := ⟨by simp [r.1], fun j x e => by
  by_cases hj : i = j
  · subst hj
    by_cases hl : i < s.length
    · rw [List.getElem?_set_self hl] at e
      cases e
    · rw [List.getElem?_eq_none_iff.mpr (by simpa using hl)] at e
      cases e
  · rw [List.getElem?_set_ne hj] at e
    rw [List.getElem?_set_ne hj]
    exact r.2 j x e⟩
theorem WpS.unset {K : PySem.W.Frag} {w w' : Wd} {D : Ends} {W : WX} {r : RQ} {i : Nat} (l : w.le w') (q : WpS K w D W (r.unset i)) :
    WpS K w' { nx := fun σ' H' => D.nx (σ'.set i none) H', rt := D.rt, bk := fun σ' H' => D.bk (σ'.set i none) H', ct := fun σ' H' => D.ct (σ'.set i none) H' } WX0 r := by
  cases r with
  | nx s h => exact fun w1 σ1 H1 l1 rs hw => q w1 _ H1 (l.trans l1) (rs.unset i) hw
  | bk s h => exact fun w1 σ1 H1 l1 rs hw => q w1 _ H1 (l.trans l1) (rs.unset i) hw
  | ct s h => exact fun w1 σ1 H1 l1 rs hw => q w1 _ H1 (l.trans l1) (rs.unset i) hw
  | rt d h => exact fun w1 v H1 l1 rv hw => q w1 v H1 (l.trans l1) rv hw
  | ex x s h => exact q.elim
  | no => exact q.elim
section
variable {X : Cx} {W : WX} {x n : Str} {c : Value} {i : Nat} {body suite : List Stmt} {b₀ : Stmt} {np pos pos' : Pos} {mt : Value → Option Bool} {b : SM} {su : Addr → Value → Option Addr → SM}
theorem ds_try (hs : X.stack = X.env :: X.outer) (hf : X.env.frame = some X.env.locals) (hN : X.N.Nodup) (hi : X.N[i]? = some n) (hln : X.env.kindOf n = some .local) (hc : Names X x c) (tk : Takes X W)
    (hb : ∀ (W' : WX) (pn : List (Addr × Obj)) (xe : Value → Shared → Prop), Takes (X.tr pn xe) W' → PassesOwn (model X.prog X.w) X.A X.env xe → DSs (X.tr pn xe) W' body b)
    (hsu : ∀ (a : Addr) (oe : Obj) (cls : Value) (d : Option Addr) (pn : List (Addr × Obj)), Zc cls d oe → (∃ vs, oe.data = .fields vs) → DSs (X.suite a ((a, oe) :: pn)) WX0 (b₀ :: suite) (su a cls d))
    (hmt : ∀ cls k, mt cls = some k → PySem.W.exmOne X.K cls c = some k) :
    DS X W (.Try body [.ExceptHandler (some (.Name x np)) (some n) (b₀ :: suite) pos'] [] [] pos) (sTry mt i b su) := by
  refine PS.imp (ps_try_as (tb := fun W' => TS_ X.K W' b) (ts := fun a cls d => TS_ X.K WX0 (su a cls d)) hs hf hN hi hln hc tk hb hsu) fun D σ H ⟨w, s, h, rs, hw, q⟩ => ⟨w, s, h, rs, hw, ?_⟩
  unfold sTry at q
  cases eb : b s h with
  | nx s1 h1 => rw [eb] at q; exact q
  | rt d h1 => rw [eb] at q; exact q
  | bk s1 h1 => rw [eb] at q; exact q
  | ct s1 h1 => rw [eb] at q; exact q
  | no => rw [eb] at q; exact q
  | ex e s1 h1 =>
    rw [eb] at q
    dsimp only at q
    intro w1 cl dd σ1 H1 l1 rs1 rx hw1
    have hcl : e.cls = cl := by cases rx <;> rfl
    cases em : mt e.cls with
    | none => rw [em] at q; exact q.elim
    | some k =>
      rw [em] at q
      cases k with
      | false =>
        exact ⟨false, hmt cl false (by rw [← hcl, em]), (fun z => by cases z), fun _ => q w1 cl dd σ1 H1 l1 rs1 rx hw1⟩
      | true =>
        refine ⟨true, hmt cl true (by rw [← hcl, em]), (fun _ a na => ?_), fun z => by cases z⟩
        dsimp only at q
        split at q
        · rename_i hall
          cases rx with
          | bare =>
            have g := hall a none rfl
            rw [← g] at q
            refine ⟨w1, _, h1, rs1.set (d := .exn a cl none []) (.exb cl), hw1, ?_⟩
            exact WpS.unset l1 q
          | @own d vs us ds hd hl hr hn =>
            have g := hall a (some d) rfl
            rw [← g] at q
            refine ⟨w1.add d (.xd vs), _, h1, (rs1.mono Wd.le_add).set (d := .exn a cl (some d) ds) (.exn cl (.inr ⟨rfl, rfl⟩) hl (hr.mono Wd.le_add)), hw1.keep hd hn, ?_⟩
            exact WpS.unset (l1.trans Wd.le_add) q
        · exact q.elim
end
end DN
namespace DN
open PySem PySem.Spec PyProof.Rows L2
/-! ### what an except suite asks of the exception: e.f, isinstance(e, C), isinstance(e, (C, ..)) -/
open Classical in
noncomputable def mXf (a : Addr) (cls : Value) (d : Option Addr) (C : Addr) (n : Str) (m : EM) : EM := fun s h => (m s h).bind fun v h1 => match v with
  | .exn a' _ (some d') l => if a' = a ∧ d = some d' ∧ cls = .ref C then (match look1 l (.inr n) with
    | some x => .ok x h1
    | none => .no) else .no
  | _ => .no
theorem d_xf {X : Cx} {W : WX} {a C : Addr} {oe : Obj} {cls : Value} {d : Option Addr} {pn : List (Addr × Obj)} {e : Expr} {me : EM} {pos : Pos} {n : Str} (T : XfC X.K C) (hno : PySem.W.findIn X.K (.ref C) n = some none)
    (hz : Zc cls d oe) (hf : ∃ vs, oe.data = .fields vs) (he : DE (X.suite a ((a, oe) :: pn)) W e me) (hb : attributeBase e n X.env (eval e X.env) = eval e X.env := by rfl) :
    DE (X.suite a ((a, oe) :: pn)) W (.Attribute e n pos) (mXf a cls d C n me) := PE.imp (pe_xf T hno hz hf he hb) fun σ H Q ⟨w, s, h, rs, hw, q⟩ =>
  ⟨w, s, h, rs, hw, WpE.bind (G := WpE X.K w Q _) q (fun _ _ z => z) (fun z => z) fun x h1 w1 v H1 l1 rx hw1 q1 => by
    split at q1
    · rename_i a' c' d' l
      split at q1
      · rename_i z
        obtain ⟨z1, z2, z3⟩ := z
        subst z1
        split at q1
        · rename_i y ey
          cases rx with
          | exn c hx hl hr =>
            obtain ⟨u, hu, ru⟩ := (look1_ok _ hr).1 y ey
            exact ⟨rfl, z3, d', _, u, z2, hw1.fz _ _ hx, hl _ _ hu, q1 w1 u H1 l1 ru hw1⟩
        · exact q1.elim
      · exact q1.elim
    · exact q1.elim⟩
/-- a class by its name -/
theorem d_cls {X : Cx} {W : WX} {x : Str} {C : Addr} {pos : Pos} (hg : Gl X x) (h : X.mg x = some (.ref C)) (hd : (x == ("__debug__" : Str)) = false := by decide) : DE X W (.Name x pos) (mC (.st (.ref C))) := d_c (pe_glob (v := .ref C) hg h rfl hd) fun _ _ => .st _
def clsV : V → Option Value
  | .ty T => some (.type T)
  | .ref C => some (.ref C)
  | _ => none
theorem clsV_ok {v : V} {u c : Value} (e : clsV v = some c) (r : RelV v u) : u = c := by
  cases v <;> simp [clsV] at e <;> subst e <;> exact r
/-- the answers for the exception's class -/
def anyT (tb : Value → Option Bool) : List D → Option Bool
  | [] => some false
  | .st v :: r => match (clsV v).bind tb with
    | some true => some true
    | some false => anyT tb r
    | none => none
  | _ => none
open Classical in
noncomputable def cIsE (a : Addr) (cls : Value) (d : Option Addr) (C : Addr) (tb : Value → Option Bool) : OC := fun _ ds => match ds with
  | [.exn a' _ d' _, .st v] => if a' = a ∧ d' = d ∧ cls = .ref C then ((clsV v).bind tb).map .bl else none
  | [.exn a' _ d' _, .tup cs] => if a' = a ∧ d' = d ∧ cls = .ref C then (anyT tb cs).map .bl else none
  | _ => none
theorem anyT_ok {K : PySem.W.Frag} {w : Wd} {cls : Value} {tb : Value → Option Bool} (ht : ∀ c b, tb c = some b → PySem.W.kitOne K cls c = some b) : ∀ {cs : List D} {vs : List V} {us : List Value} {b : Bool}, RVs K w vs cs → Vals vs us → anyT tb cs = some b → PySem.W.kitAny K cls us = some b
  | [], _, _, b, r, v, e => by
    cases r
    cases v
    exact e
  | d :: cs, _, _, b, r, v, e => by
    cases r with
    | cons r rr =>
      cases v with
      | cons v vv =>
        cases d with
        | st x =>
          simp only [anyT] at e
          have hx : ∀ {y}, RV K w y (.st x) → y = x := fun r => by cases r; rfl
          have := hx r
          subst this
          cases q : (clsV _).bind tb with
          | none => rw [q] at e; cases e
          | some k =>
            have q' := q
            simp only [Option.bind_eq_some_iff] at q'
            obtain ⟨c, q1, q2⟩ := q'
            have hu := clsV_ok q1 v
            have hk := ht _ _ q2
            subst hu
            rw [q] at e
            unfold PySem.W.kitAny
            rw [hk]
            cases k with
            | true => exact e
            | false => exact anyT_ok ht rr vv e
        | _ => simp [anyT] at e
structure ExcK (K : PySem.W.Frag) (C : Addr) : Prop where
  cl : (PySem.W.clsIn K C).isSome = true
  ga : PySem.W.findIn K (.ref C) "__getattribute__" = some (some (.builtin "BaseException.__getattribute__"))
  gt : PySem.W.findIn K (.ref C) "__getattr__" = some none
  sb : PySem.W.subIn K (.ref C) (.type "BaseException") = some true
  ca : PySem.W.findIn K (.ref C) "__class__" = some (some (.builtin "object.__class__"))
  sp : PySem.W.specialIn K (.builtin "object.__class__") "__get__" = some (some (.builtin "getset_descriptor.__get__"))
  tk : PySem.W.takesIn K (.builtin "object.__class__") = some true
  mr : PySem.W.mroIn K C (.type "object") = some true
theorem oc_isE {X : Cx} {a C : Addr} {cls : Value} {oe : Obj} {d : Option Addr} {pn : List (Addr × Obj)} {tb : Value → Option Bool} (T : ExcK X.K C) (hz' : Zc cls d oe) (hf : ∃ vs, oe.data = .fields vs) (ht : ∀ c b, tb c = some b → PySem.W.kitOne X.K (.ref C) c = some b) :
    OCD (X.suite a ((a, oe) :: pn)) (.builtin "isinstance") (cIsE a cls d C tb) := by
  intro pins s σ H vs us Q I r ⟨w, h, ds, dr, rd, hw, e, q⟩
  obtain ⟨ha, _⟩ := I.pin (a, oe) (List.mem_append_left _ List.mem_cons_self)
  obtain ⟨fvs, hd⟩ := hf
  have inst : ∀ {v : V} {a' : Addr} {c' : Value} {d' : Option Addr} {l : List (Key × D)}, RV X.K w v (.exn a' c' d' l) → a' = a → d' = d → cls = .ref C → v = .ref a ∧ ∃ od, PySem.W.InstAt s.heap a oe C od := fun {v a' c' d' l} rv e1 e2 e3 => by
    have hz : Zc (.ref C) d oe := e3 ▸ hz'
    subst e1 e2
    cases rv with
    | @exn _ d1 c vs us l hx hl hr =>
      refine ⟨rfl, ?_⟩
      have hx' : ObjOk X.prog X.w H s.heap d1 (.xd vs) := I.hok d1 _ (hw.fz _ _ hx)
      obtain ⟨mA, hns, hr⟩ := hx'
      obtain ⟨od, ho, hlk⟩ := lookIn_ns hns
      exact ⟨some od, ha, hz.1, by unfold PySem.W.notCls; rw [hd] <;> rfl, by rw [hz.2]; exact ho⟩
    | exb c =>
      refine ⟨rfl, none, ?_⟩
      exact ⟨ha, hz.1, by unfold PySem.W.notCls; rw [hd] <;> rfl, by rw [hz.2]; trivial⟩
  unfold cIsE at e
  split at e
  · rename_i a' c' d' l v0
    obtain ⟨v, c, rfl, rv, rc⟩ := rv2 rd
    split at e
    · rename_i z
      obtain ⟨rfl, od, J⟩ := inst rv z.1 z.2.1 z.2.2
      simp only [Option.map_eq_some_iff, Option.bind_eq_some_iff] at e
      obtain ⟨k, ⟨cv, e1, e2⟩, rfl⟩ := e
      have hc : c = v0 := by cases rc; rfl
      subst hc
      cases r with
      | cons r1 rr =>
        cases rr with
        | cons r2 rr =>
          cases rr
          cases r1
          have := clsV_ok e1 r2
          subst this
          exact PySem.W.kia_one (PySem.W.kitx_exc T.cl T.ga T.gt T.sb T.ca T.sp T.tk T.mr) I.kIn J (ht _ _ e2) (fun z => nomatch z) fun tk => ⟨.bl k, H, I.kept (t' := tk) fun _ _ z => z, rfl, Pv.here q hw (.bl k)⟩
    · cases e
  · rename_i a' c' d' l cs
    obtain ⟨v, c, rfl, rv, rc⟩ := rv2 rd
    split at e
    · rename_i z
      obtain ⟨rfl, od, J⟩ := inst rv z.1 z.2.1 z.2.2
      simp only [Option.map_eq_some_iff] at e
      obtain ⟨k, e1, rfl⟩ := e
      obtain ⟨p, vs, rfl, st, rr0⟩ := seqT_ok hw rc rfl
      cases r with
      | cons r1 rr =>
        cases rr with
        | cons r2 rr =>
          cases rr
          cases r1
          cases r2
          obtain ⟨its, rvl, tp, _⟩ := I.tuple st
          obtain ⟨o, ho, hcl, nn, hdt⟩ := tp
          obtain ⟨oc, odt, oda, osl⟩ := o
          dsimp only at hcl hdt
          subst hcl hdt
          exact PySem.W.kia_tup (PySem.W.kitx_exc T.cl T.ga T.gt T.sb T.ca T.sp T.tk T.mr) I.kIn J ho (anyT_ok ht rr0 rvl e1) (fun z => nomatch z) fun tk => ⟨.bl k, H, I.kept (t' := tk) fun _ _ z => z, rfl, Pv.here q hw (.bl k)⟩
    · cases e
  · cases e
end DN
namespace DN
open PySem PySem.Spec PyProof.Rows L2
open Classical in
/-- which classes a clause takes: one alone -/
noncomputable def mtC (C : Value) : Value → Option Bool := fun v => if v = C then some true else none
theorem mtC_ok {K : PySem.W.Frag} {C : Value} (h : PySem.W.exmOne K C C = some true) : ∀ cls k, mtC C cls = some k → PySem.W.exmOne K cls C = some k := fun cls k e => by
  unfold mtC at e
  split at e
  · rename_i z
    cases e
    rw [z]
    exact h
  · cases e
open Classical in
/-- classes of which all answer alike -/
noncomputable def tbL (L : List Value) (b : Bool) : Value → Option Bool := fun v => if v ∈ L then some b else none
theorem tbL_ok {K : PySem.W.Frag} {cls : Value} {L : List Value} {b : Bool} (h : ∀ c ∈ L, PySem.W.kitOne K cls c = some b) : ∀ c k, tbL L b c = some k → PySem.W.kitOne K cls c = some k := fun c k e => by
  unfold tbL at e
  split at e
  · rename_i z
    cases e
    exact h c z
  · cases e
/-- the j-th row of a class's body -/
def clsRow (st : Stmt) (j : Nat) : Stmt := match st with
  | .ClassDef _ _ _ body _ _ _ _ _ _ pos => body.getD j (.Pass pos)
  | s => s
theorem raiseAt_mk {P : Program} {w : World} {K : PySem.W.Frag} {mg : Str → Option Value} {x fl y qual : Str} {C fI : Addr} {st : Stmt} {oc : Value} {od an : Option Addr} {osl : Array (Option Value)} {kV doc pm cdv ct : Value}
    (gm : mg x = some (.ref C)) (T : OexC K C) (no : PySem.W.findIn K (.ref C) fl = some none) (fi : PySem.W.findIn K (.ref C) "__init__" = some (some (.ref fI))) (ti : PySem.W.typeIn K (.ref fI) = some (.type "function"))
    (l : K.lookup fI = some ⟨oc, od, .func (PySem.W.fnOf "__init__" qual (defArgs st) (defBody st) (defScope st) .none kV doc pm an cdv ct), osl⟩) (c : PySem.W.codeIn K cdv qual = true) (kp : PySem.W.keepIn K (.ref fI) = true)
    (S : FnScope ["self", y] ["self", y] (defScope st)) (hb : ∃ p1 p2 p3 p4 : Pos, defBody st = [.Assign [.Attribute (.Name "self" p1) fl p2] (.Name y p3) p4])
    (v0 : Vis (defScope st) "self") (v1 : Vis (defScope st) y) (d1 : (y == ("__debug__" : Str)) = false) (d2 : (y == ("__classdict__" : Str)) = false)
    (bd : ∀ (kV doc pm : Value) (an : Option Addr) (cdv ct : Value) (us : List Value), us.length = 2 → bindArgs (PySem.W.fnOf "__init__" qual (defArgs st) (defBody st) (defScope st) .none kV doc pm an cdv ct) ⟨us, []⟩ = pure ((["self", y] : List Str).zip us)) :
    ∀ (base : Heap) (k : Nat), RaiseAt P w K mg base (k + 1) x fl C := fun base k =>
  have F := fun_mk l c kp
  ⟨gm, T, no, fI, _, ["self", y], fi, ti, init_ok F S hb v0 v1 d1 d2, F.binds bd⟩
theorem walk_x {l : PySem.W.OpenLaw} {n k : Nat} {q : Program} {loose : List Str} {XP : (Str → Option Value) → Heap → Prop} {YP : World → Heap → Prop} {d : DefRec} {K : Params → PySem.W.Frag} {x : Str}
    (hn : l.most = some n) (hn2 : n ≤ sizeLine) (hdf : d.params.defaults = []) (hr : Rm k callerA)
    (hY : ∀ (w : World) (h : Heap), YP w h → (K w.params).In h) (hi : importsNone q = true) (km : ∀ w : World, (K w.params).lookup sysModules = none)
    (F : ∀ (w : World) (mg : Str → Option Value) (fa : Addr) (h : Heap), (K w.params).In h → h.Ns mainGlobals mg → mg d.name = some (.ref fa) →
      ∃ m : FM, (∀ ns : List Int, ns.length ≤ n → ∃ h', m [.kst (ns.map .int)] [] = .ok (.bl true) h') ∧ ∃ fd : FuncData, (∀ (s : Shared) (u : Value), BindsTo s fd ⟨[u], []⟩ [(x, u)]) ∧
        ∀ base : Heap, (K w.params).In base → base.Ns mainGlobals mg → FnG l.prog w (K w.params) mg base k fa fd [x] m) :
    PySem.W.WalkO q loose XP YP l.row.toRowW d [] (fun f vs => PySem.call f vs) := by
  refine Att.attach_call hn hdf ?_
  intro w s₀ s₁ mg mb fa o pm cd doc a vs ns G Y ho hd hcd hmg hobj hints hlen hg
  have inK := hY w _ Y
  obtain ⟨m, hm, fd, hb, hF⟩ := F w mg fa _ inK G.T.g hmg
  have nm : ∃ mm, s₁.heap.Ns sysModules mm := let ⟨mm, z, _⟩ := (G.T.seer hi).mods; ⟨mm, z⟩
  exact head_call inK G.T.g G.T.b G.T.builtins G.T.nolimit hg nm (km w) hobj hints (Nat.le_trans hlen hn2) hr hF hb (hm ns hlen)
end DN
namespace DN
open PySem PySem.Spec PyProof.Rows L2
theorem oexC_mk {K : PySem.W.Frag} {C : Addr} {nm q N bs bm sn sub ab col dd k0 k1 k2 k3 k5} (l : K.lookup C = some (excClassObj nm q C N bs bm true sn sub ab col dd k0 k1 k2 k3 k5 "ValueError.__new__")) (r : PySem.HandSPX.refsVE bm = true)
    (sa : PySem.W.findIn K (.ref C) "__setattr__" = some (some (.builtin "object.__setattr__"))) (ex : PySem.W.subIn K (.ref C) (.type "BaseException") = some true) (ty : PySem.W.typeIn K (.ref C) = some (.type "type")) (kp : PySem.W.keepIn K (.ref C) = true) : OexC K C :=
  ⟨⟨nm, q, N, bs, bm, sn, sub, ab, col, dd, k0, k1, k2, k3, k5, l, r⟩, sa, ex, ty, kp⟩
theorem some_is {α : Type} {o : Option α} {x : α} (h : o = some x) : o.isSome = true := by rw [h]; rfl
theorem xfC_mk {K : PySem.W.Frag} {C : Addr} (ga : PySem.W.findIn K (.ref C) "__getattribute__" = some (some (.builtin "BaseException.__getattribute__"))) (gg : PySem.W.findIn K (.ref C) "__getattr__" = some none) (ex : PySem.W.subIn K (.ref C) (.type "BaseException") = some true) (hd : PySem.W.hasDictIn K C = true) : XfC K C := ⟨ga, gg, ex, hd⟩
end DN
namespace DN
open PySem PySem.Spec PyProof.Rows L2
/-! DnT: dicts that change (display, item, store), range(i, j, -1), max(i, j), & of ints -/
section
variable {K : PySem.W.Frag} {w w' : Wd} {H : Hp} {h : LH}
theorem refD_ok (hw : HW K w H h) {v : V} {n : Nat} {l : List (Key × D)} (r : RV K w v (.ref n)) (e : h[n]? = some (.dct l)) : ∃ a vs, v = .ref a ∧ w.at_[n]? = some a ∧ H a = some (.dK vs) ∧ RKs K w vs l := by
  cases r with
  | @ref a n q =>
    obtain ⟨a', o, h1, h2, h3⟩ := hw.get e
    rw [q] at h1
    cases h1
    cases h3 with
    | dct r => exact ⟨_, _, rfl, q, h2, r⟩
def putD (l : List (Key × D)) (k : Key) (d : D) : List (Key × D) := if (l.any fun kv => decide (kv.1 = k)) = true then l.map fun kv => if kv.1 = k then (kv.1, d) else kv else l ++ [(k, d)]
theorem any_rks (k : Key) : ∀ {vs : List (Key × V)} {l : List (Key × D)}, RKs K w vs l → (vs.any fun kv => decide (kv.1 = k)) = (l.any fun kv => decide (kv.1 = k))
  | _, _, .nil => rfl
  | _, _, .cons _ r => by simp [any_rks k r]
theorem rks_snoc {k : Key} {v : V} {d : D} (rv : RV K w v d) : ∀ {vs : List (Key × V)} {l : List (Key × D)}, RKs K w vs l → RKs K w (vs ++ [(k, v)]) (l ++ [(k, d)])
  | _, _, .nil => .cons rv .nil
  | _, _, .cons h r => .cons h (rks_snoc rv r)
theorem rks_map {k : Key} {v : V} {d : D} (rv : RV K w v d) : ∀ {vs : List (Key × V)} {l : List (Key × D)}, RKs K w vs l → RKs K w (vs.map fun kv => if kv.1 = k then (kv.1, v) else kv) (l.map fun kv => if kv.1 = k then (kv.1, d) else kv)
  | _, _, .nil => .nil
  | _, _, .cons (k := k0) h r => by
    simp only [List.map_cons]
    by_cases e : k0 = k
    · subst e
      simp only [if_true]
      exact .cons rv (rks_map rv r)
    · simp only [e, if_false]
      exact .cons h (rks_map rv r)
theorem put_rks {k : Key} {v : V} {d : D} (rv : RV K w v d) {vs : List (Key × V)} {l : List (Key × D)} (r : RKs K w vs l) : RKs K w (putK vs k v) (putD l k d) := by
  unfold putK putD
  rw [any_rks k r]
  split
  · exact rks_map rv r
  · exact rks_snoc rv r
theorem rks_len {vs : List (Key × V)} {l : List (Key × D)} (r : RKs K w vs l) : vs.length = l.length := by
  have := congrArg List.length (rks_fst r)
  simpa using this
end
section
variable {X : Cx} {W : WX} {pos : Pos} {o i : Expr} {mo mi : EM}
/-- {..: .., ..} that may change -/
def mDctN (m : PM) : EM := fun s h => (m s h).bind fun l h1 => if decide ((l.map (·.1)).Nodup ∧ l.length ≤ 15) = true then .ok (.ref h1.length) (h1 ++ [.dct l]) else .no
theorem d_dctN {keys : List (Option Expr)} {values : List Expr} {m : PM} (h : DP X W pos keys values m) (hall : keys.all (·.isSome) = true) (hl : keys.length = values.length) (h0 : keys ≠ []) (h15 : keys.length ≤ 15) : DE X W (.Dict keys values pos) (mDctN m) := by
  obtain ⟨trs, p, f⟩ := h
  refine PE.imp (pe_disp p hall hl h0 h15) fun σ H Q ⟨w, s, h, rs, hw, q⟩ a ha => ?_
  obtain ⟨f1, f2, f3⟩ := hw.free ha
  refine f (w.res a (.dK [])) s h σ _ _ (rs.mono Wd.le_res) (hw.res ha) ?_
  unfold mDctN at q
  cases er : m s h with
  | ok l h1 =>
    rw [er, R.bind_ok] at q
    split at q
    · rename_i z
      obtain ⟨z1, z2⟩ := of_decide_eq_true z
      intro w2 vs H2 l2 rk hw2
      have hres : w2.rs a (.dK []) := l2.2.2 _ _ (.inr ⟨rfl, rfl⟩)
      have ef := rks_fst rk
      have el : vs.length = l.length := by
        have := congrArg List.length ef
        simpa using this
      refine ⟨(hw2.rs _ _ hres).1, vs, rfl, by omega, ?_⟩
      rw [mergeK_nd vs [] (by rw [List.nil_append, ef]; exact z1), List.nil_append]
      have hw3 := (hw2.reset (o := .dK vs) ⟨_, hres⟩)
      have hw4 := hw3.own (x := .dct l) (.inr ⟨rfl, rfl⟩) (.dct (rk.eqv (w := w2) (w' := (w2.unres a).res a (.dK vs)) rfl rfl))
      have lx : w.le (((w2.unres a).res a (.dK vs)).unres a) := Wd.le_unres ((Wd.le_unres (Wd.le_res.trans l2) f3).trans Wd.le_res) f3
      exact q _ _ _ (lx.trans Wd.le_push) (.ref (by show (w2.at_ ++ [a])[h1.length]? = some a; rw [← hw2.len]; simp)) hw4
    · exact q.elim
  | ex x h1 => rw [er] at q; exact Px.mono Wd.le_res q
  | no => rw [er] at q; exact q.elim
/-- o[key] of such a dict -/
def mDr (o i : EM) : EM := fun s h => (o s h).bind fun d h1 => (i s h1).bind fun y h2 => match d, key y with
  | .ref n, some k => match h2[n]? with
    | some (.dct l) => match look1 l k with
      | some v => .ok v h2
      | none => .no
    | _ => .no
  | _, _ => .no
theorem d_dref (hu : X.A.units + 65 < cLine) (ho : DE X W o mo) (hi : DE X W i mi) (hs : NoSl i := by intro _ _; rfl) : DE X W (.Subscript o i pos) (mDr mo mi) := PE.imp (pe_dget (by omega) ho hi hs) fun σ H Q ⟨w, s, h, rs, hw, q⟩ =>
  ⟨w, s, h, rs, hw, WpE.bind (G := WpE X.K w Q _) q (fun _ _ z => z) (fun z => z) fun d h1 w1 v H1 l1 rv hw1 q1 =>
    ⟨w1, s, h1, rs.mono l1, hw1, WpE.bind (G := WpE X.K w Q _) q1 (fun _ _ z => Px.mono l1 z) (fun z => z) fun y h2 w2 u H2 l2 ry hw2 q2 => by
      split at q2
      · rename_i n k ek
        split at q2
        · rename_i l en
          split at q2
          · rename_i dv ev
            have hk := key_v ry ek
            subst hk
            obtain ⟨a, vs, rfl, ea, ha, r⟩ := refD_ok hw2 (rv.mono l2) en
            obtain ⟨x, hx, rx⟩ := (look1_ok k r).1 dv ev
            refine ⟨_, x, rfl, ?_, q2 w2 x H2 (l1.trans l2) rx hw2⟩
            rw [← hx]
            exact DGet.k ha
          · exact q2.elim
        · exact q2.elim
      · exact q2.elim⟩⟩
/-- o[key] = .. of such a dict -/
def gSd (o i : EM) : GM := fun d s h => match o s h with
  | .ok (.ref n) h1 => match i s h1 with
    | .ok y h2 => match key y, h2[n]? with
      | some k, some (.dct l) => if decide (l.length < sizeLine) = true then some (s, h2.set n (.dct (putD l k d))) else none
      | _, _ => none
    | _ => none
  | _ => none
theorem dg_dset {vs : List Nat} (hu : X.A.units + 65 < cLine) (ho : DE X W o mo) (hi : DE X W i mi)
    (ha : ∀ v, assign (.Subscript o i pos) X.env v = (do
      let ov ← holding [v] (eval o X.env)
      let iv ← holding [v, ov] (eval i X.env)
      standAt pos
      holding [v, ov, iv] (setItem ov iv v)
      release [v, ov, iv] []) := by intro _; rfl) : DG X vs (.Subscript o i pos) (gSd mo mi) :=
  PG.imp (pg_sub ho hi (set_dict (by omega)) ha) fun v σ H Q ⟨w, d, s, h, s', h', rv, rs, hw, e, q⟩ => by
    unfold gSd at e
    split at e
    · rename_i n h1 e1
      split at e
      · rename_i y h2 e2
        split at e
        · rename_i k l ek e3
          split at e
          · rename_i z
            cases e
            refine ⟨w, s, h, rs, hw, ?_⟩
            rw [e1]
            refine fun w1 x H1 l1 rx hw1 => ⟨w1, s, h1, rs.mono l1, hw1, ?_⟩
            rw [e2]
            refine fun w2 y2 H2 l2 ry hw2 => ?_
            have hk := key_v ry ek
            subst hk
            obtain ⟨a, us, rfl, ea, hH, r⟩ := refD_ok hw2 (rx.mono l2) e3
            refine ⟨a, _, rfl, DPut.k hH (by rw [rks_len r]; exact of_decide_eq_true z), ?_⟩
            exact q w2 σ _ (l1.trans l2) (rs.mono (l1.trans l2)) (hw2.set ea (List.getElem?_eq_some_iff.mp e3).1 (.dct (put_rks (rv.mono (l1.trans l2)) r))) rfl
          · cases e
        · cases e
      · cases e
    · cases e
/-- max of two ints -/
def cMax2 : OC := fun _ ds => match ds with
  | [.int i, .int j] => some (.int (if j > i then j else i))
  | _ => none
theorem oc_max2 (hc : X.calm = true) : OCD X (.builtin "max") cMax2 := by
  intro pins s σ H vs us Q I r ⟨w, h, ds, d, rd, hw, e, q⟩
  unfold cMax2 at e
  split at e
  · obtain ⟨u, u2, rfl, r1, r2⟩ := rv2 rd
    cases r1; cases r2
    cases e
    exact call_max2 hc pins s σ H _ us Q I r ⟨_, _, rfl, Pv.here q hw (.int _)⟩
  · cases e
/-- i & j -/
def oAnd : O2 := fun _ x y => match x, y with
  | .int i, .int j => some (.int (Builtin.bitAnd i j))
  | _, _ => none
theorem od_and : OD X (binaryOp .BitAnd) oAnd := by
  intro pins s σ H x y v u Q I rx ry ⟨w, h, dx, dy, d, r1, r2, hw, e, q⟩
  unfold oAnd at e
  split at e
  · cases r1; cases r2; cases e
    exact op_and pins s σ H _ _ v u Q I rx ry ⟨_, _, rfl, rfl, Pv.here q hw (.int _)⟩
  · cases e
end
section
variable {K : PySem.W.Frag} {w : Wd}
/-- downwards -/
def dwnL (hi : Int) (n : Nat) : List D := (List.range n).map fun (k : Nat) => D.int (hi + (k : Int) * (-1))
theorem dwn_it {hi : Int} {n : Nat} : ItOk K w (Itc hi (-1) n) (fixS (dwnL hi n)) := ItOk.of_fix fun i w1 H1 h1 l1 hw1 => by
  refine ⟨fun d e => ?_, fun e => show n ≤ i by simpa [dwnL] using e⟩
  unfold dwnL at e
  rw [List.getElem?_map] at e
  simp only [Option.map_eq_some_iff] at e
  obtain ⟨k, e1, rfl⟩ := e
  obtain ⟨hi, e1⟩ := List.getElem?_eq_some_iff.mp e1
  simp at hi e1
  subst e1
  refine ⟨hi, fun x H2 ⟨e2, e3⟩ => ?_⟩
  subst e2 e3
  exact ⟨w1, .refl w1, hw1, .int _⟩
end
section
variable {X : Cx} {W : WX} {tg : Expr}
def iRngD (m : AM) : IM := fun s h => (m s h).bind fun l h1 => match l with
  | [.int i, .int j, .int c] => if decide (c = -1 ∧ -(2 ^ 62) ≤ i ∧ i < 2 ^ 62 ∧ -(2 ^ 62) ≤ j ∧ j < 2 ^ 62) = true then .ok (fixS (dwnL i (i - j).toNat)) h1 else .no
  | _ => .no
theorem di_rngD {a b c : Expr} {ma : AM} {p pos : Pos} (hg : Gl X "range") (hm : X.mg "range" = none) (ha : DA X W [a, b, c] ma)
    (hs : starEach [a, b, c] X.env = (false, eval a X.env) :: starEach [b, c] X.env := by rfl) (hpl : (backTo pos (starEach [b, c] X.env)).any (·.1) = false := by rfl) :
    DI X W tg (.Call (.Name "range" p) [a, b, c] [] pos) (iRngD ma) :=
  PI.imp (pi_range3 hg hm ha hs hpl) fun σ H R ⟨w, s, h, rs, hw, q⟩ => ⟨w, s, h, rs, hw, WpA.bind (G := WpI X.K w R _) q (fun _ _ z => z) (fun z => z) fun l h1 w1 v H1 l1 rv hw1 q1 => by
    split at q1
    · rename_i i j c
      split at q1
      · rename_i z
        obtain ⟨rfl, z1, z2, z3, z4⟩ := of_decide_eq_true z
        cases rv with
        | cons r1 rv =>
          cases rv with
          | cons r2 rv =>
            cases rv with
            | cons r3 rv =>
              cases rv
              cases r1; cases r2; cases r3
              exact ⟨_, _, _, _, rfl, RgC.neg z1 z2 z3 z4, q1 w1 H1 _ l1 hw1 dwn_it⟩
      · exact q1.elim
    · exact q1.elim⟩
end
end DN
namespace DN
open PySem PySem.Spec PyProof.Rows L2
/-! DnU: i < b, b < i of an int and a truth -/
section
variable {M : Model} {A : Around} {E : Value → Shared → Prop} {s : Shared}
theorem rich_sub {a b : Value} {Ta Tb id : String} {op : CmpOp} {Q : Value → Shared → Prop} (ha : s.TypeIs a Ta) (hb : s.TypeIs b Tb)
    (hne : (Value.type Ta != Value.type Tb) = true) (hsub : isSubtype (.type Tb) (.type Ta) = pure true) (h : Slot Tb (cmpInfo op).2.2 id)
    (hc : wpAny M A (call (.builtin id) [b, a]) (fun v s' => v ≠ .notImplemented ∧ Q v s') E s)
    (hv : [a, b].any Value.onHeap = false := by rfl) : wpAny M A (richCompare op a b) Q E s := by
  rcases hi : cmpInfo op with ⟨sym, f, r⟩
  rw [hi] at h
  simp only [richCompare, hi, ha.oneThing_none]
  try with_reducible refine wpAny_holding ?_
  simp only [cRoomFor, hv, Bool.false_eq_true, if_false, pure_bind]
  refine wpAny_bind (wpAny_typeOf ha (wpAny_bind (wpAny_typeOf hb ?_)))
  simp only [hne, if_true]
  refine wpAny_bind (wpAny_of_eq hsub ?_)
  simp only [if_true]
  exact wpAny_bind (wpAny_tryCompare_slot hb h (wpAny_mono hc (fun v s' h' => ⟨h'.1, wpAny_bind (wpAny_rule (wpAny_pure h'.2))⟩) fun _ _ h' => h'))
end
theorem gives_gt_bi (q : Bool) (n : Int) (t : Tok) : Gives (Builtin.«int.__gt__» ⟨[.bool q, .int n t], []⟩) (.val (Value.bool ((fun x1 x2 => decide (x1 > x2)) (if q = true then (1 : Int) else 0) n))) :=
  .of_wp fun M A E s Q h => by obtain ⟨hp, g, d, tk, os⟩ := s; wp_walk; exact ⟨_, rfl, h⟩
theorem gives_lt_bi (q : Bool) (n : Int) (t : Tok) : Gives (Builtin.«int.__lt__» ⟨[.bool q, .int n t], []⟩) (.val (Value.bool ((fun x1 x2 => decide (x1 < x2)) (if q = true then (1 : Int) else 0) n))) :=
  .of_wp fun M A E s Q h => by obtain ⟨hp, g, d, tk, os⟩ := s; wp_walk; exact ⟨_, rfl, h⟩
theorem sub_b_i : isSubtype (.type "bool") (.type "int") = pure true := by rw [isSubtype_type]; kernel_rfl
theorem sub_i_b : isSubtype (.type "int") (.type "bool") = pure false := by rw [isSubtype_type]; kernel_rfl
section
variable {prog : Program} {w : World} {A : Around} {E : Value → Shared → Prop} {s : Shared} {n : Int} {t : Tok} {q : Bool} {Q : Value → Shared → Prop}
theorem lt_ib (h : Q (.bool (decide (n < (if q = true then (1 : Int) else 0)))) s) : wpAny (model prog w) A (compareOp .Lt (.int n t) (.bool q)) Q E s := by
  show wpAny _ A (richCompare .Lt _ _) Q E s
  exact rich_sub (typeIs_int s n t) (typeIs_bool' s q) (by decide) sub_b_i F.slot_bool_gt (call_gives F.slot_bool_gt (typeIs_bool' s q) F.entry_int_gt (F.args_int_gt_2 _ _) (gives_gt_bi q n t) ⟨nofun, h⟩)
theorem lt_bi (h : Q (.bool (decide ((if q = true then (1 : Int) else 0) < n))) s) : wpAny (model prog w) A (compareOp .Lt (.bool q) (.int n t)) Q E s := by
  show wpAny _ A (richCompare .Lt _ _) Q E s
  exact wpAny_richCompare_left (typeIs_bool' s q) (typeIs_int s n t) (by decide) sub_i_b F.slot_bool_lt (call_gives F.slot_bool_lt (typeIs_bool' s q) F.entry_int_lt (F.args_int_lt_2 _ _) (gives_lt_bi q n t) ⟨nofun, h⟩)
end
section
variable {X : Cx}
def oLtB : O2 := fun h x y => match x, y with
  | .int i, .bl b => some (.bl (decide (i < (if b = true then (1 : Int) else 0))))
  | .bl b, .int i => some (.bl (decide ((if b = true then (1 : Int) else 0) < i)))
  | x, y => oLt h x y
theorem od_ltB : OD X (compareOp .Lt) oLtB := by
  intro pins s σ H x y v u Q I rx ry ⟨w, h, dx, dy, d, r1, r2, hw, e, q⟩
  unfold oLtB at e
  split at e
  · cases r1; cases r2; cases e
    obtain ⟨t, rfl⟩ := rx
    cases ry
    exact lt_ib ⟨.bl _, H, I, rfl, Pv.here q hw (.bl _)⟩
  · cases r1; cases r2; cases e
    obtain ⟨t, rfl⟩ := ry
    cases rx
    exact lt_bi ⟨.bl _, H, I, rfl, Pv.here q hw (.bl _)⟩
  · exact od_lt pins s σ H x y v u Q I rx ry ⟨w, h, _, _, d, r1, r2, hw, e, q⟩
end
end DN
namespace DN
open PySem PySem.Spec PyProof.Rows L2
section
variable {s : Sg} {h : LH}
def optR (o : Option D) (h : LH) : R D := match o with
  | some d => .ok d h
  | none => .no
@[simp] theorem optR_some (d : D) : optR (some d) h = .ok d h := rfl
def optM (o : Option (D × LH)) : R D := match o with
  | some (d, h) => .ok d h
  | none => .no
@[simp] theorem optM_some (d : D) : optM (some (d, h)) = .ok d h := rfl
def optG (o : Option (Sg × LH)) : RQ := match o with
  | some (s', h') => .nx s' h'
  | none => .no
@[simp] theorem optG_some : optG (some (s, h)) = .nx s h := rfl
def slotR (o : Option (Option D)) (h : LH) : R D := match o with
  | some (some d) => .ok d h
  | _ => .no
@[simp] theorem slotR_some (d : D) : slotR (some (some d)) h = .ok d h := rfl
@[simp] theorem mVar_ap (i : Nat) : mVar i s h = slotR s[i]? h := by unfold mVar slotR; rfl
@[simp] theorem mC_ap (d : D) : mC d s h = .ok d h := rfl
@[simp] theorem mOp_ap (g : O2) (a b : EM) : mOp g a b s h = (a s h).bind fun x h1 => (b s h1).bind fun y h2 => optR (g h2 x y) h2 := rfl
@[simp] theorem mNeg_ap (a : EM) : mNeg a s h = (a s h).bind fun x h1 => match x with
  | .int i => .ok (.int (-i)) h1
  | _ => .no := rfl
@[simp] theorem mTest_ap (a : EM) : mTest a s h = toB (a s h) := rfl
@[simp] theorem toB_ok (k : Bool) : toB (.ok (.bl k) h) = .ok k h := rfl
@[simp] theorem mNotT_ap (a : BM) : mNotT a s h = (a s h).bind fun k h => .ok (!k) h := rfl
@[simp] theorem mAndT_ap (a b : BM) : mAndT a b s h = (a s h).bind fun k h1 => if k = true then b s h1 else .ok false h1 := rfl
@[simp] theorem mOrT_ap (a b : BM) : mOrT a b s h = (a s h).bind fun k h1 => if k = true then .ok true h1 else b s h1 := rfl
@[simp] theorem mAndV_ap (a b : EM) : mAndV a b s h = (a s h).bind fun k h1 => match k with
  | .bl true => b s h1
  | .bl false => .ok (.bl false) h1
  | _ => .no := rfl
@[simp] theorem mOrV_ap (a b : EM) : mOrV a b s h = (a s h).bind fun k h1 => match k with
  | .bl true => .ok (.bl true) h1
  | .bl false => b s h1
  | _ => .no := rfl
@[simp] theorem mNotV_ap (a : EM) : mNotV a s h = (a s h).bind fun k h1 => match k with
  | .bl k => .ok (.bl (!k)) h1
  | _ => .no := rfl
@[simp] theorem mIf_ap (c : BM) (a b : EM) : mIf c a b s h = (c s h).bind fun k h1 => if k = true then a s h1 else b s h1 := rfl
@[simp] theorem mChain_ap (g g' : O2) (a b c : EM) : mChain g g' a b c s h = (a s h).bind fun x h1 => (b s h1).bind fun y h2 => match g h2 x y with
  | some (.bl true) => (c s h2).bind fun z h3 => optR (g' h3 y z) h3
  | some (.bl false) => .ok (.bl false) h2
  | _ => .no := rfl
@[simp] theorem aNil_ap : aNil s h = .ok [] h := rfl
@[simp] theorem aCons_ap (m : EM) (r : AM) : aCons m r s h = (m s h).bind fun x h1 => (r s h1).bind fun xs h2 => .ok (x :: xs) h2 := rfl
theorem sizeLine_ge : 1000000 ≤ sizeLine := by decide
theorem small_of {n : Nat} (h : n ≤ 1000000) : small n = true := decide_eq_true (Nat.le_trans h sizeLine_ge)
@[simp] theorem mTup_ap (m : AM) : mTup m s h = (m s h).bind fun l h1 => if small l.length = true then .ok (.tup l) h1 else .no := rfl
@[simp] theorem mLst_ap (m : AM) : mLst m s h = (m s h).bind fun l h1 => if small l.length = true then .ok (.lst l) h1 else .no := rfl
@[simp] theorem mNew_ap (m : AM) : mNew m s h = (m s h).bind fun l h1 => if small l.length = true then .ok (.ref h1.length) (h1 ++ [.lst l]) else .no := rfl
@[simp] theorem mDNew_ap : mDNew s h = .ok (.dct []) h := rfl
@[simp] theorem key_str (x : Str) : key (.str x) = some (.inr x) := rfl
@[simp] theorem key_int (x : Int) : key (.int x) = some (.inl x) := rfl
@[simp] theorem dNil_ap : dNil s h = .ok [] h := rfl
@[simp] theorem dCons_ap (a b : EM) (r : PM) : dCons a b r s h = (a s h).bind fun x h1 => match key x with
  | none => .no
  | some k => (b s h1).bind fun y h2 => (r s h2).bind fun l h3 => .ok ((k, y) :: l) h3 := rfl
@[simp] theorem mDct_ap (m : PM) : mDct m s h = (m s h).bind fun l h1 => if decide ((l.map (·.1)).Nodup ∧ l.length ≤ 15) = true then .ok (.dct l) h1 else .no := rfl
@[simp] theorem mCall_ap (g : OC) (m : AM) : mCall g m s h = (m s h).bind fun l h1 => optR (g h1 l) h1 := rfl
@[simp] theorem mMeth_ap (T : String) (g : OMt) (m : EM) (a : AM) : mMeth T g m a s h = (m s h).bind fun x h1 => if decide (tyD h1 x = some T) = true then (a s h1).bind fun l h2 => optM (g h2 x l) else .no := rfl
@[simp] theorem oNo_ap : oNo s h = .ok none h := rfl
@[simp] theorem oPart_ap (m : EM) : oPart m s h = (m s h).bind fun d h1 => match d with
  | .int i => .ok (some i) h1
  | _ => .no := rfl
@[simp] theorem mSl_ap (m : EM) (lo hi : OM) : mSl m lo hi s h = (m s h).bind fun d h1 => (lo s h1).bind fun l h2 => (hi s h2).bind fun u h3 => optR (oCut h3 d l u) h3 := rfl
def optL (o : Option (List D)) (f : List D → R D) : R D := match o with
  | some l => f l
  | none => .no
@[simp] theorem optL_some (l : List D) (f : List D → R D) : optL (some l) f = f l := rfl
@[simp] theorem mRev_ap (m : EM) : mRev m s h = (m s h).bind fun d h1 => optL (seqL h1 d) fun l => .ok (.lst l.reverse) h1 := rfl
@[simp] theorem mRevN_ap (m : EM) : mRevN m s h = (m s h).bind fun d h1 => optL (seqL h1 d) fun l => .ok (.ref h1.length) (h1 ++ [.lst l.reverse]) := rfl
@[simp] theorem sNil_ap : sNil s h = .nx s h := rfl
@[simp] theorem sSeq_ap (m n : SM) : sSeq m n s h = (m s h).then n := rfl
@[simp] theorem then_nx (f : SM) : (RQ.nx s h).then f = f s h := rfl
@[simp] theorem then_rt (d : D) (f : SM) : (RQ.rt d h).then f = .rt d h := rfl
@[simp] theorem then_bk (f : SM) : (RQ.bk s h).then f = .bk s h := rfl
@[simp] theorem then_ct (f : SM) : (RQ.ct s h).then f = .ct s h := rfl
@[simp] theorem q_ok {α : Type} (a : α) (f : α → LH → RQ) : (R.ok a h).q s f = f a h := rfl
@[simp] theorem bindN_ok {α β : Type} (a : α) (f : α → LH → R β) : (R.ok a h).bindN f = f a h := rfl
@[simp] theorem sBreak_ap : sBreak s h = .bk s h := rfl
@[simp] theorem sCont_ap : sCont s h = .ct s h := rfl
@[simp] theorem sExpr_ap (m : EM) : sExpr m s h = (m s h).q s fun _ h1 => .nx s h1 := rfl
@[simp] theorem sRet_ap (m : EM) : sRet m s h = (m s h).q s fun d h1 => .rt d h1 := rfl
@[simp] theorem sRetN_ap : sRetN s h = .rt .non h := rfl
@[simp] theorem sIf_ap (c : BM) (a b : SM) : sIf c a b s h = (c s h).q s fun k h1 => if k = true then a s h1 else b s h1 := rfl
@[simp] theorem gNm_ap (i : Nat) (d : D) : gNm i d s h = some (s.set i (some d), h) := rfl
@[simp] theorem gNl_ap : gNl [] s h = some (s, h) := rfl
@[simp] theorem gCn_ap (g : GM) (gs : GMs) (x : D) (xs : List D) : gCn g gs (x :: xs) s h = (g x s h).bind fun p => gs xs p.1 p.2 := rfl
@[simp] theorem gTp_ap (n : Nat) (gs : GMs) (l : List D) : gTp n gs (.tup l) s h = if decide (l.length = n) = true then gs l s h else none := rfl
theorem gSb_ap (o i : EM) (d : D) : gSb o i d s h = match o s h with
  | .ok (.ref n) h1 => match i s h1 with
    | .ok (.int k) h2 => match h2[n]? with
      | some (.lst l) => (ixN l.length k).map fun j => (s, h2.set n (.lst (l.set j d)))
      | _ => none
    | _ => none
  | _ => none := rfl
@[simp] theorem sAsg_ap (m : EM) (g : GM) : sAsg m g s h = (m s h).q s fun d h1 => optG (g d s h1) := rfl
@[simp] theorem sSet_ap (i : Nat) (m : EM) : sSet i m s h = (m s h).q s fun d h1 => .nx (s.set i (some d)) h1 := rfl
@[simp] theorem sPar_ap (i j : Nat) (m : AM) : sPar i j m s h = (m s h).q s fun l h1 => match l with
  | [x, y] => .nx ((s.set i (some x)).set j (some y)) h1
  | _ => .no := rfl
@[simp] theorem sPar3_ap (i j k : Nat) (m : AM) : sPar3 i j k m s h = (m s h).q s fun l h1 => match l with
  | [x, y, z] => .nx (((s.set i (some x)).set j (some y)).set k (some z)) h1
  | _ => .no := rfl
@[simp] theorem sAug_ap (i : Nat) (g : O2) (m : EM) : sAug i g m s h = match s[i]? with
  | some (some x) => (m s h).q s fun y h1 => match g h1 x y with
    | some d => .nx (s.set i (some d)) h1
    | none => .no
  | _ => .no := rfl
@[simp] theorem fnM_ap (n : Nat) (m : SM) (ds : List D) : fnM n m ds h = fin_ (m (ds.map some ++ List.replicate (n - ds.length) none) h) := rfl
@[simp] theorem fin_rt (d : D) : fin_ (.rt d h) = .ok d h := rfl
@[simp] theorem fin_nx : fin_ (.nx s h) = .ok .non h := rfl
@[simp] theorem mFn_ap (n : Nat) (m : FM) (dvs : List D) (a : AM) : mFn n m dvs a s h = (a s h).bind fun l h1 => if decide ((l ++ dvs).length = n) = true then m (l ++ dvs) h1 else .no := rfl
@[simp] theorem mFnK_ap (n na nk : Nat) (ix : List Src) (m : FM) (dvs : List D) (a z : AM) : mFnK n na nk ix m dvs a z s h = (a s h).bind fun l h1 => (z s h1).bind fun y h2 =>
  if decide ((pick l y dvs ix).length = n ∧ l.length = na ∧ y.length = nk) = true then m (pick l y dvs ix) h2 else .no := rfl
theorem sFor_ap (n : Nat) (im : IM) (g : GM) (b : SM) : sFor n im g b s h = (im s h).q s fun f h1 => forS n f 0 g b s h1 := rfl
theorem mLc_ap (n : Nat) (vs : List Nat) (im : IM) (g : GM) (t : BM) (e : EM) : mLc n vs im g t e s h = (im s h).bind fun f h1 => (lcS vs g t e s n f 0 [] h1).bindN fun l h => .ok (.lst l) h := rfl
theorem mLcN_ap (n : Nat) (vs : List Nat) (im : IM) (g : GM) (t : BM) (e : EM) : mLcN n vs im g t e s h = (im s h).bind fun f h1 => (lcS vs g t e s n f 0 [] h1).bindN fun l h => .ok (.ref h.length) (h ++ [.lst l]) := rfl
theorem for_fix {n : Nat} {g : GM} {b : SM} {l : List D} (hl : l.length < n) : forS n (fixS l) 0 g b s h = forL g b l s h := by rw [forS_fix g b l n 0 (by omega), List.drop_zero]
theorem lc_fix {n : Nat} {vs : List Nat} {g : GM} {t : BM} {e : EM} {l acc : List D} (hl : l.length < n) : lcS vs g t e s n (fixS l) 0 acc h = lcL vs g t e s l acc h := by rw [lcS_fix vs g t e s l n 0 (by omega), List.drop_zero]
def iterD (d : D) (h : LH) : R Strm := match d with
  | .lst l => .ok (fixS l) h
  | .kst l => .ok (fixS l) h
  | .ref n => match h[n]? with
    | some (.lst _) => .ok (refS n) h
    | _ => .no
  | _ => .no
@[simp] theorem iterD_lst (l : List D) : iterD (.lst l) h = .ok (fixS l) h := rfl
@[simp] theorem iterD_kst (l : List D) : iterD (.kst l) h = .ok (fixS l) h := rfl
@[simp] theorem iVal_ap (m : EM) : iVal m s h = (m s h).bind iterD := rfl
@[simp] theorem iTupV_ap (m : EM) : iTupV m s h = (m s h).bind fun d h1 => match d with
  | .tup l => .ok (fixS l) h1
  | _ => .no := rfl
@[simp] theorem iStrV_ap (m : EM) : iStrV m s h = (m s h).bind fun d h1 => match d with
  | .str z => .ok (fixS (signs z)) h1
  | _ => .no := rfl
@[simp] theorem iRng1_ap (m : AM) : iRng1 m s h = (m s h).bind fun l h1 => match l with
  | [.int j] => if inRng j = true then .ok (fixS (rngL 0 j.toNat)) h1 else .no
  | _ => .no := rfl
@[simp] theorem iRng2_ap (m : AM) : iRng2 m s h = (m s h).bind fun l h1 => match l with
  | [.int i, .int j] => if (inRng i && inRng j) = true then .ok (fixS (rngL i (j - i).toNat)) h1 else .no
  | _ => .no := rfl
@[simp] theorem rngL_len (i : Int) (n : Nat) : (rngL i n).length = n := by simp [rngL]
/-! operators on scalars -/
@[simp] theorem oAdd_ii (i j : Int) : oAdd h (.int i) (.int j) = some (.int (i + j)) := rfl
@[simp] theorem oAdd_ss (i j : Str) : oAdd h (.str i) (.str j) = if small (i.length + j.length) = true then some (.str (i ++ j)) else none := rfl
@[simp] theorem oAdd_tt (i j : List D) : oAdd h (.tup i) (.tup j) = if small (i.length + j.length) = true then some (.tup (i ++ j)) else none := rfl
@[simp] theorem oAdd_ll (i j : List D) : oAdd h (.lst i) (.lst j) = if small (i.length + j.length) = true then some (.lst (i ++ j)) else none := rfl
@[simp] theorem oSub_ii (i j : Int) : oSub h (.int i) (.int j) = some (.int (i - j)) := rfl
theorem oMul_ii (i j : Int) : oMul h (.int i) (.int j) = if decide (i.natAbs.log2 + j.natAbs.log2 < 1000000) = true then some (.int (i * j)) else none := rfl
theorem oMul_si (x : Str) (j : Int) : oMul h (.str x) (.int j) = if decide (-1000000 ≤ j ∧ j ≤ 1000000 ∧ x.length ≤ 1000000 ∧ x.length * j.toNat ≤ sizeLine ∧ (sRep x j).length ≤ sizeLine) = true then some (.str (sRep x j)) else none := rfl
@[simp] theorem oMod_ii (i j : Int) : oMod h (.int i) (.int j) = if decide (0 < j) = true then some (.int (i % j)) else none := rfl
theorem oDiv_ii (i j : Int) : oDiv h (.int i) (.int j) = if decide (0 < j ∧ j.natAbs.log2 < 9000) = true then some (.int (i / j)) else none := rfl
@[simp] theorem oPow_ii (i j : Int) : oPow h (.int i) (.int j) = if decide (0 ≤ j ∧ j ≤ 1000000 ∧ i.natAbs < 2 ^ 64) = true then some (.int (i ^ j.toNat)) else none := rfl
@[simp] theorem oLt_ii (i j : Int) : oLt h (.int i) (.int j) = some (.bl (decide (i < j))) := rfl
@[simp] theorem oLe_ii (i j : Int) : oLe h (.int i) (.int j) = some (.bl (decide (i ≤ j))) := rfl
@[simp] theorem oGt_ii (i j : Int) : oGt h (.int i) (.int j) = some (.bl (decide (j < i))) := rfl
@[simp] theorem oGe_ii (i j : Int) : oGe h (.int i) (.int j) = some (.bl (decide (j ≤ i))) := rfl
@[simp] theorem oEq_ss (a b : Str) : oEq h (.str a) (.str b) = some (.bl (a == b)) := rfl
@[simp] theorem oNe_ss (a b : Str) : oNe h (.str a) (.str b) = some (.bl (!(a == b))) := rfl
theorem oEq_ii (i j : Int) : oEq h (.int i) (.int j) = some (.bl (i == j)) := by
  unfold oEq py
  simp only [pyG, Option.bind_some]
  rw [if_pos (by rfl)]
  simp only [PyData.eqv]
theorem lg2 {n m : Nat} (h : n < 2 ^ m) (hm : 0 < m) : n.log2 < m := by
  rcases Nat.eq_zero_or_pos n with rfl | hn
  · simpa using hm
  · exact (Nat.log2_lt (by omega)).mpr h
theorem mul_ok {i j : Int} (hi : i.natAbs < 2 ^ 1000) (hj : j.natAbs < 2 ^ 1000) : oMul h (.int i) (.int j) = some (.int (i * j)) := by
  rw [oMul_ii, if_pos]
  have h1 := lg2 hi (by decide)
  have h2 := lg2 hj (by decide)
  exact decide_eq_true (by omega)
theorem div_ok {i j : Int} (h0 : 0 < j) (hj : j.natAbs < 2 ^ 1000) : oDiv h (.int i) (.int j) = some (.int (i / j)) := by
  rw [oDiv_ii, if_pos]
  have h2 := lg2 hj (by decide)
  exact decide_eq_true ⟨h0, by omega⟩
theorem mul_okS {i j : Int} (hi : -10 ^ 40 ≤ i ∧ i ≤ 10 ^ 40) (hj : -10 ^ 40 ≤ j ∧ j ≤ 10 ^ 40) : oMul h (.int i) (.int j) = some (.int (i * j)) :=
  mul_ok (Nat.lt_of_le_of_lt (m := 10 ^ 40) (by omega) (by decide)) (Nat.lt_of_le_of_lt (m := 10 ^ 40) (by omega) (by decide))
theorem div_okS {i j : Int} (h0 : 0 < j) (hj : j ≤ 10 ^ 40) : oDiv h (.int i) (.int j) = some (.int (i / j)) :=
  div_ok h0 (Nat.lt_of_le_of_lt (m := 10 ^ 40) (by omega) (by decide))
theorem mod_ok {i j : Int} (h0 : 0 < j) : oMod h (.int i) (.int j) = some (.int (i % j)) := by
  rw [oMod_ii, if_pos (decide_eq_true h0)]
/-! lists of ints as data -/
theorem pyGs_ints (g : Nat → Option PyData) : ∀ cs : List Int, pyGs g (cs.map .int) = some (cs.map .int)
  | [] => rfl
  | c :: cs => by simp [pyGs, pyG, pyGs_ints g cs]
theorem lay_ints : ∀ cs : List Int, PyData.canLayAll0 (cs.map .int) = true
  | [] => rfl
  | c :: cs => by simp [PyData.canLayAll0, PyData.canLay0, lay_ints cs]
theorem depth_ints : ∀ cs : List Int, PyData.depthAll (cs.map .int) = 0
  | [] => rfl
  | c :: cs => by simp [PyData.depthAll, PyData.depth, depth_ints cs]
theorem shaped_ints (cs : List Int) : SeqAt.shaped (.list (cs.map .int)) = true := by
  unfold SeqAt.shaped
  simp [PyData.canLay0, PyData.depth, lay_ints, depth_ints]
theorem ne_nil_ref {n : Nat} {l : List D} (e : h[n]? = some (.lst l)) : oNe h (.ref n) (.lst []) = some (.bl (!l.isEmpty)) := by
  show (seqL h (.ref n)).map _ = _
  unfold seqL
  simp only [e]
  rfl
theorem ne_nil_ints {n : Nat} {cs : List Int} (e : h[n]? = some (.lst (cs.map .int))) : oNe h (.ref n) (.lst []) = some (.bl (!cs.isEmpty)) := by
  rw [ne_nil_ref e, List.isEmpty_map]
@[simp] theorem oEq_l0 (l : List D) : oEq h (.lst l) (.lst []) = some (.bl l.isEmpty) := rfl
@[simp] theorem oNe_l0 (l : List D) : oNe h (.lst l) (.lst []) = some (.bl (!l.isEmpty)) := rfl
@[simp] theorem oEq_t0 (l : List D) : oEq h (.tup l) (.tup []) = some (.bl l.isEmpty) := rfl
@[simp] theorem oNe_t0 (l : List D) : oNe h (.tup l) (.tup []) = some (.bl (!l.isEmpty)) := rfl
@[simp] theorem mCallK_ap (g : OK) (m z : AM) : mCallK g m z s h = (m s h).bind fun l h1 => (z s h1).bind fun y h2 => optR (g h2 l y) h2 := rfl
@[simp] theorem mCatN_ap (a b : EM) : mCatN a b s h = (a s h).bind fun x h1 => (b s h1).bind fun y h2 => match catL h2 x, catL h2 y with
  | some i, some j => if small (i.length + j.length) = true then .ok (.ref h2.length) (h2 ++ [.lst (i ++ j)]) else .no
  | _, _ => .no := rfl
end
theorem atI_in {α : Type} {l : List α} {r : Int} (h0 : 0 ≤ r) (h1 : r < l.length) : ∃ d, atI l r = some d ∧ d ∈ l := by
  have hr : r.toNat < l.length := by omega
  refine ⟨l[r.toNat], ?_, List.getElem_mem hr⟩
  unfold atI ixN
  rw [if_pos h0, if_pos h1, Option.bind_some, List.getElem?_eq_getElem hr]
theorem cut_map {α β : Type} (f : α → β) (xs : List α) (lo hi : Option Int) : cut (xs.map f) lo hi = (cut xs lo hi).map f := by
  unfold cut
  rw [List.length_map, ← List.map_drop, ← List.map_take]
theorem cut_len {α : Type} (xs : List α) (lo hi : Option Int) : (cut xs lo hi).length ≤ xs.length := by
  unfold cut
  rw [List.length_take, List.length_drop]
  omega
theorem cut_mem {α : Type} {xs : List α} {lo hi : Option Int} {x : α} (h : x ∈ cut xs lo hi) : x ∈ xs := List.mem_of_mem_drop (List.mem_of_mem_take h)
/-! ### comprehensions, loops -/
section
variable {vs : List Nat} {g : GM} {t : BM} {e : EM} {s : Sg}
/-- a comprehension that keeps all, with the state running through -/
theorem lcL_run (I : Nat → LH → Prop) (P : D → Prop) (N : Nat) : ∀ (ds : List D) (acc : List D) (k : Nat) (h : LH), I k h → k + ds.length ≤ N → acc.length + ds.length ≤ sizeLine →
    (∀ d ∈ ds, ∀ k h, k < N → I k h → ∃ s1 y h2, g d (wipeS s vs) h = some (s1, h) ∧ t s1 h = .ok true h ∧ e s1 h = .ok y h2 ∧ I (k + 1) h2 ∧ P y) →
    ∃ l h', lcL vs g t e s ds acc h = .ok (acc ++ l) h' ∧ l.length = ds.length ∧ I (k + ds.length) h' ∧ ∀ y ∈ l, P y
  | [], acc, k, h, i, _, _, _ => ⟨[], h, by simp [lcL], rfl, by simpa using i, by simp⟩
  | d :: ds, acc, k, h, i, hk, hz, st => by
    simp only [List.length_cons] at hk hz
    obtain ⟨s1, y, h2, e1, e2, e3, i2, py⟩ := st d (by simp) k h (by omega) i
    obtain ⟨l, h3, e4, e5, i3, pl⟩ := lcL_run I P N ds (acc ++ [y]) (k + 1) h2 i2 (by omega) (by simp; omega) fun d' m => st d' (by simp [m])
    refine ⟨y :: l, h3, ?_, by simp [e5], ?_, ?_⟩
    · unfold lcL
      simp only [e1, e2, e3, bindN_ok, if_true]
      rw [if_pos (decide_eq_true (by omega)), e4]
      simp
    · rw [List.length_cons, show k + (ds.length + 1) = k + 1 + ds.length by omega]; exact i3
    · intro z hz
      rcases List.mem_cons.mp hz with rfl | hz
      · exact py
      · exact pl z hz
/-- a comprehension without changes -/
theorem lcL_filter (p : D → Bool) (f : D → D) (h : LH) : ∀ (ds : List D) (acc : List D), acc.length + ds.length ≤ sizeLine →
    (∀ d ∈ ds, ∃ s1, g d (wipeS s vs) h = some (s1, h) ∧ t s1 h = .ok (p d) h ∧ (p d = true → e s1 h = .ok (f d) h)) →
    lcL vs g t e s ds acc h = .ok (acc ++ (ds.filter p).map f) h
  | [], acc, _, _ => by simp [lcL]
  | d :: ds, acc, hz, st => by
    simp only [List.length_cons] at hz
    obtain ⟨s1, e1, e2, e3⟩ := st d (by simp)
    unfold lcL
    simp only [e1, e2, bindN_ok]
    cases q : p d with
    | true =>
      rw [if_pos rfl, e3 q, bindN_ok, if_pos (decide_eq_true (by omega)), lcL_filter p f h ds (acc ++ [f d]) (by simp; omega) fun d' m => st d' (by simp [m])]
      simp [q]
    | false =>
      rw [if_neg (by decide), lcL_filter p f h ds acc (by omega) fun d' m => st d' (by simp [m])]
      simp [q]
end
end DN
namespace DN
open PySem PySem.Spec PyProof.Rows L2
/-! ### a hand that is drawn from -/
def begunM : FM := fnM 4 ((sSeq (sPar 2 3 (aCons (mCall cList (aCons (mSl (mVar 0) oNo (oPart (mC (.int 63)))) aNil)) (aCons (mC (.int 50021)) aNil)))
  (sSeq (sFor 1000000 (iVal (mVar 2)) (gNm 1)
  (sSet 3 (mOp oMod (mOp oAdd (mOp oAdd (mOp oMul (mVar 3) (mC (.int 48271))) (mOp oMod (mVar 1) (mC (.int 2147483563)))) (mC (.int 17))) (mC (.int 2147483629)))))
  (sRet (mNew (aCons (mRevN (mVar 2)) (aCons (mVar 3) (aCons (mC (.int 0)) aNil))))))))
def dealtM : FM := fnM 4 ((sSeq (sAsg (mOp oAdd (mOp oIx (mVar 0) (mC (.int 2))) (mC (.int 1))) (gSb (mVar 0) (mC (.int 2))))
  (sSeq (sSet 2 (mOp oIx (mVar 0) (mC (.int 1))))
  (sSeq (sIf (mTest (mOp oNe (mOp oIx (mVar 0) (mC (.int 0))) (mLst aNil)))
  (sSeq (sSet 2 (mMeth "list" gPop (mOp oIx (mVar 0) (mC (.int 0))) aNil))
  (sIf (mTest (mOp oGe (mVar 2) (mOp oPow (mC (.int 10)) (mC (.int 18)))))
  (sSeq (sExpr (mMeth "list" gAppend (mOp oIx (mVar 0) (mC (.int 0))) (aCons (mOp oDiv (mVar 2) (mVar 1)) aNil)))
  (sRet (mOp oMod (mVar 2) (mVar 1))))
  sNil))
  sNil)
  (sSeq (sSet 3 (mOp oAdd (mOp oAdd (mOp oAdd (mOp oMod (mVar 2) (mC (.int 2147483629))) (mOp oMul (mOp oMul (mC (.int 16807)) (mOp oIx (mVar 0) (mC (.int 2)))) (mOp oIx (mVar 0) (mC (.int 2))))) (mOp oIx (mVar 0) (mC (.int 1)))) (mC (.int 97))))
  (sSeq (sSet 3 (mOp oMod (mOp oMul (mVar 3) (mC (.int 48271))) (mC (.int 2147483647))))
  (sSeq (sSet 3 (mOp oMod (mOp oAdd (mOp oAdd (mOp oMul (mVar 3) (mVar 3)) (mOp oMul (mC (.int 69621)) (mOp oIx (mVar 0) (mC (.int 2))))) (mC (.int 11))) (mC (.int 2147483587))))
  (sRet (mOp oMod (mOp oDiv (mOp oMod (mOp oMul (mVar 3) (mOp oAdd (mOp oDiv (mVar 3) (mC (.int 5))) (mC (.int 39373)))) (mC (.int 2147483563))) (mC (.int 128))) (mVar 1))))))))))
def pickM (c : FM) : FM := fnM 2 ((sRet (mOp oIx (mVar 1) (mFn 2 c [] (aCons (mVar 0) (aCons (mCall cLen (aCons (mVar 1) aNil)) aNil))))))

def hnd (cs : List Int) (t n : Int) (rest : LH) : LH := .lst (cs.map .int) :: .lst [.ref 0, .int t, .int n] :: rest
def Hd (N : Nat) (rest h : LH) : Prop := ∃ cs t n, h = hnd cs t n rest ∧ 0 ≤ t ∧ t < 2147483629 ∧ 0 ≤ n ∧ n ≤ N ∧ cs.length ≤ 1000
theorem ix_mid {h : LH} {cs : List Int} {t n : Int} {rest : LH} (e : h = hnd cs t n rest) (i : Int) : oIx h (.ref 1) (.int i) = atI [.ref 0, .int t, .int n] i := by subst e; rfl
theorem dealt_ok {N : Nat} {rest h : LH} {lots : Int} (hd : Hd N rest h) (hN : N < 1000000) (hl : 0 < lots) (hl2 : lots ≤ 1000000) :
    ∃ r h', dealtM [.ref 1, .int lots] h = .ok (.int r) h' ∧ 0 ≤ r ∧ r < lots ∧ Hd (N + 1) rest h' := by
  obtain ⟨cs, t, n, rfl, ht, ht2, hn, hn2, hc⟩ := hd
  have i0 : ∀ (cs : List Int) (t n : Int), oIx (hnd cs t n rest) (.ref 1) (.int 0) = some (.ref 0) := fun _ _ _ => rfl
  have i1 : ∀ (cs : List Int) (t n : Int), oIx (hnd cs t n rest) (.ref 1) (.int 1) = some (.int t) := fun _ _ _ => rfl
  have i2 : ∀ (cs : List Int) (t n : Int), oIx (hnd cs t n rest) (.ref 1) (.int 2) = some (.int n) := fun _ _ _ => rfl
  have st : ∀ (x : Int), gSb (mVar 0) (mC (.int 2)) (.int x) [some (.ref 1), some (.int lots), none, none] (hnd cs t n rest) = some ([some (.ref 1), some (.int lots), none, none], hnd cs t x rest) := fun _ => rfl
  have ne : ∀ (cs : List Int) (t n : Int), oNe (hnd cs t n rest) (.ref 0) (.lst []) = some (.bl (!cs.isEmpty)) := fun _ _ _ => ne_nil_ints rfl
  have ty0 : ∀ (cs : List Int) (t n : Int), tyD (hnd cs t n rest) (.ref 0) = some "list" := fun _ _ _ => rfl
  have sm0 : small 0 = true := rfl
  have m1 : ∀ (cs : List Int) (t n : Int) (cell : Int), 0 ≤ n → n ≤ N + 1 → 0 ≤ t → t < 2147483629 → ∃ r, 0 ≤ r ∧ r < lots ∧
      fin_ ((sSeq (sSet 3 (mOp oAdd (mOp oAdd (mOp oAdd (mOp oMod (mVar 2) (mC (.int 2147483629))) (mOp oMul (mOp oMul (mC (.int 16807)) (mOp oIx (mVar 0) (mC (.int 2)))) (mOp oIx (mVar 0) (mC (.int 2))))) (mOp oIx (mVar 0) (mC (.int 1)))) (mC (.int 97))))
  (sSeq (sSet 3 (mOp oMod (mOp oMul (mVar 3) (mC (.int 48271))) (mC (.int 2147483647))))
  (sSeq (sSet 3 (mOp oMod (mOp oAdd (mOp oAdd (mOp oMul (mVar 3) (mVar 3)) (mOp oMul (mC (.int 69621)) (mOp oIx (mVar 0) (mC (.int 2))))) (mC (.int 11))) (mC (.int 2147483587))))
  (sRet (mOp oMod (mOp oDiv (mOp oMod (mOp oMul (mVar 3) (mOp oAdd (mOp oDiv (mVar 3) (mC (.int 5))) (mC (.int 39373)))) (mC (.int 2147483563))) (mC (.int 128))) (mVar 1)))))) [some (.ref 1), some (.int lots), some (.int cell), none] (hnd cs t n rest)) = .ok (.int r) (hnd cs t n rest) := by
    intro cs t n cell h1 h2 h3 h4
    have a1 : oMul (hnd cs t n rest) (.int 16807) (.int n) = some (.int (16807 * n)) := mul_okS (by omega) (by omega)
    have a2 : oMul (hnd cs t n rest) (.int (16807 * n)) (.int n) = some (.int (16807 * n * n)) := mul_okS (by omega) (by omega)
    have a3 : 0 ≤ 16807 * n * n ∧ 16807 * n * n ≤ 16807 * 1000001 * 1000001 := by
      have b1 : 0 ≤ 16807 * n := by omega
      have b2 : 16807 * n ≤ 16807 * 1000001 := by omega
      exact ⟨Int.mul_nonneg b1 h1, Int.mul_le_mul b2 (by omega) h1 (by omega)⟩
    have c0 := Int.emod_nonneg cell (b := 2147483629) (by omega)
    have c1 := Int.emod_lt_of_pos cell (b := 2147483629) (by omega)
    generalize ex : cell % 2147483629 + 16807 * n * n + t + 97 = x
    have a4 : oMul (hnd cs t n rest) (.int x) (.int 48271) = some (.int (x * 48271)) := mul_okS (by omega) (by omega)
    have d0 := Int.emod_nonneg (x * 48271) (b := 2147483647) (by omega)
    have d1 := Int.emod_lt_of_pos (x * 48271) (b := 2147483647) (by omega)
    generalize ey : x * 48271 % 2147483647 = y at d0 d1
    have a5 : oMul (hnd cs t n rest) (.int y) (.int y) = some (.int (y * y)) := mul_okS (by omega) (by omega)
    have a6 : oMul (hnd cs t n rest) (.int 69621) (.int n) = some (.int (69621 * n)) := mul_okS (by omega) (by omega)
    have f0 := Int.emod_nonneg (y * y + 69621 * n + 11) (b := 2147483587) (by omega)
    have f1 := Int.emod_lt_of_pos (y * y + 69621 * n + 11) (b := 2147483587) (by omega)
    generalize ez : (y * y + 69621 * n + 11) % 2147483587 = z at f0 f1
    have a7 : oDiv (hnd cs t n rest) (.int z) (.int 5) = some (.int (z / 5)) := div_okS (by omega) (by omega)
    have a8 : oMul (hnd cs t n rest) (.int z) (.int (z / 5 + 39373)) = some (.int (z * (z / 5 + 39373))) := mul_okS (by omega) (by omega)
    have a9 : oDiv (hnd cs t n rest) (.int (z * (z / 5 + 39373) % 2147483563)) (.int 128) = some (.int (z * (z / 5 + 39373) % 2147483563 / 128)) := div_okS (by omega) (by omega)
    refine ⟨z * (z / 5 + 39373) % 2147483563 / 128 % lots, Int.emod_nonneg _ (by omega), Int.emod_lt_of_pos _ hl, ?_⟩
    simp [i1, i2, a1, a2, a4, a5, a6, a7, a8, a9, hl, ex, ey, ez]
  unfold dealtM
  cases hcs : cs.isEmpty with
  | true =>
    obtain ⟨r, r1, r2, e⟩ := m1 cs t (n + 1) t (by omega) (by omega) ht ht2
    refine ⟨r, hnd cs t (n + 1) rest, ?_, r1, r2, cs, t, n + 1, rfl, ht, ht2, by omega, by omega, hc⟩
    rw [← e]
    simp [i0, i1, i2, st, ne, hcs, sm0]
  | false =>
    have hne : cs ≠ [] := fun z => by rw [z] at hcs; cases hcs
    have hlen : 0 < cs.length := List.length_pos_iff.mpr hne
    have hp : ∀ (t n : Int), gPop (hnd cs t n rest) (.ref 0) [] = some (.int (cs.getLast hne), hnd cs.dropLast t n rest) := fun t n => by
      have e1 : (cs.map D.int)[(cs.map D.int).length - 1]? = some (.int (cs.getLast hne)) := by
        rw [List.getElem?_map, List.length_map, List.getLast_eq_getElem, List.getElem?_eq_getElem (by omega)]
        rfl
      show ((cs.map D.int)[(cs.map D.int).length - 1]?.map fun d => (d, (hnd cs t n rest).set 0 (.lst (cs.map D.int).dropLast))) = _
      rw [e1, ← List.map_dropLast]
      rfl
    generalize cs.getLast hne = cell at hp
    have hdl : cs.dropLast.length ≤ 999 := by rw [List.length_dropLast]; omega
    by_cases big : (10 ^ 18 : Int) ≤ cell
    · have ap : ∀ (x : Int), gAppend (hnd cs.dropLast t (n + 1) rest) (.ref 0) [.int x] = some (.non, hnd (cs.dropLast ++ [x]) t (n + 1) rest) := fun x => by
        show (if decide ((cs.dropLast.map D.int).length < sizeLine) = true then _ else _) = _
        rw [if_pos (decide_eq_true (by have := sizeLine_ge; rw [List.length_map]; omega))]
        simp [hnd]
      have dv : oDiv (hnd cs.dropLast t (n + 1) rest) (.int cell) (.int lots) = some (.int (cell / lots)) := div_okS hl (by omega)
      refine ⟨cell % lots, hnd (cs.dropLast ++ [cell / lots]) t (n + 1) rest, ?_, Int.emod_nonneg _ (by omega), Int.emod_lt_of_pos _ hl, _, t, n + 1, rfl, ht, ht2, by omega, by omega, by simp; omega⟩
      have big' : (1000000000000000000 : Int) ≤ cell := big
      simp [i0, i1, i2, st, ne, hcs, sm0, hp, ty0, big, big', ap, dv, hl]
    · obtain ⟨r, r1, r2, e⟩ := m1 cs.dropLast t (n + 1) cell (by omega) (by omega) ht ht2
      refine ⟨r, hnd cs.dropLast t (n + 1) rest, ?_, r1, r2, _, t, n + 1, rfl, ht, ht2, by omega, by omega, by omega⟩
      rw [← e]
      have big' : ¬ (1000000000000000000 : Int) ≤ cell := big
      simp [i0, i1, i2, st, ne, hcs, sm0, hp, ty0, big, big']
theorem begun_loop (a c : Option D) (h : LH) : ∀ (ms : List Int) (b : Option D) (t : Int), 0 ≤ t → t < 2147483629 → ∃ b' t', 0 ≤ t' ∧ t' < 2147483629 ∧
    forL (gNm 1) (sSet 3 (mOp oMod (mOp oAdd (mOp oAdd (mOp oMul (mVar 3) (mC (.int 48271))) (mOp oMod (mVar 1) (mC (.int 2147483563)))) (mC (.int 17))) (mC (.int 2147483629)))) (ms.map .int) [a, b, c, some (.int t)] h = .nx [a, b', c, some (.int t')] h
  | [], b, t, h1, h2 => ⟨b, t, h1, h2, rfl⟩
  | m :: ms, b, t, h1, h2 => by
    have a1 : oMul h (.int t) (.int 48271) = some (.int (t * 48271)) := mul_okS (by omega) (by omega)
    obtain ⟨b', t', x1, x2, e⟩ := begun_loop a c h ms (some (.int m)) ((t * 48271 + m % 2147483563 + 17) % 2147483629) (Int.emod_nonneg _ (by omega)) (Int.emod_lt_of_pos _ (by omega))
    refine ⟨b', t', x1, x2, ?_⟩
    rw [List.map_cons]
    unfold forL
    simp [a1, e]
theorem begun_ok {ns : List Int} (hl : ns.length ≤ 63) : ∃ h', begunM [.kst (ns.map .int)] [] = .ok (.ref 1) h' ∧ Hd 0 [] h' := by
  have hc := cut_len ns none (some 63)
  have e0 : oCut [] (.kst (ns.map .int)) none (some 63) = some (.lst ((cut ns none (some 63)).map .int)) := by rw [← cut_map]; rfl
  generalize cut ns none (some 63) = ms at hc e0
  have e1 : cList [] [.lst (ms.map .int)] = some (.lst (ms.map .int)) := rfl
  obtain ⟨b', t', x1, x2, e⟩ := begun_loop (some (.kst (ns.map .int))) (some (.lst (ms.map .int))) [] ms none 50021 (by omega) (by omega)
  have hf : (ms.map D.int).length < 1000000 := by rw [List.length_map]; omega
  have e2 : seqL [] (.lst (ms.map .int)) = some (ms.map .int) := rfl
  refine ⟨hnd ms.reverse t' 0 [], ?_, ms.reverse, t', 0, rfl, x1, x2, by omega, by omega, by simp; omega⟩
  unfold begunM
  simp [e0, e1, sFor_ap, for_fix hf, e, e2, hnd, show small 3 = true from rfl]
theorem pick_ok {N : Nat} {rest h : LH} {l : List D} (hd : Hd N rest h) (hN : N < 1000000) (hl : l ≠ []) (hl2 : l.length ≤ 1000000) :
    ∃ d h', pickM dealtM [.ref 1, .lst l] h = .ok d h' ∧ d ∈ l ∧ Hd (N + 1) rest h' := by
  have hp : 0 < l.length := List.length_pos_iff.mpr hl
  obtain ⟨r, h', e, r1, r2, hd'⟩ := dealt_ok (lots := (l.length : Int)) hd hN (by omega) (by omega)
  obtain ⟨d, e2, m⟩ := atI_in r1 r2
  refine ⟨d, h', ?_, m, hd'⟩
  have e3 : cLen h [.lst l] = some (.int l.length) := rfl
  have e4 : oIx h' (.lst l) (.int r) = some d := e2
  unfold pickM
  simp [e3, e, e4]
end DN
namespace DN
open PySem PySem.Spec PyProof.Rows L2
/-! ### texts by their signs -/
def tl (z : Str) : List Nat := z.cps.toList
theorem len_tl (z : Str) : z.length = (tl z).length := (Array.length_toList).symm
theorem tl_app (a b : Str) : tl (a ++ b) = tl a ++ tl b := TL.tl_append a b
theorem tl_join_nil : ∀ ys : List Str, tl (Str.join ⟨#[]⟩ ys) = (ys.map tl).flatten
  | [] => rfl
  | [x] => by simp [Str.join]
  | x :: y :: r => by
    show tl (x ++ ⟨#[]⟩ ++ Str.join ⟨#[]⟩ (y :: r)) = _
    rw [tl_app, tl_app, tl_join_nil (y :: r)]
    simp [show tl ⟨#[]⟩ = [] from rfl]
/-- all signs of a text are such -/
def Sg1 (p : Nat → Prop) (z : Str) : Prop := ∀ c ∈ tl z, p c
theorem Sg1.app {p : Nat → Prop} {a b : Str} (h : Sg1 p a) (k : Sg1 p b) : Sg1 p (a ++ b) := fun c m => by
  rw [tl_app, List.mem_append] at m
  exact m.elim (h c) (k c)
theorem Sg1.cut {p : Nat → Prop} {a : Str} (h : Sg1 p a) (lo hi : Option Int) : Sg1 p (cutS a lo hi) := fun c m => by
  have m' : c ∈ ((a.cps.toList.drop (HT.sIx a.length 0 lo)).take (HT.sIx a.length a.length hi - HT.sIx a.length 0 lo)) := by
    have e : tl (cutS a lo hi) = ((a.cps.toList.drop (HT.sIx a.length 0 lo)).take (HT.sIx a.length a.length hi - HT.sIx a.length 0 lo)) := by unfold cutS; rfl
    rw [e] at m; exact m
  exact h c (List.mem_of_mem_drop (List.mem_of_mem_take m'))
theorem len_cutS (a : Str) (lo hi : Option Int) : (cutS a lo hi).length ≤ a.length := by
  rw [len_tl, len_tl]
  have e : tl (cutS a lo hi) = ((a.cps.toList.drop (HT.sIx a.length 0 lo)).take (HT.sIx a.length a.length hi - HT.sIx a.length 0 lo)) := by unfold cutS; rfl
  rw [e, List.length_take, List.length_drop]
  show _ ≤ a.cps.toList.length
  omega
theorem len_app (a b : Str) : (a ++ b).length = a.length + b.length := by rw [len_tl, tl_app, List.length_append, ← len_tl, ← len_tl]
theorem Sg1.imp {p q : Nat → Prop} {z : Str} (h : Sg1 p z) (k : ∀ c, p c → q c) : Sg1 q z := fun c m => k c (h c m)
theorem mapM_asS : ∀ ys : List Str, (ys.map D.str).mapM asS = some ys
  | [] => rfl
  | y :: ys => by
    rw [List.map_cons, List.mapM_cons, mapM_asS ys]
    rfl
theorem str_list : ∀ {l : List D} {p : Str → Prop}, (∀ y ∈ l, ∃ z, y = .str z ∧ p z) → ∃ ys : List Str, l = ys.map .str ∧ ∀ z ∈ ys, p z
  | [], _, _ => ⟨[], rfl, by simp⟩
  | d :: l, p, h => by
    obtain ⟨z, rfl, hz⟩ := h d (by simp)
    obtain ⟨ys, rfl, hy⟩ := str_list (l := l) fun y m => h y (by simp [m])
    exact ⟨z :: ys, rfl, fun y m => by
      rcases List.mem_cons.mp m with rfl | m
      · exact hz
      · exact hy y m⟩
/-- signs put together -/
theorem join_signs {h : LH} {l : List D} {p : Nat → Prop} (hl : ∀ y ∈ l, ∃ c, y = .str ⟨#[c]⟩ ∧ p c) (hn : l.length ≤ 1000000) :
    ∃ z, gJoin h (.str ⟨#[]⟩) [.lst l] = some (.str z, h) ∧ z.length = l.length ∧ Sg1 p z := by
  obtain ⟨ys, rfl, hy⟩ := str_list (p := fun z => ∃ c, z = ⟨#[c]⟩ ∧ p c) fun y m => by
    obtain ⟨c, e, q⟩ := hl y m
    exact ⟨_, e, c, rfl, q⟩
  rw [List.length_map] at hn ⊢
  have hlen : ∀ ys : List Str, (∀ z ∈ ys, ∃ c, z = ⟨#[c]⟩ ∧ p c) → (ys.map (·.length)).sum = ys.length := by
    intro ys
    induction ys with
    | nil => intro _; rfl
    | cons y ys ih =>
      intro h
      obtain ⟨c, rfl, _⟩ := h y (by simp)
      rw [List.map_cons, List.sum_cons, ih fun z m => h z (by simp [m]), List.length_cons]
      show 1 + ys.length = _
      omega
  have hs : ∀ ys : List Str, (∀ z ∈ ys, ∃ c, z = ⟨#[c]⟩ ∧ p c) → (ys.map tl).flatten.length = ys.length ∧ ∀ c ∈ (ys.map tl).flatten, p c := by
    intro ys
    induction ys with
    | nil => intro _; exact ⟨rfl, by simp⟩
    | cons y ys ih =>
      intro h
      obtain ⟨c, rfl, hc⟩ := h y (by simp)
      obtain ⟨i1, i2⟩ := ih fun z m => h z (by simp [m])
      refine ⟨?_, fun k m => ?_⟩
      · rw [List.map_cons, List.flatten_cons, List.length_append, i1, List.length_cons]
        show 1 + ys.length = _
        omega
      rw [List.map_cons, List.flatten_cons, List.mem_append] at m
      rcases m with m | m
      · have : k = c := by simpa [tl] using m
        rw [this]; exact hc
      · exact i2 k m
  refine ⟨Txt.join ⟨#[]⟩ ys, ?_, ?_, ?_⟩
  · have e1 : strsOf h (.lst (ys.map .str)) = some ys := mapM_asS ys
    unfold gJoin
    simp only [e1, Option.bind_some]
    rw [if_pos (decide_eq_true (by rw [hlen ys hy]; show ys.length + ys.length * 0 ≤ _; omega))]
  · rw [TL.join_eq, len_tl, tl_join_nil, (hs ys hy).1]
  · intro c m
    rw [TL.join_eq, tl_join_nil] at m
    exact (hs ys hy).2 c m
theorem find_one (x : Str) (c : Nat) : decide (Txt.find x ⟨#[c]⟩ < 0) = !decide (c ∈ x.cps.toList) := by
  have h := PySem.StrLaws.found_one x c
  unfold Txt.find
  cases e : Builtin.Str.occurrences x ⟨#[c]⟩ 0 x.length 1 with
  | nil =>
    rw [e] at h
    rw [← h]
    rfl
  | cons i r =>
    rw [e] at h
    rw [← h]
    simp
/-- in an alphabet -/
theorem in_one (h : LH) (x : Str) (c : Nat) : oIn h (.str ⟨#[c]⟩) (.str x) = some (.bl (decide (c ∈ tl x))) := by
  show Option.map D.bl (if decide (1 = 1) = true then some (decide (c ∈ x.cps.toList)) else none) = _
  rw [if_pos (by rfl)]
  rfl
/-- what can be shown -/
def Shw (it : D) (n : Nat) : Prop := ∃ t : Str, t.length ≤ n ∧ ∀ h, showD h it = some t
theorem shw_py {it : D} {p : PyData} {n : Nat} (e : ∀ h, pyR h it = some p) (h1 : p.showable = true) (h2 : p.depth ≤ 600) (h3 : p.shown.length ≤ n) (hn : n ≤ 1000000) : Shw it n := ⟨p.shown, h3, fun h => by
  unfold showD
  rw [e, Option.bind_some, h1, decide_eq_true h2, small_of (by omega)]
  rfl⟩
theorem shw_str {z : Str} (hz : Sg1 (· < 1114112) z) (hl : z.length ≤ 90000) : Shw (.str z) (10 * z.length + 2) := by
  refine shw_py (p := .str z) (fun _ => rfl) rfl (Nat.zero_le _) ?_ (by omega)
  rw [show (PyData.str z).shown = reprText z by simp only [PyData.shown]]
  exact StrLaws.reprText_len z fun c m => Nat.lt_of_lt_of_le (hz c m) (by decide)
end DN
namespace DN
open PySem PySem.Spec PyProof.Rows L2
/-! ### data that is never changed: size when shown, nesting -/
def kz : Key → Nat
  | .inl _ => 50
  | .inr x => 10 * x.length + 2
mutual
def sz : D → Nat
  | .non => 4
  | .bl _ => 5
  | .int _ => 50
  | .str x => 10 * x.length + 2
  | .tup l => 3 + szs l
  | .lst l => 3 + szs l
  | .dct l => 3 + szk l
  | _ => 0
def szs : List D → Nat
  | [] => 0
  | d :: ds => sz d + 2 + szs ds
def szk : List (Key × D) → Nat
  | [] => 0
  | (k, d) :: r => kz k + 2 + sz d + 2 + szk r
end
mutual
def dp : D → Nat
  | .tup l => 1 + dps l
  | .lst l => 1 + dps l
  | .dct l => 1 + dpk l
  | _ => 0
def dps : List D → Nat
  | [] => 0
  | d :: ds => max (dp d) (dps ds)
def dpk : List (Key × D) → Nat
  | [] => 0
  | (_, d) :: r => max (dp d) (dpk r)
end
abbrev okc : Str → Prop := Sg1 (· < 1114112)
def okk : Key → Prop
  | .inl i => -10 ^ 40 ≤ i ∧ i ≤ 10 ^ 40
  | .inr x => okc x
mutual
def okD : D → Prop
  | .non => True
  | .bl _ => True
  | .int i => -10 ^ 40 ≤ i ∧ i ≤ 10 ^ 40
  | .str x => okc x
  | .tup l => okL l
  | .lst l => okL l
  | .dct l => okK l
  | _ => False
def okL : List D → Prop
  | [] => True
  | d :: ds => okD d ∧ okL ds
def okK : List (Key × D) → Prop
  | [] => True
  | (k, d) :: r => okk k ∧ okD d ∧ okK r
end
theorem okL_mem : ∀ {l : List D}, okL l ↔ ∀ d ∈ l, okD d
  | [] => by simp [okL]
  | d :: ds => by simp [okL, okL_mem (l := ds)]
theorem szs_mem : ∀ {l : List D} {d : D}, d ∈ l → sz d + 2 ≤ szs l
  | _ :: _, _, .head _ => by simp only [szs]; omega
  | _ :: _, _, .tail _ m => by have := szs_mem m; simp only [szs]; omega
theorem dps_mem : ∀ {l : List D} {d : D}, d ∈ l → dp d ≤ dps l
  | _ :: _, _, .head _ => by simp only [dps]; omega
  | _ :: _, _, .tail _ m => by have := dps_mem m; simp only [dps]; omega
theorem szs_app : ∀ (a b : List D), szs (a ++ b) = szs a + szs b
  | [], b => by simp [szs]
  | d :: a, b => by simp only [List.cons_append, szs, szs_app a b]; omega
theorem dps_le : ∀ {l : List D} {n : Nat}, (∀ d ∈ l, dp d ≤ n) → dps l ≤ n
  | [], n, _ => Nat.zero_le _
  | d :: ds, n, h => by
    simp only [dps]
    have := h d (by simp)
    have := dps_le (l := ds) fun x m => h x (by simp [m])
    omega
theorem szs_le : ∀ {l : List D} {n : Nat}, (∀ d ∈ l, sz d ≤ n) → szs l ≤ l.length * (n + 2)
  | [], n, _ => Nat.zero_le _
  | d :: ds, n, h => by
    simp only [szs, List.length_cons]
    have h1 := h d (by simp)
    have := szs_le (l := ds) fun x m => h x (by simp [m])
    rw [Nat.add_mul]
    omega
theorem len_szs : ∀ l : List D, 2 * l.length ≤ szs l
  | [] => Nat.le_refl _
  | d :: ds => by have := len_szs ds; simp only [szs, List.length_cons]; omega
theorem int_show {i : Int} (h : -10 ^ 40 ≤ i ∧ i ≤ 10 ^ 40) : (PyData.int i).showable = true ∧ (PyData.int i).shown.length ≤ 50 := by
  have h1 : i.natAbs < 10 ^ 41 := Nat.lt_of_le_of_lt (m := 10 ^ 40) (by omega) (by decide)
  refine ⟨?_, ?_⟩
  · simp only [PyData.showable, decide_eq_true_eq]
    exact Nat.lt_of_lt_of_le (lg2 (m := 140) (Nat.lt_of_lt_of_le h1 (by decide)) (by decide)) (by decide)
  · simp only [PyData.shown]
    have := int_text_length_le10 (a := i) (k := 41) (by decide) h1
    rw [show (Str.ofString (toString i)).length = (toString i).length from PySem.ofString_length _]
    omega
theorem str_show {x : Str} (h : okc x) : (PyData.str x).shown.length ≤ 10 * x.length + 2 := by
  rw [show (PyData.str x).shown = reprText x by simp only [PyData.shown]]
  exact StrLaws.reprText_len x fun c m => Nat.lt_of_lt_of_le (h c m) (by decide)
theorem key_show {k : Key} (h : okk k) : (pyKey k).showable = true ∧ (pyKey k).depth = 0 ∧ (pyKey k).shown.length ≤ kz k := by
  cases k with
  | inl i => exact ⟨(int_show h).1, rfl, (int_show h).2⟩
  | inr x => exact ⟨rfl, rfl, str_show h⟩
mutual
theorem pyF_ok : ∀ d : D, okD d → ∃ p, pyF d = some p ∧ p.showable = true ∧ p.depth = dp d ∧ p.shown.length ≤ sz d
  | .non, _ => ⟨.none, rfl, rfl, rfl, by decide⟩
  | .bl b, _ => ⟨.bool b, rfl, rfl, rfl, by cases b <;> decide⟩
  | .int i, h => ⟨.int i, rfl, (int_show h).1, rfl, (int_show h).2⟩
  | .str x, h => ⟨.str x, rfl, rfl, rfl, str_show h⟩
  | .tup l, h => by
    obtain ⟨ps, e, h1, h2, h3⟩ := pyFs_ok l (by simpa only [okD] using h)
    refine ⟨.tuple ps, by simp only [pyF, e, Option.map_some], by simpa only [PyData.showable] using h1, by simp only [PyData.depth, dp, h2]; omega, ?_⟩
    simp only [PyData.shown, sz]
    have := PySem.tupleText_len_le (PyData.shownAll ps)
    omega
  | .lst l, h => by
    obtain ⟨ps, e, h1, h2, h3⟩ := pyFs_ok l (by simpa only [okD] using h)
    refine ⟨.list ps, by simp only [pyF, e, Option.map_some], by simpa only [PyData.showable] using h1, by simp only [PyData.depth, dp, h2]; omega, ?_⟩
    simp only [PyData.shown, sz]
    have := PySem.listText_len_le (PyData.shownAll ps)
    omega
  | .dct l, h => by
    obtain ⟨ps, e, h1, h2, h3⟩ := pyFk_ok l (by simpa only [okD] using h)
    refine ⟨.dict ps, by simp only [pyF, e, Option.map_some], by simpa only [PyData.showable] using h1, by simp only [PyData.depth, dp, h2]; omega, ?_⟩
    simp only [PyData.shown, sz]
    have := PySem.dictText_len_le (PyData.shownKv ps)
    omega
  | .kst _, h => by simp only [okD] at h
  | .ref _, h => by simp only [okD] at h
  | .st _, h => by simp only [okD] at h
  | .exn _ _ _ _, h => by simp only [okD] at h
theorem pyFs_ok : ∀ l : List D, okL l → ∃ ps, pyFs l = some ps ∧ PyData.showableAll ps = true ∧ PyData.depthAll ps = dps l ∧ ((PyData.shownAll ps).map (·.length)).sum + 2 * (PyData.shownAll ps).length ≤ szs l
  | [], _ => ⟨[], rfl, rfl, rfl, by simp [PyData.shownAll, szs]⟩
  | d :: ds, h => by
    simp only [okL] at h
    obtain ⟨p, e1, a1, a2, a3⟩ := pyF_ok d h.1
    obtain ⟨ps, e2, b1, b2, b3⟩ := pyFs_ok ds h.2
    refine ⟨p :: ps, by simp only [pyFs, e1, e2, Option.bind_some, Option.map_some], by simp only [PyData.showableAll, a1, b1, Bool.and_self], by simp only [PyData.depthAll, dps, a2, b2], ?_⟩
    simp only [PyData.shownAll, szs, List.map_cons, List.sum_cons, List.length_cons]
    omega
theorem pyFk_ok : ∀ l : List (Key × D), okK l → ∃ ps, pyFk l = some ps ∧ PyData.showableKv ps = true ∧ PyData.depthKv ps = dpk l ∧ ((PyData.shownKv ps).map (·.length)).sum + 2 * (PyData.shownKv ps).length ≤ szk l
  | [], _ => ⟨[], rfl, rfl, rfl, by simp [PyData.shownKv, szk]⟩
  | (k, d) :: ds, h => by
    simp only [okK] at h
    obtain ⟨p, e1, a1, a2, a3⟩ := pyF_ok d h.2.1
    obtain ⟨ps, e2, b1, b2, b3⟩ := pyFk_ok ds h.2.2
    obtain ⟨k1, k2, k3⟩ := key_show h.1
    refine ⟨(pyKey k, p) :: ps, by simp only [pyFk, e1, e2, Option.bind_some, Option.map_some], by simp only [PyData.showableKv, k1, a1, b1, Bool.and_self], by simp only [PyData.depthKv, dpk, k2, a2, b2]; omega, ?_⟩
    simp only [PyData.shownKv, szk, List.map_cons, List.sum_cons, List.length_cons, len_app]
    have : (": " : Str).length = 2 := rfl
    omega
end
mutual
theorem pyG_F (g : Nat → Option PyData) : ∀ (d : D), okD d → ∀ p, pyG g d = some p → pyF d = some p
  | .non, _, p, e => by simpa [pyF, pyG] using e
  | .bl _, _, p, e => by simpa [pyF, pyG] using e
  | .int _, _, p, e => by simpa [pyF, pyG] using e
  | .str _, _, p, e => by simpa [pyF, pyG] using e
  | .tup l, h, p, e => by
    simp only [pyG, Option.map_eq_some_iff] at e
    obtain ⟨ps, e1, rfl⟩ := e
    simp only [pyF, pyGs_F g l (by simpa only [okD] using h) ps e1, Option.map_some]
  | .lst l, h, p, e => by
    simp only [pyG, Option.map_eq_some_iff] at e
    obtain ⟨ps, e1, rfl⟩ := e
    simp only [pyF, pyGs_F g l (by simpa only [okD] using h) ps e1, Option.map_some]
  | .dct _, _, p, e => by simp [pyG] at e
  | .kst _, h, _, _ => by simp only [okD] at h
  | .ref _, h, _, _ => by simp only [okD] at h
  | .st _, h, _, _ => by simp only [okD] at h
  | .exn _ _ _ _, h, _, _ => by simp only [okD] at h
theorem pyGs_F (g : Nat → Option PyData) : ∀ (l : List D), okL l → ∀ ps, pyGs g l = some ps → pyFs l = some ps
  | [], _, p, e => by simpa [pyFs, pyGs] using e
  | d :: ds, h, p, e => by
    simp only [okL] at h
    simp only [pyGs, Option.bind_eq_some_iff, Option.map_eq_some_iff] at e
    obtain ⟨q, e1, qs, e2, rfl⟩ := e
    simp only [pyFs, pyG_F g d h.1 q e1, pyGs_F g ds h.2 qs e2, Option.bind_some, Option.map_some]
end
theorem pyR_ok {d : D} (h : okD d) : ∃ p, (∀ g, pyR g d = some p) ∧ p.showable = true ∧ p.depth = dp d ∧ p.shown.length ≤ sz d := by
  obtain ⟨p, e, r⟩ := pyF_ok d h
  refine ⟨p, fun g => ?_, r⟩
  unfold pyR
  cases q : py g d with
  | none => exact e
  | some p' =>
    have := pyG_F _ d h p' q
    rw [e] at this
    exact this.symm
theorem shw_ok {d : D} (h : okD d) (h1 : sz d ≤ 1000000) (h2 : dp d ≤ 600) : Shw d (sz d) := by
  obtain ⟨p, e, a, b, c⟩ := pyR_ok h
  exact shw_py e a (by omega) c h1
/-! ### signs of a text, tested one by one -/
theorem sg_tl (z : Str) : DN.signs z = (tl z).map fun c => D.str ⟨#[c]⟩ := rfl
theorem sg_len {z : Str} (hz : z.length ≤ 100000) : (DN.signs z).length < 1000000 := by
  rw [sg_tl, List.length_map, ← len_tl]
  omega
theorem sg_len2 {z : Str} (hz : z.length ≤ 100000) : ([] : List D).length + (DN.signs z).length ≤ sizeLine := by have := sizeLine_ge; have := sg_len hz; simp; omega
theorem mapM_bl : ∀ l : List Bool, (l.map D.bl).mapM asB = some l
  | [] => rfl
  | b :: l => by rw [List.map_cons, List.mapM_cons, mapM_bl l]; rfl
theorem all_bl {h : LH} (l : List Bool) : cAll h [.lst (l.map .bl)] = some (.bl (l.all id)) := by
  show ((l.map D.bl).mapM asB).map _ = _
  rw [mapM_bl]
  rfl
theorem signs_all {h : LH} {i : Nat} {s : Sg} {z : Str} {e : EM} (p : Nat → Bool) (hz : z.length ≤ 100000) (he : ∀ c, e ((s.set i none).set i (some (.str ⟨#[c]⟩))) h = .ok (.bl (p c)) h) :
    ∃ l, lcS [i] (gNm i) bYes e s 1000000 (fixS (DN.signs z)) 0 [] h = .ok l h ∧ cAll h [.lst l] = some (.bl ((tl z).all p)) := by
  let f : D → D := fun d => match d with
    | .str x => .bl (p (x.cps.getD 0 0))
    | d => d
  refine ⟨(DN.signs z).map f, ?_, ?_⟩
  · rw [lc_fix (sg_len hz), lcL_filter (fun _ => true) f h (DN.signs z) [] (sg_len2 hz)]
    · rw [List.filter_eq_self.mpr (fun _ _ => rfl), List.nil_append]
    · intro d m
      rw [sg_tl, List.mem_map] at m
      obtain ⟨c, _, rfl⟩ := m
      exact ⟨_, rfl, rfl, fun _ => he c⟩
  · have e1 : (DN.signs z).map f = ((tl z).map p).map D.bl := by
      rw [sg_tl, List.map_map, List.map_map]
      rfl
    rw [e1, all_bl, List.all_map]
    rfl
theorem signs_none {h : LH} {i : Nat} {s : Sg} {z : Str} {t : BM} (q : Nat → Bool) (hi : i < s.length) (hz : z.length ≤ 100000) (ht : ∀ c, t ((s.set i none).set i (some (.str ⟨#[c]⟩))) h = .ok (q c) h) :
    ∃ l, lcS [i] (gNm i) t (mVar i) s 1000000 (fixS (DN.signs z)) 0 [] h = .ok l h ∧ oEq h (.lst l) (.lst []) = some (.bl ((tl z).all fun c => !q c)) := by
  let f : D → Bool := fun d => match d with
    | .str x => q (x.cps.getD 0 0)
    | _ => false
  refine ⟨(DN.signs z).filter f, ?_, ?_⟩
  · rw [lc_fix (sg_len hz), lcL_filter f id h (DN.signs z) [] (sg_len2 hz)]
    · rw [List.map_id, List.nil_append]
    · intro d m
      rw [sg_tl, List.mem_map] at m
      obtain ⟨c, _, rfl⟩ := m
      refine ⟨_, rfl, ht c, fun _ => ?_⟩
      have : ((wipeS s [i]).set i (some (D.str ⟨#[c]⟩)))[i]? = some (some (.str ⟨#[c]⟩)) := List.getElem?_set_self (by simpa [wipeS] using hi)
      rw [mVar_ap, this]
      rfl
  · rw [oEq_l0, sg_tl]
    congr 2
    induction tl z with
    | nil => rfl
    | cons c l ih =>
      rw [List.map_cons, List.filter_cons]
      have e1 : f (.str ⟨#[c]⟩) = q c := rfl
      rw [e1]
      cases hq : q c with
      | true => simp [hq]
      | false => simpa [hq] using ih
end DN
namespace DN
open PySem PySem.Spec PyProof.Rows L2
/-! ### which texts show as 'row' -/
theorem foldl_arr {f : Nat → List Nat} : ∀ (l : List Nat) (a : Array Nat), (l.foldl (fun out c => out ++ (f c).toArray) a).toList = a.toList ++ l.flatMap f
  | [], a => by simp
  | c :: l, a => by
    rw [List.foldl_cons, foldl_arr l]
    simp
theorem tl_repr (x : Str) : tl (reprText x) = reprQuote x :: (tl x).flatMap (Builtin.Str.reprChar (reprQuote x)) ++ [reprQuote x] := by
  show (((x.cps.foldl (fun out c => out ++ (Builtin.Str.reprChar (reprQuote x) c).toArray) #[reprQuote x]).push (reprQuote x))).toList = _
  rw [Array.toList_push, ← Array.foldl_toList, foldl_arr]
  rfl
theorem reprChar_one (q c : Nat) : Builtin.Str.reprChar q c = [c] ∨ 92 ∈ Builtin.Str.reprChar q c := by
  unfold Builtin.Str.reprChar
  dsimp only
  split
  · simp
  · split
    · simp
    · split
      · simp
      · split
        · simp
        · split
          · simp
          · split
            · simp
            · split <;> simp
theorem flat_plain (q : Nat) : ∀ (l : List Nat), 92 ∉ l.flatMap (Builtin.Str.reprChar q) → l.flatMap (Builtin.Str.reprChar q) = l
  | [], _ => rfl
  | c :: l, h => by
    rw [List.flatMap_cons, List.mem_append, not_or] at h
    rw [List.flatMap_cons, flat_plain q l h.2]
    rcases reprChar_one q c with e | e
    · rw [e]; rfl
    · exact (h.1 e).elim
theorem tl_inj {a b : Str} (h : tl a = tl b) : a = b := TL.ext_tl h
theorem repr_plain {x y : Str} (h : reprText x = reprText y) (hy : 92 ∉ tl (reprText y)) : tl x = tl y := by
  have e := congrArg tl h
  rw [tl_repr, tl_repr] at e
  have hy' := hy
  rw [tl_repr] at hy'
  have hx' := hy
  rw [← h, tl_repr] at hx'
  simp only [List.cons_append, List.mem_cons, List.mem_append, not_or] at hx' hy'
  rw [flat_plain _ _ hx'.2.1, flat_plain _ _ hy'.2.1] at e
  simp only [List.cons_append, List.cons.injEq] at e
  obtain ⟨e1, e2⟩ := e
  rw [e1] at e2
  exact List.append_cancel_right e2
theorem head_app {a b : Str} {c : Nat} {r : List Nat} (h : tl a = c :: r) : (tl (a ++ b)).head? = some c := by rw [tl_app, h]; rfl
theorem not_row {p : PyData} {d : D} (e : pyF d = some p) (hs : ∀ x, d ≠ .str x) : (p.shown == reprText "row") = false := by
  rw [beq_eq_false_iff_ne]
  intro h
  have hd : (tl p.shown).head? = some 39 := by rw [h]; decide +kernel
  have h39 : 39 ∈ tl p.shown := by
    cases q : tl p.shown with
    | nil => rw [q] at hd; cases hd
    | cons a r => rw [q] at hd; cases hd; simp
  cases d with
  | non => cases e; exact absurd hd (by decide +kernel)
  | bl b => cases e; cases b <;> exact absurd hd (by decide +kernel)
  | int i => cases e; exact PyProof.Rows.shown_int_free (k := 39) (by decide) i h39
  | str x => exact hs x rfl
  | tup l =>
    simp only [pyF, Option.map_eq_some_iff] at e
    obtain ⟨ps, _, rfl⟩ := e
    have : (tl (PyData.tuple ps).shown).head? = some 40 := by
      simp only [PyData.shown]
      unfold tupleText
      rw [tl_app, tl_app]
      rfl
    rw [this] at hd
    cases hd
  | lst l =>
    simp only [pyF, Option.map_eq_some_iff] at e
    obtain ⟨ps, _, rfl⟩ := e
    have : (tl (PyData.list ps).shown).head? = some 91 := by
      simp only [PyData.shown]
      rw [PySem.listText_eq_join]
      rw [tl_app, tl_app]
      rfl
    rw [this] at hd
    cases hd
  | dct l =>
    simp only [pyF, Option.map_eq_some_iff] at e
    obtain ⟨ps, _, rfl⟩ := e
    have : (tl (PyData.dict ps).shown).head? = some 123 := by
      simp only [PyData.shown]
      unfold dictText
      rw [tl_app, tl_app]
      rfl
    rw [this] at hd
    cases hd
  | _ => simp [pyF] at e
def isRowS : D → Bool
  | .str x => x == "row"
  | _ => false
theorem row_shown {p : PyData} {d : D} (e : pyF d = some p) : (p.shown == reprText "row") = isRowS d := by
  cases d with
  | str x =>
    cases e
    rw [show (PyData.str x).shown = reprText x by simp only [PyData.shown]]
    show _ = (x == ("row" : Str))
    rw [Bool.eq_iff_iff, beq_iff_eq, beq_iff_eq]
    exact ⟨fun h => tl_inj (repr_plain h (by decide +kernel)), fun h => by rw [h]⟩
  | _ => exact not_row e (fun x => by simp)
end DN
set_option maxHeartbeats 0
namespace DN
open PySem PySem.Spec PyProof.Rows L2
section
variable {h : LH} {d : D}
theorem oNe_ii {h : LH} (i j : Int) : oNe h (.int i) (.int j) = some (.bl (!(i == j))) := by
  unfold oNe py
  simp only [pyG, Option.bind_some]
  rw [if_pos (by rfl)]
  simp only [PyData.eqv]
def isTup : D → Bool | .tup _ => true | _ => false
def isStr : D → Bool | .str _ => true | _ => false
def isInt : D → Bool | .int _ => true | .bl _ => true | _ => false
def isBl : D → Bool | .bl _ => true | _ => false
theorem isi_tup (ok : okD d) : cIsi h [d, .st (.ty "tuple")] = some (.bl (isTup d)) := by cases d <;> first | rfl | (simp only [okD] at ok)
theorem isi_str (ok : okD d) : cIsi h [d, .st (.ty "str")] = some (.bl (isStr d)) := by cases d <;> first | rfl | (simp only [okD] at ok)
theorem isi_int (ok : okD d) : cIsi h [d, .st (.ty "int")] = some (.bl (isInt d)) := by cases d <;> first | rfl | (simp only [okD] at ok)
theorem isi_bl (ok : okD d) : cIsi h [d, .st (.ty "bool")] = some (.bl (isBl d)) := by cases d <;> first | rfl | (simp only [okD] at ok)
theorem len_tup (l : List D) : cLen h [.tup l] = some (.int l.length) := rfl
theorem len_lst (l : List D) : cLen h [.lst l] = some (.int l.length) := rfl
theorem len_str {z : Str} (hz : z.length ≤ 1000000) : cLen h [.str z] = some (.int z.length) := by
  unfold cLen lenD
  simp [small_of hz]
theorem ix1 (a b : D) (l : List D) : oIx h (.tup (a :: b :: l)) (.int 1) = some b := by
  show atI (a :: b :: l) 1 = some b
  unfold atI ixN
  rw [if_pos (by decide), if_pos (by simp only [List.length_cons]; omega)]
  rfl
theorem ix2 (a b c : D) (l : List D) : oIx h (.tup (a :: b :: c :: l)) (.int 2) = some c := by
  show atI (a :: b :: c :: l) 2 = some c
  unfold atI ixN
  rw [if_pos (by decide), if_pos (by simp only [List.length_cons]; omega)]
  rfl
theorem ix0' (a : D) (l : List D) : oIx h (.tup (a :: l)) (.int 0) = some a := by
  show atI (a :: l) 0 = some a
  unfold atI ixN
  rw [if_pos (by decide), if_pos (by simp only [List.length_cons]; omega)]
  rfl
abbrev lts : Str := "abcdefghijklmnopqrstuvwxyz"
theorem ord_one (c : Nat) : cOrd h [.str ⟨#[c]⟩] = some (.int c) := rfl
end
theorem repr_of {h : LH} {d : D} (ok : okD d) (hz : sz d ≤ 1000000) (hd : dp d ≤ 600) : ∃ p, pyF d = some p ∧ cRepr h [d] = some (.str p.shown) := by
  obtain ⟨p, e, a, b, c⟩ := pyR_ok ok
  obtain ⟨p', e', _⟩ := pyF_ok d ok
  have : p' = p := by
    have z := e h
    unfold pyR at z
    cases q : py h d with
    | none => rw [q] at z; exact Option.some.inj (e'.symm.trans z)
    | some x =>
      rw [q] at z
      have := pyG_F _ d ok x q
      rw [e'] at this
      rw [Option.some.inj this]
      exact Option.some.inj z
  subst this
  refine ⟨p', e', ?_⟩
  show (showD h d).map D.str = _
  unfold showD
  rw [e h, Option.bind_some, a, decide_eq_true (by omega : p'.depth ≤ 600), small_of (by omega)]
  rfl
theorem lc_map {h : LH} {i : Nat} {s : Sg} {e : EM} {l : List D} (f : D → D) (hl : l.length ≤ 900000) (he : ∀ d ∈ l, e ((s.set i none).set i (some d)) h = .ok (f d) h) : lcS [i] (gNm i) bYes e s 1000000 (fixS l) 0 [] h = .ok (l.map f) h := by
  rw [lc_fix (by omega), lcL_filter (fun _ => true) f h l [] (by have := sizeLine_ge; simp; omega)]
  · rw [List.filter_eq_self.mpr (fun _ _ => rfl), List.nil_append]
  · exact fun d m => ⟨_, rfl, rfl, fun _ => he d m⟩
theorem lc_sel {h : LH} {i : Nat} {s : Sg} {t : BM} {l : List D} (p : D → Bool) (hi : i < s.length) (hl : l.length ≤ 900000) (ht : ∀ d ∈ l, t ((s.set i none).set i (some d)) h = .ok (p d) h) : lcS [i] (gNm i) t (mVar i) s 1000000 (fixS l) 0 [] h = .ok (l.filter p) h := by
  rw [lc_fix (by omega), lcL_filter p id h l [] (by have := sizeLine_ge; simp; omega)]
  · rw [List.map_id, List.nil_append]
  · intro d m
    refine ⟨_, rfl, ht d m, fun _ => ?_⟩
    have : ((wipeS s [i]).set i (some d))[i]? = some (some d) := List.getElem?_set_self (by simpa [wipeS] using hi)
    rw [mVar_ap, this]
    rfl
mutual
theorem below_ok (n : Nat) : ∀ (e : D), okD e → below n e = true
  | .non, _ => rfl
  | .bl _, _ => rfl
  | .int _, _ => rfl
  | .str _, _ => rfl
  | .tup l, h => by simp only [below]; exact belows_ok n l (by simpa only [okD] using h)
  | .lst l, h => by simp only [below]; exact belows_ok n l (by simpa only [okD] using h)
  | .dct l, h => by simp only [below]; exact belowk_ok n l (by simpa only [okD] using h)
  | .kst _, h => by simp only [okD] at h
  | .ref _, h => by simp only [okD] at h
  | .st _, h => by simp only [okD] at h
theorem belows_ok (n : Nat) : ∀ (e : List D), okL e → belows n e = true
  | [], _ => rfl
  | d :: l, h => by
    simp only [okL] at h
    simp only [belows, below_ok n d h.1, belows_ok n l h.2, Bool.and_self]
theorem belowk_ok (n : Nat) : ∀ (e : List (Key × D)), okK e → belowk n e = true
  | [], _ => rfl
  | (_, d) :: l, h => by
    simp only [okK] at h
    simp only [belowk, below_ok n d h.2.1, belowk_ok n l h.2.2, Bool.and_self]
end

theorem while_succ (n : Nat) (t : BM) (b : SM) (s : Sg) (h : LH) : whileM (n + 1) t b s h = (t s h).q s fun k h1 => if k = true then (match b s h1 with
    | .nx s' h' => whileM n t b s' h'
    | .ct s' h' => whileM n t b s' h'
    | .bk s' h' => .nx s' h'
    | r => r) else .nx s h1 := rfl
theorem rs_snoc {α : Type} {l : List α} (h : l ≠ []) : ∃ a b, l = a ++ [b] := ⟨l.dropLast, l.getLast h, (List.dropLast_concat_getLast h).symm⟩
theorem all_ok {h : LH} {F : List D} (p : D → Bool) : cAll h [.lst (F.map fun e => D.bl (p e))] = some (.bl (F.all p)) := by
  have e1 : (F.map fun e => D.bl (p e)) = (F.map p).map D.bl := by rw [List.map_map]; rfl
  rw [e1, all_bl, List.all_map]
  rfl
theorem at_sign {h : LH} {z : Str} {pre r : List Nat} {c : Nat} (e : tl z = pre ++ c :: r) (hz : z.length ≤ 1000000) : oIx h (.str z) (.int pre.length) = some (.str ⟨#[c]⟩) := by
  show (if small z.length = true then (atI (tl z) (pre.length : Int)).map fun c => D.str ⟨#[c]⟩ else none) = _
  rw [if_pos (small_of hz)]
  unfold atI ixN
  rw [e, if_pos (by omega), if_pos (by rw [List.length_append, List.length_cons]; omega)]
  simp
theorem len_split {z : Str} {pre mid post : List Nat} (e : tl z = pre ++ mid ++ post) : z.length = pre.length + mid.length + post.length := by
  rw [len_tl, e, List.length_append, List.length_append]
theorem endT {h : LH} {z S : Str} {k : Nat} : mAndT (mTest (mOp oLt (mVar 1) (mCall cLen (aCons (mVar 0) aNil)))) (mTest (mOp oIn (mOp oIx (mVar 0) (mVar 1)) (mVar 2))) [some (.str z), some (.int k), some (.str S)] h =
    (toB (optR ((cLen h [.str z]).bind fun l => oLt h (.int k) l) h)).bind fun b h1 => if b = true then toB ((optR (oIx h1 (.str z) (.int k)) h1).bind fun x h2 => optR (oIn h2 x (.str S)) h2) else .ok false h1 := by
  simp
  cases cLen h [.str z] <;> rfl
theorem end_loop {h : LH} {z S : Str} (hz : z.length ≤ 100000) (post : List Nat) (hp : ∀ c r, post = c :: r → c ∉ tl S) : ∀ (mid : List Nat) (n : Nat) (pre : List Nat), tl z = pre ++ mid ++ post → mid.length < n → (∀ c ∈ mid, c ∈ tl S) →
    whileM n (mAndT (mTest (mOp oLt (mVar 1) (mCall cLen (aCons (mVar 0) aNil)))) (mTest (mOp oIn (mOp oIx (mVar 0) (mVar 1)) (mVar 2)))) (sAug 1 oAddI (mC (.int 1))) [some (.str z), some (.int pre.length), some (.str S)] h =
      .nx [some (.str z), some (.int ((pre.length + mid.length : Nat) : Int)), some (.str S)] h
  | [], 0, _, _, hn, _ => by simp at hn
  | [], n + 1, pre, e, _, _ => by
    rw [while_succ, endT, len_str (by omega)]
    have hl := len_split e
    cases post with
    | nil =>
      have : ¬ ((pre.length : Int) < z.length) := by simp at hl; omega
      simp [this]
    | cons c r =>
      have lt : (pre.length : Int) < z.length := by simp at hl; omega
      have e' : tl z = pre ++ c :: r := by simpa using e
      have i1 := in_one h S c
      have ni := hp c r rfl
      simp [lt, at_sign (h := h) e' (by omega), i1, ni]
  | c :: mid, 0, _, _, hn, _ => by simp at hn
  | c :: mid, n + 1, pre, e, hn, hm => by
    rw [while_succ, endT, len_str (by omega)]
    have hl := len_split e
    have lt : (pre.length : Int) < z.length := by simp at hl; omega
    have e' : tl z = pre ++ c :: (mid ++ post) := by simpa using e
    have i1 := in_one h S c
    have mi : c ∈ tl S := hm c (by simp)
    have ih := end_loop hz post hp mid n (pre ++ [c]) (by simpa using e) (by simp at hn; omega) (fun x hx => hm x (by simp [hx])) (h := h)
    have ea : oAddI h (.int pre.length) (.int 1) = some (.int ((pre.length : Int) + 1)) := rfl
    have el : (((pre ++ [c]).length : Nat) : Int) = (pre.length : Int) + 1 := by simp
    rw [el] at ih
    have er : (((pre ++ [c]).length + mid.length : Nat) : Int) = ((pre.length + (c :: mid).length : Nat) : Int) := by simp; omega
    rw [er] at ih
    simp only [Option.bind_some, oLt_ii, lt, decide_true, optR_some, toB_ok, R.bind_ok, if_true, at_sign (h := h) e' (by omega), i1, mi, q_ok, sAug_ap, List.getElem?_cons_succ, List.getElem?_cons_zero, mC_ap, ea, List.set_cons_succ, List.set_cons_zero]
    exact ih
theorem cut_mid {z : Str} {pre mid post : List Nat} (e : tl z = pre ++ mid ++ post) : cutS z (some (pre.length : Int)) (some ((pre.length + mid.length : Nat) : Int)) = ⟨mid.toArray⟩ := by
  have hl := len_split e
  refine tl_inj ?_
  show ((tl z).drop (HT.sIx z.length 0 (some (pre.length : Int)))).take (HT.sIx z.length z.length (some ((pre.length + mid.length : Nat) : Int)) - HT.sIx z.length 0 (some (pre.length : Int))) = mid
  rw [HT.sIx_nat, HT.sIx_nat, e, Nat.min_eq_left (by omega), Nat.min_eq_left (by omega), List.append_assoc, List.drop_left]
  rw [show pre.length + mid.length - pre.length = mid.length by omega, List.take_left]
theorem cut_mid_d {h : LH} {z : Str} {pre mid post : List Nat} (e : tl z = pre ++ mid ++ post) (hz : z.length ≤ 1000000) : oCut h (.str z) (some (pre.length : Int)) (some ((pre.length + mid.length : Nat) : Int)) = some (.str ⟨mid.toArray⟩) := by
  show (if small z.length = true then some (D.str (cutS z _ _)) else none) = _
  rw [if_pos (small_of hz), cut_mid e]
theorem cut_sign {h : LH} {z : Str} {pre r : List Nat} {c : Nat} (e : tl z = pre ++ c :: r) (hz : z.length ≤ 1000000) : oCut h (.str z) (some (pre.length : Int)) (some ((pre.length : Int) + 1)) = some (.str ⟨#[c]⟩) := by
  have := cut_mid_d (h := h) (z := z) (pre := pre) (mid := [c]) (post := r) (by simpa using e) hz
  exact this
theorem cut_end {h : LH} {z : Str} {pre : List Nat} (e : tl z = pre) (hz : z.length ≤ 1000000) : oCut h (.str z) (some (pre.length : Int)) (some ((pre.length : Int) + 1)) = some (.str ⟨#[]⟩) := by
  have hl : z.length = pre.length := by rw [len_tl, e]
  show (if small z.length = true then some (D.str (cutS z _ _)) else none) = _
  rw [if_pos (small_of hz)]
  congr 2
  refine tl_inj ?_
  show ((tl z).drop (HT.sIx z.length 0 (some (pre.length : Int)))).take _ = []
  rw [HT.sIx_nat, Nat.min_eq_left (by omega), e, List.drop_length]
  simp
theorem figs : tl ("0123456789" : Str) = [48, 49, 50, 51, 52, 53, 54, 55, 56, 57] := by decide +kernel
theorem fig_iff (c : Nat) : c ∈ tl ("0123456789" : Str) ↔ 48 ≤ c ∧ c ≤ 57 := by
  rw [figs]
  simp
  omega
theorem num_head (n : Nat) : ∀ {c : Nat} {r : List Nat}, TL.numL n = c :: r → c = 48 → n = 0 := by
  induction n using Nat.strongRecOn with
  | _ n ih =>
    intro c r e hc
    by_cases h : n < 10
    · rw [TL.numL_lt h] at e
      simp at e
      omega
    · rw [TL.numL_step (by omega)] at e
      cases q : TL.numL (n / 10) with
      | nil => exact (TL.numL_ne _ q).elim
      | cons a s =>
        rw [q] at e
        simp at e
        have := ih (n / 10) (by omega) q (by omega)
        omega
theorem q_find {z : Str} {pre mid post : List Nat} (e : tl z = pre ++ mid ++ 39 :: post) (hm : 39 ∉ mid) : Txt.find3 z ⟨#[39]⟩ (pre.length : Int) = ((pre.length + mid.length : Nat) : Int) := by
  have hl := len_split e
  simp only [List.length_cons] at hl
  have hf : PySem.fromIndex z.length (pre.length : Int) = pre.length := by
    unfold PySem.fromIndex
    (repeat' split) <;> omega
  have gd : ∀ v, z.cps.getD v 0 = (tl z).getD v 0 := fun v => by
    unfold tl
    simp [Array.getD_eq_getD_getElem?, List.getD_eq_getElem?_getD]
  have at0 : (tl z).getD (pre.length + mid.length) 0 = 39 := by
    rw [e, List.getD_eq_getElem?_getD, List.getElem?_append_right (by simp)]
    simp
  have no : ∀ v, pre.length ≤ v → v < pre.length + mid.length → (tl z).getD v 0 ≠ 39 := fun v h1 h2 q => by
    rw [e, List.getD_eq_getElem?_getD, List.append_assoc, List.getElem?_append_right h1, List.getElem?_append_left (by omega)] at q
    have := List.getElem?_eq_getElem (l := mid) (i := v - pre.length) (by omega)
    rw [this] at q
    simp at q
    exact hm (q ▸ List.getElem_mem _)
  rcases StrLaws.find3_spec z 39 (pre.length : Int) with ⟨_, hn⟩ | ⟨k, h0, h1, h2, h3, h4⟩
  · refine (hn (pre.length + mid.length) (by omega) (by omega) ?_).elim
    rw [gd, at0]
  · rw [h0]
    rw [hf] at h1 h4
    congr 1
    rcases Nat.lt_trichotomy k (pre.length + mid.length) with h | h | h
    · exact (no k h1 h (by rw [← gd]; exact h3)).elim
    · exact h
    · exact (h4 (pre.length + mid.length) (by omega) h (by rw [gd, at0])).elim
def intL (i : Int) : List Nat := if i < 0 then 45 :: TL.numL i.natAbs else TL.numL i.natAbs
def joinL : List (List Nat) → List Nat
  | [] => []
  | [x] => x
  | x :: y :: r => x ++ 32 :: joinL (y :: r)
theorem ty_end (h : LH) (F : List D) : tyD (h ++ [.lst F]) (.ref h.length) = some "list" := by
  unfold tyD
  simp
theorem tup_end (h : LH) (F : List D) : cTuple (h ++ [.lst F]) [.ref h.length] = some (.tup F) := by
  unfold cTuple
  simp [seqL]
theorem sgn_eq (a b : Nat) : (((⟨#[a]⟩ : Str) == (⟨#[b]⟩ : Str))) = (a == b) := by
  rw [Bool.eq_iff_iff, beq_iff_eq, beq_iff_eq]
  constructor
  · intro h
    have := congrArg tl h
    simpa [tl] using this
  · rintro rfl; rfl
theorem end_sign {h : LH} {z : Str} {pre post : List Nat} (hz : z.length ≤ 100000) (e : tl z = pre ++ post) : oCut h (.str z) (some (pre.length : Int)) (some ((pre.length : Int) + 1)) = some (.str ⟨(post.take 1).toArray⟩) := by
  cases post with
  | nil => exact cut_end (by simpa using e) (by omega)
  | cons c r => exact cut_sign e (by omega)
theorem joinL_mem : ∀ {xs : List (List Nat)} {x : List Nat}, x ∈ xs → x.length ≤ (joinL xs).length
  | [y], x, m => by
    simp at m
    subst m
    exact Nat.le_refl _
  | y :: z :: r, x, m => by
    show _ ≤ (y ++ 32 :: joinL (z :: r)).length
    rcases List.mem_cons.mp m with rfl | m
    · simp
    · have := joinL_mem (xs := z :: r) m
      simp
      omega
theorem str_mk {z : Str} {l : List Nat} (e : tl z = l) : z = ⟨l.toArray⟩ := by
  subst e
  rfl
theorem tl_join32 : ∀ ys : List Str, tl (Str.join (" " : Str) ys) = joinL (ys.map tl)
  | [] => rfl
  | [x] => by simp [Str.join, joinL]
  | x :: y :: r => by
    show tl (x ++ (" " : Str) ++ Str.join (" " : Str) (y :: r)) = _
    rw [tl_app, tl_app, tl_join32 (y :: r)]
    show _ = tl x ++ 32 :: joinL ((y :: r).map tl)
    rw [show tl (" " : Str) = [32] by decide +kernel]
    simp
theorem OFA (a b : String) : Str.ofString (a ++ b) = Str.ofString a ++ Str.ofString b := by
  refine tl_inj ?_
  rw [tl_app, Str.ofString_eq_toList, Str.ofString_eq_toList, Str.ofString_eq_toList]
  simp [tl]
theorem tl_int (i : Int) : tl (toString i : Str) = intL i := by
  unfold intL
  by_cases h : i < 0
  · rw [if_pos h]
    have e1 : (toString i : Str) = ("-" : Str) ++ (toString ((i.natAbs : Nat) : Int) : Str) := by
      show Str.ofString (toString i) = Str.ofString "-" ++ Str.ofString (toString ((i.natAbs : Nat) : Int))
      rw [PyProof.Rows.toString_neg h, show (0 : Int) - i = ((i.natAbs : Nat) : Int) by omega, OFA]
    rw [e1, tl_app, show tl (Str.ofString (toString ((i.natAbs : Nat) : Int))) = _ from TL.tl_num _, show tl ("-" : Str) = [45] by decide +kernel]
    rfl
  · rw [if_neg h]
    have := TL.tl_num i.natAbs
    rw [show ((i.natAbs : Nat) : Int) = i by omega] at this
    exact this
theorem toS (i : Int) : (toString i : Str) = ⟨(intL i).toArray⟩ := str_mk (tl_int i)
theorem log_ok {i : Int} (h : i.natAbs < 10 ^ 16) : decide (i.natAbs.log2 < 1920) = true := decide_eq_true (by
  have := lg2 (n := i.natAbs) (m := 60) (by omega) (by omega)
  omega)
theorem in_non {h : LH} : oIs h .non .non = some (.bl true) := rfl
theorem in_bl {h : LH} (b : Bool) : oIs h (.bl b) .non = some (.bl false) := rfl
theorem in_int {h : LH} (i : Int) : oIs h (.int i) .non = some (.bl false) := rfl
theorem in_str {h : LH} (z : Str) : oIs h (.str z) .non = some (.bl false) := rfl
theorem in_tup {h : LH} (l : List D) : oIs h (.tup l) .non = some (.bl false) := rfl
theorem ibb {h : LH} (b : Bool) : cIsi h [.bl b, .st (.ty "bool")] = some (.bl true) := rfl
theorem ibi {h : LH} (b : Int) : cIsi h [.int b, .st (.ty "bool")] = some (.bl false) := rfl
theorem ibs {h : LH} (b : Str) : cIsi h [.str b, .st (.ty "bool")] = some (.bl false) := rfl
theorem ibt {h : LH} (b : List D) : cIsi h [.tup b, .st (.ty "bool")] = some (.bl false) := rfl
theorem iii {h : LH} (b : Int) : cIsi h [.int b, .st (.ty "int")] = some (.bl true) := rfl
theorem iis {h : LH} (b : Str) : cIsi h [.str b, .st (.ty "int")] = some (.bl false) := rfl
theorem iit {h : LH} (b : List D) : cIsi h [.tup b, .st (.ty "int")] = some (.bl false) := rfl
theorem isi' {h : LH} (b : Int) : cIsi h [.int b, .st (.ty "str")] = some (.bl false) := rfl
theorem iss {h : LH} (b : Str) : cIsi h [.str b, .st (.ty "str")] = some (.bl true) := rfl
theorem ist {h : LH} (b : List D) : cIsi h [.tup b, .st (.ty "str")] = some (.bl false) := rfl
theorem iti {h : LH} (b : Int) : cIsi h [.int b, .st (.ty "tuple")] = some (.bl false) := rfl
theorem itt {h : LH} (b : List D) : cIsi h [.tup b, .st (.ty "tuple")] = some (.bl true) := rfl
theorem str_int {h : LH} {i : Int} (hi : i.natAbs < 10 ^ 16) : cStr h [.int i] = some (.str (toString i)) := by
  show (if decide (i.natAbs.log2 < 1920) = true then _ else _) = _
  rw [log_ok hi]
  rfl
theorem intL_len {i : Int} (hi : i.natAbs < 10 ^ 16) : (intL i).length ≤ 17 := by
  have := TL.numL_len (n := i.natAbs) (k := 16) (by decide) hi
  unfold intL
  split <;> simp <;> omega
theorem ts_len {i : Int} (hi : i.natAbs < 10 ^ 16) : (toString i : Str).length ≤ 17 := by
  rw [len_tl, tl_int]
  exact intL_len hi
theorem str_ne {a b : Str} (h : tl a ≠ tl b) : (a == b) = false := by
  rw [beq_eq_false_iff_ne]
  rintro rfl
  exact h rfl
theorem intL_head (i : Int) : ∃ c r, intL i = c :: r ∧ (c = 45 ∨ (48 ≤ c ∧ c ≤ 57)) := by
  unfold intL
  split
  · exact ⟨_, _, rfl, .inl rfl⟩
  · cases q : TL.numL i.natAbs with
    | nil => exact (TL.numL_ne _ q).elim
    | cons a r =>
      have := TL.numL_digits i.natAbs a (by rw [q]; simp)
      exact ⟨a, r, rfl, .inr (by omega)⟩
theorem split_p (p : Nat → Prop) [DecidablePred p] : ∀ l : List Nat, ∃ a b, l = a ++ b ∧ (∀ c ∈ a, p c) ∧ ∀ c r, b = c :: r → ¬ p c
  | [] => ⟨[], [], rfl, by simp, by simp⟩
  | x :: l => by
    by_cases hx : p x
    · obtain ⟨a, b, e, h1, h2⟩ := split_p p l
      refine ⟨x :: a, b, by rw [e]; rfl, fun c m => ?_, h2⟩
      rcases List.mem_cons.mp m with rfl | m
      · exact hx
      · exact h1 c m
    · exact ⟨[], x :: l, rfl, by simp, fun c r q => by simp at q; obtain ⟨rfl, _⟩ := q; exact hx⟩
theorem num_of : ∀ (k : Nat) (ds : List Nat), ds.length = k + 1 → (∀ c ∈ ds, 48 ≤ c ∧ c ≤ 57) → (∀ r, ds = 48 :: r → r = []) → ∃ n, ds = TL.numL n ∧ n < 10 ^ (k + 1) := by
  intro k
  induction k with
  | zero =>
    intro ds hl hd hh
    obtain ⟨c, rfl⟩ : ∃ c, ds = [c] := by
      match ds, hl with
      | [c], _ => exact ⟨c, rfl⟩
    have := hd c (by simp)
    exact ⟨c - 48, by rw [TL.numL_lt (by omega)]; congr 1; omega, by omega⟩
  | succ k ih =>
    intro ds hl hd hh
    obtain ⟨xs, c, rfl⟩ := rs_snoc (l := ds) (by intro z; simp [z] at hl)
    have lx : xs.length = k + 1 := by simp at hl; omega
    have hc := hd c (by simp)
    have h0 : ∀ r, xs ≠ 48 :: r := fun r z => by
      have := hh (r ++ [c]) (by rw [z]; rfl)
      simp at this
    obtain ⟨m, em, bm⟩ := ih xs lx (fun x hx => hd x (by simp [hx])) (fun r z => (h0 r z).elim)
    have m0 : 0 < m := by
      rcases Nat.eq_zero_or_pos m with z | z
      · subst z
        rw [TL.numL_lt (by decide)] at em
        exact (h0 [] em).elim
      · exact z
    refine ⟨10 * m + (c - 48), ?_, ?_⟩
    · rw [TL.numL_step (by omega), show (10 * m + (c - 48)) / 10 = m by omega, show 48 + (10 * m + (c - 48)) % 10 = c by omega, em]
    · rw [Nat.pow_succ]
      omega
theorem isn1 (h : LH) : oIs h .non .non = some (.bl true) := rfl
theorem isn2 (h : LH) (l : List D) : oIs h (.tup l) .non = some (.bl false) := rfl
theorem numL_pos (n : Nat) : 1 ≤ (TL.numL n).length := by
  cases q : TL.numL n with
  | nil => exact (TL.numL_ne n q).elim
  | cons a r => simp
theorem intL_pos (i : Int) : intL i ≠ [] := by
  obtain ⟨c, r, e, _⟩ := intL_head i
  rw [e]; simp
theorem okc_tl {z : Str} {l : List Nat} (hc : ∀ c ∈ l, c < 128) : okc ⟨l.toArray⟩ := fun c m => by
  have := hc c (by simpa [tl] using m)
  omega
theorem find_no {z : Str} {pre suf : List Nat} (e : tl z = pre ++ suf) (hm : 39 ∉ suf) : Txt.find3 z ⟨#[39]⟩ (pre.length : Int) = -1 := by
  have hl : z.length = pre.length + suf.length := by rw [len_tl, e]; simp
  rcases StrLaws.find3_spec z 39 (pre.length : Int) with ⟨h, _⟩ | ⟨k, h0, h1, h2, h3, h4⟩
  · exact h
  · exfalso
    have hf : PySem.fromIndex z.length (pre.length : Int) = pre.length := by
      unfold PySem.fromIndex
      (repeat' split) <;> omega
    rw [hf] at h1
    have gd : ∀ v, z.cps.getD v 0 = (tl z).getD v 0 := fun v => by
      unfold tl
      simp [Array.getD_eq_getD_getElem?, List.getD_eq_getElem?_getD]
    rw [gd, e, List.getD_eq_getElem?_getD, List.getElem?_append_right h1] at h3
    have := List.getElem?_eq_getElem (l := suf) (i := k - pre.length) (by omega)
    rw [this] at h3
    simp at h3
    exact hm (h3 ▸ List.getElem_mem _)
theorem app_end' (h : LH) (F : List D) (d : D) (hf : F.length ≤ 100000) : gAppend (h ++ [.lst F]) (.ref h.length) [d] = some (.non, h ++ [.lst (F ++ [d])]) := by
  unfold gAppend
  simp only [List.getElem?_append_right (Nat.le_refl _), Nat.sub_self, List.getElem?_cons_zero]
  rw [if_pos (decide_eq_true (by have := sizeLine_ge; omega)), List.set_append_right _ _ (Nat.le_refl _)]
  simp
theorem joinL_cons (a : List Nat) : ∀ xs : List (List Nat), xs ≠ [] → joinL (a :: xs) = a ++ 32 :: joinL xs
  | [], h => (h rfl).elim
  | x :: xs, _ => rfl
theorem gc_non {m : FM} {ds : List D} {h : LH} {F : List D} (e : m ds h = .ok .non (h ++ [.lst F])) : gcM m ds h = .ok .non h := by
  unfold gcM
  rw [e]
  have tk : (h ++ [LO.lst F]).take h.length = h := by simp
  simp only [tk, if_true]
  have fr : frzD h.length (h ++ [.lst F]) .non = some .non := rfl
  rw [fr]
theorem joinL_snoc (u : List Nat) : ∀ A : List (List Nat), joinL (A ++ [u] ++ [[]]) = joinL (A ++ [u]) ++ [32]
  | [] => by simp [joinL]
  | [a] => by simp [joinL]
  | a :: b :: A => by
    have := joinL_snoc u (b :: A)
    show a ++ 32 :: joinL (b :: A ++ [u] ++ [[]]) = a ++ 32 :: joinL (b :: A ++ [u]) ++ [32]
    rw [this]
    simp
theorem joinL_put (u v : List Nat) : ∀ A : List (List Nat), joinL (A ++ [u ++ v]) = joinL (A ++ [u]) ++ v
  | [] => rfl
  | [a] => by simp [joinL]
  | a :: b :: A => by
    have := joinL_put u v (b :: A)
    show a ++ 32 :: joinL (b :: A ++ [u ++ v]) = a ++ 32 :: joinL (b :: A ++ [u]) ++ v
    rw [this]
    simp
theorem oNe_bb {h : LH} (a b : Bool) : oNe h (.bl a) (.bl b) = some (.bl (a != b)) := by cases a <;> cases b <;> rfl
theorem cInt_b {h : LH} (b : Bool) : cInt h [.bl b] = some (.int (if b = true then 1 else 0)) := rfl
theorem last_ix {h : LH} {F : List D} {d : D} : oIx (h ++ [.lst (F ++ [d])]) (.ref h.length) (.int (-1)) = some d := by
  have : oIx (h ++ [.lst (F ++ [d])]) (.ref h.length) (.int (-1)) = atI (F ++ [d]) (-1) := by
    unfold oIx seqL
    simp
  rw [this]
  unfold atI ixN
  simp
  rw [if_pos (by omega)]
  rw [show (-1 + ((F.length : Int) + 1)).toNat = F.length by omega]
  simp
theorem cutS_of {z : Str} {lo hi : Option Int} {l : List Nat} (e : ((tl z).drop (HT.sIx z.length 0 lo)).take (HT.sIx z.length z.length hi - HT.sIx z.length 0 lo) = l) : cutS z lo hi = ⟨l.toArray⟩ := tl_inj e
theorem ocut {h : LH} {z : Str} {lo hi : Option Int} {l : List Nat} (hz : z.length ≤ 100000) (e : ((tl z).drop (HT.sIx z.length 0 lo)).take (HT.sIx z.length z.length hi - HT.sIx z.length 0 lo) = l) : oCut h (.str z) lo hi = some (.str ⟨l.toArray⟩) := by
  show (if small z.length = true then some (D.str (cutS z _ _)) else none) = _
  rw [if_pos (small_of (by omega)), cutS_of e]
theorem sIx_neg1 (n d : Nat) : HT.sIx n d (some (-1)) = n - 1 := by
  show (if (-1 : Int) < 0 then ((-1 : Int) + (n : Int)).toNat else min (-1 : Int).toNat n) = _
  rw [if_pos (by omega)]
  omega
theorem sIx_1 (n d : Nat) : HT.sIx n d (some 1) = min 1 n := HT.sIx_nat n d 1
theorem cut_first {h : LH} {z : Str} (hz : z.length ≤ 100000) : oCut h (.str z) none (some 1) = some (.str ⟨((tl z).take 1).toArray⟩) := by
  refine ocut hz ?_
  rw [HT.sIx_none, sIx_1, List.drop_zero]
  rw [len_tl]
  cases tl z <;> simp
theorem cut_tail {h : LH} {z : Str} {c : Nat} {r : List Nat} (hz : z.length ≤ 100000) (e : tl z = c :: r) : oCut h (.str z) (some 1) none = some (.str ⟨r.toArray⟩) := by
  refine ocut hz ?_
  rw [HT.sIx_none, sIx_1]
  have : z.length = r.length + 1 := by rw [len_tl, e]; rfl
  rw [this, e, show min 1 (r.length + 1) = 1 by omega]
  simp
theorem cut_last {h : LH} {z : Str} {c : Nat} {r : List Nat} (hz : z.length ≤ 100000) (e : tl z = r ++ [c]) : oCut h (.str z) (some (-1)) none = some (.str ⟨#[c]⟩) := by
  refine ocut (l := [c]) hz ?_
  rw [HT.sIx_none, sIx_neg1]
  have : z.length = r.length + 1 := by rw [len_tl, e]; simp
  rw [this, e]
  simp
theorem cut_in {h : LH} {z : Str} {a b : Nat} {m : List Nat} (hz : z.length ≤ 100000) (e : tl z = a :: m ++ [b]) : oCut h (.str z) (some 1) (some (-1)) = some (.str ⟨m.toArray⟩) := by
  refine ocut hz ?_
  rw [sIx_1, sIx_neg1]
  have : z.length = m.length + 2 := by rw [len_tl, e]; simp
  rw [this, e, show min 1 (m.length + 2) = 1 by omega]
  simp
theorem cut_in1 {h : LH} {z : Str} {a : Nat} (hz : z.length ≤ 100000) (e : tl z = [a]) : oCut h (.str z) (some 1) (some (-1)) = some (.str ⟨#[]⟩) := by
  refine ocut (l := []) hz ?_
  rw [sIx_1, sIx_neg1]
  have : z.length = 1 := by rw [len_tl, e]; rfl
  rw [this, e]
  rfl
theorem ix_last {h : LH} {z : Str} {c : Nat} {r : List Nat} (hz : z.length ≤ 100000) (e : tl z = r ++ [c]) : oIx h (.str z) (.int (-1)) = some (.str ⟨#[c]⟩) := by
  show (if small z.length = true then (atI (tl z) (-1)).map fun c => D.str ⟨#[c]⟩ else none) = _
  rw [if_pos (small_of (by omega)), e]
  unfold atI ixN
  rw [if_neg (by omega), if_pos (by simp; omega)]
  rw [show (-1 : Int) + (((r ++ [c]).length : Nat) : Int) = (r.length : Int) by simp; omega]
  simp
theorem cnt_count (c : Nat) : ∀ l : List Nat, PyProof.Rows.cnt c l = (l.count c : Int)
  | [] => rfl
  | n :: l => by
    rw [PyProof.Rows.cnt_cons, cnt_count c l, List.count_cons]
    by_cases h : n = c
    · subst h; simp; omega
    · simp [h]
theorem count_ok {h : LH} {z : Str} {c : Nat} : gCount h (.str z) [.str ⟨#[c]⟩] = some (.int ((tl z).count c : Nat), h) := by
  show some (D.int (Txt.count z ⟨#[c]⟩), h) = _
  rw [count_cnt, ← cnt_count]
  rfl
theorem bswap (a b : Str) : (a == b) = (b == a) := by
  rw [Bool.eq_iff_iff, beq_iff_eq, beq_iff_eq]
  exact ⟨Eq.symm, Eq.symm⟩
theorem one2 : small 1 = true := rfl
theorem one0 : small 0 = true := rfl
theorem one3 : small 3 = true := rfl
theorem str_eq {z : Str} {l : List Nat} : (z == (⟨l.toArray⟩ : Str)) = decide (tl z = l) := by
  rw [Bool.eq_iff_iff, beq_iff_eq, decide_eq_true_eq]
  exact ⟨fun h => by rw [h]; rfl, fun h => str_mk h⟩
theorem joinL_len : ∀ l : List (List Nat), l.length ≤ (joinL l).length + 1
  | [] => by simp [joinL]
  | [x] => by simp [joinL]
  | x :: y :: l => by
    have := joinL_len (y :: l)
    show (x :: y :: l).length ≤ (x ++ 32 :: joinL (y :: l)).length + 1
    simp at this ⊢
    omega
theorem joinL_sub {c : Nat} : ∀ {l : List (List Nat)} {x : List Nat}, x ∈ l → c ∈ x → c ∈ joinL l
  | [y], x, hx, hc => by
    simp at hx
    subst hx
    exact hc
  | y :: w :: l, x, hx, hc => by
    show c ∈ y ++ 32 :: joinL (w :: l)
    rcases List.mem_cons.mp hx with rfl | hx
    · simp [hc]
    · have := joinL_sub hx hc
      simp [this]
theorem bind_ex {α β : Type} (x : EX) (h : LH) (f : α → LH → R β) : (R.ex x h : R α).bind f = .ex x h := rfl
theorem q_ex {α : Type} (x : EX) (h : LH) (s : Sg) (f : α → LH → RQ) : (R.ex x h : R α).q s f = .ex x s h := rfl
theorem then_ex (x : EX) (s : Sg) (h : LH) (f : SM) : (RQ.ex x s h).then f = .ex x s h := rfl
theorem fin_ex (x : EX) (s : Sg) (h : LH) : fin_ (.ex x s h) = .ex x h := rfl
theorem try_ex {mt : Value → Option Bool} {i : Nat} {b : SM} {su : Addr → Value → Option Addr → SM} {s : Sg} {h : LH} {x : EX} {s1 : Sg} {h1 : LH} {r : RQ} (e : b s h = .ex x s1 h1) (hm : mt x.cls = some true)
    (hr : ∀ a dd, dd.isSome = x.fs.isSome → tryG i su x s1 h1 a dd = r) : sTry mt i b su s h = r := by
  have h0 : tryG i su x s1 h1 0 (x.fs.map fun _ => 0) = r := hr _ _ (by cases x.fs <;> rfl)
  unfold sTry
  rw [e]
  simp only
  rw [hm]
  simp only
  rw [if_pos, h0]
  intro a dd hd
  rw [hr a dd hd, h0]
theorem try_nx {mt : Value → Option Bool} {i : Nat} {b : SM} {su : Addr → Value → Option Addr → SM} {s : Sg} {h : LH} {s1 : Sg} {h1 : LH} (e : b s h = .nx s1 h1) : sTry mt i b su s h = .nx s1 h1 := by
  unfold sTry
  rw [e]
theorem mtC_self (C : Value) : mtC C C = some true := by unfold mtC; rw [if_pos rfl]
theorem tb_mem {L : List Value} {b : Bool} {v : Value} (h : v ∈ L) : tbL L b v = some b := by unfold tbL; rw [if_pos h]
theorem any_false {tb : Value → Option Bool} : ∀ {l : List Value} {cs : List Addr}, l = cs.map Value.ref → (∀ v ∈ l, tb v = some false) → anyT tb (cs.map fun a => D.st (.ref a)) = some false
  | _, [], _, _ => rfl
  | _, a :: cs, rfl, h => by
    have h1 := h (.ref a) (by simp)
    have ih := any_false (tb := tb) (cs := cs) rfl fun v m => h v (by simp at m ⊢; right; exact m)
    show (match (clsV (.ref a)).bind tb with
      | some true => some true
      | some false => anyT tb (cs.map fun a => D.st (.ref a))
      | none => none) = _
    rw [show (clsV (.ref a)).bind tb = some false from h1]
    exact ih
theorem s9 : small (0 + 1 + 1 + 1 + 1 + 1 + 1 + 1 + 1 + 1) = true := rfl
theorem s2' : small (0 + 1 + 1) = true := rfl
theorem s1' : small (0 + 1) = true := rfl
theorem line_of (d : D) : look1 [(.inr ("line" : Str), d)] (.inr ("line" : Str)) = some d := by
  unfold look1
  rw [List.find?_cons, decide_eq_true rfl]
  rfl
theorem sum_join : ∀ xs : List (List Nat), (xs.map List.length).sum ≤ (joinL xs).length
  | [] => Nat.le_refl _
  | [x] => by simp [joinL]
  | x :: y :: r => by
    have := sum_join (y :: r)
    show x.length + ((y :: r).map List.length).sum ≤ (x ++ 32 :: joinL (y :: r)).length
    rw [List.length_append, List.length_cons]
    omega
theorem join_ok {h : LH} {ys : List Str} (hl : (joinL (ys.map tl)).length ≤ 9000) (hn : ys.length ≤ 1000) : gJoin h (.str " ") [.lst (ys.map .str)] = some (.str ⟨(joinL (ys.map tl)).toArray⟩, h) := by
  have e1 : strsOf h (.lst (ys.map .str)) = some ys := mapM_asS ys
  have e2 : ys.map (·.length) = (ys.map tl).map List.length := by rw [List.map_map]; exact List.map_congr_left fun y _ => len_tl y
  have := sum_join (ys.map tl)
  unfold gJoin
  simp only [e1, Option.bind_some]
  rw [if_pos (decide_eq_true (by rw [e2]; show _ + ys.length * 1 ≤ _; omega))]
  congr 3
  exact tl_inj (by rw [TL.join_eq, tl_join32]; rfl)
theorem cut_to {h : LH} {z : Str} (hz : z.length ≤ 100000) (n : Nat) : oCut h (.str z) none (some (n : Int)) = some (.str ⟨((tl z).take n).toArray⟩) := by
  refine ocut hz ?_
  rw [HT.sIx_none, HT.sIx_nat, List.drop_zero, len_tl, Nat.sub_zero]
  by_cases c : n ≤ (tl z).length
  · rw [Nat.min_eq_left c]
  · rw [Nat.min_eq_right (by omega), List.take_of_length_le (Nat.le_refl _), List.take_of_length_le (by omega)]
theorem cut_from {h : LH} {z : Str} (hz : z.length ≤ 100000) (n : Nat) : oCut h (.str z) (some (n : Int)) none = some (.str ⟨((tl z).drop n).toArray⟩) := by
  refine ocut hz ?_
  rw [HT.sIx_none, HT.sIx_nat, len_tl]
  by_cases c : n ≤ (tl z).length
  · rw [Nat.min_eq_left c, List.take_of_length_le (by rw [List.length_drop]; omega)]
  · rw [Nat.min_eq_right (by omega), List.drop_of_length_le (Nat.le_refl _), List.drop_of_length_le (by omega)]
    simp
theorem cut_two {h : LH} {z : Str} (hz : z.length ≤ 100000) (n : Nat) : oCut h (.str z) (some (n : Int)) (some ((n : Int) + 2)) = some (.str ⟨(((tl z).drop n).take 2).toArray⟩) := by
  refine ocut hz ?_
  rw [show (n : Int) + 2 = ((n + 2 : Nat) : Int) by omega, HT.sIx_nat, HT.sIx_nat, len_tl]
  by_cases c : n + 2 ≤ (tl z).length
  · rw [Nat.min_eq_left c, Nat.min_eq_left (by omega), show n + 2 - n = 2 by omega]
  · rw [Nat.min_eq_right (a := n + 2) (by omega)]
    by_cases c2 : n ≤ (tl z).length
    · rw [Nat.min_eq_left c2, List.take_of_length_le (by rw [List.length_drop]; omega), List.take_of_length_le (by rw [List.length_drop]; omega)]
    · rw [Nat.min_eq_right (by omega), List.drop_of_length_le (Nat.le_refl _), List.drop_of_length_le (by omega)]
      simp
theorem pks0 : pkS ⟨#[]⟩ none none (-1) = ⟨#[]⟩ := by decide +kernel
theorem pks1 (a : Nat) : pkS ⟨#[a]⟩ none none (-1) = ⟨#[a]⟩ := by
  have : Builtin.Str.strSliceIndices none none (-1) 1 = [0] := by decide +kernel
  show (⟨((Builtin.Str.strSliceIndices none none (-1) 1).filterMap ((#[a] : Array Nat)[·]?)).toArray⟩ : Str) = _
  rw [this]
  rfl
theorem pks2 (a b : Nat) : pkS ⟨#[a, b]⟩ none none (-1) = ⟨#[b, a]⟩ := by
  have : Builtin.Str.strSliceIndices none none (-1) 2 = [1, 0] := by decide +kernel
  show (⟨((Builtin.Str.strSliceIndices none none (-1) 2).filterMap ((#[a, b] : Array Nat)[·]?)).toArray⟩ : Str) = _
  rw [this]
  rfl
theorem rev_two {l : List Nat} (hl : l.length ≤ 2) : oCut3 (.str ⟨l.toArray⟩) none none (some (-1)) = some (.str ⟨l.reverse.toArray⟩) := by
  have key : pkS ⟨l.toArray⟩ none none (-1) = ⟨l.reverse.toArray⟩ := by
    match l, hl with
    | [], _ => exact pks0
    | [a], _ => exact pks1 a
    | [a, b], _ => exact pks2 a b
  have lk : (⟨l.reverse.toArray⟩ : Str).length ≤ 2 := by rw [len_tl]; show l.reverse.length ≤ 2; rw [List.length_reverse]; exact hl
  show (if decide ((-1 : Int) ≠ 0 ∧ (-1 : Int) ≠ 1 ∧ (pkS ⟨l.toArray⟩ none none (-1)).length ≤ sizeLine) = true then some (D.str (pkS ⟨l.toArray⟩ none none (-1))) else none) = _
  rw [key, if_pos (decide_eq_true ⟨by decide, by decide, by have := sizeLine_ge; omega⟩)]
theorem cat3 {h : LH} {a b c : List Nat} (hl : a.length + b.length + c.length ≤ 100000) : ∃ y : Str, tl y = a ++ b ++ c ∧ oAdd h (.str ⟨a.toArray⟩) (.str ⟨b.toArray⟩) = some (.str (⟨a.toArray⟩ ++ ⟨b.toArray⟩)) ∧ oAdd h (.str (⟨a.toArray⟩ ++ ⟨b.toArray⟩)) (.str ⟨c.toArray⟩) = some (.str y) := by
  have la : (⟨a.toArray⟩ : Str).length = a.length := by rw [len_tl]; rfl
  have lb : (⟨b.toArray⟩ : Str).length = b.length := by rw [len_tl]; rfl
  have lc : (⟨c.toArray⟩ : Str).length = c.length := by rw [len_tl]; rfl
  refine ⟨⟨a.toArray⟩ ++ ⟨b.toArray⟩ ++ ⟨c.toArray⟩, by rw [tl_app, tl_app]; rfl, ?_, ?_⟩
  · rw [oAdd_ss, la, lb, if_pos (small_of (by omega))]
  · rw [oAdd_ss, len_app, la, lb, lc, if_pos (small_of (by omega))]
theorem cat2 {h : LH} {a c : List Nat} (hl : a.length + c.length ≤ 100000) : ∃ y : Str, tl y = a ++ c ∧ oAdd h (.str ⟨a.toArray⟩) (.str ⟨c.toArray⟩) = some (.str y) := by
  have la : (⟨a.toArray⟩ : Str).length = a.length := by rw [len_tl]; rfl
  have lc : (⟨c.toArray⟩ : Str).length = c.length := by rw [len_tl]; rfl
  refine ⟨⟨a.toArray⟩ ++ ⟨c.toArray⟩, by rw [tl_app]; rfl, ?_⟩
  rw [oAdd_ss, la, lc, if_pos (small_of (by omega))]
theorem foldl_tl : ∀ (l : List (Array Nat)) (a : Array Nat), (l.foldl (· ++ ·) a).toList = a.toList ++ (l.map Array.toList).flatten
  | [], a => by simp
  | x :: l, a => by rw [List.foldl_cons, foldl_tl l]; simp
theorem tl_rep (c n : Nat) (hn : 2 ≤ n) : tl (sRep ⟨#[c]⟩ n) = List.replicate n c := by
  unfold sRep
  rw [if_neg (by omega), if_neg (by
    rw [show ((⟨#[c]⟩ : Str).length == 0) = false from rfl, Bool.or_false, beq_iff_eq]
    omega)]
  show ((List.replicate (n : Int).toNat (#[c] : Array Nat)).foldl (· ++ ·) #[]).toList = _
  rw [foldl_tl, Int.toNat_natCast, List.map_replicate]
  clear hn
  induction n with
  | zero => rfl
  | succ n ih => rw [List.replicate_succ, List.replicate_succ, List.flatten_cons]; simp at ih ⊢
theorem rept_ok {h : LH} {c : Nat} {z : Str} (n : Nat) (e : z = ⟨#[c]⟩) (h1 : 2 ≤ n) (h2 : n ≤ 10000) : ∃ y, oMul h (.str z) (.int n) = some (.str y) ∧ tl y = List.replicate n c := by
  subst e
  have t := tl_rep c n h1
  have ly : (sRep ⟨#[c]⟩ (n : Int)).length = n := by rw [len_tl, t]; simp
  have lz : (⟨#[c]⟩ : Str).length = 1 := rfl
  refine ⟨sRep ⟨#[c]⟩ n, ?_, t⟩
  have := sizeLine_ge
  rw [oMul_si, if_pos (decide_eq_true ⟨by omega, by omega, by rw [lz]; omega, by rw [lz]; omega, by rw [ly]; omega⟩)]
-- LACKS mc rep_ok
theorem seq_ref {h : LH} {n : Nat} {l : List D} (e : h[n]? = some (.lst l)) : seqL h (.ref n) = some l := by
  unfold seqL
  simp only [e]
theorem cat_ref {h : LH} {n : Nat} {l : List D} (e : h[n]? = some (.lst l)) : catL h (.ref n) = some l := by
  unfold catL
  simp only [e]
theorem add_ref {h : LH} {n : Nat} {l j : List D} (e : h[n]? = some (.lst l)) (hs : l.length + j.length ≤ 1000000) : oAdd h (.ref n) (.lst j) = some (.lst (l ++ j)) := by
  show ((catL h (.ref n)).bind fun i => (catL h (.lst j)).bind fun j => if small (i.length + j.length) = true then some (D.lst (i ++ j)) else none) = _
  rw [cat_ref e]
  show (if small (l.length + j.length) = true then some (D.lst (l ++ j)) else none) = _
  rw [if_pos (small_of hs)]
theorem app_ref {h : LH} {n : Nat} {l : List D} (d : D) (e : h[n]? = some (.lst l)) (hs : l.length ≤ 1000) : gAppend h (.ref n) [d] = some (.non, h.set n (.lst (l ++ [d]))) := by
  unfold gAppend
  simp only [e]
  rw [if_pos (decide_eq_true (by have := sizeLine_ge; omega))]
theorem cut_ref {h : LH} {n : Nat} {l : List D} (e : h[n]? = some (.lst l)) (lo hi : Option Int) : oCut h (.ref n) lo hi = some (.lst (cut l lo hi)) := by
  show (seqL h (.ref n)).map (fun l => D.lst (cut l lo hi)) = _
  rw [seq_ref e]
  rfl
theorem ty_ref {h : LH} {n : Nat} {l : List D} (e : h[n]? = some (.lst l)) : tyD h (.ref n) = some "list" := by
  unfold tyD
  simp only [e]
theorem ref_none {h : LH} {n i : Nat} {l : List D} {s : Sg} {t : BM} {e : EM} (hn : h[n]? = some (.lst l)) (ht : ∀ d ∈ l, t ((s.set i none).set i (some d)) h = .ok false h) :
    ∀ (fuel k : Nat), l.length - k < fuel → lcS [i] (gNm i) t e s fuel (refS n) k [] h = .ok [] h
  | 0, k, hk => by omega
  | fuel + 1, k, hk => by
    unfold lcS
    have r : refS n h k = some l[k]? := by unfold refS; simp only [hn]
    rw [r]
    cases q : l[k]? with
    | none => rfl
    | some d =>
      have m : d ∈ l := List.mem_of_getElem? q
      have hl := (List.getElem?_eq_some_iff.mp q).1
      have := ht d m
      simp only [gNm_ap, wipeS, this, bindN_ok, Bool.false_eq_true, if_false]
      exact ref_none hn ht fuel (k + 1) (by omega)
theorem push_at (h : LH) (x : LO) : (h ++ [x])[h.length]? = some x := by simp
end DN
namespace Wk00
open PySem PySem.Spec PyProof.Rows L2 DN
def topS (i : Nat) : Stmt := PySem.Challenge.pw_everyway_k00_told_things_there_and_back.main.body.getD i (.Pass ⟨0, 0, 0, 0⟩)
abbrev s_is_plain_text : Stmt := topS 12
abbrev s_is_leaf : Stmt := topS 13
abbrev s_is_told : Stmt := topS 14
abbrev s_leaf_text : Stmt := topS 15
abbrev s_show_told : Stmt := topS 16
abbrev s_number_told : Stmt := topS 17
abbrev s_end_of_leaf : Stmt := topS 18
abbrev s_leaf_told : Stmt := topS 19
abbrev s_leaf_at : Stmt := topS 20
abbrev s_tree_told : Stmt := topS 21
abbrev s_read_told : Stmt := topS 22
abbrev s__law_deck : Stmt := topS 24
abbrev s__law_draw : Stmt := topS 25
abbrev s__law_pick : Stmt := topS 26
abbrev s__law_text : Stmt := topS 27
abbrev s__law_leaf : Stmt := topS 28
abbrev s__law_thing : Stmt := topS 29
abbrev s__law_any_thing : Stmt := topS 30
abbrev s__law_words : Stmt := topS 31
abbrev s__law_is_told : Stmt := topS 32
abbrev s__law_read : Stmt := topS 33
abbrev s__law_near : Stmt := topS 34
abbrev s__law_heard : Stmt := topS 35
abbrev s__law_bent : Stmt := topS 36
abbrev s__law_is_read_right : Stmt := topS 37
abbrev s_law : Stmt := topS 38
abbrev k_DEEPEST : D := .int 200
abbrev k_FIGURES : D := .str "0123456789"
abbrev k_FIRST_SIGN : D := .int 32
abbrev k_GREATEST : D := .int 10000000000000000000000000000000000000000
abbrev k_LAST_SIGN : D := .int 126
abbrev k_MOST_FIGURES : D := .int 40
abbrev k_QUOTE : D := .str "'"
abbrev k_SIGNS : List (Key × D) := [(.inr "-", .non), (.inr "+", .bl true), (.inr "!", .bl false)]
structure Cl where
  NoText : Addr
  SoError : Addr
structure Tops (P : Program) (w : World) (K : PySem.W.Frag) (mg : Str → Option Value) (cl : Cl) : Prop where
  d_is_plain_text : DefAt K mg "is_plain_text" s_is_plain_text
  d_is_leaf : DefAt K mg "is_leaf" s_is_leaf
  d_is_told : DefAt K mg "is_told" s_is_told
  d_leaf_text : DefAt K mg "leaf_text" s_leaf_text
  d_show_told : DefAt K mg "show_told" s_show_told
  d_number_told : DefAt K mg "number_told" s_number_told
  d_end_of_leaf : DefAt K mg "end_of_leaf" s_end_of_leaf
  d_leaf_told : DefAt K mg "leaf_told" s_leaf_told
  d_leaf_at : DefAt K mg "leaf_at" s_leaf_at
  d_tree_told : DefAt K mg "tree_told" s_tree_told
  d_read_told : DefAt K mg "read_told" s_read_told
  d__law_deck : DefAt K mg "_law_deck" s__law_deck
  d__law_draw : DefAt K mg "_law_draw" s__law_draw
  d__law_pick : DefAt K mg "_law_pick" s__law_pick
  d__law_text : DefAt K mg "_law_text" s__law_text
  d__law_leaf : DefAt K mg "_law_leaf" s__law_leaf
  d__law_thing : DefAt K mg "_law_thing" s__law_thing
  d__law_any_thing : DefAt K mg "_law_any_thing" s__law_any_thing
  d__law_words : DefAt K mg "_law_words" s__law_words
  d__law_is_told : DefAt K mg "_law_is_told" s__law_is_told
  d__law_read : DefAt K mg "_law_read" s__law_read
  d__law_near : DefAt K mg "_law_near" s__law_near
  d__law_heard : DefAt K mg "_law_heard" s__law_heard
  d__law_bent : DefAt K mg "_law_bent" s__law_bent
  d__law_is_read_right : DefAt K mg "_law_is_read_right" s__law_is_read_right
  d_law : DefAt K mg "law" s_law
  n_abs : mg "abs" = none
  n_all : mg "all" = none
  n_bool : mg "bool" = none
  n_int : mg "int" = none
  n_isinstance : mg "isinstance" = none
  n_len : mg "len" = none
  n_list : mg "list" = none
  n_max : mg "max" = none
  n_ord : mg "ord" = none
  n_range : mg "range" = none
  n_repr : mg "repr" = none
  n_str : mg "str" = none
  n_tuple : mg "tuple" = none
  k_SIGNS : ∃ a vs, mg "SIGNS" = some (.ref a) ∧ StK P w K a vs ∧ ∀ u, RKs K u vs k_SIGNS
  k_DEEPEST : ∃ u, mg "DEEPEST" = some u ∧ RelV (.int 200) u
  k_FIGURES : ∃ u, mg "FIGURES" = some u ∧ RelV (.str "0123456789") u
  k_FIRST_SIGN : ∃ u, mg "FIRST_SIGN" = some u ∧ RelV (.int 32) u
  k_GREATEST : ∃ u, mg "GREATEST" = some u ∧ RelV (.int 10000000000000000000000000000000000000000) u
  k_LAST_SIGN : ∃ u, mg "LAST_SIGN" = some u ∧ RelV (.int 126) u
  k_MOST_FIGURES : ∃ u, mg "MOST_FIGURES" = some u ∧ RelV (.int 40) u
  k_QUOTE : ∃ u, mg "QUOTE" = some u ∧ RelV (.str "'") u
  g_NoText : mg "NoText" = some (.ref cl.NoText)
  g_SoError : mg "SoError" = some (.ref cl.SoError)
  r_NoText : ∀ base k, RaiseAt P w K mg base (k + 1) "NoText" "line" cl.NoText
  m_NoText : PySem.W.exmOne K (.ref cl.NoText) (.ref cl.NoText) = some true
  f_NoText : XfC K cl.NoText
  fn_NoText_line : PySem.W.findIn K (.ref cl.NoText) "line" = some none
  x_NoText : ExcK K cl.NoText
  i_0 : ∀ c ∈ ([(.ref cl.SoError)] : List Value), PySem.W.kitOne K (.ref cl.NoText) c = some true
section
variable {P : Program} {w : World} {K : PySem.W.Frag} {mg : Str → Option Value} {base : Heap} {k : Nat} {cl : Cl}
theorem sc_is_plain_text : FnScope ["thing", "sign"] ["thing"] (defScope s_is_plain_text) := ⟨rfl, rfl, rfl, by decide +kernel, rfl, by decide +kernel, by decide +kernel⟩
def b_is_plain_text : FM := fnM 2 ((sSeq (sIf (mNotT (mTest (mCall cIsi (aCons (mVar 0) (aCons (mC (.st (.ty "str"))) aNil)))))
  (sRet (mC (.bl false)))
  sNil)
  (sRet (mCall cAll (aCons (mLc 1000000 [1] (iStrV (mVar 0)) (gNm 1) bYes (mAndV (mChain oLe oLe (mC k_FIRST_SIGN) (mCall cOrd (aCons (mVar 1) aNil)) (mC k_LAST_SIGN)) (mOp oNe (mVar 1) (mC k_QUOTE)))) aNil)))))
theorem ok_is_plain_text (T : Tops P w K mg cl) : CalP P w K mg base (k + 1) "is_plain_text" s_is_plain_text ["thing"] (b_is_plain_text) := DefAt.cal (N := ["thing", "sign"]) T.d_is_plain_text sc_is_plain_text (m := fun _ _ => .no) fun f cdv A outer s H E hr =>
    have tk : Takes (cxOf (L2.CX P w) P w K mg base ["thing", "sign"] "is_plain_text" (defScope s_is_plain_text) f cdv A outer s H E) (fun c d _ H => E c d H) := takes_of rfl rfl rfl rfl
    have pass_ : PassesOwn (model P w) (A.deeper (envOfC "is_plain_text" (defScope s_is_plain_text) s.heap.objs.size f cdv)) (envOfC "is_plain_text" (defScope s_is_plain_text) s.heap.objs.size f cdv) (cxOf (L2.CX P w) P w K mg base ["thing", "sign"] "is_plain_text" (defScope s_is_plain_text) f cdv A outer s H E).xe := passes_of rfl
    (ds_cons (ds_if (dt_not (dt_val (d_callB oc_isi (by rfl) T.n_isinstance (by decide +kernel) (da_cons (d_var (pv 0)) (da_cons (d_ty "str" (by rfl) T.n_str (by decide +kernel)) da_nil)))))
      (ds_one (ds_ret d_bl))
      ds_nil)
      (ds_one (ds_ret (d_callB (oc_all rfl) (by rfl) T.n_all (by decide +kernel) (da_cons (d_lc (own := [("sign", 1)]) fin_lst 1000000 rfl sc_is_plain_text.nd (di_str (d_var (pv 0))) (blkOk_by (own := [("sign", 1)]) (N := ["thing", "sign"]) (sc := defScope s_is_plain_text) (by decide +kernel)) (fun _ _ _ _ _ => (dg_name (i := 1) sc_is_plain_text.nd rfl (Or.inl rfl) (hv := by decide))) (fun _ _ _ _ _ => dts_nil) (fun _ _ _ _ _ => (d_and (d_chain od_le od_le (d_glob (by rfl) T.k_FIRST_SIGN) (d_callB oc_ord (by rfl) T.n_ord (by decide +kernel) (da_cons (d_var (pv 1)) da_nil)) (d_glob (by rfl) T.k_LAST_SIGN)) (d_one (d_cmp (od_ne hr.u64) (d_var (pv 1)) (d_glob (by rfl) T.k_QUOTE) (nomark _)))))) da_nil)))))
theorem sc_is_leaf : FnScope ["thing"] ["thing"] (defScope s_is_leaf) := ⟨rfl, rfl, rfl, by decide +kernel, rfl, by decide +kernel, by decide +kernel⟩
def b_is_leaf (c_is_plain_text : FM) : FM := fnM 1 ((sSeq (sIf (mOrT (mTest (mOp oIs (mVar 0) (mC .non))) (mOrT (mTest (mCall cIsi (aCons (mVar 0) (aCons (mC (.st (.ty "bool"))) aNil)))) (mTest (mFn 1 c_is_plain_text [] (aCons (mVar 0) aNil)))))
  (sRet (mC (.bl true)))
  sNil)
  (sRet (mAndV (mCall cIsi (aCons (mVar 0) (aCons (mC (.st (.ty "int"))) aNil))) (mOp oLt (mCall cAbs (aCons (mVar 0) aNil)) (mC k_GREATEST))))))
theorem ok_is_leaf {c_is_plain_text : FM} (C_is_plain_text : CalP P w K mg base k "is_plain_text" s_is_plain_text ["thing"] c_is_plain_text) (T : Tops P w K mg cl) : CalP P w K mg base (k + 1) "is_leaf" s_is_leaf ["thing"] (b_is_leaf c_is_plain_text) := DefAt.cal (N := ["thing"]) T.d_is_leaf sc_is_leaf (m := fun _ _ => .no) fun f cdv A outer s H E hr =>
    have tk : Takes (cxOf (L2.CX P w) P w K mg base ["thing"] "is_leaf" (defScope s_is_leaf) f cdv A outer s H E) (fun c d _ H => E c d H) := takes_of rfl rfl rfl rfl
    have pass_ : PassesOwn (model P w) (A.deeper (envOfC "is_leaf" (defScope s_is_leaf) s.heap.objs.size f cdv)) (envOfC "is_leaf" (defScope s_is_leaf) s.heap.objs.size f cdv) (cxOf (L2.CX P w) P w K mg base ["thing"] "is_leaf" (defScope s_is_leaf) f cdv A outer s H E).xe := passes_of rfl
    (ds_cons (ds_if (dt_w (dw_or (dt_cmp od_is (d_var (pv 0)) d_non (nomark _)) (dw_or (dt_val (d_callB oc_isi (by rfl) T.n_isinstance (by decide +kernel) (da_cons (d_var (pv 0)) (da_cons (d_ty "bool" (by rfl) T.n_bool (by decide +kernel)) da_nil)))) (dw_or1 (dt_val (d_c1 (ps := ["thing"]) C_is_plain_text hr tk (by rfl) (fun _ _ _ _ _ _ us hl => match us, hl with | [_], _ => rfl) (da_cons (d_var (pv 0)) da_nil)))))))
      (ds_one (ds_ret d_bl))
      ds_nil)
      (ds_one (ds_ret (d_and (d_callB oc_isi (by rfl) T.n_isinstance (by decide +kernel) (da_cons (d_var (pv 0)) (da_cons (d_ty "int" (by rfl) T.n_int (by decide +kernel)) da_nil))) (d_one (d_cmp od_lt (d_callB oc_abs (by rfl) T.n_abs (by decide +kernel) (da_cons (d_var (pv 0)) da_nil)) (d_glob (by rfl) T.k_GREATEST) (nomark _)))))))
theorem sc_is_told : FnScope ["thing", "waiting", "here", "within", "part"] ["thing"] (defScope s_is_told) := ⟨rfl, rfl, rfl, by decide +kernel, rfl, by decide +kernel, by decide +kernel⟩
def b_is_told (c_is_leaf : FM) : FM := fnM 5 ((sSeq (sSet 1 (mNew (aCons (mTup (aCons (mVar 0) (aCons (mC (.int 0)) aNil))) aNil)))
  (sSeq (whileM 1000000 (mTest (mOp oNe (mVar 1) (mLst aNil)))
  (sSeq (sAsg (mMeth "list" gPop (mVar 1) aNil) (gTp 2 (gCn (gNm 2) (gCn (gNm 3) gNl))))
  (sIf (mAndT (mTest (mCall cIsi (aCons (mVar 2) (aCons (mC (.st (.ty "tuple"))) aNil)))) (mTest (mOp oLt (mVar 3) (mC k_DEEPEST))))
  (sExpr (mMeth "list" gExtend (mVar 1) (aCons (mLc 1000000 [4] (iTupV (mVar 2)) (gNm 4) bYes (mTup (aCons (mVar 4) (aCons (mOp oAdd (mVar 3) (mC (.int 1))) aNil)))) aNil)))
  (sIf (mNotT (mTest (mFn 1 c_is_leaf [] (aCons (mVar 2) aNil))))
  (sRet (mC (.bl false)))
  sNil))))
  (sRet (mC (.bl true))))))
theorem ok_is_told {c_is_leaf : FM} (C_is_leaf : CalP P w K mg base k "is_leaf" s_is_leaf ["thing"] c_is_leaf) (T : Tops P w K mg cl) : CalP P w K mg base (k + 1) "is_told" s_is_told ["thing"] (b_is_told c_is_leaf) := DefAt.cal (N := ["thing", "waiting", "here", "within", "part"]) T.d_is_told sc_is_told (m := fun _ _ => .no) fun f cdv A outer s H E hr =>
    have tk : Takes (cxOf (L2.CX P w) P w K mg base ["thing", "waiting", "here", "within", "part"] "is_told" (defScope s_is_told) f cdv A outer s H E) (fun c d _ H => E c d H) := takes_of rfl rfl rfl rfl
    have pass_ : PassesOwn (model P w) (A.deeper (envOfC "is_told" (defScope s_is_told) s.heap.objs.size f cdv)) (envOfC "is_told" (defScope s_is_told) s.heap.objs.size f cdv) (cxOf (L2.CX P w) P w K mg base ["thing", "waiting", "here", "within", "part"] "is_told" (defScope s_is_told) f cdv A outer s H E).xe := passes_of rfl
    (ds_cons (ds_set (i := 1) sc_is_told.nd rfl (.inl rfl) (d_new (da_cons (d_tup (da_cons (d_var (pv 0)) (da_cons d_int da_nil))) da_nil)))
      (ds_cons (ds_while 1000000 pass_ (dt_cmp (od_ne hr.u64) (d_var (pv 1)) (d_lst da_nil) (nomark _))
      (ds_cons (ds_asg (vs := [2, 3]) (d_meth0 PySem.F.plainAttrs_list PySem.F.slot_list_pop PySem.F.type_list_pop mt_gPop (.inr (.inl rfl)) (d_var (pv 1))) (dg_tup rfl (dgs_cons (dg_name (i := 2) sc_is_told.nd rfl (Or.inl rfl) (hv := by decide)) (dgs_cons (dg_name (i := 3) sc_is_told.nd rfl (Or.inr rfl) (hv := by decide)) dgs_nil))))
      (ds_one (ds_if (dt_w (dw_and (dt_val (d_callB oc_isi (by rfl) T.n_isinstance (by decide +kernel) (da_cons (d_var (pv 2)) (da_cons (d_ty "tuple" (by rfl) T.n_tuple (by decide +kernel)) da_nil)))) (dw_and1 (dt_cmp od_lt (d_var (pv 3)) (d_glob (by rfl) T.k_DEEPEST) (nomark _)))))
      (ds_one (ds_expr (d_meth PySem.F.plainAttrs_list PySem.F.slot_list_extend PySem.F.type_list_extend mt_gExtend (.inr (.inl rfl)) (d_var (pv 1)) (da_cons (d_lc (own := [("part", 4)]) fin_lst 1000000 rfl sc_is_told.nd (di_tup (d_var (pv 2))) (blkOk_by (own := [("part", 4)]) (N := ["thing", "waiting", "here", "within", "part"]) (sc := defScope s_is_told) (by decide +kernel)) (fun _ _ _ _ _ => (dg_name (i := 4) sc_is_told.nd rfl (Or.inl rfl) (hv := by decide))) (fun _ _ _ _ _ => dts_nil) (fun _ _ _ _ _ => (d_tup (da_cons (d_var (pv 4)) (da_cons (d_op od_add (d_var (pv 3)) d_int) da_nil))))) da_nil))))
      (ds_one (ds_if (dt_not (dt_val (d_c1 (ps := ["thing"]) C_is_leaf hr tk (by rfl) (fun _ _ _ _ _ _ us hl => match us, hl with | [_], _ => rfl) (da_cons (d_var (pv 2)) da_nil))))
      (ds_one (ds_ret d_bl))
      ds_nil))))))
      (ds_one (ds_ret d_bl))))
theorem sc_leaf_text : FnScope ["thing"] ["thing"] (defScope s_leaf_text) := ⟨rfl, rfl, rfl, by decide +kernel, rfl, by decide +kernel, by decide +kernel⟩
def b_leaf_text : FM := fnM 1 ((sSeq (sIf (mTest (mCall cIsi (aCons (mVar 0) (aCons (mC (.st (.ty "str"))) aNil))))
  (sRet (mOp oAdd (mOp oAdd (mC k_QUOTE) (mVar 0)) (mC k_QUOTE)))
  sNil)
  (sSeq (sIf (mTest (mOp oIs (mVar 0) (mC .non)))
  (sRet (mC (.str "-")))
  sNil)
  (sSeq (sIf (mTest (mCall cIsi (aCons (mVar 0) (aCons (mC (.st (.ty "bool"))) aNil))))
  (sRet (mIf (mTest (mVar 0)) (mC (.str "+")) (mC (.str "!"))))
  sNil)
  (sRet (mCall cStr (aCons (mVar 0) aNil)))))))
theorem ok_leaf_text (T : Tops P w K mg cl) : CalP P w K mg base (k + 1) "leaf_text" s_leaf_text ["thing"] (b_leaf_text) := DefAt.cal (N := ["thing"]) T.d_leaf_text sc_leaf_text (m := fun _ _ => .no) fun f cdv A outer s H E hr =>
    have tk : Takes (cxOf (L2.CX P w) P w K mg base ["thing"] "leaf_text" (defScope s_leaf_text) f cdv A outer s H E) (fun c d _ H => E c d H) := takes_of rfl rfl rfl rfl
    have pass_ : PassesOwn (model P w) (A.deeper (envOfC "leaf_text" (defScope s_leaf_text) s.heap.objs.size f cdv)) (envOfC "leaf_text" (defScope s_leaf_text) s.heap.objs.size f cdv) (cxOf (L2.CX P w) P w K mg base ["thing"] "leaf_text" (defScope s_leaf_text) f cdv A outer s H E).xe := passes_of rfl
    (ds_cons (ds_if (dt_val (d_callB oc_isi (by rfl) T.n_isinstance (by decide +kernel) (da_cons (d_var (pv 0)) (da_cons (d_ty "str" (by rfl) T.n_str (by decide +kernel)) da_nil))))
      (ds_one (ds_ret (d_op od_add (d_op od_add (d_glob (by rfl) T.k_QUOTE) (d_var (pv 0))) (d_glob (by rfl) T.k_QUOTE))))
      ds_nil)
      (ds_cons (ds_if (dt_cmp od_is (d_var (pv 0)) d_non (nomark _))
      (ds_one (ds_ret d_str))
      ds_nil)
      (ds_cons (ds_if (dt_val (d_callB oc_isi (by rfl) T.n_isinstance (by decide +kernel) (da_cons (d_var (pv 0)) (da_cons (d_ty "bool" (by rfl) T.n_bool (by decide +kernel)) da_nil))))
      (ds_one (ds_ret (d_if (dt_val (d_var (pv 0))) d_str d_str)))
      ds_nil)
      (ds_one (ds_ret (d_callTy oc_str (by rfl) T.n_str (by decide +kernel) (da_cons (d_var (pv 0)) da_nil)))))))
theorem sc_show_told : FnScope ["thing", "found", "waiting", "here", "is_sign", "at"] ["thing"] (defScope s_show_told) := ⟨rfl, rfl, rfl, by decide +kernel, rfl, by decide +kernel, by decide +kernel⟩
def b_show_told (c_leaf_text : FM) : FM := fnM 6 ((sSeq (sPar 1 2 (aCons (mNew aNil) (aCons (mNew (aCons (mTup (aCons (mVar 0) (aCons (mC (.bl false)) aNil))) aNil)) aNil)))
  (sSeq (whileM 1000000 (mTest (mOp oNe (mVar 2) (mLst aNil)))
  (sSeq (sAsg (mMeth "list" gPop (mVar 2) aNil) (gTp 2 (gCn (gNm 3) (gCn (gNm 4) gNl))))
  (sIf (mTest (mVar 4))
  (sExpr (mMeth "list" gAppend (mVar 1) (aCons (mVar 3) aNil)))
  (sIf (mTest (mCall cIsi (aCons (mVar 3) (aCons (mC (.st (.ty "tuple"))) aNil))))
  (sSeq (sExpr (mMeth "list" gAppend (mVar 1) (aCons (mC (.str "(")) aNil)))
  (sSeq (sExpr (mMeth "list" gAppend (mVar 2) (aCons (mTup (aCons (mC (.str ")")) (aCons (mC (.bl true)) aNil))) aNil)))
  (sFor 1000000 (iRngD (aCons (mOp oSub (mCall cLen (aCons (mVar 3) aNil)) (mC (.int 1))) (aCons (mNeg (mC (.int 1))) (aCons (mNeg (mC (.int 1))) aNil)))) (gNm 5)
  (sSeq (sExpr (mMeth "list" gAppend (mVar 2) (aCons (mTup (aCons (mOp oIx (mVar 3) (mVar 5)) (aCons (mC (.bl false)) aNil))) aNil)))
  (sIf (mTest (mOp oGt (mVar 5) (mC (.int 0))))
  (sExpr (mMeth "list" gAppend (mVar 2) (aCons (mTup (aCons (mC (.str " ")) (aCons (mC (.bl true)) aNil))) aNil)))
  sNil)))))
  (sExpr (mMeth "list" gAppend (mVar 1) (aCons (mFn 1 c_leaf_text [] (aCons (mVar 3) aNil)) aNil)))))))
  (sRet (mMeth "str" gJoin (mC (.str "")) (aCons (mVar 1) aNil))))))
theorem ok_show_told {c_leaf_text : FM} (C_leaf_text : CalP P w K mg base k "leaf_text" s_leaf_text ["thing"] c_leaf_text) (T : Tops P w K mg cl) : CalP P w K mg base (k + 1) "show_told" s_show_told ["thing"] (b_show_told c_leaf_text) := DefAt.cal (N := ["thing", "found", "waiting", "here", "is_sign", "at"]) T.d_show_told sc_show_told (m := fun _ _ => .no) fun f cdv A outer s H E hr =>
    have tk : Takes (cxOf (L2.CX P w) P w K mg base ["thing", "found", "waiting", "here", "is_sign", "at"] "show_told" (defScope s_show_told) f cdv A outer s H E) (fun c d _ H => E c d H) := takes_of rfl rfl rfl rfl
    have pass_ : PassesOwn (model P w) (A.deeper (envOfC "show_told" (defScope s_show_told) s.heap.objs.size f cdv)) (envOfC "show_told" (defScope s_show_told) s.heap.objs.size f cdv) (cxOf (L2.CX P w) P w K mg base ["thing", "found", "waiting", "here", "is_sign", "at"] "show_told" (defScope s_show_told) f cdv A outer s H E).xe := passes_of rfl
    (ds_cons (ds_par (i := 1) (j := 2) rfl sc_show_told.nd rfl rfl (by decide) rfl rfl (da_cons (d_new da_nil) (da_cons (d_new (da_cons (d_tup (da_cons (d_var (pv 0)) (da_cons d_bl da_nil))) da_nil)) da_nil)) rfl)
      (ds_cons (ds_while 1000000 pass_ (dt_cmp (od_ne hr.u64) (d_var (pv 2)) (d_lst da_nil) (nomark _))
      (ds_cons (ds_asg (vs := [3, 4]) (d_meth0 PySem.F.plainAttrs_list PySem.F.slot_list_pop PySem.F.type_list_pop mt_gPop (.inr (.inl rfl)) (d_var (pv 2))) (dg_tup rfl (dgs_cons (dg_name (i := 3) sc_show_told.nd rfl (Or.inl rfl) (hv := by decide)) (dgs_cons (dg_name (i := 4) sc_show_told.nd rfl (Or.inl rfl) (hv := by decide)) dgs_nil))))
      (ds_one (ds_if (dt_val (d_var (pv 4)))
      (ds_one (ds_expr (d_meth PySem.F.plainAttrs_list PySem.F.slot_list_append PySem.F.type_list_append mt_gAppend (.inr (.inl rfl)) (d_var (pv 1)) (da_cons (d_var (pv 3)) da_nil))))
      (ds_one (ds_if (dt_val (d_callB oc_isi (by rfl) T.n_isinstance (by decide +kernel) (da_cons (d_var (pv 3)) (da_cons (d_ty "tuple" (by rfl) T.n_tuple (by decide +kernel)) da_nil))))
      (ds_cons (ds_expr (d_meth PySem.F.plainAttrs_list PySem.F.slot_list_append PySem.F.type_list_append mt_gAppend (.inr (.inl rfl)) (d_var (pv 1)) (da_cons d_str da_nil)))
      (ds_cons (ds_expr (d_meth PySem.F.plainAttrs_list PySem.F.slot_list_append PySem.F.type_list_append mt_gAppend (.inr (.inl rfl)) (d_var (pv 2)) (da_cons (d_tup (da_cons d_str (da_cons d_bl da_nil))) da_nil)))
      (ds_one (ds_for (vs := [5]) 1000000 pass_ rfl (di_rngD (by rfl) T.n_range (da_cons (d_op od_sub (d_callB oc_len (by rfl) T.n_len (by decide +kernel) (da_cons (d_var (pv 3)) da_nil)) d_int) (da_cons (d_neg d_int) (da_cons (d_neg d_int) da_nil)))) (dg_name (i := 5) sc_show_told.nd rfl (Or.inl rfl) (hv := by decide))
      (ds_cons (ds_expr (d_meth PySem.F.plainAttrs_list PySem.F.slot_list_append PySem.F.type_list_append mt_gAppend (.inr (.inl rfl)) (d_var (pv 2)) (da_cons (d_tup (da_cons (d_ix (d_var (pv 3)) (d_var (pv 5))) (da_cons d_bl da_nil))) da_nil)))
      (ds_one (ds_if (dt_cmp od_gt (d_var (pv 5)) d_int (nomark _))
      (ds_one (ds_expr (d_meth PySem.F.plainAttrs_list PySem.F.slot_list_append PySem.F.type_list_append mt_gAppend (.inr (.inl rfl)) (d_var (pv 2)) (da_cons (d_tup (da_cons d_str (da_cons d_bl da_nil))) da_nil))))
      ds_nil)))))))
      (ds_one (ds_expr (d_meth PySem.F.plainAttrs_list PySem.F.slot_list_append PySem.F.type_list_append mt_gAppend (.inr (.inl rfl)) (d_var (pv 1)) (da_cons (d_c1 (ps := ["thing"]) C_leaf_text hr tk (by rfl) (fun _ _ _ _ _ _ us hl => match us, hl with | [_], _ => rfl) (da_cons (d_var (pv 3)) da_nil)) da_nil))))))))))
      (ds_one (ds_ret (d_meth PySem.F.plainAttrs_str PySem.F.slot_str_join PySem.F.type_str_join mt_gJoin (.inl rfl) d_str (da_cons (d_var (pv 1)) da_nil))))))
theorem sc_number_told : FnScope ["text", "figures", "sign"] ["text"] (defScope s_number_told) := ⟨rfl, rfl, rfl, by decide +kernel, rfl, by decide +kernel, by decide +kernel⟩
def b_number_told : FM := fnM 3 ((sSeq (sSet 1 (mIf (mTest (mOp oEq (mSl (mVar 0) oNo (oPart (mC (.int 1)))) (mC (.str "-")))) (mSl (mVar 0) (oPart (mC (.int 1))) oNo) (mVar 0)))
  (sSeq (sIf (mOrT (mTest (mOp oEq (mVar 1) (mC (.str "")))) (mOrT (mTest (mOp oGt (mCall cLen (aCons (mVar 1) aNil)) (mC k_MOST_FIGURES))) (mNotT (mTest (mCall cAll (aCons (mLc 1000000 [2] (iStrV (mVar 1)) (gNm 2) bYes (mOp oIn (mVar 2) (mC k_FIGURES))) aNil))))))
  (sRet (mC .non))
  sNil)
  (sSeq (sIf (mAndT (mTest (mOp oEq (mOp oIx (mVar 1) (mC (.int 0))) (mC (.str "0")))) (mTest (mOp oNe (mVar 0) (mC (.str "0")))))
  (sRet (mC .non))
  sNil)
  (sRet (mCall cInt (aCons (mVar 0) aNil)))))))
theorem ok_number_told (T : Tops P w K mg cl) : CalP P w K mg base (k + 1) "number_told" s_number_told ["text"] (b_number_told) := DefAt.cal (N := ["text", "figures", "sign"]) T.d_number_told sc_number_told (m := fun _ _ => .no) fun f cdv A outer s H E hr =>
    have tk : Takes (cxOf (L2.CX P w) P w K mg base ["text", "figures", "sign"] "number_told" (defScope s_number_told) f cdv A outer s H E) (fun c d _ H => E c d H) := takes_of rfl rfl rfl rfl
    have pass_ : PassesOwn (model P w) (A.deeper (envOfC "number_told" (defScope s_number_told) s.heap.objs.size f cdv)) (envOfC "number_told" (defScope s_number_told) s.heap.objs.size f cdv) (cxOf (L2.CX P w) P w K mg base ["text", "figures", "sign"] "number_told" (defScope s_number_told) f cdv A outer s H E).xe := passes_of rfl
    (ds_cons (ds_set (i := 1) sc_number_told.nd rfl (.inl rfl) (d_if (dt_cmp (od_eq hr.u64) (d_slice (d_var (pv 0)) do_no (do_some d_int)) d_str (nomark _)) (d_slice (d_var (pv 0)) (do_some d_int) do_no) (d_var (pv 0))))
      (ds_cons (ds_if (dt_w (dw_or (dt_cmp (od_eq hr.u64) (d_var (pv 1)) d_str (nomark _)) (dw_or (dt_cmp od_gt (d_callB oc_len (by rfl) T.n_len (by decide +kernel) (da_cons (d_var (pv 1)) da_nil)) (d_glob (by rfl) T.k_MOST_FIGURES) (nomark _)) (dw_or1 (dt_not (dt_val (d_callB (oc_all rfl) (by rfl) T.n_all (by decide +kernel) (da_cons (d_lc (own := [("sign", 2)]) fin_lst 1000000 rfl sc_number_told.nd (di_str (d_var (pv 1))) (blkOk_by (own := [("sign", 2)]) (N := ["text", "figures", "sign"]) (sc := defScope s_number_told) (by decide +kernel)) (fun _ _ _ _ _ => (dg_name (i := 2) sc_number_told.nd rfl (Or.inl rfl) (hv := by decide))) (fun _ _ _ _ _ => dts_nil) (fun _ _ _ _ _ => (d_cmp (od_in hr.u65) (d_var (pv 2)) (d_glob (by rfl) T.k_FIGURES) (by rfl)))) da_nil))))))))
      (ds_one (ds_ret d_non))
      ds_nil)
      (ds_cons (ds_if (dt_w (dw_and (dt_cmp (od_eq hr.u64) (d_ix (d_var (pv 1)) d_int) d_str (nomark _)) (dw_and1 (dt_cmp (od_ne hr.u64) (d_var (pv 0)) d_str (nomark _)))))
      (ds_one (ds_ret d_non))
      ds_nil)
      (ds_one (ds_ret (d_callTy oc_int (by rfl) T.n_int (by decide +kernel) (da_cons (d_var (pv 0)) da_nil)))))))
theorem sc_end_of_leaf : FnScope ["text", "at", "end"] ["text", "at"] (defScope s_end_of_leaf) := ⟨rfl, rfl, rfl, by decide +kernel, rfl, by decide +kernel, by decide +kernel⟩
def b_end_of_leaf : FM := fnM 3 ((sSeq (sIf (mTest (mOp oEq (mOp oIx (mVar 0) (mVar 1)) (mC k_QUOTE)))
  (sSeq (sSet 2 (mMeth "str" gFind3 (mVar 0) (aCons (mC k_QUOTE) (aCons (mOp oAdd (mVar 1) (mC (.int 1))) aNil))))
  (sRet (mIf (mTest (mOp oLt (mVar 2) (mC (.int 0)))) (mCall cLen (aCons (mVar 0) aNil)) (mOp oAdd (mVar 2) (mC (.int 1))))))
  sNil)
  (sSeq (whileM 1000000 (mAndT (mTest (mOp oLt (mVar 1) (mCall cLen (aCons (mVar 0) aNil)))) (mTest (mOp oNotIn (mOp oIx (mVar 0) (mVar 1)) (mC (.str "() ")))))
  (sAug 1 oAddI (mC (.int 1))))
  (sRet (mVar 1)))))
theorem ok_end_of_leaf (T : Tops P w K mg cl) : CalP P w K mg base (k + 1) "end_of_leaf" s_end_of_leaf ["text", "at"] (b_end_of_leaf) := DefAt.cal (N := ["text", "at", "end"]) T.d_end_of_leaf sc_end_of_leaf (m := fun _ _ => .no) fun f cdv A outer s H E hr =>
    have tk : Takes (cxOf (L2.CX P w) P w K mg base ["text", "at", "end"] "end_of_leaf" (defScope s_end_of_leaf) f cdv A outer s H E) (fun c d _ H => E c d H) := takes_of rfl rfl rfl rfl
    have pass_ : PassesOwn (model P w) (A.deeper (envOfC "end_of_leaf" (defScope s_end_of_leaf) s.heap.objs.size f cdv)) (envOfC "end_of_leaf" (defScope s_end_of_leaf) s.heap.objs.size f cdv) (cxOf (L2.CX P w) P w K mg base ["text", "at", "end"] "end_of_leaf" (defScope s_end_of_leaf) f cdv A outer s H E).xe := passes_of rfl
    (ds_cons (ds_if (dt_cmp (od_eq hr.u64) (d_ix (d_var (pv 0)) (d_var (pv 1))) (d_glob (by rfl) T.k_QUOTE) (nomark _))
      (ds_cons (ds_set (i := 2) sc_end_of_leaf.nd rfl (.inl rfl) (d_meth PySem.F.plainAttrs_str PySem.F.slot_str_find PySem.F.type_str_find mt_gFind3 (.inl rfl) (d_var (pv 0)) (da_cons (d_glob (by rfl) T.k_QUOTE) (da_cons (d_op od_add (d_var (pv 1)) d_int) da_nil))))
      (ds_one (ds_ret (d_if (dt_cmp od_lt (d_var (pv 2)) d_int (nomark _)) (d_callB oc_len (by rfl) T.n_len (by decide +kernel) (da_cons (d_var (pv 0)) da_nil)) (d_op od_add (d_var (pv 2)) d_int)))))
      ds_nil)
      (ds_cons (ds_while 1000000 pass_ (dt_w (dw_and (dt_cmp od_lt (d_var (pv 1)) (d_callB oc_len (by rfl) T.n_len (by decide +kernel) (da_cons (d_var (pv 0)) da_nil)) (nomark _)) (dw_and1 (dt_cmp (od_notIn hr.u65) (d_ix (d_var (pv 0)) (d_var (pv 1))) d_str (by rfl)))))
      (ds_one (ds_aug (i := 1) sc_end_of_leaf.nd rfl (.inl rfl) d_int ipd_add)))
      (ds_one (ds_ret (d_var (pv 1))))))
theorem sc_leaf_told : FnScope ["text", "number"] ["text"] (defScope s_leaf_told) := ⟨rfl, rfl, rfl, by decide +kernel, rfl, by decide +kernel, by decide +kernel⟩
def b_leaf_told (c_is_plain_text c_number_told : FM) : FM := fnM 2 ((sSeq (sIf (mTest (mKin k_SIGNS (mVar 0)))
  (sRet (mTup (aCons (mKg k_SIGNS (mVar 0)) aNil)))
  sNil)
  (sSeq (sIf (mTest (mOp oEq (mSl (mVar 0) oNo (oPart (mC (.int 1)))) (mC k_QUOTE)))
  (sRet (mIf (mAndT (mTest (mOp oGt (mCall cLen (aCons (mVar 0) aNil)) (mC (.int 1)))) (mAndT (mTest (mFn 1 c_is_plain_text [] (aCons (mSl (mVar 0) (oPart (mC (.int 1))) (oPart (mNeg (mC (.int 1))))) aNil))) (mTest (mOp oEq (mOp oIx (mVar 0) (mNeg (mC (.int 1)))) (mC k_QUOTE))))) (mTup (aCons (mSl (mVar 0) (oPart (mC (.int 1))) (oPart (mNeg (mC (.int 1))))) aNil)) (mTup aNil)))
  sNil)
  (sSeq (sSet 1 (mFn 1 c_number_told [] (aCons (mVar 0) aNil)))
  (sRet (mIf (mTest (mOp oIs (mVar 1) (mC .non))) (mTup aNil) (mTup (aCons (mVar 1) aNil))))))))
theorem ok_leaf_told {c_is_plain_text : FM} (C_is_plain_text : CalP P w K mg base k "is_plain_text" s_is_plain_text ["thing"] c_is_plain_text) {c_number_told : FM} (C_number_told : CalP P w K mg base k "number_told" s_number_told ["text"] c_number_told) (T : Tops P w K mg cl) : CalP P w K mg base (k + 1) "leaf_told" s_leaf_told ["text"] (b_leaf_told c_is_plain_text c_number_told) := DefAt.cal (N := ["text", "number"]) T.d_leaf_told sc_leaf_told (m := fun _ _ => .no) fun f cdv A outer s H E hr =>
    have tk : Takes (cxOf (L2.CX P w) P w K mg base ["text", "number"] "leaf_told" (defScope s_leaf_told) f cdv A outer s H E) (fun c d _ H => E c d H) := takes_of rfl rfl rfl rfl
    have pass_ : PassesOwn (model P w) (A.deeper (envOfC "leaf_told" (defScope s_leaf_told) s.heap.objs.size f cdv)) (envOfC "leaf_told" (defScope s_leaf_told) s.heap.objs.size f cdv) (cxOf (L2.CX P w) P w K mg base ["text", "number"] "leaf_told" (defScope s_leaf_told) f cdv A outer s H E).xe := passes_of rfl
    (ds_cons (ds_if (dt_kin (by rfl) T.k_SIGNS (d_var (pv 0)))
      (ds_one (ds_ret (d_tup (da_cons (d_kget (by rfl) T.k_SIGNS (d_var (pv 0))) da_nil))))
      ds_nil)
      (ds_cons (ds_if (dt_cmp (od_eq hr.u64) (d_slice (d_var (pv 0)) do_no (do_some d_int)) (d_glob (by rfl) T.k_QUOTE) (nomark _))
      (ds_one (ds_ret (d_if (dt_w (dw_and (dt_cmp od_gt (d_callB oc_len (by rfl) T.n_len (by decide +kernel) (da_cons (d_var (pv 0)) da_nil)) d_int (nomark _)) (dw_and (dt_val (d_c1 (ps := ["thing"]) C_is_plain_text hr tk (by rfl) (fun _ _ _ _ _ _ us hl => match us, hl with | [_], _ => rfl) (da_cons (d_slice (d_var (pv 0)) (do_some d_int) (do_some (d_neg d_int))) da_nil))) (dw_and1 (dt_cmp (od_eq hr.u64) (d_ix (d_var (pv 0)) (d_neg d_int)) (d_glob (by rfl) T.k_QUOTE) (nomark _)))))) (d_tup (da_cons (d_slice (d_var (pv 0)) (do_some d_int) (do_some (d_neg d_int))) da_nil)) (d_tup da_nil))))
      ds_nil)
      (ds_cons (ds_set (i := 1) sc_leaf_told.nd rfl (.inl rfl) (d_c1 (ps := ["text"]) C_number_told hr tk (by rfl) (fun _ _ _ _ _ _ us hl => match us, hl with | [_], _ => rfl) (da_cons (d_var (pv 0)) da_nil)))
      (ds_one (ds_ret (d_if (dt_cmp od_is (d_var (pv 1)) d_non (nomark _)) (d_tup da_nil) (d_tup (da_cons (d_var (pv 1)) da_nil))))))))
theorem sc_leaf_at : FnScope ["text", "at", "end", "found"] ["text", "at"] (defScope s_leaf_at) := ⟨rfl, rfl, rfl, by decide +kernel, rfl, by decide +kernel, by decide +kernel⟩
noncomputable def b_leaf_at (cl : Cl) (c_end_of_leaf c_leaf_told : FM) : FM := fnM 4 ((sSeq (sSet 2 (mFn 2 c_end_of_leaf [] (aCons (mVar 0) (aCons (mVar 1) aNil))))
  (sSeq (sSet 3 (mFn 1 c_leaf_told [] (aCons (mSl (mVar 0) (oPart (mVar 1)) (oPart (mVar 2))) aNil)))
  (sSeq (sIf (mTest (mOp oEq (mVar 3) (mTup aNil)))
  (sRaise (.ref cl.NoText) "line" (aCons (mC (.int 0)) aNil))
  sNil)
  (sRet (mTup (aCons (mVar 3) (aCons (mVar 2) aNil))))))))
theorem ok_leaf_at {c_end_of_leaf : FM} (C_end_of_leaf : CalP P w K mg base (k + 2) "end_of_leaf" s_end_of_leaf ["text", "at"] c_end_of_leaf) {c_leaf_told : FM} (C_leaf_told : CalP P w K mg base (k + 2) "leaf_told" s_leaf_told ["text"] c_leaf_told) (T : Tops P w K mg cl) : CalP P w K mg base (k + 2 + 1) "leaf_at" s_leaf_at ["text", "at"] (b_leaf_at cl c_end_of_leaf c_leaf_told) := DefAt.cal (N := ["text", "at", "end", "found"]) T.d_leaf_at sc_leaf_at (m := fun _ _ => .no) fun f cdv A outer s H E hr =>
    have tk : Takes (cxOf (L2.CX P w) P w K mg base ["text", "at", "end", "found"] "leaf_at" (defScope s_leaf_at) f cdv A outer s H E) (fun c d _ H => E c d H) := takes_of rfl rfl rfl rfl
    have pass_ : PassesOwn (model P w) (A.deeper (envOfC "leaf_at" (defScope s_leaf_at) s.heap.objs.size f cdv)) (envOfC "leaf_at" (defScope s_leaf_at) s.heap.objs.size f cdv) (cxOf (L2.CX P w) P w K mg base ["text", "at", "end", "found"] "leaf_at" (defScope s_leaf_at) f cdv A outer s H E).xe := passes_of rfl
    (ds_cons (ds_set (i := 2) sc_leaf_at.nd rfl (.inl rfl) (d_c1 (ps := ["text", "at"]) C_end_of_leaf hr tk (by rfl) (fun _ _ _ _ _ _ us hl => match us, hl with | [_, _], _ => rfl) (da_cons (d_var (pv 0)) (da_cons (d_var (pv 1)) da_nil))))
      (ds_cons (ds_set (i := 3) sc_leaf_at.nd rfl (.inl rfl) (d_c1 (ps := ["text"]) C_leaf_told hr tk (by rfl) (fun _ _ _ _ _ _ us hl => match us, hl with | [_], _ => rfl) (da_cons (d_slice (d_var (pv 0)) (do_some (d_var (pv 1))) (do_some (d_var (pv 2)))) da_nil)))
      (ds_cons (ds_if (dt_cmp (od_eq hr.u64) (d_var (pv 3)) (d_tup da_nil) (nomark _))
      (ds_one (ds_raise rfl tk (T.r_NoText base k) hr.room (by rfl) (da_cons d_int da_nil)))
      ds_nil)
      (ds_one (ds_ret (d_tup (da_cons (d_var (pv 3)) (da_cons (d_var (pv 2)) da_nil))))))))
theorem sc_tree_told : FnScope ["text", "open_lists", "at", "last", "found"] ["text"] (defScope s_tree_told) := ⟨rfl, rfl, rfl, by decide +kernel, rfl, by decide +kernel, by decide +kernel⟩
noncomputable def b_tree_told (cl : Cl) (c_leaf_at : FM) : FM := fnM 5 ((sSeq (sPar 1 2 (aCons (mNew (aCons (mNew aNil) aNil)) (aCons (mC (.int 0)) aNil)))
  (sSeq (whileM 1000000 (mTest (mOp oLt (mVar 2) (mCall cLen (aCons (mVar 0) aNil))))
  (sIf (mTest (mOp oEq (mOp oIx (mVar 0) (mVar 2)) (mC (.str "("))))
  (sSeq (sExpr (mMeth "list" gAppend (mVar 1) (aCons (mNew aNil) aNil)))
  (sAug 2 oAddI (mC (.int 1))))
  (sIf (mAndT (mTest (mOp oEq (mOp oIx (mVar 0) (mVar 2)) (mC (.str ")")))) (mTest (mOp oGt (mCall cLen (aCons (mVar 1) aNil)) (mC (.int 1)))))
  (sSeq (sSet 3 (mMeth "list" gPop (mVar 1) aNil))
  (sSeq (sExpr (mMeth "list" gAppend (mOp oIx (mVar 1) (mNeg (mC (.int 1)))) (aCons (mCall cTuple (aCons (mVar 3) aNil)) aNil)))
  (sAug 2 oAddI (mC (.int 1)))))
  (sIf (mTest (mOp oEq (mOp oIx (mVar 0) (mVar 2)) (mC (.str " "))))
  (sAug 2 oAddI (mC (.int 1)))
  (sSeq (sAsg (mFn 2 c_leaf_at [] (aCons (mVar 0) (aCons (mVar 2) aNil))) (gTp 2 (gCn (gNm 4) (gCn (gNm 2) gNl))))
  (sExpr (mMeth "list" gAppend (mOp oIx (mVar 1) (mNeg (mC (.int 1)))) (aCons (mOp oIx (mVar 4) (mC (.int 0))) aNil))))))))
  (sSeq (sIf (mOrT (mTest (mOp oNe (mCall cLen (aCons (mVar 1) aNil)) (mC (.int 1)))) (mTest (mOp oNe (mCall cLen (aCons (mOp oIx (mVar 1) (mC (.int 0))) aNil)) (mC (.int 1)))))
  (sRaise (.ref cl.NoText) "line" (aCons (mC (.int 0)) aNil))
  sNil)
  (sRet (mOp oIx (mOp oIx (mVar 1) (mC (.int 0))) (mC (.int 0))))))))
theorem ok_tree_told {c_leaf_at : FM} (C_leaf_at : CalP P w K mg base (k + 2) "leaf_at" s_leaf_at ["text", "at"] c_leaf_at) (T : Tops P w K mg cl) : CalP P w K mg base (k + 2 + 1) "tree_told" s_tree_told ["text"] (b_tree_told cl c_leaf_at) := DefAt.cal (N := ["text", "open_lists", "at", "last", "found"]) T.d_tree_told sc_tree_told (m := fun _ _ => .no) fun f cdv A outer s H E hr =>
    have tk : Takes (cxOf (L2.CX P w) P w K mg base ["text", "open_lists", "at", "last", "found"] "tree_told" (defScope s_tree_told) f cdv A outer s H E) (fun c d _ H => E c d H) := takes_of rfl rfl rfl rfl
    have pass_ : PassesOwn (model P w) (A.deeper (envOfC "tree_told" (defScope s_tree_told) s.heap.objs.size f cdv)) (envOfC "tree_told" (defScope s_tree_told) s.heap.objs.size f cdv) (cxOf (L2.CX P w) P w K mg base ["text", "open_lists", "at", "last", "found"] "tree_told" (defScope s_tree_told) f cdv A outer s H E).xe := passes_of rfl
    (ds_cons (ds_par (i := 1) (j := 2) rfl sc_tree_told.nd rfl rfl (by decide) rfl rfl (da_cons (d_new (da_cons (d_new da_nil) da_nil)) (da_cons d_int da_nil)) rfl)
      (ds_cons (ds_while 1000000 pass_ (dt_cmp od_lt (d_var (pv 2)) (d_callB oc_len (by rfl) T.n_len (by decide +kernel) (da_cons (d_var (pv 0)) da_nil)) (nomark _))
      (ds_one (ds_if (dt_cmp (od_eq hr.u64) (d_ix (d_var (pv 0)) (d_var (pv 2))) d_str (nomark _))
      (ds_cons (ds_expr (d_meth PySem.F.plainAttrs_list PySem.F.slot_list_append PySem.F.type_list_append mt_gAppend (.inr (.inl rfl)) (d_var (pv 1)) (da_cons (d_new da_nil) da_nil)))
      (ds_one (ds_aug (i := 2) sc_tree_told.nd rfl (.inl rfl) d_int ipd_add)))
      (ds_one (ds_if (dt_w (dw_and (dt_cmp (od_eq hr.u64) (d_ix (d_var (pv 0)) (d_var (pv 2))) d_str (nomark _)) (dw_and1 (dt_cmp od_gt (d_callB oc_len (by rfl) T.n_len (by decide +kernel) (da_cons (d_var (pv 1)) da_nil)) d_int (nomark _)))))
      (ds_cons (ds_set (i := 3) sc_tree_told.nd rfl (.inl rfl) (d_meth0 PySem.F.plainAttrs_list PySem.F.slot_list_pop PySem.F.type_list_pop mt_gPop (.inr (.inl rfl)) (d_var (pv 1))))
      (ds_cons (ds_expr (d_meth PySem.F.plainAttrs_list PySem.F.slot_list_append PySem.F.type_list_append mt_gAppend (.inr (.inl rfl)) (d_ix (d_var (pv 1)) (d_neg d_int)) (da_cons (d_callTy oc_tuple (by rfl) T.n_tuple (by decide +kernel) (da_cons (d_var (pv 3)) da_nil)) da_nil)))
      (ds_one (ds_aug (i := 2) sc_tree_told.nd rfl (.inl rfl) d_int ipd_add))))
      (ds_one (ds_if (dt_cmp (od_eq hr.u64) (d_ix (d_var (pv 0)) (d_var (pv 2))) d_str (nomark _))
      (ds_one (ds_aug (i := 2) sc_tree_told.nd rfl (.inl rfl) d_int ipd_add))
      (ds_cons (ds_asg (vs := [4, 2]) (d_c1 (ps := ["text", "at"]) C_leaf_at hr tk (by rfl) (fun _ _ _ _ _ _ us hl => match us, hl with | [_, _], _ => rfl) (da_cons (d_var (pv 0)) (da_cons (d_var (pv 2)) da_nil))) (dg_tup rfl (dgs_cons (dg_name (i := 4) sc_tree_told.nd rfl (Or.inl rfl) (hv := by decide)) (dgs_cons (dg_name (i := 2) sc_tree_told.nd rfl (Or.inl rfl) (hv := by decide)) dgs_nil))))
      (ds_one (ds_expr (d_meth PySem.F.plainAttrs_list PySem.F.slot_list_append PySem.F.type_list_append mt_gAppend (.inr (.inl rfl)) (d_ix (d_var (pv 1)) (d_neg d_int)) (da_cons (d_ix (d_var (pv 4)) d_int) da_nil))))))))))))
      (ds_cons (ds_if (dt_w (dw_or (dt_cmp (od_ne hr.u64) (d_callB oc_len (by rfl) T.n_len (by decide +kernel) (da_cons (d_var (pv 1)) da_nil)) d_int (nomark _)) (dw_or1 (dt_cmp (od_ne hr.u64) (d_callB oc_len (by rfl) T.n_len (by decide +kernel) (da_cons (d_ix (d_var (pv 1)) d_int) da_nil)) d_int (nomark _)))))
      (ds_one (ds_raise rfl tk (T.r_NoText base k) hr.room (by rfl) (da_cons d_int da_nil)))
      ds_nil)
      (ds_one (ds_ret (d_ix (d_ix (d_var (pv 1)) d_int) d_int))))))
theorem sc_read_told : FnScope ["text", "found"] ["text"] (defScope s_read_told) := ⟨rfl, rfl, rfl, by decide +kernel, rfl, by decide +kernel, by decide +kernel⟩
noncomputable def b_read_told (cl : Cl) (c_tree_told c_is_told c_show_told : FM) : FM := fnM 2 ((sSeq (sIf (mNotT (mTest (mCall cIsi (aCons (mVar 0) (aCons (mC (.st (.ty "str"))) aNil)))))
  (sRaise (.ref cl.NoText) "line" (aCons (mC (.int 0)) aNil))
  sNil)
  (sSeq (sSet 1 (mFn 1 c_tree_told [] (aCons (mVar 0) aNil)))
  (sSeq (sIf (mOrT (mNotT (mTest (mFn 1 c_is_told [] (aCons (mVar 1) aNil)))) (mTest (mOp oNe (mFn 1 c_show_told [] (aCons (mVar 1) aNil)) (mVar 0))))
  (sRaise (.ref cl.NoText) "line" (aCons (mC (.int 0)) aNil))
  sNil)
  (sRet (mVar 1))))))
theorem ok_read_told {c_tree_told : FM} (C_tree_told : CalP P w K mg base (k + 2) "tree_told" s_tree_told ["text"] c_tree_told) {c_is_told : FM} (C_is_told : CalP P w K mg base (k + 2) "is_told" s_is_told ["thing"] c_is_told) {c_show_told : FM} (C_show_told : CalP P w K mg base (k + 2) "show_told" s_show_told ["thing"] c_show_told) (T : Tops P w K mg cl) : CalP P w K mg base (k + 2 + 1) "read_told" s_read_told ["text"] (b_read_told cl c_tree_told c_is_told c_show_told) := DefAt.cal (N := ["text", "found"]) T.d_read_told sc_read_told (m := fun _ _ => .no) fun f cdv A outer s H E hr =>
    have tk : Takes (cxOf (L2.CX P w) P w K mg base ["text", "found"] "read_told" (defScope s_read_told) f cdv A outer s H E) (fun c d _ H => E c d H) := takes_of rfl rfl rfl rfl
    have pass_ : PassesOwn (model P w) (A.deeper (envOfC "read_told" (defScope s_read_told) s.heap.objs.size f cdv)) (envOfC "read_told" (defScope s_read_told) s.heap.objs.size f cdv) (cxOf (L2.CX P w) P w K mg base ["text", "found"] "read_told" (defScope s_read_told) f cdv A outer s H E).xe := passes_of rfl
    (ds_cons (ds_if (dt_not (dt_val (d_callB oc_isi (by rfl) T.n_isinstance (by decide +kernel) (da_cons (d_var (pv 0)) (da_cons (d_ty "str" (by rfl) T.n_str (by decide +kernel)) da_nil)))))
      (ds_one (ds_raise rfl tk (T.r_NoText base k) hr.room (by rfl) (da_cons d_int da_nil)))
      ds_nil)
      (ds_cons (ds_set (i := 1) sc_read_told.nd rfl (.inl rfl) (d_c1 (ps := ["text"]) C_tree_told hr tk (by rfl) (fun _ _ _ _ _ _ us hl => match us, hl with | [_], _ => rfl) (da_cons (d_var (pv 0)) da_nil)))
      (ds_cons (ds_if (dt_w (dw_or (dt_not (dt_val (d_c1 (ps := ["thing"]) C_is_told hr tk (by rfl) (fun _ _ _ _ _ _ us hl => match us, hl with | [_], _ => rfl) (da_cons (d_var (pv 1)) da_nil)))) (dw_or1 (dt_cmp (od_ne hr.u64) (d_c1 (ps := ["thing"]) C_show_told hr tk (by rfl) (fun _ _ _ _ _ _ us hl => match us, hl with | [_], _ => rfl) (da_cons (d_var (pv 1)) da_nil)) (d_var (pv 0)) (nomark _)))))
      (ds_one (ds_raise rfl tk (T.r_NoText base k) hr.room (by rfl) (da_cons d_int da_nil)))
      ds_nil)
      (ds_one (ds_ret (d_var (pv 1)))))))
theorem sc__law_deck : FnScope ["script", "cell", "cells", "mixed"] ["script"] (defScope s__law_deck) := ⟨rfl, rfl, rfl, by decide +kernel, rfl, by decide +kernel, by decide +kernel⟩
def b__law_deck : FM := fnM 4 ((sSeq (sPar 2 3 (aCons (mCall cList (aCons (mSl (mVar 0) oNo (oPart (mC (.int 63)))) aNil)) (aCons (mC (.int 2013300)) aNil)))
  (sSeq (sFor 1000000 (iVal (mVar 2)) (gNm 1)
  (sSet 3 (mOp oMod (mCall cInt (aCons (mOp oAdd (mOp oAdd (mOp oMul (mVar 3) (mC (.int 48271))) (mOp oMod (mCall cInt (aCons (mVar 1) aNil)) (mC (.int 2147483629)))) (mC (.int 0))) aNil)) (mC (.int 2147483587)))))
  (sRet (mDctN (dCons (mC (.str "cells")) (mRevN (mVar 2)) (dCons (mC (.str "mixed")) (mVar 3) (dCons (mC (.str "draws")) (mC (.int 0)) dNil))))))))
theorem ok__law_deck (T : Tops P w K mg cl) : CalP P w K mg base (k + 1) "_law_deck" s__law_deck ["script"] (b__law_deck) := DefAt.cal (N := ["script", "cell", "cells", "mixed"]) T.d__law_deck sc__law_deck (m := fun _ _ => .no) fun f cdv A outer s H E hr =>
    have tk : Takes (cxOf (L2.CX P w) P w K mg base ["script", "cell", "cells", "mixed"] "_law_deck" (defScope s__law_deck) f cdv A outer s H E) (fun c d _ H => E c d H) := takes_of rfl rfl rfl rfl
    have pass_ : PassesOwn (model P w) (A.deeper (envOfC "_law_deck" (defScope s__law_deck) s.heap.objs.size f cdv)) (envOfC "_law_deck" (defScope s__law_deck) s.heap.objs.size f cdv) (cxOf (L2.CX P w) P w K mg base ["script", "cell", "cells", "mixed"] "_law_deck" (defScope s__law_deck) f cdv A outer s H E).xe := passes_of rfl
    (ds_cons (ds_par (i := 2) (j := 3) rfl sc__law_deck.nd rfl rfl (by decide) rfl rfl (da_cons (d_callTy oc_list (by rfl) T.n_list (by decide +kernel) (da_cons (d_slice (d_var (pv 0)) do_no (do_some d_int)) da_nil)) (da_cons d_int da_nil)) rfl)
      (ds_cons (ds_for (vs := [1]) 1000000 pass_ rfl (di_val (d_var (pv 2))) (dg_name (i := 1) sc__law_deck.nd rfl (Or.inl rfl) (hv := by decide))
      (ds_one (ds_set (i := 3) sc__law_deck.nd rfl (.inl rfl) (d_op od_mod (d_callTy oc_int (by rfl) T.n_int (by decide +kernel) (da_cons (d_op od_add (d_op od_add (d_op od_mul (d_var (pv 3)) d_int) (d_op od_mod (d_callTy oc_int (by rfl) T.n_int (by decide +kernel) (da_cons (d_var (pv 1)) da_nil)) d_int)) d_int) da_nil)) d_int))))
      (ds_one (ds_ret (d_dctN (dp_cons d_str (d_revN (d_var (pv 2))) (dp_cons d_str (d_var (pv 3)) (dp_cons d_str d_int dp_nil))) (by rfl) (by rfl) (fun z => by cases z) (by decide))))))
theorem sc__law_draw : FnScope ["deck", "many", "number", "cell"] ["deck", "many"] (defScope s__law_draw) := ⟨rfl, rfl, rfl, by decide +kernel, rfl, by decide +kernel, by decide +kernel⟩
def b__law_draw : FM := fnM 4 ((sSeq (sAsg (mOp oAdd (mDr (mVar 0) (mC (.str "draws"))) (mC (.int 1))) (gSd (mVar 0) (mC (.str "draws"))))
  (sSeq (sSet 2 (mOp oAdd (mDr (mVar 0) (mC (.str "mixed"))) (mOp oMul (mC (.int 61473)) (mDr (mVar 0) (mC (.str "draws"))))))
  (sSeq (sIf (mTest (mOp oNe (mDr (mVar 0) (mC (.str "cells"))) (mLst aNil)))
  (sSeq (sSet 3 (mMeth "list" gPop (mDr (mVar 0) (mC (.str "cells"))) aNil))
  (sSeq (sIf (mTest (mOp oGe (mVar 3) (mOp oPow (mC (.int 10)) (mC (.int 18)))))
  (sSeq (sExpr (mMeth "list" gAppend (mDr (mVar 0) (mC (.str "cells"))) (aCons (mOp oDiv (mVar 3) (mCall cMax2 (aCons (mC (.int 2)) (aCons (mVar 1) aNil)))) aNil)))
  (sRet (mOp oMod (mCall cInt (aCons (mVar 3) aNil)) (mVar 1))))
  sNil)
  (sSet 2 (mOp oAdd (mVar 2) (mOp oMod (mCall cInt (aCons (mVar 3) aNil)) (mC (.int 2147483629)))))))
  sNil)
  (sSeq (sSet 2 (mOp oMod (mCall cInt (aCons (mOp oAdd (mOp oMul (mVar 2) (mC (.int 39373))) (mC (.int 0))) aNil)) (mC (.int 2147483647))))
  (sSeq (sSet 2 (mOp oMod (mCall cInt (aCons (mOp oAdd (mOp oAdd (mOp oMul (mVar 2) (mVar 2)) (mOp oMul (mC (.int 52713)) (mDr (mVar 0) (mC (.str "draws"))))) (mC (.int 0))) aNil)) (mC (.int 2147483587))))
  (sSeq (sSet 2 (mOp oMod (mCall cInt (aCons (mOp oMul (mVar 2) (mC (.int 40692))) aNil)) (mC (.int 2147483563))))
  (sRet (mOp oMod (mCall cInt (aCons (mOp oDiv (mVar 2) (mC (.int 64))) aNil)) (mVar 1))))))))))
theorem ok__law_draw (T : Tops P w K mg cl) : CalP P w K mg base (k + 1) "_law_draw" s__law_draw ["deck", "many"] (b__law_draw) := DefAt.cal (N := ["deck", "many", "number", "cell"]) T.d__law_draw sc__law_draw (m := fun _ _ => .no) fun f cdv A outer s H E hr =>
    have tk : Takes (cxOf (L2.CX P w) P w K mg base ["deck", "many", "number", "cell"] "_law_draw" (defScope s__law_draw) f cdv A outer s H E) (fun c d _ H => E c d H) := takes_of rfl rfl rfl rfl
    have pass_ : PassesOwn (model P w) (A.deeper (envOfC "_law_draw" (defScope s__law_draw) s.heap.objs.size f cdv)) (envOfC "_law_draw" (defScope s__law_draw) s.heap.objs.size f cdv) (cxOf (L2.CX P w) P w K mg base ["deck", "many", "number", "cell"] "_law_draw" (defScope s__law_draw) f cdv A outer s H E).xe := passes_of rfl
    (ds_cons (ds_asg (vs := []) (d_op od_add (d_dref hr.u65 (d_var (pv 0)) d_str) d_int) (dg_dset (W := WX0) hr.u65 (d_var (pv 0)) d_str))
      (ds_cons (ds_set (i := 2) sc__law_draw.nd rfl (.inl rfl) (d_op od_add (d_dref hr.u65 (d_var (pv 0)) d_str) (d_op od_mul d_int (d_dref hr.u65 (d_var (pv 0)) d_str))))
      (ds_cons (ds_if (dt_cmp (od_ne hr.u64) (d_dref hr.u65 (d_var (pv 0)) d_str) (d_lst da_nil) (nomark _))
      (ds_cons (ds_set (i := 3) sc__law_draw.nd rfl (.inl rfl) (d_meth0 PySem.F.plainAttrs_list PySem.F.slot_list_pop PySem.F.type_list_pop mt_gPop (.inr (.inl rfl)) (d_dref hr.u65 (d_var (pv 0)) d_str)))
      (ds_cons (ds_if (dt_cmp od_ge (d_var (pv 3)) (d_op od_pow d_int d_int) (nomark _))
      (ds_cons (ds_expr (d_meth PySem.F.plainAttrs_list PySem.F.slot_list_append PySem.F.type_list_append mt_gAppend (.inr (.inl rfl)) (d_dref hr.u65 (d_var (pv 0)) d_str) (da_cons (d_op od_div (d_var (pv 3)) (d_callB (oc_max2 rfl) (by rfl) T.n_max (by decide +kernel) (da_cons d_int (da_cons (d_var (pv 1)) da_nil)))) da_nil)))
      (ds_one (ds_ret (d_op od_mod (d_callTy oc_int (by rfl) T.n_int (by decide +kernel) (da_cons (d_var (pv 3)) da_nil)) (d_var (pv 1))))))
      ds_nil)
      (ds_one (ds_set (i := 2) sc__law_draw.nd rfl (.inl rfl) (d_op od_add (d_var (pv 2)) (d_op od_mod (d_callTy oc_int (by rfl) T.n_int (by decide +kernel) (da_cons (d_var (pv 3)) da_nil)) d_int))))))
      ds_nil)
      (ds_cons (ds_set (i := 2) sc__law_draw.nd rfl (.inl rfl) (d_op od_mod (d_callTy oc_int (by rfl) T.n_int (by decide +kernel) (da_cons (d_op od_add (d_op od_mul (d_var (pv 2)) d_int) d_int) da_nil)) d_int))
      (ds_cons (ds_set (i := 2) sc__law_draw.nd rfl (.inl rfl) (d_op od_mod (d_callTy oc_int (by rfl) T.n_int (by decide +kernel) (da_cons (d_op od_add (d_op od_add (d_op od_mul (d_var (pv 2)) (d_var (pv 2))) (d_op od_mul d_int (d_dref hr.u65 (d_var (pv 0)) d_str))) d_int) da_nil)) d_int))
      (ds_cons (ds_set (i := 2) sc__law_draw.nd rfl (.inl rfl) (d_op od_mod (d_callTy oc_int (by rfl) T.n_int (by decide +kernel) (da_cons (d_op od_mul (d_var (pv 2)) d_int) da_nil)) d_int))
      (ds_one (ds_ret (d_op od_mod (d_callTy oc_int (by rfl) T.n_int (by decide +kernel) (da_cons (d_op od_div (d_var (pv 2)) d_int) da_nil)) (d_var (pv 1)))))))))))
theorem sc__law_pick : FnScope ["deck", "some"] ["deck", "some"] (defScope s__law_pick) := ⟨rfl, rfl, rfl, by decide +kernel, rfl, by decide +kernel, by decide +kernel⟩
def b__law_pick (c__law_draw : FM) : FM := fnM 2 ((sRet (mOp oIx (mVar 1) (mFn 2 c__law_draw [] (aCons (mVar 0) (aCons (mCall cLen (aCons (mVar 1) aNil)) aNil))))))
theorem ok__law_pick {c__law_draw : FM} (C__law_draw : CalP P w K mg base k "_law_draw" s__law_draw ["deck", "many"] c__law_draw) (T : Tops P w K mg cl) : CalP P w K mg base (k + 1) "_law_pick" s__law_pick ["deck", "some"] (b__law_pick c__law_draw) := DefAt.cal (N := ["deck", "some"]) T.d__law_pick sc__law_pick (m := fun _ _ => .no) fun f cdv A outer s H E hr =>
    have tk : Takes (cxOf (L2.CX P w) P w K mg base ["deck", "some"] "_law_pick" (defScope s__law_pick) f cdv A outer s H E) (fun c d _ H => E c d H) := takes_of rfl rfl rfl rfl
    have pass_ : PassesOwn (model P w) (A.deeper (envOfC "_law_pick" (defScope s__law_pick) s.heap.objs.size f cdv)) (envOfC "_law_pick" (defScope s__law_pick) s.heap.objs.size f cdv) (cxOf (L2.CX P w) P w K mg base ["deck", "some"] "_law_pick" (defScope s__law_pick) f cdv A outer s H E).xe := passes_of rfl
    (ds_one (ds_ret (d_ix (d_var (pv 1)) (d_c1 (ps := ["deck", "many"]) C__law_draw hr tk (by rfl) (fun _ _ _ _ _ _ us hl => match us, hl with | [_, _], _ => rfl) (da_cons (d_var (pv 0)) (da_cons (d_callB oc_len (by rfl) T.n_len (by decide +kernel) (da_cons (d_var (pv 1)) da_nil)) da_nil))))))
theorem sc__law_text : FnScope ["deck", "signs", "turn"] ["deck"] (defScope s__law_text) := ⟨rfl, rfl, rfl, by decide +kernel, rfl, by decide +kernel, by decide +kernel⟩
def b__law_text (c__law_pick : FM) : FM := fnM 3 ((sSeq (sSet 1 (mC (.str " !\"#$&()*+,-./0123456789:;<=>?@ABZ[\\]^_`az{|}~")))
  (sRet (mMeth "str" gJoin (mC (.str "")) (aCons (mLc 1000000 [2] (iRng1 (aCons (mFn 2 c__law_pick [] (aCons (mVar 0) (aCons (mLst (aCons (mC (.int 0)) (aCons (mC (.int 1)) (aCons (mC (.int 3)) (aCons (mC (.int 8)) aNil))))) aNil))) aNil)) (gNm 2) bYes (mFn 2 c__law_pick [] (aCons (mVar 0) (aCons (mVar 1) aNil)))) aNil)))))
theorem ok__law_text {c__law_pick : FM} (C__law_pick : CalP P w K mg base k "_law_pick" s__law_pick ["deck", "some"] c__law_pick) (T : Tops P w K mg cl) : CalP P w K mg base (k + 1) "_law_text" s__law_text ["deck"] (b__law_text c__law_pick) := DefAt.cal (N := ["deck", "signs", "turn"]) T.d__law_text sc__law_text (m := fun _ _ => .no) fun f cdv A outer s H E hr =>
    have tk : Takes (cxOf (L2.CX P w) P w K mg base ["deck", "signs", "turn"] "_law_text" (defScope s__law_text) f cdv A outer s H E) (fun c d _ H => E c d H) := takes_of rfl rfl rfl rfl
    have pass_ : PassesOwn (model P w) (A.deeper (envOfC "_law_text" (defScope s__law_text) s.heap.objs.size f cdv)) (envOfC "_law_text" (defScope s__law_text) s.heap.objs.size f cdv) (cxOf (L2.CX P w) P w K mg base ["deck", "signs", "turn"] "_law_text" (defScope s__law_text) f cdv A outer s H E).xe := passes_of rfl
    (ds_cons (ds_set (i := 1) sc__law_text.nd rfl (.inr rfl) d_str)
      (ds_one (ds_ret (d_meth PySem.F.plainAttrs_str PySem.F.slot_str_join PySem.F.type_str_join mt_gJoin (.inl rfl) d_str (da_cons (d_lc (own := [("turn", 2)]) fin_lst 1000000 rfl sc__law_text.nd (di_rng1 (by rfl) T.n_range (da_cons (d_c1 (ps := ["deck", "some"]) C__law_pick hr tk (by rfl) (fun _ _ _ _ _ _ us hl => match us, hl with | [_, _], _ => rfl) (da_cons (d_var (pv 0)) (da_cons (d_lst (da_cons d_int (da_cons d_int (da_cons d_int (da_cons d_int da_nil))))) da_nil))) da_nil)) (blkOk_by (own := [("turn", 2)]) (N := ["deck", "signs", "turn"]) (sc := defScope s__law_text) (by decide +kernel)) (fun _ _ _ _ _ => (dg_name (i := 2) sc__law_text.nd rfl (Or.inl rfl) (hv := by decide))) (fun _ _ _ _ _ => dts_nil) (fun _ _ _ _ _ => (d_c1 (ps := ["deck", "some"]) C__law_pick hr takes0 (by rfl) (fun _ _ _ _ _ _ us hl => match us, hl with | [_, _], _ => rfl) (da_cons (d_var (pv 0)) (da_cons (d_var (pv 1)) da_nil))))) da_nil)))))
theorem sc__law_leaf : FnScope ["deck"] ["deck"] (defScope s__law_leaf) := ⟨rfl, rfl, rfl, by decide +kernel, rfl, by decide +kernel, by decide +kernel⟩
def b__law_leaf (c__law_pick c__law_text : FM) : FM := fnM 1 ((sRet (mFn 2 c__law_pick [] (aCons (mVar 0) (aCons (mLst (aCons (mC .non) (aCons (mC (.bl true)) (aCons (mC (.bl false)) (aCons (mC (.int 0)) (aCons (mC (.int 1)) (aCons (mNeg (mC (.int 1))) (aCons (mC (.int 7)) (aCons (mNeg (mC (.int 10))) (aCons (mOp oPow (mC (.int 10)) (mC (.int 39))) (aCons (mOp oSub (mOp oPow (mC (.int 10)) (mC (.int 40))) (mC (.int 1))) (aCons (mOp oSub (mC (.int 1)) (mOp oPow (mC (.int 10)) (mC (.int 40)))) (aCons (mC (.str "")) (aCons (mC (.str "a")) (aCons (mC (.str "-")) (aCons (mC (.str "()")) (aCons (mFn 1 c__law_text [] (aCons (mVar 0) aNil)) aNil))))))))))))))))) aNil)))))
theorem ok__law_leaf {c__law_pick : FM} (C__law_pick : CalP P w K mg base k "_law_pick" s__law_pick ["deck", "some"] c__law_pick) {c__law_text : FM} (C__law_text : CalP P w K mg base k "_law_text" s__law_text ["deck"] c__law_text) (T : Tops P w K mg cl) : CalP P w K mg base (k + 1) "_law_leaf" s__law_leaf ["deck"] (b__law_leaf c__law_pick c__law_text) := DefAt.cal (N := ["deck"]) T.d__law_leaf sc__law_leaf (m := fun _ _ => .no) fun f cdv A outer s H E hr =>
    have tk : Takes (cxOf (L2.CX P w) P w K mg base ["deck"] "_law_leaf" (defScope s__law_leaf) f cdv A outer s H E) (fun c d _ H => E c d H) := takes_of rfl rfl rfl rfl
    have pass_ : PassesOwn (model P w) (A.deeper (envOfC "_law_leaf" (defScope s__law_leaf) s.heap.objs.size f cdv)) (envOfC "_law_leaf" (defScope s__law_leaf) s.heap.objs.size f cdv) (cxOf (L2.CX P w) P w K mg base ["deck"] "_law_leaf" (defScope s__law_leaf) f cdv A outer s H E).xe := passes_of rfl
    (ds_one (ds_ret (d_c1 (ps := ["deck", "some"]) C__law_pick hr tk (by rfl) (fun _ _ _ _ _ _ us hl => match us, hl with | [_, _], _ => rfl) (da_cons (d_var (pv 0)) (da_cons (d_lst (da_cons d_non (da_cons d_bl (da_cons d_bl (da_cons d_int (da_cons d_int (da_cons (d_neg d_int) (da_cons d_int (da_cons (d_neg d_int) (da_cons (d_op od_pow d_int d_int) (da_cons (d_op od_sub (d_op od_pow d_int d_int) d_int) (da_cons (d_op od_sub d_int (d_op od_pow d_int d_int)) (da_cons d_str (da_cons d_str (da_cons d_str (da_cons d_str (da_cons (d_c1 (ps := ["deck"]) C__law_text hr tk (by rfl) (fun _ _ _ _ _ _ us hl => match us, hl with | [_], _ => rfl) (da_cons (d_var (pv 0)) da_nil)) da_nil))))))))))))))))) da_nil)))))
theorem sc__law_thing : FnScope ["deck", "deep", "turn"] ["deck", "deep"] (defScope s__law_thing) := ⟨rfl, rfl, rfl, by decide +kernel, rfl, by decide +kernel, by decide +kernel⟩
def b__law_thing (c__law_draw c__law_leaf c__law_thing : FM) : FM := fnM 3 ((sSeq (sIf (mOrT (mTest (mOp oEq (mVar 1) (mC (.int 0)))) (mTest (mOp oEq (mFn 2 c__law_draw [] (aCons (mVar 0) (aCons (mC (.int 3)) aNil))) (mC (.int 0)))))
  (sRet (mFn 1 c__law_leaf [] (aCons (mVar 0) aNil)))
  sNil)
  (sRet (mCall cTuple (aCons (mLc 1000000 [2] (iRng1 (aCons (mFn 2 c__law_draw [] (aCons (mVar 0) (aCons (mC (.int 4)) aNil))) aNil)) (gNm 2) bYes (mFn 2 c__law_thing [] (aCons (mVar 0) (aCons (mOp oSub (mVar 1) (mC (.int 1))) aNil)))) aNil)))))
theorem ok__law_thing {c__law_draw : FM} (C__law_draw : CalP P w K mg base k "_law_draw" s__law_draw ["deck", "many"] c__law_draw) {c__law_leaf : FM} (C__law_leaf : CalP P w K mg base k "_law_leaf" s__law_leaf ["deck"] c__law_leaf) {c__law_thing : FM} (C__law_thing : CalP P w K mg base k "_law_thing" s__law_thing ["deck", "deep"] c__law_thing) (T : Tops P w K mg cl) : CalP P w K mg base (k + 1) "_law_thing" s__law_thing ["deck", "deep"] (b__law_thing c__law_draw c__law_leaf c__law_thing) := DefAt.cal (N := ["deck", "deep", "turn"]) T.d__law_thing sc__law_thing (m := fun _ _ => .no) fun f cdv A outer s H E hr =>
    have tk : Takes (cxOf (L2.CX P w) P w K mg base ["deck", "deep", "turn"] "_law_thing" (defScope s__law_thing) f cdv A outer s H E) (fun c d _ H => E c d H) := takes_of rfl rfl rfl rfl
    have pass_ : PassesOwn (model P w) (A.deeper (envOfC "_law_thing" (defScope s__law_thing) s.heap.objs.size f cdv)) (envOfC "_law_thing" (defScope s__law_thing) s.heap.objs.size f cdv) (cxOf (L2.CX P w) P w K mg base ["deck", "deep", "turn"] "_law_thing" (defScope s__law_thing) f cdv A outer s H E).xe := passes_of rfl
    (ds_cons (ds_if (dt_w (dw_or (dt_cmp (od_eq hr.u64) (d_var (pv 1)) d_int (nomark _)) (dw_or1 (dt_cmp (od_eq hr.u64) (d_c1 (ps := ["deck", "many"]) C__law_draw hr tk (by rfl) (fun _ _ _ _ _ _ us hl => match us, hl with | [_, _], _ => rfl) (da_cons (d_var (pv 0)) (da_cons d_int da_nil))) d_int (nomark _)))))
      (ds_one (ds_ret (d_c1 (ps := ["deck"]) C__law_leaf hr tk (by rfl) (fun _ _ _ _ _ _ us hl => match us, hl with | [_], _ => rfl) (da_cons (d_var (pv 0)) da_nil))))
      ds_nil)
      (ds_one (ds_ret (d_callTy oc_tuple (by rfl) T.n_tuple (by decide +kernel) (da_cons (d_lc (own := [("turn", 2)]) fin_lst 1000000 rfl sc__law_thing.nd (di_rng1 (by rfl) T.n_range (da_cons (d_c1 (ps := ["deck", "many"]) C__law_draw hr tk (by rfl) (fun _ _ _ _ _ _ us hl => match us, hl with | [_, _], _ => rfl) (da_cons (d_var (pv 0)) (da_cons d_int da_nil))) da_nil)) (blkOk_by (own := [("turn", 2)]) (N := ["deck", "deep", "turn"]) (sc := defScope s__law_thing) (by decide +kernel)) (fun _ _ _ _ _ => (dg_name (i := 2) sc__law_thing.nd rfl (Or.inl rfl) (hv := by decide))) (fun _ _ _ _ _ => dts_nil) (fun _ _ _ _ _ => (d_c1 (ps := ["deck", "deep"]) C__law_thing hr takes0 (by rfl) (fun _ _ _ _ _ _ us hl => match us, hl with | [_, _], _ => rfl) (da_cons (d_var (pv 0)) (da_cons (d_op od_sub (d_var (pv 1)) d_int) da_nil))))) da_nil)))))
theorem sc__law_any_thing : FnScope ["deck", "way", "found", "turn"] ["deck"] (defScope s__law_any_thing) := ⟨rfl, rfl, rfl, by decide +kernel, rfl, by decide +kernel, by decide +kernel⟩
def b__law_any_thing (c__law_leaf c__law_draw c__law_pick c__law_thing : FM) : FM := fnM 4 ((sSeq (sPar 1 2 (aCons (mFn 2 c__law_draw [] (aCons (mVar 0) (aCons (mC (.int 6)) aNil))) (aCons (mFn 1 c__law_leaf [] (aCons (mVar 0) aNil)) aNil)))
  (sSeq (sIf (mTest (mOp oEq (mVar 1) (mC (.int 0))))
  (sSeq (sFor 1000000 (iRng1 (aCons (mFn 2 c__law_pick [] (aCons (mVar 0) (aCons (mLst (aCons (mC (.int 20)) (aCons (mC (.int 39)) (aCons (mC (.int 99)) (aCons (mC (.int 199)) aNil))))) aNil))) aNil)) (gNm 3)
  (sSet 2 (mFn 2 c__law_pick [] (aCons (mVar 0) (aCons (mLst (aCons (mTup (aCons (mVar 2) aNil)) (aCons (mTup (aCons (mVar 2) aNil)) (aCons (mTup (aCons (mC (.int 1)) (aCons (mVar 2) aNil))) (aCons (mTup (aCons (mVar 2) (aCons (mC .non) aNil))) aNil))))) aNil)))))
  (sRet (mTup (aCons (mVar 2) aNil))))
  sNil)
  (sRet (mIf (mTest (mOp oEq (mVar 1) (mC (.int 1)))) (mCall cTuple (aCons (mLc 1000000 [3] (iRng1 (aCons (mC (.int 60)) aNil)) (gNm 3) bYes (mFn 1 c__law_leaf [] (aCons (mVar 0) aNil))) aNil)) (mFn 2 c__law_thing [] (aCons (mVar 0) (aCons (mC (.int 4)) aNil))))))))
theorem ok__law_any_thing {c__law_leaf : FM} (C__law_leaf : CalP P w K mg base k "_law_leaf" s__law_leaf ["deck"] c__law_leaf) {c__law_draw : FM} (C__law_draw : CalP P w K mg base k "_law_draw" s__law_draw ["deck", "many"] c__law_draw) {c__law_pick : FM} (C__law_pick : CalP P w K mg base k "_law_pick" s__law_pick ["deck", "some"] c__law_pick) {c__law_thing : FM} (C__law_thing : CalP P w K mg base k "_law_thing" s__law_thing ["deck", "deep"] c__law_thing) (T : Tops P w K mg cl) : CalP P w K mg base (k + 1) "_law_any_thing" s__law_any_thing ["deck"] (b__law_any_thing c__law_leaf c__law_draw c__law_pick c__law_thing) := DefAt.cal (N := ["deck", "way", "found", "turn"]) T.d__law_any_thing sc__law_any_thing (m := fun _ _ => .no) fun f cdv A outer s H E hr =>
    have tk : Takes (cxOf (L2.CX P w) P w K mg base ["deck", "way", "found", "turn"] "_law_any_thing" (defScope s__law_any_thing) f cdv A outer s H E) (fun c d _ H => E c d H) := takes_of rfl rfl rfl rfl
    have pass_ : PassesOwn (model P w) (A.deeper (envOfC "_law_any_thing" (defScope s__law_any_thing) s.heap.objs.size f cdv)) (envOfC "_law_any_thing" (defScope s__law_any_thing) s.heap.objs.size f cdv) (cxOf (L2.CX P w) P w K mg base ["deck", "way", "found", "turn"] "_law_any_thing" (defScope s__law_any_thing) f cdv A outer s H E).xe := passes_of rfl
    (ds_cons (ds_par (i := 1) (j := 2) rfl sc__law_any_thing.nd rfl rfl (by decide) rfl rfl (da_cons (d_c1 (ps := ["deck", "many"]) C__law_draw hr tk (by rfl) (fun _ _ _ _ _ _ us hl => match us, hl with | [_, _], _ => rfl) (da_cons (d_var (pv 0)) (da_cons d_int da_nil))) (da_cons (d_c1 (ps := ["deck"]) C__law_leaf hr tk (by rfl) (fun _ _ _ _ _ _ us hl => match us, hl with | [_], _ => rfl) (da_cons (d_var (pv 0)) da_nil)) da_nil)) rfl)
      (ds_cons (ds_if (dt_cmp (od_eq hr.u64) (d_var (pv 1)) d_int (nomark _))
      (ds_cons (ds_for (vs := [3]) 1000000 pass_ rfl (di_rng1 (by rfl) T.n_range (da_cons (d_c1 (ps := ["deck", "some"]) C__law_pick hr tk (by rfl) (fun _ _ _ _ _ _ us hl => match us, hl with | [_, _], _ => rfl) (da_cons (d_var (pv 0)) (da_cons (d_lst (da_cons d_int (da_cons d_int (da_cons d_int (da_cons d_int da_nil))))) da_nil))) da_nil)) (dg_name (i := 3) sc__law_any_thing.nd rfl (Or.inl rfl) (hv := by decide))
      (ds_one (ds_set (i := 2) sc__law_any_thing.nd rfl (.inl rfl) (d_c1 (ps := ["deck", "some"]) C__law_pick hr tk (by rfl) (fun _ _ _ _ _ _ us hl => match us, hl with | [_, _], _ => rfl) (da_cons (d_var (pv 0)) (da_cons (d_lst (da_cons (d_tup (da_cons (d_var (pv 2)) da_nil)) (da_cons (d_tup (da_cons (d_var (pv 2)) da_nil)) (da_cons (d_tup (da_cons d_int (da_cons (d_var (pv 2)) da_nil))) (da_cons (d_tup (da_cons (d_var (pv 2)) (da_cons d_non da_nil))) da_nil))))) da_nil))))))
      (ds_one (ds_ret (d_tup (da_cons (d_var (pv 2)) da_nil)))))
      ds_nil)
      (ds_one (ds_ret (d_if (dt_cmp (od_eq hr.u64) (d_var (pv 1)) d_int (nomark _)) (d_callTy oc_tuple (by rfl) T.n_tuple (by decide +kernel) (da_cons (d_lc (own := [("turn", 3)]) fin_lst 1000000 rfl sc__law_any_thing.nd (di_rng1 (by rfl) T.n_range (da_cons d_int da_nil)) (blkOk_by (own := [("turn", 3)]) (N := ["deck", "way", "found", "turn"]) (sc := defScope s__law_any_thing) (by decide +kernel)) (fun _ _ _ _ _ => (dg_name (i := 3) sc__law_any_thing.nd rfl (Or.inl rfl) (hv := by decide))) (fun _ _ _ _ _ => dts_nil) (fun _ _ _ _ _ => (d_c1 (ps := ["deck"]) C__law_leaf hr takes0 (by rfl) (fun _ _ _ _ _ _ us hl => match us, hl with | [_], _ => rfl) (da_cons (d_var (pv 0)) da_nil)))) da_nil)) (d_c1 (ps := ["deck", "deep"]) C__law_thing hr tk (by rfl) (fun _ _ _ _ _ _ us hl => match us, hl with | [_, _], _ => rfl) (da_cons (d_var (pv 0)) (da_cons d_int da_nil))))))))
theorem sc__law_words : FnScope ["thing", "part"] ["thing"] (defScope s__law_words) := ⟨rfl, rfl, rfl, by decide +kernel, rfl, by decide +kernel, by decide +kernel⟩
def b__law_words (c__law_words : FM) : FM := fnM 2 ((sSeq (sIf (mTest (mCall cIsi (aCons (mVar 0) (aCons (mC (.st (.ty "tuple"))) aNil))))
  (sRet (mOp oAdd (mOp oAdd (mC (.str "(")) (mMeth "str" gJoin (mC (.str " ")) (aCons (mLc 1000000 [1] (iTupV (mVar 0)) (gNm 1) bYes (mFn 1 c__law_words [] (aCons (mVar 1) aNil))) aNil))) (mC (.str ")"))))
  sNil)
  (sSeq (sIf (mTest (mCall cIsi (aCons (mVar 0) (aCons (mC (.st (.ty "str"))) aNil))))
  (sRet (mOp oAdd (mOp oAdd (mC (.str "'")) (mVar 0)) (mC (.str "'"))))
  sNil)
  (sSeq (sIf (mTest (mOp oIs (mVar 0) (mC .non)))
  (sRet (mC (.str "-")))
  sNil)
  (sRet (mIf (mTest (mCall cIsi (aCons (mVar 0) (aCons (mC (.st (.ty "bool"))) aNil)))) (mIf (mTest (mVar 0)) (mC (.str "+")) (mC (.str "!"))) (mCall cStr (aCons (mVar 0) aNil))))))))
theorem ok__law_words {c__law_words : FM} (C__law_words : CalP P w K mg base k "_law_words" s__law_words ["thing"] c__law_words) (T : Tops P w K mg cl) : CalP P w K mg base (k + 1) "_law_words" s__law_words ["thing"] (b__law_words c__law_words) := DefAt.cal (N := ["thing", "part"]) T.d__law_words sc__law_words (m := fun _ _ => .no) fun f cdv A outer s H E hr =>
    have tk : Takes (cxOf (L2.CX P w) P w K mg base ["thing", "part"] "_law_words" (defScope s__law_words) f cdv A outer s H E) (fun c d _ H => E c d H) := takes_of rfl rfl rfl rfl
    have pass_ : PassesOwn (model P w) (A.deeper (envOfC "_law_words" (defScope s__law_words) s.heap.objs.size f cdv)) (envOfC "_law_words" (defScope s__law_words) s.heap.objs.size f cdv) (cxOf (L2.CX P w) P w K mg base ["thing", "part"] "_law_words" (defScope s__law_words) f cdv A outer s H E).xe := passes_of rfl
    (ds_cons (ds_if (dt_val (d_callB oc_isi (by rfl) T.n_isinstance (by decide +kernel) (da_cons (d_var (pv 0)) (da_cons (d_ty "tuple" (by rfl) T.n_tuple (by decide +kernel)) da_nil))))
      (ds_one (ds_ret (d_op od_add (d_op od_add d_str (d_meth PySem.F.plainAttrs_str PySem.F.slot_str_join PySem.F.type_str_join mt_gJoin (.inl rfl) d_str (da_cons (d_lc (own := [("part", 1)]) fin_lst 1000000 rfl sc__law_words.nd (di_tup (d_var (pv 0))) (blkOk_by (own := [("part", 1)]) (N := ["thing", "part"]) (sc := defScope s__law_words) (by decide +kernel)) (fun _ _ _ _ _ => (dg_name (i := 1) sc__law_words.nd rfl (Or.inl rfl) (hv := by decide))) (fun _ _ _ _ _ => dts_nil) (fun _ _ _ _ _ => (d_c1 (ps := ["thing"]) C__law_words hr takes0 (by rfl) (fun _ _ _ _ _ _ us hl => match us, hl with | [_], _ => rfl) (da_cons (d_var (pv 1)) da_nil)))) da_nil))) d_str)))
      ds_nil)
      (ds_cons (ds_if (dt_val (d_callB oc_isi (by rfl) T.n_isinstance (by decide +kernel) (da_cons (d_var (pv 0)) (da_cons (d_ty "str" (by rfl) T.n_str (by decide +kernel)) da_nil))))
      (ds_one (ds_ret (d_op od_add (d_op od_add d_str (d_var (pv 0))) d_str)))
      ds_nil)
      (ds_cons (ds_if (dt_cmp od_is (d_var (pv 0)) d_non (nomark _))
      (ds_one (ds_ret d_str))
      ds_nil)
      (ds_one (ds_ret (d_if (dt_val (d_callB oc_isi (by rfl) T.n_isinstance (by decide +kernel) (da_cons (d_var (pv 0)) (da_cons (d_ty "bool" (by rfl) T.n_bool (by decide +kernel)) da_nil)))) (d_if (dt_val (d_var (pv 0))) d_str d_str) (d_callTy oc_str (by rfl) T.n_str (by decide +kernel) (da_cons (d_var (pv 0)) da_nil))))))))
theorem sc__law_is_told : FnScope ["thing", "todo", "here", "deep", "part", "sign"] ["thing"] (defScope s__law_is_told) := ⟨rfl, rfl, rfl, by decide +kernel, rfl, by decide +kernel, by decide +kernel⟩
def b__law_is_told : FM := fnM 6 ((sSeq (sSet 1 (mNew (aCons (mTup (aCons (mVar 0) (aCons (mC (.int 0)) aNil))) aNil)))
  (sSeq (whileM 1000000 (mTest (mOp oNe (mVar 1) (mLst aNil)))
  (sSeq (sAsg (mMeth "list" gPop (mVar 1) aNil) (gTp 2 (gCn (gNm 2) (gCn (gNm 3) gNl))))
  (sIf (mTest (mCall cIsi (aCons (mVar 2) (aCons (mC (.st (.ty "tuple"))) aNil))))
  (sSeq (sIf (mTest (mOp oGt (mVar 3) (mC (.int 199))))
  (sRet (mC (.bl false)))
  sNil)
  (sExpr (mMeth "list" gExtend (mVar 1) (aCons (mLc 1000000 [4] (iTupV (mVar 2)) (gNm 4) bYes (mTup (aCons (mVar 4) (aCons (mOp oAdd (mVar 3) (mC (.int 1))) aNil)))) aNil))))
  (sIf (mTest (mCall cIsi (aCons (mVar 2) (aCons (mC (.st (.ty "str"))) aNil))))
  (sIf (mTest (mOp oNe (mLc 1000000 [5] (iStrV (mVar 2)) (gNm 5) (mOrT (mNotT (mTest (mChain oLe oLe (mC (.str " ")) (mVar 5) (mC (.str "~"))))) (mTest (mOp oEq (mVar 5) (mC (.str "'"))))) (mVar 5)) (mLst aNil)))
  (sRet (mC (.bl false)))
  sNil)
  (sIf (mTest (mCall cIsi (aCons (mVar 2) (aCons (mC (.st (.ty "int"))) aNil))))
  (sIf (mNotT (mTest (mChain oLtB oLtB (mNeg (mOp oPow (mC (.int 10)) (mC (.int 40)))) (mVar 2) (mOp oPow (mC (.int 10)) (mC (.int 40))))))
  (sRet (mC (.bl false)))
  sNil)
  (sIf (mTest (mOp oIsNot (mVar 2) (mC .non)))
  (sRet (mC (.bl false)))
  sNil))))))
  (sRet (mC (.bl true))))))
theorem ok__law_is_told (T : Tops P w K mg cl) : CalP P w K mg base (k + 1) "_law_is_told" s__law_is_told ["thing"] (b__law_is_told) := DefAt.cal (N := ["thing", "todo", "here", "deep", "part", "sign"]) T.d__law_is_told sc__law_is_told (m := fun _ _ => .no) fun f cdv A outer s H E hr =>
    have tk : Takes (cxOf (L2.CX P w) P w K mg base ["thing", "todo", "here", "deep", "part", "sign"] "_law_is_told" (defScope s__law_is_told) f cdv A outer s H E) (fun c d _ H => E c d H) := takes_of rfl rfl rfl rfl
    have pass_ : PassesOwn (model P w) (A.deeper (envOfC "_law_is_told" (defScope s__law_is_told) s.heap.objs.size f cdv)) (envOfC "_law_is_told" (defScope s__law_is_told) s.heap.objs.size f cdv) (cxOf (L2.CX P w) P w K mg base ["thing", "todo", "here", "deep", "part", "sign"] "_law_is_told" (defScope s__law_is_told) f cdv A outer s H E).xe := passes_of rfl
    (ds_cons (ds_set (i := 1) sc__law_is_told.nd rfl (.inl rfl) (d_new (da_cons (d_tup (da_cons (d_var (pv 0)) (da_cons d_int da_nil))) da_nil)))
      (ds_cons (ds_while 1000000 pass_ (dt_cmp (od_ne hr.u64) (d_var (pv 1)) (d_lst da_nil) (nomark _))
      (ds_cons (ds_asg (vs := [2, 3]) (d_meth0 PySem.F.plainAttrs_list PySem.F.slot_list_pop PySem.F.type_list_pop mt_gPop (.inr (.inl rfl)) (d_var (pv 1))) (dg_tup rfl (dgs_cons (dg_name (i := 2) sc__law_is_told.nd rfl (Or.inl rfl) (hv := by decide)) (dgs_cons (dg_name (i := 3) sc__law_is_told.nd rfl (Or.inr rfl) (hv := by decide)) dgs_nil))))
      (ds_one (ds_if (dt_val (d_callB oc_isi (by rfl) T.n_isinstance (by decide +kernel) (da_cons (d_var (pv 2)) (da_cons (d_ty "tuple" (by rfl) T.n_tuple (by decide +kernel)) da_nil))))
      (ds_cons (ds_if (dt_cmp od_gt (d_var (pv 3)) d_int (nomark _))
      (ds_one (ds_ret d_bl))
      ds_nil)
      (ds_one (ds_expr (d_meth PySem.F.plainAttrs_list PySem.F.slot_list_extend PySem.F.type_list_extend mt_gExtend (.inr (.inl rfl)) (d_var (pv 1)) (da_cons (d_lc (own := [("part", 4)]) fin_lst 1000000 rfl sc__law_is_told.nd (di_tup (d_var (pv 2))) (blkOk_by (own := [("part", 4)]) (N := ["thing", "todo", "here", "deep", "part", "sign"]) (sc := defScope s__law_is_told) (by decide +kernel)) (fun _ _ _ _ _ => (dg_name (i := 4) sc__law_is_told.nd rfl (Or.inl rfl) (hv := by decide))) (fun _ _ _ _ _ => dts_nil) (fun _ _ _ _ _ => (d_tup (da_cons (d_var (pv 4)) (da_cons (d_op od_add (d_var (pv 3)) d_int) da_nil))))) da_nil)))))
      (ds_one (ds_if (dt_val (d_callB oc_isi (by rfl) T.n_isinstance (by decide +kernel) (da_cons (d_var (pv 2)) (da_cons (d_ty "str" (by rfl) T.n_str (by decide +kernel)) da_nil))))
      (ds_one (ds_if (dt_cmp (od_ne hr.u64) (d_lc (own := [("sign", 5)]) fin_lst 1000000 rfl sc__law_is_told.nd (di_str (d_var (pv 2))) (blkOk_by (own := [("sign", 5)]) (N := ["thing", "todo", "here", "deep", "part", "sign"]) (sc := defScope s__law_is_told) (by decide +kernel)) (fun _ _ _ _ _ => (dg_name (i := 5) sc__law_is_told.nd rfl (Or.inl rfl) (hv := by decide))) (fun _ _ _ _ _ => (dts_one (dt_w (dw_or (dt_not (dt_chain od_le od_le d_str (d_var (pv 5)) d_str)) (dw_or1 (dt_cmp (od_eq hr.u64) (d_var (pv 5)) d_str (nomark _))))))) (fun _ _ _ _ _ => (d_var (pv 5)))) (d_lst da_nil) (nomark _))
      (ds_one (ds_ret d_bl))
      ds_nil))
      (ds_one (ds_if (dt_val (d_callB oc_isi (by rfl) T.n_isinstance (by decide +kernel) (da_cons (d_var (pv 2)) (da_cons (d_ty "int" (by rfl) T.n_int (by decide +kernel)) da_nil))))
      (ds_one (ds_if (dt_not (dt_chain od_ltB od_ltB (d_neg (d_op od_pow d_int d_int)) (d_var (pv 2)) (d_op od_pow d_int d_int)))
      (ds_one (ds_ret d_bl))
      ds_nil))
      (ds_one (ds_if (dt_cmp od_isNot (d_var (pv 2)) d_non (nomark _))
      (ds_one (ds_ret d_bl))
      ds_nil))))))))))
      (ds_one (ds_ret d_bl))))
theorem sc__law_read : FnScope ["text", "at", "open_now", "size", "sign", "end", "part", "word", "plain", "it"] ["text"] (defScope s__law_read) := ⟨rfl, rfl, rfl, by decide +kernel, rfl, by decide +kernel, by decide +kernel⟩
def b__law_read : FM := fnM 10 ((sSeq (sPar3 1 2 3 (aCons (mC (.int 0)) (aCons (mNew (aCons (mNew aNil) aNil)) (aCons (mCall cLen (aCons (mVar 0) aNil)) aNil))))
  (sSeq (whileM 1000000 (mTest (mOp oLt (mVar 1) (mVar 3)))
  (sSeq (sSet 4 (mOp oIx (mVar 0) (mVar 1)))
  (sSeq (sIf (mAndT (mTest (mOp oNe (mOp oIx (mVar 2) (mNeg (mC (.int 1)))) (mLst aNil))) (mTest (mOp oNe (mVar 4) (mC (.str ")")))))
  (sSeq (sIf (mOrT (mTest (mOp oNe (mVar 4) (mC (.str " ")))) (mOrT (mTest (mOp oEq (mCall cLen (aCons (mVar 2) aNil)) (mC (.int 1)))) (mOrT (mTest (mOp oEq (mOp oAdd (mVar 1) (mC (.int 1))) (mVar 3))) (mTest (mOp oIn (mOp oIx (mVar 0) (mOp oAdd (mVar 1) (mC (.int 1)))) (mC (.str " )")))))))
  (sRet (mTup aNil))
  sNil)
  (sSeq (sSet 1 (mOp oAdd (mVar 1) (mC (.int 1))))
  (sSet 4 (mOp oIx (mVar 0) (mVar 1)))))
  sNil)
  (sSeq (sIf (mTest (mOp oEq (mVar 4) (mC (.str "("))))
  (sSeq (sExpr (mMeth "list" gAppend (mVar 2) (aCons (mNew aNil) aNil)))
  (sSeq (sSet 1 (mOp oAdd (mVar 1) (mC (.int 1))))
  sCont))
  sNil)
  (sSeq (sIf (mTest (mOp oEq (mVar 4) (mC (.str ")"))))
  (sSeq (sIf (mTest (mOp oEq (mCall cLen (aCons (mVar 2) aNil)) (mC (.int 1))))
  (sRet (mTup aNil))
  sNil)
  (sSeq (sSet 6 (mCall cTuple (aCons (mMeth "list" gPop (mVar 2) aNil) aNil)))
  (sSeq (sExpr (mMeth "list" gAppend (mOp oIx (mVar 2) (mNeg (mC (.int 1)))) (aCons (mVar 6) aNil)))
  (sSeq (sSet 1 (mOp oAdd (mVar 1) (mC (.int 1))))
  sCont))))
  sNil)
  (sSeq (sSet 5 (mOp oAdd (mVar 1) (mC (.int 1))))
  (sSeq (sIf (mTest (mOp oEq (mVar 4) (mC (.str "'"))))
  (sSeq (sSet 5 (mOp oAdd (mMeth "str" gFind3 (mVar 0) (aCons (mC (.str "'")) (aCons (mOp oAdd (mVar 1) (mC (.int 1))) aNil))) (mC (.int 1))))
  (sSeq (sIf (mOrT (mTest (mOp oEq (mVar 5) (mC (.int 0)))) (mTest (mOp oNe (mLc 1000000 [9] (iStrV (mSl (mVar 0) (oPart (mOp oAdd (mVar 1) (mC (.int 1)))) (oPart (mOp oSub (mVar 5) (mC (.int 1)))))) (gNm 9) (mNotT (mTest (mChain oLe oLe (mC (.str " ")) (mVar 9) (mC (.str "~"))))) (mVar 9)) (mLst aNil))))
  (sRet (mTup aNil))
  sNil)
  (sExpr (mMeth "list" gAppend (mOp oIx (mVar 2) (mNeg (mC (.int 1)))) (aCons (mSl (mVar 0) (oPart (mOp oAdd (mVar 1) (mC (.int 1)))) (oPart (mOp oSub (mVar 5) (mC (.int 1))))) aNil)))))
  (sIf (mOrT (mTest (mOp oIn (mVar 4) (mC (.str "+!")))) (mAndT (mTest (mOp oEq (mVar 4) (mC (.str "-")))) (mOrT (mTest (mOp oEq (mVar 5) (mVar 3))) (mTest (mOp oNotIn (mOp oIx (mVar 0) (mVar 5)) (mC (.str "0123456789")))))))
  (sExpr (mMeth "list" gAppend (mOp oIx (mVar 2) (mNeg (mC (.int 1)))) (aCons (mIf (mTest (mOp oEq (mVar 4) (mC (.str "-")))) (mC .non) (mOp oEq (mVar 4) (mC (.str "+")))) aNil)))
  (sSeq (whileM 1000000 (mAndT (mTest (mOp oLt (mVar 5) (mVar 3))) (mTest (mOp oIn (mOp oIx (mVar 0) (mVar 5)) (mC (.str "0123456789")))))
  (sSet 5 (mOp oAdd (mVar 5) (mC (.int 1)))))
  (sSeq (sSet 7 (mSl (mVar 0) (oPart (mVar 1)) (oPart (mVar 5))))
  (sSeq (sSet 8 (mIf (mTest (mOp oEq (mVar 4) (mC (.str "-")))) (mSl (mVar 7) (oPart (mC (.int 1))) oNo) (mVar 7)))
  (sSeq (sIf (mOrT (mTest (mOp oNe (mLc 1000000 [9] (iStrV (mVar 8)) (gNm 9) (mTest (mOp oNotIn (mVar 9) (mC (.str "0123456789")))) (mVar 9)) (mLst aNil))) (mTest (mOp oGt (mCall cLen (aCons (mVar 8) aNil)) (mC (.int 40)))))
  (sRet (mTup aNil))
  sNil)
  (sSeq (sIf (mAndT (mTest (mOp oEq (mOp oIx (mVar 8) (mC (.int 0))) (mC (.str "0")))) (mTest (mOp oNe (mVar 7) (mC (.str "0")))))
  (sRet (mTup aNil))
  sNil)
  (sExpr (mMeth "list" gAppend (mOp oIx (mVar 2) (mNeg (mC (.int 1)))) (aCons (mCall cInt (aCons (mVar 7) aNil)) aNil))))))))))
  (sSet 1 (mVar 5)))))))))
  (sRet (mIf (mAndT (mTest (mOp oEq (mCall cLen (aCons (mVar 2) aNil)) (mC (.int 1)))) (mTest (mOp oEq (mCall cLen (aCons (mOp oIx (mVar 2) (mC (.int 0))) aNil)) (mC (.int 1))))) (mCall cTuple (aCons (mOp oIx (mVar 2) (mC (.int 0))) aNil)) (mTup aNil))))))
theorem ok__law_read (T : Tops P w K mg cl) : CalP P w K mg base (k + 1) "_law_read" s__law_read ["text"] (b__law_read) := DefAt.cal (N := ["text", "at", "open_now", "size", "sign", "end", "part", "word", "plain", "it"]) T.d__law_read sc__law_read (m := fun _ _ => .no) fun f cdv A outer s H E hr =>
    have tk : Takes (cxOf (L2.CX P w) P w K mg base ["text", "at", "open_now", "size", "sign", "end", "part", "word", "plain", "it"] "_law_read" (defScope s__law_read) f cdv A outer s H E) (fun c d _ H => E c d H) := takes_of rfl rfl rfl rfl
    have pass_ : PassesOwn (model P w) (A.deeper (envOfC "_law_read" (defScope s__law_read) s.heap.objs.size f cdv)) (envOfC "_law_read" (defScope s__law_read) s.heap.objs.size f cdv) (cxOf (L2.CX P w) P w K mg base ["text", "at", "open_now", "size", "sign", "end", "part", "word", "plain", "it"] "_law_read" (defScope s__law_read) f cdv A outer s H E).xe := passes_of rfl
    (ds_cons (ds_par3 (i := 1) (j := 2) (l := 3) rfl sc__law_read.nd rfl rfl rfl (by decide) (by decide) (by decide) rfl rfl rfl (da_cons d_int (da_cons (d_new (da_cons (d_new da_nil) da_nil)) (da_cons (d_callB oc_len (by rfl) T.n_len (by decide +kernel) (da_cons (d_var (pv 0)) da_nil)) da_nil))) rfl)
      (ds_cons (ds_while 1000000 pass_ (dt_cmp od_lt (d_var (pv 1)) (d_var (pv 3)) (nomark _))
      (ds_cons (ds_set (i := 4) sc__law_read.nd rfl (.inl rfl) (d_ix (d_var (pv 0)) (d_var (pv 1))))
      (ds_cons (ds_if (dt_w (dw_and (dt_cmp (od_ne hr.u64) (d_ix (d_var (pv 2)) (d_neg d_int)) (d_lst da_nil) (nomark _)) (dw_and1 (dt_cmp (od_ne hr.u64) (d_var (pv 4)) d_str (nomark _)))))
      (ds_cons (ds_if (dt_w (dw_or (dt_cmp (od_ne hr.u64) (d_var (pv 4)) d_str (nomark _)) (dw_or (dt_cmp (od_eq hr.u64) (d_callB oc_len (by rfl) T.n_len (by decide +kernel) (da_cons (d_var (pv 2)) da_nil)) d_int (nomark _)) (dw_or (dt_cmp (od_eq hr.u64) (d_op od_add (d_var (pv 1)) d_int) (d_var (pv 3)) (nomark _)) (dw_or1 (dt_cmp (od_in hr.u65) (d_ix (d_var (pv 0)) (d_op od_add (d_var (pv 1)) d_int)) d_str (by rfl)))))))
      (ds_one (ds_ret (d_tup da_nil)))
      ds_nil)
      (ds_cons (ds_set (i := 1) sc__law_read.nd rfl (.inl rfl) (d_op od_add (d_var (pv 1)) d_int))
      (ds_one (ds_set (i := 4) sc__law_read.nd rfl (.inl rfl) (d_ix (d_var (pv 0)) (d_var (pv 1)))))))
      ds_nil)
      (ds_cons (ds_if (dt_cmp (od_eq hr.u64) (d_var (pv 4)) d_str (nomark _))
      (ds_cons (ds_expr (d_meth PySem.F.plainAttrs_list PySem.F.slot_list_append PySem.F.type_list_append mt_gAppend (.inr (.inl rfl)) (d_var (pv 2)) (da_cons (d_new da_nil) da_nil)))
      (ds_cons (ds_set (i := 1) sc__law_read.nd rfl (.inl rfl) (d_op od_add (d_var (pv 1)) d_int))
      (ds_one ds_continue)))
      ds_nil)
      (ds_cons (ds_if (dt_cmp (od_eq hr.u64) (d_var (pv 4)) d_str (nomark _))
      (ds_cons (ds_if (dt_cmp (od_eq hr.u64) (d_callB oc_len (by rfl) T.n_len (by decide +kernel) (da_cons (d_var (pv 2)) da_nil)) d_int (nomark _))
      (ds_one (ds_ret (d_tup da_nil)))
      ds_nil)
      (ds_cons (ds_set (i := 6) sc__law_read.nd rfl (.inl rfl) (d_callTy oc_tuple (by rfl) T.n_tuple (by decide +kernel) (da_cons (d_meth0 PySem.F.plainAttrs_list PySem.F.slot_list_pop PySem.F.type_list_pop mt_gPop (.inr (.inl rfl)) (d_var (pv 2))) da_nil)))
      (ds_cons (ds_expr (d_meth PySem.F.plainAttrs_list PySem.F.slot_list_append PySem.F.type_list_append mt_gAppend (.inr (.inl rfl)) (d_ix (d_var (pv 2)) (d_neg d_int)) (da_cons (d_var (pv 6)) da_nil)))
      (ds_cons (ds_set (i := 1) sc__law_read.nd rfl (.inl rfl) (d_op od_add (d_var (pv 1)) d_int))
      (ds_one ds_continue)))))
      ds_nil)
      (ds_cons (ds_set (i := 5) sc__law_read.nd rfl (.inl rfl) (d_op od_add (d_var (pv 1)) d_int))
      (ds_cons (ds_if (dt_cmp (od_eq hr.u64) (d_var (pv 4)) d_str (nomark _))
      (ds_cons (ds_set (i := 5) sc__law_read.nd rfl (.inl rfl) (d_op od_add (d_meth PySem.F.plainAttrs_str PySem.F.slot_str_find PySem.F.type_str_find mt_gFind3 (.inl rfl) (d_var (pv 0)) (da_cons d_str (da_cons (d_op od_add (d_var (pv 1)) d_int) da_nil))) d_int))
      (ds_cons (ds_if (dt_w (dw_or (dt_cmp (od_eq hr.u64) (d_var (pv 5)) d_int (nomark _)) (dw_or1 (dt_cmp (od_ne hr.u64) (d_lc (own := [("it", 9)]) fin_lst 1000000 rfl sc__law_read.nd (di_str (d_slice (d_var (pv 0)) (do_some (d_op od_add (d_var (pv 1)) d_int)) (do_some (d_op od_sub (d_var (pv 5)) d_int)))) (blkOk_by (own := [("it", 9)]) (N := ["text", "at", "open_now", "size", "sign", "end", "part", "word", "plain", "it"]) (sc := defScope s__law_read) (by decide +kernel)) (fun _ _ _ _ _ => (dg_name (i := 9) sc__law_read.nd rfl (Or.inl rfl) (hv := by decide))) (fun _ _ _ _ _ => (dts_one (dt_not (dt_chain od_le od_le d_str (d_var (pv 9)) d_str)))) (fun _ _ _ _ _ => (d_var (pv 9)))) (d_lst da_nil) (nomark _)))))
      (ds_one (ds_ret (d_tup da_nil)))
      ds_nil)
      (ds_one (ds_expr (d_meth PySem.F.plainAttrs_list PySem.F.slot_list_append PySem.F.type_list_append mt_gAppend (.inr (.inl rfl)) (d_ix (d_var (pv 2)) (d_neg d_int)) (da_cons (d_slice (d_var (pv 0)) (do_some (d_op od_add (d_var (pv 1)) d_int)) (do_some (d_op od_sub (d_var (pv 5)) d_int))) da_nil))))))
      (ds_one (ds_if (dt_w (dw_or (dt_cmp (od_in hr.u65) (d_var (pv 4)) d_str (by rfl)) (dw_or1 (dt_w (dw_and (dt_cmp (od_eq hr.u64) (d_var (pv 4)) d_str (nomark _)) (dw_and1 (dt_w (dw_or (dt_cmp (od_eq hr.u64) (d_var (pv 5)) (d_var (pv 3)) (nomark _)) (dw_or1 (dt_cmp (od_notIn hr.u65) (d_ix (d_var (pv 0)) (d_var (pv 5))) d_str (by rfl)))))))))))
      (ds_one (ds_expr (d_meth PySem.F.plainAttrs_list PySem.F.slot_list_append PySem.F.type_list_append mt_gAppend (.inr (.inl rfl)) (d_ix (d_var (pv 2)) (d_neg d_int)) (da_cons (d_if (dt_cmp (od_eq hr.u64) (d_var (pv 4)) d_str (nomark _)) d_non (d_cmp (od_eq hr.u64) (d_var (pv 4)) d_str (nomark _))) da_nil))))
      (ds_cons (ds_while 1000000 pass_ (dt_w (dw_and (dt_cmp od_lt (d_var (pv 5)) (d_var (pv 3)) (nomark _)) (dw_and1 (dt_cmp (od_in hr.u65) (d_ix (d_var (pv 0)) (d_var (pv 5))) d_str (by rfl)))))
      (ds_one (ds_set (i := 5) sc__law_read.nd rfl (.inl rfl) (d_op od_add (d_var (pv 5)) d_int))))
      (ds_cons (ds_set (i := 7) sc__law_read.nd rfl (.inl rfl) (d_slice (d_var (pv 0)) (do_some (d_var (pv 1))) (do_some (d_var (pv 5)))))
      (ds_cons (ds_set (i := 8) sc__law_read.nd rfl (.inl rfl) (d_if (dt_cmp (od_eq hr.u64) (d_var (pv 4)) d_str (nomark _)) (d_slice (d_var (pv 7)) (do_some d_int) do_no) (d_var (pv 7))))
      (ds_cons (ds_if (dt_w (dw_or (dt_cmp (od_ne hr.u64) (d_lc (own := [("it", 9)]) fin_lst 1000000 rfl sc__law_read.nd (di_str (d_var (pv 8))) (blkOk_by (own := [("it", 9)]) (N := ["text", "at", "open_now", "size", "sign", "end", "part", "word", "plain", "it"]) (sc := defScope s__law_read) (by decide +kernel)) (fun _ _ _ _ _ => (dg_name (i := 9) sc__law_read.nd rfl (Or.inl rfl) (hv := by decide))) (fun _ _ _ _ _ => (dts_one (dt_cmp (od_notIn hr.u65) (d_var (pv 9)) d_str (by rfl)))) (fun _ _ _ _ _ => (d_var (pv 9)))) (d_lst da_nil) (nomark _)) (dw_or1 (dt_cmp od_gt (d_callB oc_len (by rfl) T.n_len (by decide +kernel) (da_cons (d_var (pv 8)) da_nil)) d_int (nomark _)))))
      (ds_one (ds_ret (d_tup da_nil)))
      ds_nil)
      (ds_cons (ds_if (dt_w (dw_and (dt_cmp (od_eq hr.u64) (d_ix (d_var (pv 8)) d_int) d_str (nomark _)) (dw_and1 (dt_cmp (od_ne hr.u64) (d_var (pv 7)) d_str (nomark _)))))
      (ds_one (ds_ret (d_tup da_nil)))
      ds_nil)
      (ds_one (ds_expr (d_meth PySem.F.plainAttrs_list PySem.F.slot_list_append PySem.F.type_list_append mt_gAppend (.inr (.inl rfl)) (d_ix (d_var (pv 2)) (d_neg d_int)) (da_cons (d_callTy oc_int (by rfl) T.n_int (by decide +kernel) (da_cons (d_var (pv 7)) da_nil)) da_nil))))))))))))
      (ds_one (ds_set (i := 1) sc__law_read.nd rfl (.inl rfl) (d_var (pv 5)))))))))))
      (ds_one (ds_ret (d_if (dt_w (dw_and (dt_cmp (od_eq hr.u64) (d_callB oc_len (by rfl) T.n_len (by decide +kernel) (da_cons (d_var (pv 2)) da_nil)) d_int (nomark _)) (dw_and1 (dt_cmp (od_eq hr.u64) (d_callB oc_len (by rfl) T.n_len (by decide +kernel) (da_cons (d_ix (d_var (pv 2)) d_int) da_nil)) d_int (nomark _))))) (d_callTy oc_tuple (by rfl) T.n_tuple (by decide +kernel) (da_cons (d_ix (d_var (pv 2)) d_int) da_nil)) (d_tup da_nil))))))
theorem sc__law_near : FnScope ["deck", "thing", "at"] ["deck", "thing"] (defScope s__law_near) := ⟨rfl, rfl, rfl, by decide +kernel, rfl, by decide +kernel, by decide +kernel⟩
def b__law_near (c__law_draw c__law_near c__law_pick : FM) : FM := fnM 3 ((sSeq (sIf (mAndT (mTest (mCall cIsi (aCons (mVar 1) (aCons (mC (.st (.ty "tuple"))) aNil)))) (mAndT (mTest (mOp oNe (mVar 1) (mTup aNil))) (mTest (mOp oGt (mFn 2 c__law_draw [] (aCons (mVar 0) (aCons (mC (.int 4)) aNil))) (mC (.int 0))))))
  (sSeq (sSet 2 (mFn 2 c__law_draw [] (aCons (mVar 0) (aCons (mCall cLen (aCons (mVar 1) aNil)) aNil))))
  (sRet (mOp oAdd (mOp oAdd (mSl (mVar 1) oNo (oPart (mVar 2))) (mTup (aCons (mFn 2 c__law_near [] (aCons (mVar 0) (aCons (mOp oIx (mVar 1) (mVar 2)) aNil))) aNil))) (mSl (mVar 1) (oPart (mOp oAdd (mVar 2) (mC (.int 1)))) oNo))))
  sNil)
  (sRet (mFn 2 c__law_pick [] (aCons (mVar 0) (aCons (mLst (aCons (mLst aNil) (aCons mDNew (aCons (mC (.str "it's")) (aCons (mC (.str "a\nb")) (aCons (mOp oPow (mC (.int 10)) (mC (.int 40))) (aCons (mNeg (mOp oPow (mC (.int 10)) (mC (.int 40)))) (aCons (mLst (aCons (mC (.int 1)) aNil)) (aCons (mDct (dCons (mC (.str "a")) (mC (.int 1)) dNil)) (aCons (mTup (aCons (mVar 1) (aCons (mLst aNil) aNil))) (aCons (mVar 1) (aCons (mTup (aCons (mVar 1) aNil)) (aCons (mC (.str "")) (aCons (mC (.str "\t")) aNil)))))))))))))) aNil))))))
theorem ok__law_near {c__law_draw : FM} (C__law_draw : CalP P w K mg base k "_law_draw" s__law_draw ["deck", "many"] c__law_draw) {c__law_near : FM} (C__law_near : CalP P w K mg base k "_law_near" s__law_near ["deck", "thing"] c__law_near) {c__law_pick : FM} (C__law_pick : CalP P w K mg base k "_law_pick" s__law_pick ["deck", "some"] c__law_pick) (T : Tops P w K mg cl) : CalP P w K mg base (k + 1) "_law_near" s__law_near ["deck", "thing"] (b__law_near c__law_draw c__law_near c__law_pick) := DefAt.cal (N := ["deck", "thing", "at"]) T.d__law_near sc__law_near (m := fun _ _ => .no) fun f cdv A outer s H E hr =>
    have tk : Takes (cxOf (L2.CX P w) P w K mg base ["deck", "thing", "at"] "_law_near" (defScope s__law_near) f cdv A outer s H E) (fun c d _ H => E c d H) := takes_of rfl rfl rfl rfl
    have pass_ : PassesOwn (model P w) (A.deeper (envOfC "_law_near" (defScope s__law_near) s.heap.objs.size f cdv)) (envOfC "_law_near" (defScope s__law_near) s.heap.objs.size f cdv) (cxOf (L2.CX P w) P w K mg base ["deck", "thing", "at"] "_law_near" (defScope s__law_near) f cdv A outer s H E).xe := passes_of rfl
    (ds_cons (ds_if (dt_w (dw_and (dt_val (d_callB oc_isi (by rfl) T.n_isinstance (by decide +kernel) (da_cons (d_var (pv 1)) (da_cons (d_ty "tuple" (by rfl) T.n_tuple (by decide +kernel)) da_nil)))) (dw_and (dt_cmp (od_ne hr.u64) (d_var (pv 1)) (d_tup da_nil) (nomark _)) (dw_and1 (dt_cmp od_gt (d_c1 (ps := ["deck", "many"]) C__law_draw hr tk (by rfl) (fun _ _ _ _ _ _ us hl => match us, hl with | [_, _], _ => rfl) (da_cons (d_var (pv 0)) (da_cons d_int da_nil))) d_int (nomark _))))))
      (ds_cons (ds_set (i := 2) sc__law_near.nd rfl (.inl rfl) (d_c1 (ps := ["deck", "many"]) C__law_draw hr tk (by rfl) (fun _ _ _ _ _ _ us hl => match us, hl with | [_, _], _ => rfl) (da_cons (d_var (pv 0)) (da_cons (d_callB oc_len (by rfl) T.n_len (by decide +kernel) (da_cons (d_var (pv 1)) da_nil)) da_nil))))
      (ds_one (ds_ret (d_op od_add (d_op od_add (d_slice (d_var (pv 1)) do_no (do_some (d_var (pv 2)))) (d_tup (da_cons (d_c1 (ps := ["deck", "thing"]) C__law_near hr tk (by rfl) (fun _ _ _ _ _ _ us hl => match us, hl with | [_, _], _ => rfl) (da_cons (d_var (pv 0)) (da_cons (d_ix (d_var (pv 1)) (d_var (pv 2))) da_nil))) da_nil))) (d_slice (d_var (pv 1)) (do_some (d_op od_add (d_var (pv 2)) d_int)) do_no)))))
      ds_nil)
      (ds_one (ds_ret (d_c1 (ps := ["deck", "some"]) C__law_pick hr tk (by rfl) (fun _ _ _ _ _ _ us hl => match us, hl with | [_, _], _ => rfl) (da_cons (d_var (pv 0)) (da_cons (d_lst (da_cons (d_lst da_nil) (da_cons d_dnew (da_cons d_str (da_cons d_str (da_cons (d_op od_pow d_int d_int) (da_cons (d_neg (d_op od_pow d_int d_int)) (da_cons (d_lst (da_cons d_int da_nil)) (da_cons (d_dct (dp_cons d_str d_int dp_nil) (by rfl) (by rfl) (fun z => by cases z) (by decide)) (da_cons (d_tup (da_cons (d_var (pv 1)) (da_cons (d_lst da_nil) da_nil))) (da_cons (d_var (pv 1)) (da_cons (d_tup (da_cons (d_var (pv 1)) da_nil)) (da_cons d_str (da_cons d_str da_nil)))))))))))))) da_nil))))))
theorem sc__law_heard : FnScope ["text", "by_name", "e"] ["text", "by_name"] (defScope s__law_heard) := ⟨rfl, rfl, rfl, by decide +kernel, rfl, by decide +kernel, by decide +kernel⟩
noncomputable def b__law_heard (cl : Cl) (c_read_told : FM) : FM := fnM 3 ((sTry (mtC (.ref cl.NoText)) 2 (sRet (mTup (aCons (mC (.str "read")) (aCons (mIf (mTest (mVar 1)) (mFnK 1 0 1 [.kw 0] c_read_told [] aNil (aCons (mVar 0) aNil)) (mFn 1 c_read_told [] (aCons (mVar 0) aNil))) aNil))))
  (fun a cls d => (sRet (mTup (aCons (mC (.str "none")) (aCons (mXf a cls d cl.NoText "line" (mVar 2)) (aCons (mCall (cIsE a cls d cl.NoText (tbL [(.ref cl.SoError)] true)) (aCons (mVar 2) (aCons (mC (.st (.ref cl.SoError))) aNil))) aNil))))))))
theorem ok__law_heard {c_read_told : FM} (C_read_told : CalP P w K mg base k "read_told" s_read_told ["text"] c_read_told) (T : Tops P w K mg cl) : CalP P w K mg base (k + 1) "_law_heard" s__law_heard ["text", "by_name"] (b__law_heard cl c_read_told) := DefAt.cal (N := ["text", "by_name", "e"]) T.d__law_heard sc__law_heard (m := fun _ _ => .no) fun f cdv A outer s H E hr =>
    have tk : Takes (cxOf (L2.CX P w) P w K mg base ["text", "by_name", "e"] "_law_heard" (defScope s__law_heard) f cdv A outer s H E) (fun c d _ H => E c d H) := takes_of rfl rfl rfl rfl
    have pass_ : PassesOwn (model P w) (A.deeper (envOfC "_law_heard" (defScope s__law_heard) s.heap.objs.size f cdv)) (envOfC "_law_heard" (defScope s__law_heard) s.heap.objs.size f cdv) (cxOf (L2.CX P w) P w K mg base ["text", "by_name", "e"] "_law_heard" (defScope s__law_heard) f cdv A outer s H E).xe := passes_of rfl
    (ds_one (ds_try (i := 2) (c := .ref cl.NoText) rfl rfl sc__law_heard.nd rfl rfl ⟨by rfl, by decide, .inl T.g_NoText⟩ tk (fun W' pn xe tk pass_ => (ds_one (ds_ret (d_tup (da_cons d_str (da_cons (d_if (dt_val (d_var (pv 1))) (d_ck0 (ps := ["text"]) (ks := ["text"]) (ix := [.kw 0]) C_read_told hr tk (by rfl) (fun _ _ _ _ _ _ ws hl => match ws, hl with | [_], _ => rfl) (dk_cons (d_var (pv 0)) dk_nil)) (d_c1 (ps := ["text"]) C_read_told hr tk (by rfl) (fun _ _ _ _ _ _ us hl => match us, hl with | [_], _ => rfl) (da_cons (d_var (pv 0)) da_nil))) da_nil))))))
      (fun a oe cls d pn hz hf => (ds_one (ds_ret (d_tup (da_cons d_str (da_cons (d_xf T.f_NoText T.fn_NoText_line hz hf (d_var (pv 2))) (da_cons (d_callB (oc_isE T.x_NoText hz hf (tbL_ok T.i_0)) (by rfl) T.n_isinstance (by decide +kernel) (da_cons (d_var (pv 2)) (da_cons (d_cls (by rfl) T.g_SoError) da_nil))) da_nil))))))) (mtC_ok T.m_NoText)))
theorem sc__law_bent : FnScope ["deck", "text", "sign", "at", "way"] ["deck", "text"] (defScope s__law_bent) := ⟨rfl, rfl, rfl, by decide +kernel, rfl, by decide +kernel, by decide +kernel⟩
def b__law_bent (c__law_draw c__law_pick : FM) : FM := fnM 5 ((sSeq (sPar 3 4 (aCons (mFn 2 c__law_draw [] (aCons (mVar 0) (aCons (mOp oAdd (mCall cLen (aCons (mVar 1) aNil)) (mC (.int 1))) aNil))) (aCons (mFn 2 c__law_draw [] (aCons (mVar 0) (aCons (mC (.int 6)) aNil))) aNil)))
  (sSeq (sSet 2 (mFn 2 c__law_pick [] (aCons (mVar 0) (aCons (mC (.str " ()'+-!0129a")) aNil))))
  (sSeq (sIf (mTest (mOp oEq (mVar 4) (mC (.int 0))))
  (sRet (mOp oAdd (mSl (mVar 1) oNo (oPart (mVar 3))) (mSl (mVar 1) (oPart (mOp oAdd (mVar 3) (mC (.int 1)))) oNo)))
  sNil)
  (sSeq (sIf (mTest (mOp oEq (mVar 4) (mC (.int 1))))
  (sRet (mOp oAdd (mOp oAdd (mSl (mVar 1) oNo (oPart (mVar 3))) (mSl (mVar 1) (oPart (mVar 3)) (oPart (mOp oAdd (mVar 3) (mC (.int 1)))))) (mSl (mVar 1) (oPart (mVar 3)) oNo)))
  sNil)
  (sSeq (sIf (mTest (mOp oEq (mVar 4) (mC (.int 2))))
  (sRet (mOp oAdd (mOp oAdd (mSl (mVar 1) oNo (oPart (mVar 3))) (mVar 2)) (mSl (mVar 1) (oPart (mOp oAdd (mVar 3) (mC (.int 1)))) oNo)))
  sNil)
  (sSeq (sIf (mTest (mOp oEq (mVar 4) (mC (.int 3))))
  (sRet (mOp oAdd (mOp oAdd (mSl (mVar 1) oNo (oPart (mVar 3))) (mVar 2)) (mSl (mVar 1) (oPart (mVar 3)) oNo)))
  sNil)
  (sRet (mIf (mTest (mOp oEq (mVar 4) (mC (.int 4)))) (mOp oAdd (mOp oAdd (mOp oAdd (mSl (mVar 1) oNo (oPart (mVar 3))) (mSl (mVar 1) (oPart (mOp oAdd (mVar 3) (mC (.int 1)))) (oPart (mOp oAdd (mVar 3) (mC (.int 2)))))) (mSl (mVar 1) (oPart (mVar 3)) (oPart (mOp oAdd (mVar 3) (mC (.int 1)))))) (mSl (mVar 1) (oPart (mOp oAdd (mVar 3) (mC (.int 2)))) oNo)) (mFn 2 c__law_pick [] (aCons (mVar 0) (aCons (mLst (aCons (mOp oAdd (mVar 1) (mC (.str " "))) (aCons (mOp oAdd (mC (.str " ")) (mVar 1)) (aCons (mOp oAdd (mVar 1) (mVar 1)) (aCons (mOp oAdd (mVar 1) (mC (.str "\n"))) (aCons (mOp oAdd (mC (.str "(")) (mVar 1)) (aCons (mOp oAdd (mVar 1) (mC (.str ")"))) aNil))))))) aNil))))))))))))
theorem ok__law_bent {c__law_draw : FM} (C__law_draw : CalP P w K mg base k "_law_draw" s__law_draw ["deck", "many"] c__law_draw) {c__law_pick : FM} (C__law_pick : CalP P w K mg base k "_law_pick" s__law_pick ["deck", "some"] c__law_pick) (T : Tops P w K mg cl) : CalP P w K mg base (k + 1) "_law_bent" s__law_bent ["deck", "text"] (b__law_bent c__law_draw c__law_pick) := DefAt.cal (N := ["deck", "text", "sign", "at", "way"]) T.d__law_bent sc__law_bent (m := fun _ _ => .no) fun f cdv A outer s H E hr =>
    have tk : Takes (cxOf (L2.CX P w) P w K mg base ["deck", "text", "sign", "at", "way"] "_law_bent" (defScope s__law_bent) f cdv A outer s H E) (fun c d _ H => E c d H) := takes_of rfl rfl rfl rfl
    have pass_ : PassesOwn (model P w) (A.deeper (envOfC "_law_bent" (defScope s__law_bent) s.heap.objs.size f cdv)) (envOfC "_law_bent" (defScope s__law_bent) s.heap.objs.size f cdv) (cxOf (L2.CX P w) P w K mg base ["deck", "text", "sign", "at", "way"] "_law_bent" (defScope s__law_bent) f cdv A outer s H E).xe := passes_of rfl
    (ds_cons (ds_par (i := 3) (j := 4) rfl sc__law_bent.nd rfl rfl (by decide) rfl rfl (da_cons (d_c1 (ps := ["deck", "many"]) C__law_draw hr tk (by rfl) (fun _ _ _ _ _ _ us hl => match us, hl with | [_, _], _ => rfl) (da_cons (d_var (pv 0)) (da_cons (d_op od_add (d_callB oc_len (by rfl) T.n_len (by decide +kernel) (da_cons (d_var (pv 1)) da_nil)) d_int) da_nil))) (da_cons (d_c1 (ps := ["deck", "many"]) C__law_draw hr tk (by rfl) (fun _ _ _ _ _ _ us hl => match us, hl with | [_, _], _ => rfl) (da_cons (d_var (pv 0)) (da_cons d_int da_nil))) da_nil)) rfl)
      (ds_cons (ds_set (i := 2) sc__law_bent.nd rfl (.inl rfl) (d_c1 (ps := ["deck", "some"]) C__law_pick hr tk (by rfl) (fun _ _ _ _ _ _ us hl => match us, hl with | [_, _], _ => rfl) (da_cons (d_var (pv 0)) (da_cons d_str da_nil))))
      (ds_cons (ds_if (dt_cmp (od_eq hr.u64) (d_var (pv 4)) d_int (nomark _))
      (ds_one (ds_ret (d_op od_add (d_slice (d_var (pv 1)) do_no (do_some (d_var (pv 3)))) (d_slice (d_var (pv 1)) (do_some (d_op od_add (d_var (pv 3)) d_int)) do_no))))
      ds_nil)
      (ds_cons (ds_if (dt_cmp (od_eq hr.u64) (d_var (pv 4)) d_int (nomark _))
      (ds_one (ds_ret (d_op od_add (d_op od_add (d_slice (d_var (pv 1)) do_no (do_some (d_var (pv 3)))) (d_slice (d_var (pv 1)) (do_some (d_var (pv 3))) (do_some (d_op od_add (d_var (pv 3)) d_int)))) (d_slice (d_var (pv 1)) (do_some (d_var (pv 3))) do_no))))
      ds_nil)
      (ds_cons (ds_if (dt_cmp (od_eq hr.u64) (d_var (pv 4)) d_int (nomark _))
      (ds_one (ds_ret (d_op od_add (d_op od_add (d_slice (d_var (pv 1)) do_no (do_some (d_var (pv 3)))) (d_var (pv 2))) (d_slice (d_var (pv 1)) (do_some (d_op od_add (d_var (pv 3)) d_int)) do_no))))
      ds_nil)
      (ds_cons (ds_if (dt_cmp (od_eq hr.u64) (d_var (pv 4)) d_int (nomark _))
      (ds_one (ds_ret (d_op od_add (d_op od_add (d_slice (d_var (pv 1)) do_no (do_some (d_var (pv 3)))) (d_var (pv 2))) (d_slice (d_var (pv 1)) (do_some (d_var (pv 3))) do_no))))
      ds_nil)
      (ds_one (ds_ret (d_if (dt_cmp (od_eq hr.u64) (d_var (pv 4)) d_int (nomark _)) (d_op od_add (d_op od_add (d_op od_add (d_slice (d_var (pv 1)) do_no (do_some (d_var (pv 3)))) (d_slice (d_var (pv 1)) (do_some (d_op od_add (d_var (pv 3)) d_int)) (do_some (d_op od_add (d_var (pv 3)) d_int)))) (d_slice (d_var (pv 1)) (do_some (d_var (pv 3))) (do_some (d_op od_add (d_var (pv 3)) d_int)))) (d_slice (d_var (pv 1)) (do_some (d_op od_add (d_var (pv 3)) d_int)) do_no)) (d_c1 (ps := ["deck", "some"]) C__law_pick hr tk (by rfl) (fun _ _ _ _ _ _ us hl => match us, hl with | [_, _], _ => rfl) (da_cons (d_var (pv 0)) (da_cons (d_lst (da_cons (d_op od_add (d_var (pv 1)) d_str) (da_cons (d_op od_add d_str (d_var (pv 1))) (da_cons (d_op od_add (d_var (pv 1)) (d_var (pv 1))) (da_cons (d_op od_add (d_var (pv 1)) d_str) (da_cons (d_op od_add d_str (d_var (pv 1))) (da_cons (d_op od_add (d_var (pv 1)) d_str) da_nil))))))) da_nil))))))))))))
theorem sc__law_is_read_right : FnScope ["deck", "text", "by_name", "own", "due"] ["deck", "text", "by_name"] (defScope s__law_is_read_right) := ⟨rfl, rfl, rfl, by decide +kernel, rfl, by decide +kernel, by decide +kernel⟩
def b__law_is_read_right (c__law_read c__law_is_told c__law_heard : FM) : FM := fnM 5 ((sSeq (sSet 3 (mFn 1 c__law_read [] (aCons (mVar 1) aNil)))
  (sSeq (sSet 4 (mIf (mAndT (mTest (mOp oNe (mVar 3) (mTup aNil))) (mTest (mFn 1 c__law_is_told [] (aCons (mOp oIx (mVar 3) (mC (.int 0))) aNil)))) (mTup (aCons (mC (.str "read")) (aCons (mOp oIx (mVar 3) (mC (.int 0))) aNil))) (mTup (aCons (mC (.str "none")) (aCons (mC (.int 0)) (aCons (mC (.bl true)) aNil))))))
  (sRet (mOp oEq (mCall cRepr (aCons (mFn 2 c__law_heard [] (aCons (mVar 1) (aCons (mVar 2) aNil))) aNil)) (mCall cRepr (aCons (mVar 4) aNil)))))))
theorem ok__law_is_read_right {c__law_read : FM} (C__law_read : CalP P w K mg base k "_law_read" s__law_read ["text"] c__law_read) {c__law_is_told : FM} (C__law_is_told : CalP P w K mg base k "_law_is_told" s__law_is_told ["thing"] c__law_is_told) {c__law_heard : FM} (C__law_heard : CalP P w K mg base k "_law_heard" s__law_heard ["text", "by_name"] c__law_heard) (T : Tops P w K mg cl) : CalP P w K mg base (k + 1) "_law_is_read_right" s__law_is_read_right ["deck", "text", "by_name"] (b__law_is_read_right c__law_read c__law_is_told c__law_heard) := DefAt.cal (N := ["deck", "text", "by_name", "own", "due"]) T.d__law_is_read_right sc__law_is_read_right (m := fun _ _ => .no) fun f cdv A outer s H E hr =>
    have tk : Takes (cxOf (L2.CX P w) P w K mg base ["deck", "text", "by_name", "own", "due"] "_law_is_read_right" (defScope s__law_is_read_right) f cdv A outer s H E) (fun c d _ H => E c d H) := takes_of rfl rfl rfl rfl
    have pass_ : PassesOwn (model P w) (A.deeper (envOfC "_law_is_read_right" (defScope s__law_is_read_right) s.heap.objs.size f cdv)) (envOfC "_law_is_read_right" (defScope s__law_is_read_right) s.heap.objs.size f cdv) (cxOf (L2.CX P w) P w K mg base ["deck", "text", "by_name", "own", "due"] "_law_is_read_right" (defScope s__law_is_read_right) f cdv A outer s H E).xe := passes_of rfl
    (ds_cons (ds_set (i := 3) sc__law_is_read_right.nd rfl (.inl rfl) (d_c1 (ps := ["text"]) C__law_read hr tk (by rfl) (fun _ _ _ _ _ _ us hl => match us, hl with | [_], _ => rfl) (da_cons (d_var (pv 1)) da_nil)))
      (ds_cons (ds_set (i := 4) sc__law_is_read_right.nd rfl (.inl rfl) (d_if (dt_w (dw_and (dt_cmp (od_ne hr.u64) (d_var (pv 3)) (d_tup da_nil) (nomark _)) (dw_and1 (dt_val (d_c1 (ps := ["thing"]) C__law_is_told hr tk (by rfl) (fun _ _ _ _ _ _ us hl => match us, hl with | [_], _ => rfl) (da_cons (d_ix (d_var (pv 3)) d_int) da_nil)))))) (d_tup (da_cons d_str (da_cons (d_ix (d_var (pv 3)) d_int) da_nil))) (d_tup (da_cons d_str (da_cons d_int (da_cons d_bl da_nil))))))
      (ds_one (ds_ret (d_cmp (od_eq hr.u64) (d_callB (oc_repr hr.u700 hr.gd) (by rfl) T.n_repr (by decide +kernel) (da_cons (d_c1 (ps := ["text", "by_name"]) C__law_heard hr tk (by rfl) (fun _ _ _ _ _ _ us hl => match us, hl with | [_, _], _ => rfl) (da_cons (d_var (pv 1)) (da_cons (d_var (pv 2)) da_nil))) da_nil)) (d_callB (oc_repr hr.u700 hr.gd) (by rfl) T.n_repr (by decide +kernel) (da_cons (d_var (pv 4)) da_nil)) (nomark _))))))
theorem sc_law : FnScope ["script", "deck", "turn", "odd", "thing", "near", "text", "kept", "line"] ["script"] (defScope s_law) := ⟨rfl, rfl, rfl, by decide +kernel, rfl, by decide +kernel, by decide +kernel⟩
def b_law (c__law_deck c__law_any_thing c__law_words c_show_told c_is_told c_read_told c__law_near c__law_is_told c__law_bent c__law_draw c__law_is_read_right c__law_pick c__law_heard : FM) : FM := fnM 9 ((sSeq (sSet 1 (mFn 1 c__law_deck [] (aCons (mVar 0) aNil)))
  (sSeq (sFor 1000000 (iRng1 (aCons (mC (.int 6)) aNil)) (gNm 2)
  (sSeq (sSet 4 (mFn 1 c__law_any_thing [] (aCons (mVar 1) aNil)))
  (sSeq (sPar 6 7 (aCons (mFn 1 c__law_words [] (aCons (mVar 4) aNil)) (aCons (mCall cRepr (aCons (mVar 4) aNil)) aNil)))
  (sSeq (sIf (mTest (mOp oNe (mCall cRepr (aCons (mLst (aCons (mFn 1 c_is_told [] (aCons (mVar 4) aNil)) (aCons (mFnK 1 0 1 [.kw 0] c_is_told [] aNil (aCons (mVar 4) aNil)) (aCons (mFn 1 c_show_told [] (aCons (mVar 4) aNil)) (aCons (mFnK 1 0 1 [.kw 0] c_show_told [] aNil (aCons (mVar 4) aNil)) aNil))))) aNil)) (mCall cRepr (aCons (mLst (aCons (mC (.bl true)) (aCons (mC (.bl true)) (aCons (mVar 6) (aCons (mVar 6) aNil))))) aNil))))
  (sRet (mC (.bl false)))
  sNil)
  (sSeq (sIf (mOrT (mTest (mOp oNe (mCall cRepr (aCons (mLst (aCons (mFn 1 c_read_told [] (aCons (mVar 6) aNil)) (aCons (mFnK 1 0 1 [.kw 0] c_read_told [] aNil (aCons (mVar 6) aNil)) aNil))) aNil)) (mCall cRepr (aCons (mLst (aCons (mVar 4) (aCons (mVar 4) aNil))) aNil)))) (mTest (mOp oNe (mCall cRepr (aCons (mVar 4) aNil)) (mVar 7))))
  (sRet (mC (.bl false)))
  sNil)
  (sSeq (sSet 5 (mFn 2 c__law_near [] (aCons (mVar 1) (aCons (mVar 4) aNil))))
  (sSeq (sIf (mTest (mOp oNe (mCall cRepr (aCons (mFn 1 c_is_told [] (aCons (mVar 5) aNil)) aNil)) (mCall cRepr (aCons (mFn 1 c__law_is_told [] (aCons (mVar 5) aNil)) aNil))))
  (sRet (mC (.bl false)))
  sNil)
  (sIf (mTest (mOp oLt (mMeth "str" gCount (mVar 6) (aCons (mC (.str "(")) aNil)) (mC (.int 30))))
  (sSeq (sSet 8 (mFn 2 c__law_bent [] (aCons (mVar 1) (aCons (mVar 6) aNil))))
  (sSeq (sSet 8 (mIf (mTest (mOp oEq (mFn 2 c__law_draw [] (aCons (mVar 1) (aCons (mC (.int 3)) aNil))) (mC (.int 0)))) (mFn 2 c__law_bent [] (aCons (mVar 1) (aCons (mVar 8) aNil))) (mVar 8)))
  (sIf (mNotT (mTest (mFn 3 c__law_is_read_right [] (aCons (mVar 1) (aCons (mVar 8) (aCons (mOp oEq (mOp oAnd (mVar 2) (mC (.int 1))) (mC (.int 1))) aNil))))))
  (sRet (mC (.bl false)))
  sNil)))
  sNil))))))))
  (sSeq (sSet 3 (mFn 2 c__law_pick [] (aCons (mVar 1) (aCons (mLst (aCons (mC .non) (aCons (mC (.int 0)) (aCons (mC (.bl true)) (aCons (mTup aNil) (aCons (mTup (aCons (mC (.str "-")) aNil)) (aCons (mLst (aCons (mC (.str "-")) aNil)) (aCons mDNew (aCons (mC (.str "")) (aCons (mC (.str " ")) (aCons (mC (.str "00")) (aCons (mC (.str "-0")) (aCons (mC (.str "01")) (aCons (mC (.str "(1  2)")) (aCons (mC (.str "( 1)")) (aCons (mC (.str "(1 )")) (aCons (mC (.str "'")) (aCons (mC (.str "+-")) (aCons (mC (.str "1 2")) (aCons (mC (.str "-5")) (aCons (mC (.str "(-)")) (aCons (mOp oMul (mC (.str "10")) (mC (.int 21))) aNil)))))))))))))))))))))) aNil))))
  (sSeq (sIf (mTest (mCall cIsi (aCons (mVar 3) (aCons (mC (.st (.ty "str"))) aNil))))
  (sRet (mFn 3 c__law_is_read_right [] (aCons (mVar 1) (aCons (mVar 3) (aCons (mC (.bl false)) aNil)))))
  sNil)
  (sRet (mOp oEq (mCall cRepr (aCons (mFn 2 c__law_heard [] (aCons (mVar 3) (aCons (mC (.bl true)) aNil))) aNil)) (mCall cRepr (aCons (mTup (aCons (mC (.str "none")) (aCons (mC (.int 0)) (aCons (mC (.bl true)) aNil)))) aNil)))))))))
theorem ok_law {c__law_deck : FM} (C__law_deck : CalP P w K mg base k "_law_deck" s__law_deck ["script"] c__law_deck) {c__law_any_thing : FM} (C__law_any_thing : CalP P w K mg base k "_law_any_thing" s__law_any_thing ["deck"] c__law_any_thing) {c__law_words : FM} (C__law_words : CalP P w K mg base k "_law_words" s__law_words ["thing"] c__law_words) {c_show_told : FM} (C_show_told : CalP P w K mg base k "show_told" s_show_told ["thing"] c_show_told) {c_is_told : FM} (C_is_told : CalP P w K mg base k "is_told" s_is_told ["thing"] c_is_told) {c_read_told : FM} (C_read_told : CalP P w K mg base k "read_told" s_read_told ["text"] c_read_told) {c__law_near : FM} (C__law_near : CalP P w K mg base k "_law_near" s__law_near ["deck", "thing"] c__law_near) {c__law_is_told : FM} (C__law_is_told : CalP P w K mg base k "_law_is_told" s__law_is_told ["thing"] c__law_is_told) {c__law_bent : FM} (C__law_bent : CalP P w K mg base k "_law_bent" s__law_bent ["deck", "text"] c__law_bent) {c__law_draw : FM} (C__law_draw : CalP P w K mg base k "_law_draw" s__law_draw ["deck", "many"] c__law_draw) {c__law_is_read_right : FM} (C__law_is_read_right : CalP P w K mg base k "_law_is_read_right" s__law_is_read_right ["deck", "text", "by_name"] c__law_is_read_right) {c__law_pick : FM} (C__law_pick : CalP P w K mg base k "_law_pick" s__law_pick ["deck", "some"] c__law_pick) {c__law_heard : FM} (C__law_heard : CalP P w K mg base k "_law_heard" s__law_heard ["text", "by_name"] c__law_heard) (T : Tops P w K mg cl) : CalP P w K mg base (k + 1) "law" s_law ["script"] (b_law c__law_deck c__law_any_thing c__law_words c_show_told c_is_told c_read_told c__law_near c__law_is_told c__law_bent c__law_draw c__law_is_read_right c__law_pick c__law_heard) := DefAt.cal (N := ["script", "deck", "turn", "odd", "thing", "near", "text", "kept", "line"]) T.d_law sc_law (m := fun _ _ => .no) fun f cdv A outer s H E hr =>
    have tk : Takes (cxOf (L2.CX P w) P w K mg base ["script", "deck", "turn", "odd", "thing", "near", "text", "kept", "line"] "law" (defScope s_law) f cdv A outer s H E) (fun c d _ H => E c d H) := takes_of rfl rfl rfl rfl
    have pass_ : PassesOwn (model P w) (A.deeper (envOfC "law" (defScope s_law) s.heap.objs.size f cdv)) (envOfC "law" (defScope s_law) s.heap.objs.size f cdv) (cxOf (L2.CX P w) P w K mg base ["script", "deck", "turn", "odd", "thing", "near", "text", "kept", "line"] "law" (defScope s_law) f cdv A outer s H E).xe := passes_of rfl
    (ds_cons (ds_set (i := 1) sc_law.nd rfl (.inl rfl) (d_c1 (ps := ["script"]) C__law_deck hr tk (by rfl) (fun _ _ _ _ _ _ us hl => match us, hl with | [_], _ => rfl) (da_cons (d_var (pv 0)) da_nil)))
      (ds_cons (ds_for (vs := [2]) 1000000 pass_ rfl (di_rng1 (by rfl) T.n_range (da_cons d_int da_nil)) (dg_name (i := 2) sc_law.nd rfl (Or.inl rfl) (hv := by decide))
      (ds_cons (ds_set (i := 4) sc_law.nd rfl (.inl rfl) (d_c1 (ps := ["deck"]) C__law_any_thing hr tk (by rfl) (fun _ _ _ _ _ _ us hl => match us, hl with | [_], _ => rfl) (da_cons (d_var (pv 1)) da_nil)))
      (ds_cons (ds_par (i := 6) (j := 7) rfl sc_law.nd rfl rfl (by decide) rfl rfl (da_cons (d_c1 (ps := ["thing"]) C__law_words hr tk (by rfl) (fun _ _ _ _ _ _ us hl => match us, hl with | [_], _ => rfl) (da_cons (d_var (pv 4)) da_nil)) (da_cons (d_callB (oc_repr hr.u700 hr.gd) (by rfl) T.n_repr (by decide +kernel) (da_cons (d_var (pv 4)) da_nil)) da_nil)) rfl)
      (ds_cons (ds_if (dt_cmp (od_ne hr.u64) (d_callB (oc_repr hr.u700 hr.gd) (by rfl) T.n_repr (by decide +kernel) (da_cons (d_lst (da_cons (d_c1 (ps := ["thing"]) C_is_told hr tk (by rfl) (fun _ _ _ _ _ _ us hl => match us, hl with | [_], _ => rfl) (da_cons (d_var (pv 4)) da_nil)) (da_cons (d_ck0 (ps := ["thing"]) (ks := ["thing"]) (ix := [.kw 0]) C_is_told hr tk (by rfl) (fun _ _ _ _ _ _ ws hl => match ws, hl with | [_], _ => rfl) (dk_cons (d_var (pv 4)) dk_nil)) (da_cons (d_c1 (ps := ["thing"]) C_show_told hr tk (by rfl) (fun _ _ _ _ _ _ us hl => match us, hl with | [_], _ => rfl) (da_cons (d_var (pv 4)) da_nil)) (da_cons (d_ck0 (ps := ["thing"]) (ks := ["thing"]) (ix := [.kw 0]) C_show_told hr tk (by rfl) (fun _ _ _ _ _ _ ws hl => match ws, hl with | [_], _ => rfl) (dk_cons (d_var (pv 4)) dk_nil)) da_nil))))) da_nil)) (d_callB (oc_repr hr.u700 hr.gd) (by rfl) T.n_repr (by decide +kernel) (da_cons (d_lst (da_cons d_bl (da_cons d_bl (da_cons (d_var (pv 6)) (da_cons (d_var (pv 6)) da_nil))))) da_nil)) (nomark _))
      (ds_one (ds_ret d_bl))
      ds_nil)
      (ds_cons (ds_if (dt_w (dw_or (dt_cmp (od_ne hr.u64) (d_callB (oc_repr hr.u700 hr.gd) (by rfl) T.n_repr (by decide +kernel) (da_cons (d_lst (da_cons (d_c1 (ps := ["text"]) C_read_told hr tk (by rfl) (fun _ _ _ _ _ _ us hl => match us, hl with | [_], _ => rfl) (da_cons (d_var (pv 6)) da_nil)) (da_cons (d_ck0 (ps := ["text"]) (ks := ["text"]) (ix := [.kw 0]) C_read_told hr tk (by rfl) (fun _ _ _ _ _ _ ws hl => match ws, hl with | [_], _ => rfl) (dk_cons (d_var (pv 6)) dk_nil)) da_nil))) da_nil)) (d_callB (oc_repr hr.u700 hr.gd) (by rfl) T.n_repr (by decide +kernel) (da_cons (d_lst (da_cons (d_var (pv 4)) (da_cons (d_var (pv 4)) da_nil))) da_nil)) (nomark _)) (dw_or1 (dt_cmp (od_ne hr.u64) (d_callB (oc_repr hr.u700 hr.gd) (by rfl) T.n_repr (by decide +kernel) (da_cons (d_var (pv 4)) da_nil)) (d_var (pv 7)) (nomark _)))))
      (ds_one (ds_ret d_bl))
      ds_nil)
      (ds_cons (ds_set (i := 5) sc_law.nd rfl (.inl rfl) (d_c1 (ps := ["deck", "thing"]) C__law_near hr tk (by rfl) (fun _ _ _ _ _ _ us hl => match us, hl with | [_, _], _ => rfl) (da_cons (d_var (pv 1)) (da_cons (d_var (pv 4)) da_nil))))
      (ds_cons (ds_if (dt_cmp (od_ne hr.u64) (d_callB (oc_repr hr.u700 hr.gd) (by rfl) T.n_repr (by decide +kernel) (da_cons (d_c1 (ps := ["thing"]) C_is_told hr tk (by rfl) (fun _ _ _ _ _ _ us hl => match us, hl with | [_], _ => rfl) (da_cons (d_var (pv 5)) da_nil)) da_nil)) (d_callB (oc_repr hr.u700 hr.gd) (by rfl) T.n_repr (by decide +kernel) (da_cons (d_c1 (ps := ["thing"]) C__law_is_told hr tk (by rfl) (fun _ _ _ _ _ _ us hl => match us, hl with | [_], _ => rfl) (da_cons (d_var (pv 5)) da_nil)) da_nil)) (nomark _))
      (ds_one (ds_ret d_bl))
      ds_nil)
      (ds_one (ds_if (dt_cmp od_lt (d_meth PySem.F.plainAttrs_str PySem.F.slot_str_count PySem.F.type_str_count mt_gCount (.inl rfl) (d_var (pv 6)) (da_cons d_str da_nil)) d_int (nomark _))
      (ds_cons (ds_set (i := 8) sc_law.nd rfl (.inl rfl) (d_c1 (ps := ["deck", "text"]) C__law_bent hr tk (by rfl) (fun _ _ _ _ _ _ us hl => match us, hl with | [_, _], _ => rfl) (da_cons (d_var (pv 1)) (da_cons (d_var (pv 6)) da_nil))))
      (ds_cons (ds_set (i := 8) sc_law.nd rfl (.inl rfl) (d_if (dt_cmp (od_eq hr.u64) (d_c1 (ps := ["deck", "many"]) C__law_draw hr tk (by rfl) (fun _ _ _ _ _ _ us hl => match us, hl with | [_, _], _ => rfl) (da_cons (d_var (pv 1)) (da_cons d_int da_nil))) d_int (nomark _)) (d_c1 (ps := ["deck", "text"]) C__law_bent hr tk (by rfl) (fun _ _ _ _ _ _ us hl => match us, hl with | [_, _], _ => rfl) (da_cons (d_var (pv 1)) (da_cons (d_var (pv 8)) da_nil))) (d_var (pv 8))))
      (ds_one (ds_if (dt_not (dt_val (d_c1 (ps := ["deck", "text", "by_name"]) C__law_is_read_right hr tk (by rfl) (fun _ _ _ _ _ _ us hl => match us, hl with | [_, _, _], _ => rfl) (da_cons (d_var (pv 1)) (da_cons (d_var (pv 8)) (da_cons (d_cmp (od_eq hr.u64) (d_op od_and (d_var (pv 2)) d_int) d_int (nomark _)) da_nil))))))
      (ds_one (ds_ret d_bl))
      ds_nil))))
      ds_nil)))))))))
      (ds_cons (ds_set (i := 3) sc_law.nd rfl (.inl rfl) (d_c1 (ps := ["deck", "some"]) C__law_pick hr tk (by rfl) (fun _ _ _ _ _ _ us hl => match us, hl with | [_, _], _ => rfl) (da_cons (d_var (pv 1)) (da_cons (d_lst (da_cons d_non (da_cons d_int (da_cons d_bl (da_cons (d_tup da_nil) (da_cons (d_tup (da_cons d_str da_nil)) (da_cons (d_lst (da_cons d_str da_nil)) (da_cons d_dnew (da_cons d_str (da_cons d_str (da_cons d_str (da_cons d_str (da_cons d_str (da_cons d_str (da_cons d_str (da_cons d_str (da_cons d_str (da_cons d_str (da_cons d_str (da_cons d_str (da_cons d_str (da_cons (d_op od_mul d_str d_int) da_nil)))))))))))))))))))))) da_nil))))
      (ds_cons (ds_if (dt_val (d_callB oc_isi (by rfl) T.n_isinstance (by decide +kernel) (da_cons (d_var (pv 3)) (da_cons (d_ty "str" (by rfl) T.n_str (by decide +kernel)) da_nil))))
      (ds_one (ds_ret (d_c1 (ps := ["deck", "text", "by_name"]) C__law_is_read_right hr tk (by rfl) (fun _ _ _ _ _ _ us hl => match us, hl with | [_, _, _], _ => rfl) (da_cons (d_var (pv 1)) (da_cons (d_var (pv 3)) (da_cons d_bl da_nil))))))
      ds_nil)
      (ds_one (ds_ret (d_cmp (od_eq hr.u64) (d_callB (oc_repr hr.u700 hr.gd) (by rfl) T.n_repr (by decide +kernel) (da_cons (d_c1 (ps := ["text", "by_name"]) C__law_heard hr tk (by rfl) (fun _ _ _ _ _ _ us hl => match us, hl with | [_, _], _ => rfl) (da_cons (d_var (pv 3)) (da_cons d_bl da_nil))) da_nil)) (d_callB (oc_repr hr.u700 hr.gd) (by rfl) T.n_repr (by decide +kernel) (da_cons (d_tup (da_cons d_str (da_cons d_int (da_cons d_bl da_nil)))) da_nil)) (nomark _))))))))
end
end Wk00
-- CLS NoText SoError
namespace Wk00
open PySem PySem.Spec PyProof.Rows L2 DN
/-! what a told thing is -/
def pln (c : Nat) : Bool := (decide (32 ≤ c) && decide (c ≤ 126)) && !(c == 39)
def ptx (z : Str) : Bool := (tl z).all pln
def G40 : Int := 10000000000000000000000000000000000000000
def leafB : D → Bool
  | .non => true
  | .bl _ => true
  | .int i => decide (-G40 < i) && decide (i < G40)
  | .str z => ptx z
  | _ => false
mutual
def told : Nat → D → Bool
  | k, .tup l => decide (k < 200) && tolds (k + 1) l
  | _, d => leafB d
def tolds : Nat → List D → Bool
  | _, [] => true
  | k, d :: ds => told k d && tolds k ds
end
theorem tolds_all (k : Nat) : ∀ l : List D, tolds k l = l.all (told k)
  | [] => rfl
  | d :: l => by simp only [tolds, List.all_cons, tolds_all k l]
theorem told_tup (k : Nat) (l : List D) : told k (.tup l) = (decide (k < 200) && l.all (told (k + 1))) := by simp only [told, tolds_all]
mutual
def nd : D → Nat
  | .tup l => 1 + nds l
  | _ => 1
def nds : List D → Nat
  | [] => 0
  | d :: ds => nd d + nds ds
end
theorem nds_sum : ∀ l : List D, nds l = (l.map nd).sum
  | [] => rfl
  | d :: l => by simp only [nds, List.map_cons, List.sum_cons, nds_sum l]
mutual
theorem nd_sz : ∀ d : D, okD d → nd d ≤ sz d
  | .tup l, h => by
    have := nds_sz l (by simpa only [okD] using h)
    simp only [nd, sz]
    omega
  | .non, _ => by simp [nd, sz]
  | .bl _, _ => by simp [nd, sz]
  | .int _, _ => by simp [nd, sz]
  | .str _, _ => by simp only [nd, sz]; omega
  | .lst l, _ => by simp only [nd, sz]; omega
  | .dct l, _ => by simp only [nd, sz]; omega
  | .kst _, h => by simp only [okD] at h
  | .ref _, h => by simp only [okD] at h
  | .st _, h => by simp only [okD] at h
  | .exn _ _ _ _, h => by simp only [okD] at h
theorem nds_sz : ∀ l : List D, okL l → nds l ≤ szs l
  | [], _ => Nat.le_refl _
  | d :: l, h => by
    simp only [okL] at h
    have := nd_sz d h.1
    have := nds_sz l h.2
    simp only [nds, szs]
    omega
end
theorem nd_pos (d : D) : 1 ≤ nd d := by cases d <;> simp [nd]
section
variable {h : LH} {d : D}
theorem plain_ok (ok : okD d) (hz : sz d ≤ 900000) : b_is_plain_text [d] h = .ok (.bl (match d with | .str z => ptx z | _ => false)) h := by
  unfold b_is_plain_text
  cases d with
  | str z =>
    have hz : z.length ≤ 100000 := by simp only [sz] at hz; omega
    obtain ⟨l, e1, e2⟩ := signs_all (h := h) (i := 1) (s := [some (.str z), none]) (e := mAndV (mChain oLe oLe (mC k_FIRST_SIGN) (mCall cOrd (aCons (mVar 1) aNil)) (mC k_LAST_SIGN)) (mOp oNe (mVar 1) (mC k_QUOTE)))
      pln hz (fun c => by
        have b1 : (((⟨#[c]⟩ : Str) == ("'" : Str))) = (c == 39) := by rw [show ("'" : Str) = ⟨#[39]⟩ by decide +kernel, sgn_eq]
        unfold pln
        by_cases c1 : 32 ≤ c
        · have c1' : (32 : Int) ≤ c := by omega
          by_cases c2 : c ≤ 126
          · have c2' : (c : Int) ≤ 126 := by omega
            simp [ord_one, k_FIRST_SIGN, k_LAST_SIGN, k_QUOTE, c1', c2', c1, c2, b1]
          · have c2' : ¬ (c : Int) ≤ 126 := by omega
            simp [ord_one, k_FIRST_SIGN, k_LAST_SIGN, c1', c2', c1, c2]
        · have c1' : ¬ (32 : Int) ≤ c := by omega
          simp [ord_one, k_FIRST_SIGN, k_LAST_SIGN, c1', c1])
    simp [isi_str ok, isStr, mLc_ap, e1, e2, ptx]
  | _ => simp [isi_str ok, isStr]
theorem k_great : k_GREATEST = .int G40 := rfl
theorem abs_ok (i : Int) : cAbs h [.int i] = some (.int (if i < 0 then -i else i)) := rfl
theorem leaf_ok (ok : okD d) (hz : sz d ≤ 900000) : b_is_leaf b_is_plain_text [d] h = .ok (.bl (leafB d)) h := by
  have e2 := plain_ok (h := h) ok hz
  unfold b_is_leaf
  cases d with
  | int i =>
    have kg := k_great
    by_cases c : i < 0
    · by_cases c2 : -G40 < i
      · have c3 : i < G40 := by unfold G40 at *; omega
        have c4 : (-i) < G40 := by omega
        simp [oIs, isi_bl ok, isBl, e2, isi_int ok, DN.isInt, abs_ok, kg, c, leafB, c2, c3, c4]
      · have c4 : ¬ (-i) < G40 := by omega
        simp [oIs, isi_bl ok, isBl, e2, isi_int ok, DN.isInt, abs_ok, kg, c, leafB, c2, c4]
    · have c2 : -G40 < i := by unfold G40; omega
      by_cases c3 : i < G40 <;> simp [oIs, isi_bl ok, isBl, e2, isi_int ok, DN.isInt, abs_ok, kg, c, leafB, c2, c3]
  | non => simp [oIs, leafB]
  | bl b => simp [oIs, isi_bl ok, isBl, leafB]
  | str z => cases hp : ptx z <;> simp [oIs, isi_bl ok, isBl, e2, hp, leafB, isi_int ok, DN.isInt]
  | tup l => simp [oIs, isi_bl ok, isBl, e2, isi_int ok, DN.isInt, leafB]
  | lst l => simp [oIs, isi_bl ok, isBl, e2, isi_int ok, DN.isInt, leafB]
  | dct l => simp [oIs, isi_bl ok, isBl, e2, isi_int ok, DN.isInt, leafB]
  | _ => simp only [okD] at ok
end
/-! the walk -/
def tw (x : D × Nat) : D := .tup [x.1, .int x.2]
def tot (W : List (D × Nat)) : Nat := (W.map fun x => nd x.1).sum
theorem tot_app (W V : List (D × Nat)) : tot (W ++ V) = tot W + tot V := by simp [tot]
def allT (W : List (D × Nat)) : Bool := W.all fun x => told x.2 x.1
section
variable {h0 : LH}
theorem r_at (W : List D) : (h0 ++ [LO.lst W])[h0.length]? = some (LO.lst W) := by simp
theorem r_set (W V : List D) : (h0 ++ [LO.lst W]).set h0.length (.lst V) = h0 ++ [.lst V] := by
  rw [List.set_append_right _ _ (Nat.le_refl _)]
  simp
theorem r_ne (W : List D) : oNe (h0 ++ [.lst W]) (.ref h0.length) (.lst []) = some (.bl (!W.isEmpty)) := ne_nil_ref (r_at W)
theorem r_pop (W : List D) (x : D) : gPop (h0 ++ [.lst (W ++ [x])]) (.ref h0.length) [] = some (x, h0 ++ [.lst W]) := by
  unfold gPop
  simp only [r_at]
  have e1 : (W ++ [x])[(W ++ [x]).length - 1]? = some x := by rw [List.length_append]; simp
  rw [e1, Option.map_some, r_set]
  simp
theorem r_ext (W V : List D) (hw : W.length + V.length ≤ 1000000) : gExtend (h0 ++ [.lst W]) (.ref h0.length) [.lst V] = some (.non, h0 ++ [.lst (W ++ V)]) := by
  unfold gExtend
  simp only [r_at]
  show ((some V).bind fun k => if small (W.length + k.length) = true then some (D.non, (h0 ++ [LO.lst W]).set h0.length (.lst (W ++ k))) else none) = _
  rw [Option.bind_some, if_pos (small_of hw), r_set]
end
def wBody : SM := (sSeq (sAsg (mMeth "list" gPop (mVar 1) aNil) (gTp 2 (gCn (gNm 2) (gCn (gNm 3) gNl))))
  (sIf (mAndT (mTest (mCall cIsi (aCons (mVar 2) (aCons (mC (.st (.ty "tuple"))) aNil)))) (mTest (mOp oLt (mVar 3) (mC k_DEEPEST))))
  (sExpr (mMeth "list" gExtend (mVar 1) (aCons (mLc 1000000 [4] (iTupV (mVar 2)) (gNm 4) bYes (mTup (aCons (mVar 4) (aCons (mOp oAdd (mVar 3) (mC (.int 1))) aNil)))) aNil)))
  (sIf (mNotT (mTest (mFn 1 (b_is_leaf b_is_plain_text) [] (aCons (mVar 2) aNil))))
  (sRet (mC (.bl false)))
  sNil)))
def vBody : SM := (sSeq (sAsg (mMeth "list" gPop (mVar 1) aNil) (gTp 2 (gCn (gNm 2) (gCn (gNm 3) gNl))))
  (sIf (mTest (mCall cIsi (aCons (mVar 2) (aCons (mC (.st (.ty "tuple"))) aNil))))
  (sSeq (sIf (mTest (mOp oGt (mVar 3) (mC (.int 199))))
  (sRet (mC (.bl false)))
  sNil)
  (sExpr (mMeth "list" gExtend (mVar 1) (aCons (mLc 1000000 [4] (iTupV (mVar 2)) (gNm 4) bYes (mTup (aCons (mVar 4) (aCons (mOp oAdd (mVar 3) (mC (.int 1))) aNil)))) aNil))))
  (sIf (mTest (mCall cIsi (aCons (mVar 2) (aCons (mC (.st (.ty "str"))) aNil))))
  (sIf (mTest (mOp oNe (mLc 1000000 [5] (iStrV (mVar 2)) (gNm 5) (mOrT (mNotT (mTest (mChain oLe oLe (mC (.str " ")) (mVar 5) (mC (.str "~"))))) (mTest (mOp oEq (mVar 5) (mC (.str "'"))))) (mVar 5)) (mLst aNil)))
  (sRet (mC (.bl false)))
  sNil)
  (sIf (mTest (mCall cIsi (aCons (mVar 2) (aCons (mC (.st (.ty "int"))) aNil))))
  (sIf (mNotT (mTest (mChain oLtB oLtB (mNeg (mOp oPow (mC (.int 10)) (mC (.int 40)))) (mVar 2) (mOp oPow (mC (.int 10)) (mC (.int 40))))))
  (sRet (mC (.bl false)))
  sNil)
  (sIf (mTest (mOp oIsNot (mVar 2) (mC .non)))
  (sRet (mC (.bl false)))
  sNil)))))
/-- what one turn does -/
def Turn (B : SM) (t : D) (u : List (Option D)) : Prop := ∀ (h0 : LH) (V : List (D × Nat)) (d : D) (k : Nat) (x y : Option D), okD d → sz d ≤ 900000 → k ≤ 200 → V.length ≤ 90000 →
  B ([some t, some (.ref h0.length), x, y] ++ u) (h0 ++ [.lst ((V ++ [(d, k)]).map tw)]) =
    match d with
    | .tup l => if k < 200 then .nx ([some t, some (.ref h0.length), some d, some (.int k)] ++ u) (h0 ++ [.lst ((V ++ l.map fun e => (e, k + 1)).map tw)]) else .rt (.bl false) (h0 ++ [.lst (V.map tw)])
    | d => if leafB d = true then .nx ([some t, some (.ref h0.length), some d, some (.int k)] ++ u) (h0 ++ [.lst (V.map tw)]) else .rt (.bl false) (h0 ++ [.lst (V.map tw)])
theorem ext_lc {h : LH} {s : Sg} {l : List D} {k : Nat} (hs : s[3]? = some (some (.int k))) (hl4 : 4 < s.length) (hl : l.length ≤ 900000) : lcS [4] (gNm 4) bYes (mTup (aCons (mVar 4) (aCons (mOp oAdd (mVar 3) (mC (.int 1))) aNil))) s 1000000 (fixS l) 0 [] h = .ok ((l.map fun e => (e, k + 1)).map tw) h := by
  have s2 : small 2 = true := rfl
  rw [lc_map (fun e => tw (e, k + 1)) hl fun e he => by
    have a4 : ((s.set 4 none).set 4 (some e))[4]? = some (some e) := List.getElem?_set_self (by simpa using hl4)
    have a3 : ((s.set 4 none).set 4 (some e))[3]? = some (some (.int k)) := by
      rw [List.getElem?_set_ne (by omega), List.getElem?_set_ne (by omega)]
      exact hs
    rw [mTup_ap, aCons_ap, mVar_ap, a4, slotR_some, R.bind_ok, aCons_ap, mOp_ap, mVar_ap, a3]
    simp [s2, tw]]
  rw [List.map_map]
  rfl
theorem mapsnoc (V : List (D × Nat)) (d : D) (k : Nat) : (V ++ [(d, k)]).map tw = V.map tw ++ [.tup [d, .int k]] := by simp [tw]
theorem w_turn (t : D) : Turn wBody t [none] := by
  intro h0 V d k x y ok hz hk hV
  unfold wBody
  have lf := leaf_ok (h := h0 ++ [.lst (V.map tw)]) ok hz
  generalize b_is_leaf b_is_plain_text = Lf at lf
  have rp := r_pop (h0 := h0) (V.map tw) (.tup [d, .int k])
  have te := ty_end h0 (V.map tw ++ [.tup [d, .int k]])
  have te2 := ty_end h0 (V.map tw)
  have it := isi_tup (h := h0 ++ [.lst (V.map tw)]) ok
  rw [mapsnoc]
  cases d with
  | tup l =>
    have hl : l.length ≤ 450000 := by
      have := len_szs l
      simp only [sz] at hz
      omega
    by_cases c : k < 200
    · have c' : (k : Int) < 200 := by omega
      have lc := ext_lc (h := h0 ++ [.lst (V.map tw)]) (s := [some t, some (.ref h0.length), some (.tup l), some (.int k), none]) (l := l) (k := k) rfl (by simp) (by omega)
      have ex := r_ext (h0 := h0) (V.map tw) ((l.map fun e => (e, k + 1)).map tw) (by simp; omega)
      rw [← List.map_append] at ex
      simp only
      rw [if_pos c]
      generalize (l.map fun e => (e, k + 1)).map tw = U at lc ex
      generalize (V ++ l.map fun e => (e, k + 1)).map tw = Z at ex ⊢
      simp [te, rp, it, isTup, k_DEEPEST, c', te2, mLc_ap, lc, ex]
    · have c' : ¬ (k : Int) < 200 := by omega
      have lf : Lf [.tup l] (h0 ++ [.lst (V.map tw)]) = .ok (.bl false) (h0 ++ [.lst (V.map tw)]) := lf
      simp [te, rp, it, isTup, k_DEEPEST, c', c, lf]
  | kst _ => simp only [okD] at ok
  | ref _ => simp only [okD] at ok
  | st _ => simp only [okD] at ok
  | exn _ _ _ _ => simp only [okD] at ok
  | _ =>
    simp only
    split
    · rename_i hb
      rw [hb] at lf
      simp [te, rp, it, isTup, lf]
    · rename_i hb
      rw [Bool.not_eq_true] at hb
      rw [hb] at lf
      simp [te, rp, it, isTup, lf]
end Wk00
namespace Wk00
open PySem PySem.Spec PyProof.Rows L2 DN
theorem le_sign {h : LH} (a b : Nat) : oLe h (.str ⟨#[a]⟩) (.str ⟨#[b]⟩) = some (.bl (decide (a ≤ b))) := by
  show some (D.bl (!decide (([b] : List Nat) < [a]))) = _
  congr 2
  have : (([b] : List Nat) < [a]) ↔ b < a := by
    rw [List.cons_lt_cons_iff]
    simp
  by_cases c : a ≤ b
  · rw [decide_eq_true c, decide_eq_false (fun z => by have := this.mp z; omega)]
    rfl
  · rw [decide_eq_false c, decide_eq_true (this.mpr (by omega))]
    rfl
theorem s32 : (" " : Str) = ⟨#[32]⟩ := by decide +kernel
theorem s126 : ("~" : Str) = ⟨#[126]⟩ := by decide +kernel
theorem s39 : ("'" : Str) = ⟨#[39]⟩ := by decide +kernel
theorem p40 : (10 : Int) ^ (40 : Int).toNat = G40 := by decide +kernel
theorem pw {h : LH} : oPow h (.int 10) (.int 40) = some (.int G40) := by rw [oPow_ii, if_pos (by decide), p40]
theorem ltB_ii {h : LH} (i j : Int) : oLtB h (.int i) (.int j) = some (.bl (decide (i < j))) := rfl
theorem ltB_ib {h : LH} (i : Int) (b : Bool) : oLtB h (.int i) (.bl b) = some (.bl (decide (i < (if b = true then (1 : Int) else 0)))) := rfl
theorem ltB_bi {h : LH} (i : Int) (b : Bool) : oLtB h (.bl b) (.int i) = some (.bl (decide ((if b = true then (1 : Int) else 0) < i))) := rfl
theorem bl_in (b : Bool) : -G40 < (if b = true then (1 : Int) else 0) ∧ (if b = true then (1 : Int) else 0) < G40 := by cases b <;> decide
theorem mp40 {h : LH} (s : Sg) : mOp oPow (mC (.int 10)) (mC (.int 40)) s h = .ok (.int G40) h := by
  rw [mOp_ap, mC_ap, R.bind_ok, mC_ap, R.bind_ok, pw]
  rfl
theorem mn40 {h : LH} (s : Sg) : mNeg (mOp oPow (mC (.int 10)) (mC (.int 40))) s h = .ok (.int (-G40)) h := by
  rw [mNeg_ap, mp40]
  rfl
theorem int_test {h : LH} {s : Sg} (i : Int) (hs : s[2]? = some (some (.int i))) : mTest (mChain oLtB oLtB (mNeg (mOp oPow (mC (.int 10)) (mC (.int 40)))) (mVar 2) (mOp oPow (mC (.int 10)) (mC (.int 40)))) s h = .ok (decide (-G40 < i) && decide (i < G40)) h := by
  rw [mTest_ap, mChain_ap, mn40, R.bind_ok, mVar_ap, hs, slotR_some, R.bind_ok, ltB_ii]
  cases c1 : decide (-G40 < i)
  · rfl
  · simp only [mp40, R.bind_ok, ltB_ii, optR_some, toB_ok, Bool.true_and]
theorem bl_test {h : LH} {s : Sg} (b : Bool) (hs : s[2]? = some (some (.bl b))) : mTest (mChain oLtB oLtB (mNeg (mOp oPow (mC (.int 10)) (mC (.int 40)))) (mVar 2) (mOp oPow (mC (.int 10)) (mC (.int 40)))) s h = .ok true h := by
  obtain ⟨c1, c2⟩ := bl_in b
  rw [mTest_ap, mChain_ap, mn40, R.bind_ok, mVar_ap, hs, slotR_some, R.bind_ok, ltB_ib, decide_eq_true c1]
  simp only [mp40, R.bind_ok, ltB_bi, optR_some, toB_ok, decide_eq_true c2]
theorem v_turn (t : D) : Turn vBody t [none, none] := by
  intro h0 V d k x y ok hz hk hV
  unfold vBody
  have rp := r_pop (h0 := h0) (V.map tw) (.tup [d, .int k])
  have te := ty_end h0 (V.map tw ++ [.tup [d, .int k]])
  have te2 := ty_end h0 (V.map tw)
  have it := isi_tup (h := h0 ++ [.lst (V.map tw)]) ok
  have is := isi_str (h := h0 ++ [.lst (V.map tw)]) ok
  have ii := isi_int (h := h0 ++ [.lst (V.map tw)]) ok
  have pw' := pw (h := h0 ++ [.lst (V.map tw)])
  have s0 : small 0 = true := rfl
  rw [mapsnoc]
  cases d with
  | tup l =>
    have hl : l.length ≤ 450000 := by
      have := len_szs l
      simp only [sz] at hz
      omega
    by_cases c : k < 200
    · have c' : ¬ (199 : Int) < k := by omega
      have lc := ext_lc (h := h0 ++ [.lst (V.map tw)]) (s := [some t, some (.ref h0.length), some (.tup l), some (.int k), none, none]) (l := l) (k := k) rfl (by simp) (by omega)
      have ex := r_ext (h0 := h0) (V.map tw) ((l.map fun e => (e, k + 1)).map tw) (by simp; omega)
      rw [← List.map_append] at ex
      simp only
      rw [if_pos c]
      generalize (l.map fun e => (e, k + 1)).map tw = U at lc ex
      generalize (V ++ l.map fun e => (e, k + 1)).map tw = Z at ex ⊢
      simp [te, rp, it, isTup, c', te2, mLc_ap, lc, ex]
    · have c' : (199 : Int) < k := by omega
      simp [te, rp, it, isTup, c', c]
  | str z =>
    have hz' : z.length ≤ 100000 := by simp only [sz] at hz; omega
    obtain ⟨l, e1, e2⟩ := signs_none (h := h0 ++ [.lst (V.map tw)]) (i := 5) (s := [some t, some (.ref h0.length), some (.str z), some (.int k), none, none]) (z := z) (t := mOrT (mNotT (mTest (mChain oLe oLe (mC (.str " ")) (mVar 5) (mC (.str "~"))))) (mTest (mOp oEq (mVar 5) (mC (.str "'"))))) (fun c => !pln c) (by simp) hz' (fun c => by
      have b1 : (((⟨#[c]⟩ : Str) == ("'" : Str))) = (c == 39) := by rw [s39, sgn_eq]
      unfold pln
      by_cases c1 : 32 ≤ c
      · by_cases c2 : c ≤ 126
        · simp [s32, s126, le_sign, c1, c2, b1]
        · simp [s32, s126, le_sign, c1, c2]
      · simp [s32, s126, le_sign, c1])
    have e3 : oNe (h0 ++ [.lst (V.map tw)]) (.lst l) (.lst []) = some (.bl (!ptx z)) := by
      rw [oEq_l0] at e2
      rw [oNe_l0]
      have := D.bl.inj (Option.some.inj e2)
      rw [this]
      simp [ptx]
    show _ = if ptx z = true then _ else _
    cases hp : ptx z with
    | true =>
      rw [hp] at e3
      simp [te, rp, it, isTup, is, isStr, mLc_ap, e1, e3, s0, -oNe_l0]
    | false =>
      rw [hp] at e3
      simp [te, rp, it, isTup, is, isStr, mLc_ap, e1, e3, s0, -oNe_l0]
  | int i =>
    show _ = if (decide (-G40 < i) && decide (i < G40)) = true then _ else _
    have tt := int_test (h := h0 ++ [.lst (V.map tw)]) (s := [some t, some (.ref h0.length), some (.int i), some (.int k), none, none]) i rfl
    generalize mTest (mChain oLtB oLtB (mNeg (mOp oPow (mC (.int 10)) (mC (.int 40)))) (mVar 2) (mOp oPow (mC (.int 10)) (mC (.int 40)))) = Tt at tt ⊢
    cases hb : (decide (-G40 < i) && decide (i < G40)) with
    | true =>
      rw [hb] at tt
      simp [te, rp, it, isTup, is, isStr, ii, DN.isInt, tt]
    | false =>
      rw [hb] at tt
      simp [te, rp, it, isTup, is, isStr, ii, DN.isInt, tt]
  | bl b =>
    have tt := bl_test (h := h0 ++ [.lst (V.map tw)]) (s := [some t, some (.ref h0.length), some (.bl b), some (.int k), none, none]) b rfl
    generalize mTest (mChain oLtB oLtB (mNeg (mOp oPow (mC (.int 10)) (mC (.int 40)))) (mVar 2) (mOp oPow (mC (.int 10)) (mC (.int 40)))) = Tt at tt ⊢
    show _ = if true = true then _ else _
    simp [te, rp, it, isTup, is, isStr, ii, DN.isInt, tt]
  | non =>
    show _ = if true = true then _ else _
    have io : ∀ h, oIsNot h .non .non = some (.bl false) := fun _ => rfl
    simp [te, rp, it, isTup, is, isStr, ii, DN.isInt, io]
  | lst l =>
    show _ = if false = true then _ else _
    have io : ∀ h l, oIsNot h (.lst l) .non = some (.bl true) := fun _ _ => rfl
    simp [te, rp, it, isTup, is, isStr, ii, DN.isInt, io]
  | dct l =>
    show _ = if false = true then _ else _
    have io : ∀ h l, oIsNot h (.dct l) .non = some (.bl true) := fun _ _ => rfl
    simp [te, rp, it, isTup, is, isStr, ii, DN.isInt, io]
  | kst _ => simp only [okD] at ok
  | ref _ => simp only [okD] at ok
  | st _ => simp only [okD] at ok
  | exn _ _ _ _ => simp only [okD] at ok
theorem told_nt {k : Nat} {d : D} (h : isTup d = false) : told k d = leafB d := by
  cases d <;> first | rfl | (simp [isTup] at h)
theorem told_loop {B : SM} {t : D} {u : List (Option D)} (T : Turn B t u) {h0 : LH} : ∀ (n : Nat) (W : List (D × Nat)) (x y : Option D), tot W < n → tot W ≤ 60000 → (∀ p ∈ W, okD p.1 ∧ sz p.1 ≤ 900000 ∧ p.2 ≤ 200) →
    (allT W = true → ∃ s', whileM n (mTest (mOp oNe (mVar 1) (mLst aNil))) B ([some t, some (.ref h0.length), x, y] ++ u) (h0 ++ [LO.lst (W.map tw)]) = .nx s' (h0 ++ [LO.lst []])) ∧
    (allT W = false → ∃ V, whileM n (mTest (mOp oNe (mVar 1) (mLst aNil))) B ([some t, some (.ref h0.length), x, y] ++ u) (h0 ++ [LO.lst (W.map tw)]) = .rt (.bl false) (h0 ++ [LO.lst V]))
  | 0, _, _, _, hn, _, _ => by omega
  | n + 1, W, x, y, hn, hb, hW => by
    have s0 : small 0 = true := rfl
    have et : ∀ W : List D, mTest (mOp oNe (mVar 1) (mLst aNil)) ([some t, some (.ref h0.length), x, y] ++ u) (h0 ++ [LO.lst W]) = .ok (!W.isEmpty) (h0 ++ [LO.lst W]) := fun W => by
      simp [r_ne, s0]
    rw [while_succ, et]
    by_cases hW0 : W = []
    · subst hW0
      exact ⟨fun _ => ⟨_, rfl⟩, fun z => by cases z⟩
    · obtain ⟨V, ⟨d, k⟩, rfl⟩ := rs_snoc hW0
      obtain ⟨ok, hz, hk⟩ := hW (d, k) (by simp)
      have et' : tot (V ++ [(d, k)]) = tot V + nd d := by rw [tot_app]; simp [tot]
      have ea : allT (V ++ [(d, k)]) = (allT V && told k d) := by simp [allT]
      have lenV : V.length ≤ tot V := by
        have : ∀ V : List (D × Nat), V.length ≤ tot V := fun V => by
          induction V with
          | nil => simp [tot]
          | cons p V ih =>
            have := nd_pos p.1
            have e : tot (p :: V) = nd p.1 + tot V := by simp [tot]
            rw [e, List.length_cons]
            omega
        exact this V
      have np := nd_pos d
      have hne : (!((V ++ [(d, k)]).map tw).isEmpty) = true := by simp
      rw [hne]
      simp only [q_ok, if_true]
      have tn := T h0 V d k x y ok hz hk (by omega)
      rw [ea]
      have hV : ∀ p ∈ V, okD p.1 ∧ sz p.1 ≤ 900000 ∧ p.2 ≤ 200 := fun p hp => hW p (by simp [hp])
      cases hd : isTup d with
      | true =>
        obtain ⟨l, rfl⟩ : ∃ l, d = .tup l := by
          cases d <;> first | exact ⟨_, rfl⟩ | (simp [isTup] at hd)
        simp only at tn
        rw [tn, told_tup]
        have en : nd (.tup l) = 1 + (l.map nd).sum := by simp only [nd, nds_sum]
        by_cases c : k < 200
        · rw [if_pos c, decide_eq_true c, Bool.true_and]
          have f1 : tot (V ++ l.map fun e => (e, k + 1)) = tot V + (l.map nd).sum := by
            rw [tot_app]
            congr 1
            unfold tot
            rw [List.map_map]
            rfl
          have f2 : allT (V ++ l.map fun e => (e, k + 1)) = (allT V && l.all (told (k + 1))) := by
            unfold allT
            rw [List.all_append, List.all_map]
            rfl
          have ih := told_loop T (h0 := h0) n (V ++ l.map fun e => (e, k + 1)) (some (.tup l)) (some (.int k)) (by omega) (by omega) (fun p hp => by
            rcases List.mem_append.mp hp with hp | hp
            · exact hV p hp
            · obtain ⟨e, he, rfl⟩ := List.mem_map.mp hp
              have ok' : okL l := by simpa only [okD] using ok
              have := szs_mem he
              simp only [sz] at hz
              exact ⟨okL_mem.mp ok' e he, by show sz e ≤ 900000; omega, by show k + 1 ≤ 200; omega⟩)
          rw [f2] at ih
          exact ih
        · rw [if_neg c, decide_eq_false c, Bool.false_and, Bool.and_false]
          exact ⟨fun z => (by cases z), fun _ => ⟨_, rfl⟩⟩
      | false =>
        rw [told_nt hd]
        have e1 : B ([some t, some (.ref h0.length), x, y] ++ u) (h0 ++ [LO.lst ((V ++ [(d, k)]).map tw)]) = if leafB d = true then .nx ([some t, some (.ref h0.length), some d, some (.int k)] ++ u) (h0 ++ [LO.lst (V.map tw)]) else .rt (.bl false) (h0 ++ [LO.lst (V.map tw)]) := by
          rw [tn]
          cases d <;> first | rfl | (simp [isTup] at hd)
        have ih := told_loop T (h0 := h0) n V (some d) (some (.int k)) (by omega) (by omega) hV
        cases hb2 : leafB d with
        | true =>
          rw [hb2] at e1
          rw [Bool.and_true]
          have e2 := e1.trans (if_pos rfl)
          refine ⟨fun ha => ?_, fun ha => ?_⟩
          · obtain ⟨s', q⟩ := ih.1 ha
            exact ⟨s', by rw [e2]; exact q⟩
          · obtain ⟨s', q⟩ := ih.2 ha
            exact ⟨s', by rw [e2]; exact q⟩
        | false =>
          rw [hb2] at e1
          have e2 := e1.trans (if_neg (by decide))
          rw [Bool.and_false]
          exact ⟨fun z => (by cases z), fun _ => ⟨_, by rw [e2]⟩⟩
theorem gc_bl {m : FM} {ds : List D} {h : LH} {F : List D} {b : Bool} (e : m ds h = .ok (.bl b) (h ++ [.lst F])) : gcM m ds h = .ok (.bl b) h := by
  unfold gcM
  rw [e]
  have tk : (h ++ [LO.lst F]).take h.length = h := by simp
  simp only [tk, if_true]
  have fr : frzD h.length (h ++ [.lst F]) (.bl b) = some (.bl b) := rfl
  rw [fr]
theorem allT1 (d : D) : allT [(d, 0)] = told 0 d := by simp [allT]
theorem is_told_ok {h : LH} {d : D} (ok : okD d) (hz : sz d ≤ 900000) (hn : nd d ≤ 60000) : gcM (b_is_told (b_is_leaf b_is_plain_text)) [d] h = .ok (.bl (told 0 d)) h := by
  have e1 : tot [(d, 0)] = nd d := by simp [tot]
  obtain ⟨g1, g2⟩ := told_loop (w_turn d) (h0 := h) 1000000 [(d, 0)] none none (by omega) (by omega) (by
    intro p hp
    simp at hp
    subst hp
    exact ⟨ok, by show sz d ≤ 900000; omega, by show 0 ≤ 200; omega⟩)
  rw [allT1] at g1 g2
  have s1 : small 1 = true := rfl
  have s2 : small 2 = true := rfl
  have start : b_is_told (b_is_leaf b_is_plain_text) [d] h = fin_ ((whileM 1000000 (mTest (mOp oNe (mVar 1) (mLst aNil))) wBody ([some d, some (.ref h.length), none, none] ++ [none]) (h ++ [.lst ([(d, 0)].map tw)])).then (sRet (mC (.bl true)))) := by
    unfold b_is_told
    simp [s1, s2]
    rfl
  cases ht : told 0 d with
  | true =>
    obtain ⟨s', q⟩ := g1 ht
    exact gc_bl (F := []) (by rw [start, q]; rfl)
  | false =>
    obtain ⟨V, q⟩ := g2 ht
    exact gc_bl (F := V) (by rw [start, q]; rfl)
theorem law_told_ok {h : LH} {d : D} (ok : okD d) (hz : sz d ≤ 900000) (hn : nd d ≤ 60000) : gcM b__law_is_told [d] h = .ok (.bl (told 0 d)) h := by
  have e1 : tot [(d, 0)] = nd d := by simp [tot]
  obtain ⟨g1, g2⟩ := told_loop (v_turn d) (h0 := h) 1000000 [(d, 0)] none none (by omega) (by omega) (by
    intro p hp
    simp at hp
    subst hp
    exact ⟨ok, by show sz d ≤ 900000; omega, by show 0 ≤ 200; omega⟩)
  rw [allT1] at g1 g2
  have s1 : small 1 = true := rfl
  have s2 : small 2 = true := rfl
  have start : b__law_is_told [d] h = fin_ ((whileM 1000000 (mTest (mOp oNe (mVar 1) (mLst aNil))) vBody ([some d, some (.ref h.length), none, none] ++ [none, none]) (h ++ [.lst ([(d, 0)].map tw)])).then (sRet (mC (.bl true)))) := by
    unfold b__law_is_told
    simp [s1, s2]
    rfl
  cases ht : told 0 d with
  | true =>
    obtain ⟨s', q⟩ := g1 ht
    exact gc_bl (F := []) (by rw [start, q]; rfl)
  | false =>
    obtain ⟨V, q⟩ := g2 ht
    exact gc_bl (F := V) (by rw [start, q]; rfl)
end Wk00
namespace Wk00
open PySem PySem.Spec PyProof.Rows L2 DN
/-! the text of a told thing -/
def lf : D → List Nat
  | .non => [45]
  | .bl true => [43]
  | .bl false => [33]
  | .int i => intL i
  | .str z => 39 :: tl z ++ [39]
  | _ => []
mutual
def sh : D → List Nat
  | .tup l => 40 :: shs l ++ [41]
  | d => lf d
def shs : List D → List Nat
  | [] => []
  | [d] => sh d
  | d :: e :: r => sh d ++ 32 :: shs (e :: r)
end
theorem shs_join : ∀ l : List D, shs l = joinL (l.map sh)
  | [] => rfl
  | [d] => by simp only [shs, List.map_cons, List.map_nil, joinL]
  | d :: e :: r => by
    have := shs_join (e :: r)
    simp only [shs, List.map_cons, joinL] at this ⊢
    rw [this]
theorem sh_leaf {d : D} (h : isTup d = false) : sh d = lf d := by cases d <;> first | rfl | (simp [isTup] at h)
theorem sh_tup (l : List D) : sh (.tup l) = 40 :: joinL (l.map sh) ++ [41] := by simp only [sh, shs_join]
theorem str_int40 {h : LH} {i : Int} (h1 : -G40 < i) (h2 : i < G40) : cStr h [.int i] = some (.str (toString i)) := by
  show (if decide (i.natAbs.log2 < 1920) = true then _ else _) = _
  rw [decide_eq_true (by
    have := lg2 (n := i.natAbs) (m := 140) (by unfold G40 at *; omega) (by omega)
    omega)]
  rfl
section
variable {h : LH} {d : D}
theorem leaf_text_ok (lb : leafB d = true) (hz : sz d ≤ 900000) : b_leaf_text [d] h = .ok (.str ⟨(lf d).toArray⟩) h := by
  unfold b_leaf_text
  cases d with
  | non =>
    simp [iss, in_non, show cIsi h [.non, .st (.ty "str")] = some (.bl false) from rfl]
    exact str_mk (by decide +kernel)
  | bl b =>
    have i0 : cIsi h [.bl b, .st (.ty "str")] = some (.bl false) := rfl
    cases b <;> simp [i0, in_bl, ibb] <;> exact str_mk (by decide +kernel)
  | int i =>
    simp only [leafB, Bool.and_eq_true, decide_eq_true_eq] at lb
    have i3 := str_int40 (h := h) lb.1 lb.2
    have i0 : cIsi h [.int i, .st (.ty "str")] = some (.bl false) := rfl
    simp [i0, in_int, ibi, i3]
    exact toS i
  | str z =>
    have hz' : z.length ≤ 100000 := by simp only [sz] at hz; omega
    have l1 : ("'" : Str).length = 1 := rfl
    have l2 : (("'" : Str) ++ z).length = 1 + z.length := by rw [len_app, l1]
    have s4 : small (1 + z.length) = true := small_of (by omega)
    have s5 : small (1 + z.length + 1) = true := small_of (by omega)
    simp [iss, k_QUOTE, l1, l2, s4, s5]
    refine str_mk ?_
    rw [tl_app, tl_app, show tl ("'" : Str) = [39] by decide +kernel]
    rfl
  | _ => simp [leafB] at lb
end
/-! what waits -/
mutual
def mm : D → Nat
  | .tup l => 2 + mms l
  | _ => 1
def mms : List D → Nat
  | [] => 0
  | d :: ds => mm d + 1 + mms ds
end
mutual
theorem mm_sz : ∀ d : D, okD d → mm d ≤ sz d
  | .tup l, h => by
    have := mms_sz l (by simpa only [okD] using h)
    simp only [mm, sz]
    omega
  | .non, _ => by simp [mm, sz]
  | .bl _, _ => by simp [mm, sz]
  | .int _, _ => by simp [mm, sz]
  | .str _, _ => by simp only [mm, sz]; omega
  | .lst l, _ => by simp only [mm, sz]; omega
  | .dct l, _ => by simp only [mm, sz]; omega
  | .kst _, h => by simp only [okD] at h
  | .ref _, h => by simp only [okD] at h
  | .st _, h => by simp only [okD] at h
  | .exn _ _ _ _, h => by simp only [okD] at h
theorem mms_sz : ∀ l : List D, okL l → mms l ≤ szs l
  | [], _ => Nat.le_refl _
  | d :: l, h => by
    simp only [okL] at h
    have := mm_sz d h.1
    have := mms_sz l h.2
    simp only [mms, szs]
    omega
end
theorem mms_mem : ∀ {l : List D} {d : D}, d ∈ l → mm d + 1 ≤ mms l
  | _ :: _, _, .head _ => by simp only [mms]; omega
  | _ :: _, _, .tail _ m => by have := mms_mem m; simp only [mms]; omega
theorem len_mms : ∀ l : List D, 2 * l.length ≤ mms l
  | [] => Nat.le_refl _
  | d :: ds => by
    have := len_mms ds
    have : 1 ≤ mm d := by cases d <;> simp [mm] <;> omega
    simp only [mms, List.length_cons]
    omega
theorem mm_pos (d : D) : 1 ≤ mm d := by cases d <;> simp [mm] <;> omega
def sw (x : D × Bool) : D := .tup [x.1, .bl x.2]
def out1 (x : D × Bool) : List Nat := if x.2 = true then (match x.1 with | .str s => tl s | _ => []) else sh x.1
def outs (W : List (D × Bool)) : List Nat := (W.reverse.map out1).flatten
theorem outs_snoc (W : List (D × Bool)) (x : D × Bool) : outs (W ++ [x]) = out1 x ++ outs W := by simp [outs]
theorem outs_app (W V : List (D × Bool)) : outs (W ++ V) = outs V ++ outs W := by simp [outs]
def m1 (x : D × Bool) : Nat := if x.2 = true then 1 else mm x.1
def mt (W : List (D × Bool)) : Nat := (W.map m1).sum
theorem mt_app (W V : List (D × Bool)) : mt (W ++ V) = mt W + mt V := by simp [mt]
/-- the parts, the last one first, blanks between -/
def pr : List D → List (D × Bool)
  | [] => []
  | [x] => [(x, false)]
  | x :: y :: r => (x, false) :: (.str " ", true) :: pr (y :: r)
theorem joinL_end (A : List (List Nat)) (u v : List Nat) : joinL (A ++ [u] ++ [v]) = joinL (A ++ [u]) ++ 32 :: v := by
  have h1 := joinL_put [] v (A ++ [u])
  rw [List.nil_append] at h1
  rw [h1, joinL_snoc]
  simp
theorem outs_pr : ∀ r : List D, outs (pr r) = shs r.reverse
  | [] => rfl
  | [x] => by simp [pr, outs, out1, shs]
  | x :: y :: r => by
    have ih := outs_pr (y :: r)
    have e : outs (pr (x :: y :: r)) = outs (pr (y :: r)) ++ (32 :: sh x) := by
      show outs ([(x, false), (.str " ", true)] ++ pr (y :: r)) = _
      rw [outs_app]
      congr 1
      simp [outs, out1, show tl (" " : Str) = [32] from by decide +kernel]
    rw [e, ih, shs_join, shs_join]
    simp only [List.reverse_cons, List.map_append, List.map_cons, List.map_nil]
    rw [joinL_end]
theorem mt_pr : ∀ r : List D, mt (pr r) ≤ mms r
  | [] => Nat.le_refl _
  | [x] => by simp [pr, mt, m1, mms]
  | x :: y :: r => by
    have ih := mt_pr (y :: r)
    have : mt (pr (x :: y :: r)) = mm x + 1 + mt (pr (y :: r)) := by simp [pr, mt, m1]; omega
    simp only [mms] at ih ⊢
    omega
theorem mms_sum : ∀ l : List D, mms l = (l.map fun d => mm d + 1).sum
  | [] => rfl
  | d :: l => by simp only [mms, List.map_cons, List.sum_cons, mms_sum l]
theorem mms_rev (l : List D) : mms l.reverse = mms l := by
  rw [mms_sum, mms_sum, List.map_reverse]
  exact List.sum_reverse _
theorem pr_mem : ∀ {r : List D} {x : D × Bool}, x ∈ pr r → (x = (.str " ", true)) ∨ (x.2 = false ∧ x.1 ∈ r)
  | [], x, h => by simp [pr] at h
  | [y], x, h => by
    simp [pr] at h
    subst h
    exact .inr ⟨rfl, by simp⟩
  | y :: z :: r, x, h => by
    simp only [pr, List.mem_cons] at h
    rcases h with rfl | rfl | h
    · exact .inr ⟨rfl, by simp⟩
    · exact .inl rfl
    · rcases pr_mem h with h | ⟨h1, h2⟩
      · exact .inl h
      · exact .inr ⟨h1, by simp at h2 ⊢; exact .inr h2⟩
/-! the state -/
section
variable {h0 : LH} {F : List Str} {W : List D}
def st2 (h0 : LH) (F : List Str) (W : List D) : LH := h0 ++ [.lst (F.map .str), .lst W]
theorem a_at : (st2 h0 F W)[h0.length]? = some (.lst (F.map .str)) := by unfold st2; simp
theorem b_at : (st2 h0 F W)[h0.length + 1]? = some (.lst W) := by unfold st2; simp
theorem a_ty : tyD (st2 h0 F W) (.ref h0.length) = some "list" := ty_ref a_at
theorem b_ty : tyD (st2 h0 F W) (.ref (h0.length + 1)) = some "list" := ty_ref b_at
theorem b_ne : oNe (st2 h0 F W) (.ref (h0.length + 1)) (.lst []) = some (.bl (!W.isEmpty)) := ne_nil_ref b_at
theorem b_pop (x : D) : gPop (st2 h0 F (W ++ [x])) (.ref (h0.length + 1)) [] = some (x, st2 h0 F W) := by
  unfold gPop
  simp only [b_at]
  have e1 : (W ++ [x])[(W ++ [x]).length - 1]? = some x := by rw [List.length_append]; simp
  rw [e1, Option.map_some]
  unfold st2
  rw [List.set_append_right _ _ (by omega)]
  simp
theorem a_app (s : Str) (hf : F.length ≤ 900000) : gAppend (st2 h0 F W) (.ref h0.length) [.str s] = some (.non, st2 h0 (F ++ [s]) W) := by
  unfold gAppend
  simp only [a_at]
  rw [if_pos (decide_eq_true (by have := sizeLine_ge; rw [List.length_map]; omega))]
  unfold st2
  rw [List.set_append_right _ _ (Nat.le_refl _)]
  simp
theorem b_app (x : D) (hf : W.length ≤ 900000) : gAppend (st2 h0 F W) (.ref (h0.length + 1)) [x] = some (.non, st2 h0 F (W ++ [x])) := by
  unfold gAppend
  simp only [b_at]
  rw [if_pos (decide_eq_true (by have := sizeLine_ge; omega))]
  unfold st2
  rw [List.set_append_right _ _ (by omega)]
  simp
end
def fBody : SM := (sSeq (sExpr (mMeth "list" gAppend (mVar 2) (aCons (mTup (aCons (mOp oIx (mVar 3) (mVar 5)) (aCons (mC (.bl false)) aNil))) aNil)))
  (sIf (mTest (mOp oGt (mVar 5) (mC (.int 0))))
  (sExpr (mMeth "list" gAppend (mVar 2) (aCons (mTup (aCons (mC (.str " ")) (aCons (mC (.bl true)) aNil))) aNil)))
  sNil))
theorem ix_tup {h : LH} {l : List D} {m : Nat} {x : D} (e : l[m]? = some x) : oIx h (.tup l) (.int m) = some x := by
  show atI l (m : Int) = some x
  unfold atI ixN
  have := (List.getElem?_eq_some_iff.mp e).1
  rw [if_pos (by omega), if_pos (by omega)]
  simpa using e
theorem dwn_succ (m : Nat) : dwnL (m : Int) (m + 1) = .int m :: dwnL ((m : Int) - 1) m := by
  unfold dwnL
  rw [List.range_succ_eq_map, List.map_cons, List.map_map]
  have e2 : ((fun (k : Nat) => D.int ((m : Int) + (k : Int) * (-1))) ∘ Nat.succ) = fun (k : Nat) => D.int (((m : Int) - 1) + (k : Int) * (-1)) := funext fun k => by
    show D.int _ = D.int _
    congr 1
    simp
    omega
  rw [e2]
  simp
theorem f_loop {h0 : LH} {F : List Str} {l : List D} {t g : D} : ∀ (m : Nat) (W : List D) (x : Option D), m ≤ l.length → W.length + 2 * m ≤ 900000 →
    ∃ x', forL (gNm 5) fBody (dwnL ((m : Int) - 1) m) [some t, some (.ref h0.length), some (.ref (h0.length + 1)), some (.tup l), some g, x] (st2 h0 F W) =
      .nx [some t, some (.ref h0.length), some (.ref (h0.length + 1)), some (.tup l), some g, x'] (st2 h0 F (W ++ (pr (l.take m).reverse).map sw))
  | 0, W, x, _, _ => ⟨x, by simp [dwnL, forL, pr]⟩
  | m + 1, W, x, hm, hW => by
    obtain ⟨y, ey⟩ : ∃ y, l[m]? = some y := ⟨l[m], List.getElem?_eq_getElem (by omega)⟩
    have ix := fun h => ix_tup (h := h) ey
    have et : (l.take (m + 1)).reverse = y :: (l.take m).reverse := by
      rw [List.take_add_one, ey]
      simp
    have s2 : small 2 = true := rfl
    have e1 : ((m + 1 : Nat) : Int) - 1 = (m : Int) := by omega
    rw [e1, dwn_succ]
    have ap := b_app (h0 := h0) (F := F) (W := W) (.tup [y, .bl false]) (by omega)
    by_cases h0' : m = 0
    · subst h0'
      refine ⟨some (.int 0), ?_⟩
      have ix0 : ∀ h, oIx h (.tup l) (.int 0) = some y := fun h => ix h
      rw [et]
      unfold forL
      unfold fBody
      simp [b_ty, ix0, s2, ap, dwnL, forL, pr, sw]
    · have ap2 := b_app (h0 := h0) (F := F) (W := W ++ [.tup [y, .bl false]]) (.tup [.str " ", .bl true]) (by simp; omega)
      obtain ⟨x', ih⟩ := f_loop (h0 := h0) (F := F) (l := l) (t := t) (g := g) m (W ++ [.tup [y, .bl false]] ++ [.tup [.str " ", .bl true]]) (some (.int m)) (by omega) (by simp; omega)
      refine ⟨x', ?_⟩
      have c : (0 : Int) < (m : Int) := by omega
      have ep : pr (y :: (l.take m).reverse) = [(y, false), (.str " ", true)] ++ pr (l.take m).reverse := by
        obtain ⟨a, b, q⟩ : ∃ a b, (l.take m).reverse = a :: b := by
          cases q : (l.take m).reverse with
          | nil =>
            have := congrArg List.length q
            rw [List.length_reverse, List.length_take, List.length_nil] at this
            omega
          | cons a b => exact ⟨a, b, rfl⟩
        rw [q]
        rfl
      have eb : fBody [some t, some (.ref h0.length), some (.ref (h0.length + 1)), some (.tup l), some g, some (.int m)] (st2 h0 F W) = .nx [some t, some (.ref h0.length), some (.ref (h0.length + 1)), some (.tup l), some g, some (.int m)] (st2 h0 F (W ++ [.tup [y, .bl false]] ++ [.tup [.str " ", .bl true]])) := by
        unfold fBody
        simp [b_ty, ix, s2, ap, c, ap2, h0']

      unfold forL
      simp only [gNm_ap, List.set_cons_succ, List.set_cons_zero]
      rw [eb]
      simp only
      rw [ih, et, ep]
      congr 2
      simp [sw]
end Wk00
namespace Wk00
open PySem PySem.Spec PyProof.Rows L2 DN
/-! showing -/
mutual
def lvs : D → Bool
  | .tup l => lvss l
  | d => leafB d
def lvss : List D → Bool
  | [] => true
  | d :: ds => lvs d && lvss ds
end
theorem lvss_all : ∀ l : List D, lvss l = l.all lvs
  | [] => rfl
  | d :: l => by simp only [lvss, List.all_cons, lvss_all l]
theorem lvs_leaf {d : D} (h : isTup d = false) : lvs d = leafB d := by cases d <;> first | rfl | (simp [isTup] at h)
theorem lvs_tup (l : List D) : lvs (.tup l) = l.all lvs := by simp only [lvs, lvss_all]
mutual
theorem told_lvs : ∀ (d : D) (k : Nat), told k d = true → lvs d = true
  | .tup l, k, h => by
    simp only [told, Bool.and_eq_true] at h
    simp only [lvs]
    exact tolds_lvss l (k + 1) h.2
  | .non, _, h => h
  | .bl _, _, h => h
  | .int _, _, h => h
  | .str _, _, h => h
  | .lst _, _, h => h
  | .dct _, _, h => h
  | .kst _, _, h => h
  | .ref _, _, h => h
  | .st _, _, h => h
  | .exn _ _ _ _, _, h => h
theorem tolds_lvss : ∀ (l : List D) (k : Nat), tolds k l = true → lvss l = true
  | [], _, _ => rfl
  | d :: l, k, h => by
    simp only [tolds, Bool.and_eq_true] at h
    simp only [lvss, Bool.and_eq_true]
    exact ⟨told_lvs d k h.1, tolds_lvss l k h.2⟩
end
noncomputable def sBody : SM := (sSeq (sAsg (mMeth "list" gPop (mVar 2) aNil) (gTp 2 (gCn (gNm 3) (gCn (gNm 4) gNl))))
  (sIf (mTest (mVar 4))
  (sExpr (mMeth "list" gAppend (mVar 1) (aCons (mVar 3) aNil)))
  (sIf (mTest (mCall cIsi (aCons (mVar 3) (aCons (mC (.st (.ty "tuple"))) aNil))))
  (sSeq (sExpr (mMeth "list" gAppend (mVar 1) (aCons (mC (.str "(")) aNil)))
  (sSeq (sExpr (mMeth "list" gAppend (mVar 2) (aCons (mTup (aCons (mC (.str ")")) (aCons (mC (.bl true)) aNil))) aNil)))
  (sFor 1000000 (iRngD (aCons (mOp oSub (mCall cLen (aCons (mVar 3) aNil)) (mC (.int 1))) (aCons (mNeg (mC (.int 1))) (aCons (mNeg (mC (.int 1))) aNil)))) (gNm 5)
  fBody)))
  (sExpr (mMeth "list" gAppend (mVar 1) (aCons (mFn 1 b_leaf_text [] (aCons (mVar 3) aNil)) aNil))))))
abbrev opn : Str := "("
def Gd (x : D × Bool) : Prop := (x.2 = true ∧ ∃ s, x.1 = .str s) ∨ (x.2 = false ∧ okD x.1 ∧ (sz x.1 ≤ 900000 ∧ mm x.1 ≤ 60000) ∧ lvs x.1 = true)
theorem rngD_ap {m : AM} {s : Sg} {h : LH} : iRngD m s h = (m s h).bind fun l h1 => match l with
  | [.int i, .int j, .int c] => if decide (c = -1 ∧ -(2 ^ 62) ≤ i ∧ i < 2 ^ 62 ∧ -(2 ^ 62) ≤ j ∧ j < 2 ^ 62) = true then .ok (fixS (dwnL i (i - j).toNat)) h1 else .no
  | _ => .no := rfl
theorem swsnoc (V : List (D × Bool)) (d : D) (b : Bool) : (V ++ [(d, b)]).map sw = V.map sw ++ [.tup [d, .bl b]] := by simp [sw]
/-- one turn -/
theorem s_turn {h0 : LH} {F : List Str} {V : List (D × Bool)} {t d : D} {b : Bool} {x y z : Option D} (g : Gd (d, b)) (hF : F.length ≤ 200000) (hV : V.length ≤ 200000) :
    ∃ (F' : List Str) (V' : List (D × Bool)) (y' z' : Option D), sBody [some t, some (.ref h0.length), some (.ref (h0.length + 1)), x, y, z] (st2 h0 F ((V ++ [(d, b)]).map sw)) = .nx [some t, some (.ref h0.length), some (.ref (h0.length + 1)), some d, y', z'] (st2 h0 (F ++ F') ((V ++ V').map sw)) ∧
      (F'.map tl).flatten ++ outs V' = out1 (d, b) ∧ F'.length = 1 ∧ (∀ p ∈ V', Gd p) ∧ mt V' + 1 ≤ m1 (d, b) := by
  rw [swsnoc]
  have bp := b_pop (h0 := h0) (F := F) (W := V.map sw) (.tup [d, .bl b])
  have bt := b_ty (h0 := h0) (F := F) (W := V.map sw ++ [.tup [d, .bl b]])
  have at_ := a_ty (h0 := h0) (F := F) (W := V.map sw)
  rcases g with ⟨rfl, s, rfl⟩ | ⟨rfl, ok, hz, lv⟩
  · have ap := a_app (h0 := h0) (F := F) (W := V.map sw) s (by omega)
    refine ⟨[s], [], some (.bl true), z, ?_, by simp [outs, out1], rfl, by simp, by simp [mt, m1]⟩
    unfold sBody
    simp [bt, bp, at_, ap]
  · cases hd : isTup d with
    | false =>
      have lb : leafB d = true := by rw [← lvs_leaf hd]; exact lv
      have lt := leaf_text_ok (h := st2 h0 F (V.map sw)) lb hz.1
      have it := isi_tup (h := st2 h0 F (V.map sw)) ok
      rw [hd] at it
      have ap := a_app (h0 := h0) (F := F) (W := V.map sw) ⟨(lf d).toArray⟩ (by omega)
      refine ⟨[⟨(lf d).toArray⟩], [], some (.bl false), z, ?_, ?_, rfl, by simp, ?_⟩
      · unfold sBody
        generalize b_leaf_text = Lt at lt
        simp [bt, bp, at_, it, lt, ap]
      · simp [outs, out1, sh_leaf hd, tl]
      · have := mm_pos d
        simp [mt, m1]
        omega
    | true =>
      obtain ⟨l, rfl⟩ : ∃ l, d = .tup l := by
        cases d <;> first | exact ⟨_, rfl⟩ | (simp [isTup] at hd)
      have hl : l.length ≤ 30000 := by
        have := len_mms l
        have hz := hz.2
        simp only [mm] at hz
        omega
      have it := isi_tup (h := st2 h0 F (V.map sw)) ok
      rw [hd] at it
      have ap := a_app (h0 := h0) (F := F) (W := V.map sw) opn (by omega)
      have bt2 := b_ty (h0 := h0) (F := F ++ [opn]) (W := V.map sw)
      have bp2 := b_app (h0 := h0) (F := F ++ [opn]) (W := V.map sw) (.tup [.str ")", .bl true]) (by simp; omega)
      obtain ⟨x', fl⟩ := f_loop (h0 := h0) (F := F ++ [opn]) (l := l) (t := t) (g := .bl false) l.length (V.map sw ++ [D.tup [.str ")", .bl true]]) z (Nat.le_refl _) (by simp; omega)
      rw [List.take_of_length_le (Nat.le_refl _)] at fl
      have s2 : small 2 = true := rfl
      have dl : (dwnL ((l.length : Int) - 1) l.length).length < 1000000 := by unfold dwnL; simp; omega
      have rg : decide ((-1 : Int) = -1 ∧ -(2 ^ 62) ≤ (l.length : Int) - 1 ∧ (l.length : Int) - 1 < 2 ^ 62 ∧ -(2 ^ 62) ≤ (-1 : Int) ∧ (-1 : Int) < 2 ^ 62) = true := decide_eq_true ⟨rfl, by omega, by omega, by omega, by omega⟩
      have en : ((l.length : Int) - 1 - (-1)).toNat = l.length := by omega
      have fr : sFor 1000000 (iRngD (aCons (mOp oSub (mCall cLen (aCons (mVar 3) aNil)) (mC (.int 1))) (aCons (mNeg (mC (.int 1))) (aCons (mNeg (mC (.int 1))) aNil)))) (gNm 5) fBody [some t, some (.ref h0.length), some (.ref (h0.length + 1)), some (.tup l), some (.bl false), z] (st2 h0 (F ++ [opn]) (V.map sw ++ [D.tup [.str ")", .bl true]])) =
          .nx [some t, some (.ref h0.length), some (.ref (h0.length + 1)), some (.tup l), some (.bl false), x'] (st2 h0 (F ++ [opn]) (V.map sw ++ [D.tup [.str ")", .bl true]] ++ (pr l.reverse).map sw)) := by
        rw [sFor_ap, rngD_ap]
        simp only [aCons_ap, mOp_ap, mCall_ap, mVar_ap, List.getElem?_cons_succ, List.getElem?_cons_zero, slotR_some, R.bind_ok, aNil_ap, len_tup, optR_some, mC_ap, oSub_ii, mNeg_ap]
        rw [if_pos (decide_eq_true ⟨trivial, by omega, by omega, by omega, by omega⟩), q_ok, en, for_fix dl, fl]
      refine ⟨[opn], [((.str ")" : D), true)] ++ pr l.reverse, some (.bl false), x', ?_, ?_, rfl, ?_, ?_⟩
      · have er : (V ++ ([((.str ")" : D), true)] ++ pr l.reverse)).map sw = V.map sw ++ [D.tup [.str ")", .bl true]] ++ (pr l.reverse).map sw := by simp [sw]
        rw [er]
        unfold sBody
        generalize b_leaf_text = Lt
        generalize sFor 1000000 (iRngD (aCons (mOp oSub (mCall cLen (aCons (mVar 3) aNil)) (mC (.int 1))) (aCons (mNeg (mC (.int 1))) (aCons (mNeg (mC (.int 1))) aNil)))) (gNm 5) fBody = Fo at fr
        generalize V.map sw ++ [D.tup [.str ")", .bl true]] ++ (pr l.reverse).map sw = Z at fr ⊢
        simp [bt, bp, at_, it, ap, bt2, s2, bp2, fr]
      · have eo : out1 (.tup l, false) = 40 :: joinL (l.map sh) ++ [41] := by simp [out1, sh_tup]
        have e41 : outs [((.str ")" : D), true)] = [41] := by
          simp [outs, out1]
          decide +kernel
        have e40 : tl opn = [40] := by decide +kernel
        rw [eo, outs_app, outs_pr, List.reverse_reverse, shs_join, e41]
        simp [e40]
      · intro p hp
        rcases List.mem_append.mp hp with hp | hp
        · simp at hp
          subst hp
          exact .inl ⟨rfl, _, rfl⟩
        · rcases pr_mem hp with rfl | ⟨h1, h2⟩
          · exact .inl ⟨rfl, _, rfl⟩
          · rw [List.mem_reverse] at h2
            have ok' : okL l := by simpa only [okD] using ok
            have := szs_mem h2
            have := mms_mem h2
            simp only [sz, mm] at hz
            rw [lvs_tup, List.all_eq_true] at lv
            exact .inr ⟨h1, okL_mem.mp ok' _ h2, ⟨by omega, by omega⟩, lv _ h2⟩
      · have h1 := mt_pr l.reverse
        rw [mms_rev] at h1
        have e1 : mt [((.str ")" : D), true)] = 1 := by simp [mt, m1]
        have e2 : m1 (.tup l, false) = 2 + mms l := by simp [m1, mm]
        rw [mt_app, e1, e2]
        omega
theorem s_loop {h0 : LH} {t : D} : ∀ (n : Nat) (F : List Str) (W : List (D × Bool)) (x y z : Option D), mt W < n → F.length + mt W ≤ 200000 → (∀ p ∈ W, Gd p) →
    ∃ G s', whileM n (mTest (mOp oNe (mVar 2) (mLst aNil))) sBody [some t, some (.ref h0.length), some (.ref (h0.length + 1)), x, y, z] (st2 h0 F (W.map sw)) = .nx s' (st2 h0 (F ++ G) []) ∧ s'[1]? = some (some (.ref h0.length)) ∧ (G.map tl).flatten = outs W ∧ G.length ≤ mt W
  | 0, _, _, _, _, _, hn, _, _ => by omega
  | n + 1, F, W, x, y, z, hn, hb, hW => by
    have s0 : small 0 = true := rfl
    have et : ∀ W : List D, mTest (mOp oNe (mVar 2) (mLst aNil)) [some t, some (.ref h0.length), some (.ref (h0.length + 1)), x, y, z] (st2 h0 F W) = .ok (!W.isEmpty) (st2 h0 F W) := fun W => by
      simp [b_ne, s0]
    rw [while_succ, et]
    by_cases hW0 : W = []
    · subst hW0
      exact ⟨[], _, by rw [List.append_nil]; rfl, rfl, rfl, Nat.zero_le _⟩
    · obtain ⟨V, ⟨d, b⟩, rfl⟩ := rs_snoc hW0
      have em : mt (V ++ [(d, b)]) = mt V + m1 (d, b) := by rw [mt_app]; simp [mt]
      have lenV : V.length ≤ mt V := by
        have : ∀ V : List (D × Bool), V.length ≤ mt V := fun V => by
          induction V with
          | nil => simp [mt]
          | cons p V ih =>
            have h1 : 1 ≤ m1 p := by
              unfold m1
              split
              · exact Nat.le_refl _
              · exact mm_pos _
            have e : mt (p :: V) = m1 p + mt V := by simp [mt]
            rw [e, List.length_cons]
            omega
        exact this V
      have hne : (!((V ++ [(d, b)]).map sw).isEmpty) = true := by simp
      rw [hne]
      simp only [q_ok, if_true]
      obtain ⟨F', V', y', z', e1, e2, e3, e4, e5⟩ := s_turn (h0 := h0) (F := F) (V := V) (t := t) (x := x) (y := y) (z := z) (hW (d, b) (by simp)) (by omega) (by omega)
      rw [e1]
      have em2 : mt (V ++ V') = mt V + mt V' := mt_app _ _
      obtain ⟨G, s', q1, q2, q3, q4⟩ := s_loop (h0 := h0) (t := t) n (F ++ F') (V ++ V') (some d) y' z' (by omega) (by rw [List.length_append]; omega) (fun p hp => by
        rcases List.mem_append.mp hp with hp | hp
        · exact hW p (by simp [hp])
        · exact e4 p hp)
      refine ⟨F' ++ G, s', by rw [← List.append_assoc]; exact q1, q2, ?_, by rw [List.length_append]; omega⟩
      rw [List.map_append, List.flatten_append, q3, outs_app, outs_snoc, ← List.append_assoc, e2]
theorem gc_str {m : FM} {ds : List D} {h : LH} {F G : LO} {b : Str} (e : m ds h = .ok (.str b) (h ++ [F, G])) : gcM m ds h = .ok (.str b) h := by
  unfold gcM
  rw [e]
  have tk : (h ++ [F, G]).take h.length = h := by simp
  simp only [tk, if_true]
  rfl
theorem show_ok {h : LH} {d : D} (ok : okD d) (hz : sz d ≤ 900000) (hm : mm d ≤ 60000) (lv : lvs d = true) (hl : (sh d).length ≤ 900000) : gcM (b_show_told b_leaf_text) [d] h = .ok (.str ⟨(sh d).toArray⟩) h := by
  have e1 : mt [(d, false)] = mm d := by simp [mt, m1]
  obtain ⟨G, s', q1, q2, q3, q4⟩ := s_loop (h0 := h) (t := d) 1000000 [] [(d, false)] none none none (by omega) (by simp only [List.length_nil]; omega) (by
    intro p hp
    simp at hp
    subst hp
    exact .inr ⟨rfl, ok, ⟨hz, hm⟩, lv⟩)
  have eo : outs [(d, false)] = sh d := by simp [outs, out1]
  rw [eo] at q3
  rw [List.nil_append] at q1
  have s0 : small 0 = true := rfl
  have s1 : small 1 = true := rfl
  have s2 : small 2 = true := rfl
  have start : b_show_told b_leaf_text [d] h = fin_ ((whileM 1000000 (mTest (mOp oNe (mVar 2) (mLst aNil))) sBody [some d, some (.ref h.length), some (.ref (h.length + 1)), none, none, none] (st2 h [] ([(d, false)].map sw))).then (sRet (mMeth "str" gJoin (mC (.str "")) (aCons (mVar 1) aNil)))) := by
    unfold b_show_told
    simp [s0, s1, s2]
    rfl
  have jn : gJoin (st2 h G []) (.str "") [.ref h.length] = some (.str ⟨(sh d).toArray⟩, st2 h G []) := by
    have e1 : strsOf (st2 h G []) (.ref h.length) = some G := by
      show (seqL (st2 h G []) (D.ref h.length)).bind (fun l => l.mapM asS) = some G
      rw [seq_ref (a_at (h0 := h) (F := G) (W := []))]
      exact mapM_asS G
    have e2 : G.map (·.length) = (G.map tl).map List.length := by rw [List.map_map]; exact List.map_congr_left fun y _ => len_tl y
    have e3 : ((G.map tl).map List.length).sum = (sh d).length := by rw [← q3, List.length_flatten]
    unfold gJoin
    simp only [e1, Option.bind_some]
    rw [if_pos (decide_eq_true (by rw [e2, e3]; show _ + G.length * 0 ≤ _; omega))]
    congr 3
    refine str_mk ?_
    rw [TL.join_eq]
    exact (tl_join_nil G).trans q3
  refine gc_str (F := .lst (G.map .str)) (G := .lst []) ?_
  have ty : ∀ h, tyD h (.str "") = some "str" := fun _ => rfl
  rw [start, q1]
  simp only [then_nx, sRet_ap, mMeth_ap, mC_ap, R.bind_ok, ty, decide_true, if_true, aCons_ap, mVar_ap, q2, slotR_some, aNil_ap, jn, optM_some, q_ok, fin_rt]
  rfl
end Wk00
namespace Wk00
open PySem PySem.Spec PyProof.Rows L2 DN
/-! numbers written -/
def dig (c : Nat) : Bool := decide (48 ≤ c) && decide (c ≤ 57)
def plainN (w : List Nat) : List Nat := if w.head? = some 45 then w.tail else w
def numOK (w : List Nat) : Bool := !(plainN w).isEmpty && decide ((plainN w).length ≤ 40) && (plainN w).all dig && !((plainN w).head? == some 48 && w != [48])
def numW (w : List Nat) : Int := if w.head? = some 45 then -((NumText.digitsVal w.tail : Nat) : Int) else (NumText.digitsVal w : Nat)
theorem dig_all {l : List Nat} (h : l.all dig = true) : NumText.AllDigits l := fun c m => by
  have := List.all_eq_true.mp h c m
  simpa [dig] using this
theorem num_ok {h : LH} {w : List Nat} (hw : numOK w = true) : intL (numW w) = w ∧ -G40 < numW w ∧ numW w < G40 ∧ cInt h [.str ⟨w.toArray⟩] = some (.int (numW w)) := by
  unfold numOK at hw
  simp only [Bool.and_eq_true, Bool.not_eq_true', decide_eq_true_eq, List.isEmpty_eq_false_iff] at hw
  obtain ⟨⟨⟨h1, h2⟩, h3⟩, h4⟩ := hw
  have hd := dig_all h3
  have key : ∀ ds : List Nat, ds ≠ [] → ds.length ≤ 40 → NumText.AllDigits ds → (∀ r, ds = 48 :: r → r = []) → ∃ n, ds = TL.numL n ∧ n < 10 ^ 40 := fun ds a b c d => by
    obtain ⟨n, e, l⟩ := num_of (ds.length - 1) ds (by have := List.length_pos_iff.mpr a; omega) c d
    exact ⟨n, e, Nat.lt_of_lt_of_le l (Nat.pow_le_pow_right (by decide) (by have := List.length_pos_iff.mpr a; omega))⟩
  by_cases c45 : w.head? = some 45
  · obtain ⟨ds, rfl⟩ : ∃ ds, w = 45 :: ds := by
      cases w with
      | nil => simp at c45
      | cons a r => simp at c45; exact ⟨r, by rw [c45]⟩
    simp only [plainN, List.head?_cons, if_true, List.tail_cons] at h1 h2 h3 h4 hd
    have ne48 : ∀ r, ds ≠ 48 :: r := fun r e => by
      rw [e] at h4
      simp at h4
    obtain ⟨n, e, l⟩ := key ds h1 h2 hd fun r q => (ne48 r q).elim
    have n0 : n ≠ 0 := fun z => by
      rw [z, TL.numL_lt (by decide)] at e
      exact ne48 [] e
    have ew : numW (45 :: ds) = -(n : Int) := by
      simp only [numW, List.head?_cons, if_true, List.tail_cons]
      rw [e, TL.numL_val]
    rw [ew]
    refine ⟨?_, by unfold G40; omega, by unfold G40; omega, ?_⟩
    · unfold intL
      rw [if_pos (by omega), e]
      congr 2
      omega
    · have := PySem.intText_neg (x := ⟨(45 :: ds).toArray⟩) (cs := ds) rfl hd h1 (by show (45 :: ds).toArray.size ≤ _; simp; omega)
      show (if decide _ = true then (PySem.intText? _).map D.int else none) = _
      rw [if_pos (decide_eq_true (by show (45 :: ds).toArray.size ≤ _; simp; omega)), this, e, TL.numL_val]
      rfl
  · simp only [plainN, if_neg c45] at h1 h2 h3 h4 hd
    have ne48 : ∀ r, w = 48 :: r → r = [] := fun r e => by
      rw [e] at h4
      simpa using h4
    obtain ⟨n, e, l⟩ := key w h1 h2 hd ne48
    have ew : numW w = (n : Int) := by
      simp only [numW, if_neg c45]
      rw [e, TL.numL_val]
    rw [ew]
    refine ⟨?_, by unfold G40; omega, by unfold G40; omega, ?_⟩
    · unfold intL
      rw [if_neg (by omega), e]
      congr 1
    · have := PySem.intText_digits (x := ⟨w.toArray⟩) (by simpa using hd) (by simpa using h1) (by show w.toArray.size ≤ _; simp; omega)
      show (if decide _ = true then (PySem.intText? _).map D.int else none) = _
      rw [if_pos (decide_eq_true (by show w.toArray.size ≤ _; simp; omega)), this]
      simp only
      rw [e, TL.numL_val]
      rfl
theorem num_ne48 {n : Nat} (h : n ≠ 0) : ∀ r, TL.numL n ≠ 48 :: r := fun r e => h (num_head n e rfl)
theorem num_back {i : Int} (h1 : -G40 < i) (h2 : i < G40) : numOK (intL i) = true ∧ numW (intL i) = i := by
  have hl : (TL.numL i.natAbs).length ≤ 40 := TL.numL_len (by decide) (by unfold G40 at *; omega)
  have hd : (TL.numL i.natAbs).all dig = true := by
    rw [List.all_eq_true]
    intro c m
    have := TL.numL_digits _ c m
    simp [dig, this]
  have hne := TL.numL_ne i.natAbs
  unfold intL
  by_cases c : i < 0
  · rw [if_pos c]
    refine ⟨?_, ?_⟩
    · simp only [numOK, plainN, List.head?_cons, if_true, List.tail_cons, hd, decide_eq_true hl]
      have := num_ne48 (n := i.natAbs) (by omega)
      cases q : TL.numL i.natAbs with
      | nil => exact (hne q).elim
      | cons a r =>
        have : a ≠ 48 := fun z => this r (by rw [q, z])
        simp [this]
    · simp only [numW, List.head?_cons, if_true, List.tail_cons, TL.numL_val]
      omega
  · rw [if_neg c]
    have n45 : (TL.numL i.natAbs).head? ≠ some 45 := fun z => by
      cases q : TL.numL i.natAbs with
      | nil => exact (hne q).elim
      | cons a r =>
        rw [q] at z
        simp at z
        have := TL.numL_digits i.natAbs a (by rw [q]; simp)
        omega
    refine ⟨?_, ?_⟩
    · simp only [numOK, plainN, if_neg n45, hd, decide_eq_true hl]
      cases q : TL.numL i.natAbs with
      | nil => exact (hne q).elim
      | cons a r =>
        by_cases a48 : a = 48
        · have := num_head i.natAbs q a48
          rw [this, TL.numL_lt (by decide)] at q
          simp at q
          simp [a48, q.2.symm]
        · simp [a48]
    · simp only [numW, if_neg n45, TL.numL_val]
      omega
/-! stacks of open lists, the innermost first -/
abbrev Stack := List (List D)
def sepc (L : List D) : List Nat := if L.isEmpty then [] else [32]
def pre : Stack → List Nat
  | [] => []
  | [L] => shs L
  | L :: M :: r => pre (M :: r) ++ sepc M ++ 40 :: shs L
theorem shs_snoc (L : List D) (d : D) : shs (L ++ [d]) = shs L ++ sepc L ++ sh d := by
  rw [shs_join, shs_join]
  cases L with
  | nil => simp [joinL, sepc]
  | cons x r =>
    obtain ⟨A, y, e⟩ := rs_snoc (l := x :: r) (by simp)
    rw [e]
    simp only [List.map_append, List.map_cons, List.map_nil, sepc]
    rw [joinL_end]
    simp
theorem pre_add (L : List D) (d : D) (r : Stack) : pre ((L ++ [d]) :: r) = pre (L :: r) ++ sepc L ++ sh d := by
  cases r with
  | nil => simp only [pre, shs_snoc]
  | cons M r => simp only [pre, shs_snoc, List.append_assoc, List.cons_append]
theorem pre_push (L : List D) (r : Stack) : pre ([] :: L :: r) = pre (L :: r) ++ sepc L ++ [40] := by simp [pre, shs]
theorem pre_pop (L M : List D) (r : Stack) : pre ((M ++ [.tup L]) :: r) = pre (L :: M :: r) ++ [41] := by
  rw [pre_add]
  simp [pre, sh]
/-! this law's own reading -/
def leafL (c : Nat) (r : List Nat) : Option (D × List Nat) :=
  if c = 39 then (if 39 ∈ r then (if (r.takeWhile (· != 39)).all (fun c => decide (32 ≤ c) && decide (c ≤ 126)) = true then some (.str ⟨(r.takeWhile (· != 39)).toArray⟩, r.drop ((r.takeWhile (· != 39)).length + 1)) else none) else none)
  else if c = 43 ∨ c = 33 then some (.bl (c == 43), r)
  else if c = 45 ∧ (r.head?.all fun x => !dig x) = true then some (.non, r)
  else if numOK (c :: r.takeWhile dig) = true then some (.int (numW (c :: r.takeWhile dig)), r.drop (r.takeWhile dig).length) else none
def goL (top : List D) (below : Stack) (c : Nat) (r : List Nat) : Option (Stack × List Nat) :=
  if c = 40 then some ([] :: top :: below, r)
  else if c = 41 then (match below with
    | [] => none
    | M :: b => some ((M ++ [.tup top]) :: b, r))
  else (leafL c r).map fun p => ((top ++ [p.1]) :: below, p.2)
def stepL (top : List D) (below : Stack) (c : Nat) (r : List Nat) : Option (Stack × List Nat) :=
  if top ≠ [] ∧ c ≠ 41 then (if c ≠ 32 ∨ below = [] then none else match r with
    | [] => none
    | c' :: r' => if c' = 32 ∨ c' = 41 then none else goL top below c' r')
  else goL top below c r
def lr : Nat → Stack → List Nat → Option D
  | 0, _, _ => none
  | _ + 1, st, [] => match st with
    | [[d]] => some d
    | _ => none
  | n + 1, top :: below, c :: r => match stepL top below c r with
    | none => none
    | some (st', r') => lr n st' r'
  | _ + 1, [], _ :: _ => none
theorem take_quote {r : List Nat} (h : 39 ∈ r) : r = r.takeWhile (· != 39) ++ 39 :: r.drop ((r.takeWhile (· != 39)).length + 1) := by
  induction r with
  | nil => simp at h
  | cons x r ih =>
    by_cases hx : x = 39
    · subst hx
      simp
    · have := ih (by
        rcases List.mem_cons.mp h with h | h
        · exact (hx h.symm).elim
        · exact h)
      rw [List.takeWhile_cons, if_pos (by simpa using hx), List.cons_append, List.length_cons, List.drop_succ_cons]
      exact congrArg (x :: ·) this
theorem take_no {r : List Nat} {p : Nat → Bool} : ∀ x ∈ r.takeWhile p, p x = true := by
  induction r with
  | nil => simp
  | cons x r ih =>
    rw [List.takeWhile_cons]
    split
    · rename_i h
      intro y hy
      rcases List.mem_cons.mp hy with rfl | hy
      · exact h
      · exact ih y hy
    · simp
theorem take_split (p : Nat → Bool) (r : List Nat) : r = r.takeWhile p ++ r.drop (r.takeWhile p).length := by
  induction r with
  | nil => rfl
  | cons x r ih =>
    rw [List.takeWhile_cons]
    split
    · simpa using ih
    · rfl
theorem take_exact {p : Nat → Bool} : ∀ {a b : List Nat}, (∀ x ∈ a, p x = true) → (∀ x r, b = x :: r → p x = false) → (a ++ b).takeWhile p = a
  | [], [], _, _ => rfl
  | [], x :: b, _, h => by rw [List.nil_append, List.takeWhile_cons, h x b rfl]; rfl
  | x :: a, b, g, h => by rw [List.cons_append, List.takeWhile_cons, g x (by simp), if_pos rfl, take_exact (fun y m => g y (by simp [m])) h]
theorem pln_of {c : Nat} (h1 : (decide (32 ≤ c) && decide (c ≤ 126)) = true) (h2 : c ≠ 39) : pln c = true := by
  unfold pln
  rw [h1]
  simpa using h2
/-- what a leaf read so shows as -/
theorem leafL_sound {c : Nat} {r : List Nat} {d : D} {r' : List Nat} (h : leafL c r = some (d, r')) : lf d ++ r' = c :: r ∧ isTup d = false ∧ leafB d = true := by
  unfold leafL at h
  split at h
  · rename_i c39
    subst c39
    split at h
    · rename_i hm
      split at h
      · rename_i ha
        simp only [Option.some.injEq, Prod.mk.injEq] at h
        obtain ⟨rfl, rfl⟩ := h
        refine ⟨?_, rfl, ?_⟩
        · have := take_quote hm
          simp only [lf, tl]
          simp
          exact this.symm
        · simp only [leafB, ptx, tl]
          rw [List.all_eq_true]
          intro x hx
          have hx : x ∈ r.takeWhile (· != 39) := by simpa using hx
          refine pln_of (List.all_eq_true.mp ha x hx) ?_
          simpa using take_no x hx
      · cases h
    · cases h
  · split at h
    · rename_i c39 cb
      simp only [Option.some.injEq, Prod.mk.injEq] at h
      obtain ⟨rfl, rfl⟩ := h
      refine ⟨?_, rfl, rfl⟩
      rcases cb with rfl | rfl <;> rfl
    · split at h
      · rename_i c39 cb cn
        simp only [Option.some.injEq, Prod.mk.injEq] at h
        obtain ⟨rfl, rfl⟩ := h
        refine ⟨?_, rfl, rfl⟩
        rw [cn.1]
        rfl
      · split at h
        · rename_i c39 cb cn hn
          simp only [Option.some.injEq, Prod.mk.injEq] at h
          obtain ⟨rfl, rfl⟩ := h
          obtain ⟨a1, a2, a3, _⟩ := num_ok (h := []) hn
          refine ⟨?_, rfl, ?_⟩
          · simp only [lf, a1]
            rw [List.cons_append, ← take_split]
          · simp only [leafB, decide_eq_true a2, decide_eq_true a3, Bool.and_self]
        · cases h
def lvst (st : Stack) : Prop := ∀ L ∈ st, L.all lvs = true
theorem lvst_cons {L : List D} {st : Stack} : lvst (L :: st) ↔ L.all lvs = true ∧ lvst st := by simp [lvst]
theorem goL_sound {top : List D} {below : Stack} {c : Nat} {r : List Nat} {st' : Stack} {r' : List Nat} (h : goL top below c r = some (st', r')) (hl : lvst (top :: below)) : lvst st' ∧ ((c = 41 ∧ pre st' ++ r' = pre (top :: below) ++ c :: r) ∨ (c ≠ 41 ∧ pre st' ++ r' = pre (top :: below) ++ sepc top ++ c :: r)) := by
  rw [lvst_cons] at hl
  unfold goL at h
  split at h
  · rename_i c40
    subst c40
    simp only [Option.some.injEq, Prod.mk.injEq] at h
    obtain ⟨rfl, rfl⟩ := h
    refine ⟨lvst_cons.mpr ⟨rfl, lvst_cons.mpr hl⟩, .inr ⟨by omega, ?_⟩⟩
    rw [pre_push]
    simp
  · split at h
    · rename_i c40 c41
      subst c41
      cases below with
      | nil => simp at h
      | cons M b =>
        simp only [Option.some.injEq, Prod.mk.injEq] at h
        obtain ⟨rfl, rfl⟩ := h
        have hb := lvst_cons.mp hl.2
        refine ⟨lvst_cons.mpr ⟨by rw [List.all_append, hb.1]; simp only [List.all_cons, List.all_nil, lvs_tup, hl.1, Bool.and_self], hb.2⟩, .inl ⟨rfl, ?_⟩⟩
        rw [pre_pop]
        simp
    · rename_i c40 c41
      simp only [Option.map_eq_some_iff, Prod.mk.injEq, Prod.exists] at h
      obtain ⟨d, r'', e, rfl, rfl⟩ := h
      obtain ⟨a1, a2, a3⟩ := leafL_sound e
      refine ⟨lvst_cons.mpr ⟨by rw [List.all_append, hl.1]; simp only [List.all_cons, List.all_nil, lvs_leaf a2, a3, Bool.and_self], hl.2⟩, .inr ⟨c41, ?_⟩⟩
      rw [pre_add, sh_leaf a2, ← a1]
      simp
theorem stepL_sound {top : List D} {below : Stack} {c : Nat} {r : List Nat} {st' : Stack} {r' : List Nat} (h : stepL top below c r = some (st', r')) (hl : lvst (top :: below)) : lvst st' ∧ pre st' ++ r' = pre (top :: below) ++ c :: r := by
  unfold stepL at h
  split at h
  · rename_i ht
    split at h
    · cases h
    · rename_i hc
      rw [not_or] at hc
      have c32 : c = 32 := Classical.byContradiction hc.1
      subst c32
      split at h
      · cases h
      · rename_i c' r''
        split at h
        · cases h
        · rename_i hc'
          rw [not_or] at hc'
          obtain ⟨b1, b2⟩ := goL_sound h hl
          refine ⟨b1, ?_⟩
          rcases b2 with ⟨z, _⟩ | ⟨_, b2⟩
          · exact (hc'.2 z).elim
          · rw [b2]
            have : sepc top = [32] := by
              unfold sepc
              cases top with
              | nil => exact (ht.1 rfl).elim
              | cons a b => rfl
            rw [this]
            simp
  · rename_i ht
    obtain ⟨b1, b2⟩ := goL_sound h hl
    refine ⟨b1, ?_⟩
    rcases b2 with ⟨_, b2⟩ | ⟨nc, b2⟩
    · exact b2
    · have : top = [] := Classical.byContradiction fun z => ht ⟨z, nc⟩
      subst this
      rw [b2]
      simp [sepc]
theorem lr_sound : ∀ (n : Nat) (st : Stack) (w : List Nat) (T : D), lr n st w = some T → lvst st → pre st ++ w = sh T ∧ lvs T = true
  | 0, _, _, _, h, _ => by simp [lr] at h
  | n + 1, st, [], T, h, hl => by
    unfold lr at h
    split at h
    · simp only [Option.some.injEq] at h
      subst h
      have := (lvst_cons.mp hl).1
      simp only [List.all_cons, List.all_nil, Bool.and_true] at this
      exact ⟨by simp [pre, shs], this⟩
    · cases h
  | n + 1, [], _ :: _, T, h, _ => by simp [lr] at h
  | n + 1, top :: below, c :: r, T, h, hl => by
    unfold lr at h
    split at h
    · cases h
    · rename_i st' r' e
      obtain ⟨b1, b2⟩ := stepL_sound e hl
      obtain ⟨d1, d2⟩ := lr_sound n st' r' T h b1
      exact ⟨by rw [← b2]; exact d1, d2⟩
end Wk00
namespace Wk00
open PySem PySem.Spec PyProof.Rows L2 DN
/-! a told thing's text is read back -/
def fol (w : List Nat) : Prop := ∀ x r, w = x :: r → x = 32 ∨ x = 41
theorem intL_signs (i : Int) : ∀ c ∈ intL i, c = 45 ∨ (48 ≤ c ∧ c ≤ 57) := by
  intro c m
  unfold intL at m
  split at m
  · rcases List.mem_cons.mp m with m | m
    · exact .inl m
    · exact .inr (TL.numL_digits _ c m)
  · exact .inr (TL.numL_digits _ c m)
theorem numL_cons (n : Nat) : ∃ c r, TL.numL n = c :: r ∧ 48 ≤ c ∧ c ≤ 57 ∧ ∀ x ∈ r, 48 ≤ x ∧ x ≤ 57 := by
  cases q : TL.numL n with
  | nil => exact (TL.numL_ne n q).elim
  | cons c r =>
    have h1 := TL.numL_digits n c (by rw [q]; simp)
    exact ⟨c, r, rfl, h1.1, h1.2, fun x m => TL.numL_digits n x (by rw [q]; simp [m])⟩
/-- a leaf's text: its first sign -/
theorem lf_cons {d : D} (h1 : isTup d = false) (h2 : leafB d = true) : ∃ c q, lf d = c :: q ∧ c ≠ 32 ∧ c ≠ 40 ∧ c ≠ 41 := by
  cases d with
  | non => exact ⟨45, [], rfl, by decide, by decide, by decide⟩
  | bl b => cases b <;> exact ⟨_, [], rfl, by decide, by decide, by decide⟩
  | int i =>
    obtain ⟨c, r, e, hc⟩ := intL_head i
    exact ⟨c, r, e, by omega, by omega, by omega⟩
  | str z => exact ⟨39, tl z ++ [39], rfl, by decide, by decide, by decide⟩
  | tup l => simp [isTup] at h1
  | _ => simp [leafB] at h2
theorem ptx_no {z : Str} (h : ptx z = true) : 39 ∉ tl z := fun m => by
  have := List.all_eq_true.mp h 39 m
  simp [pln] at this
theorem ptx_rng {z : Str} (h : ptx z = true) : (tl z).all (fun c => decide (32 ≤ c) && decide (c ≤ 126)) = true := by
  rw [List.all_eq_true]
  intro c m
  have := List.all_eq_true.mp h c m
  simp only [pln, Bool.and_eq_true] at this ⊢
  exact this.1
theorem quote_cut {z : Str} {w : List Nat} (h : ptx z = true) : (tl z ++ 39 :: w).takeWhile (· != 39) = tl z := take_exact (fun x m => by
    have : x ≠ 39 := fun e => ptx_no h (e ▸ m)
    simpa using this) (fun x r e => by
    simp at e
    simp [← e.1])
theorem leafL_back {d : D} {c : Nat} {q w : List Nat} (h1 : isTup d = false) (h2 : leafB d = true) (e : lf d = c :: q) (hw : fol w) : leafL c (q ++ w) = some (d, w) := by
  have nd : ∀ x r, w = x :: r → dig x = false := fun x r e => by
    rcases hw x r e with rfl | rfl <;> rfl
  cases d with
  | non =>
    simp only [lf, List.cons.injEq] at e
    obtain ⟨rfl, rfl⟩ := e
    unfold leafL
    rw [if_neg (by decide), if_neg (by decide), if_pos]
    · rfl
    · refine ⟨rfl, ?_⟩
      cases w with
      | nil => rfl
      | cons x r => simp [nd x r rfl]
  | bl b =>
    cases b
    · simp only [lf, List.cons.injEq] at e
      obtain ⟨rfl, rfl⟩ := e
      unfold leafL
      rw [if_neg (by decide), if_pos (by decide)]
      rfl
    · simp only [lf, List.cons.injEq] at e
      obtain ⟨rfl, rfl⟩ := e
      unfold leafL
      rw [if_neg (by decide), if_pos (by decide)]
      rfl
  | int i =>
    simp only [leafB, Bool.and_eq_true, decide_eq_true_eq] at h2
    obtain ⟨n1, n2⟩ := num_back h2.1 h2.2
    simp only [lf] at e
    have hq : ∀ x ∈ q, dig x = true := by
      intro x m
      unfold intL at e
      split at e
      · simp only [List.cons.injEq] at e
        have := TL.numL_digits i.natAbs x (by rw [e.2]; exact m)
        simp [dig, this]
      · have := TL.numL_digits i.natAbs x (by rw [e]; simp [m])
        simp [dig, this]
    have tk : (q ++ w).takeWhile dig = q := take_exact hq nd
    obtain ⟨c', r', e', hc⟩ := intL_head i
    rw [e'] at e
    simp only [List.cons.injEq] at e
    obtain ⟨rfl, rfl⟩ := e
    unfold leafL
    rw [if_neg (by omega), if_neg (by omega), if_neg, tk, ← e', if_pos n1, n2]
    · simp
    · rintro ⟨z1, z2⟩
      have hx : ∃ x s, r' = x :: s := by
        unfold intL at e'
        split at e'
        · simp only [List.cons.injEq] at e'
          rw [← e'.2]
          cases q : TL.numL i.natAbs with
          | nil => exact (TL.numL_ne _ q).elim
          | cons a b => exact ⟨a, b, rfl⟩
        · have := TL.numL_digits i.natAbs c' (by rw [e']; simp)
          omega
      obtain ⟨x, s, rfl⟩ := hx
      have := hq x (by simp)
      simp [this] at z2
  | str z =>
    simp only [lf] at e
    rw [List.cons_append, List.cons.injEq] at e
    obtain ⟨rfl, rfl⟩ := e
    have h2 : ptx z = true := h2
    have e1 : (tl z ++ [39] ++ w) = tl z ++ 39 :: w := by simp
    unfold leafL
    rw [if_pos rfl, e1, quote_cut h2, if_pos (by simp), if_pos (ptx_rng h2)]
    congr 2
    show (tl z ++ 39 :: w).drop ((tl z).length + 1) = w
    rw [← List.drop_drop, List.drop_left] <;> rfl
  | tup l => simp [isTup] at h1
  | _ => simp [leafB] at h2
theorem lr_succ {n : Nat} {top : List D} {below : Stack} {c : Nat} {r : List Nat} : lr (n + 1) (top :: below) (c :: r) = match stepL top below c r with
    | none => none
    | some (st', r') => lr n st' r' := by
  rw [lr] <;> cases stepL top below c r <;> rfl
theorem lr_sep {n : Nat} {top : List D} {below : Stack} {c : Nat} {r : List Nat} (hb : top ≠ [] → below ≠ []) (c1 : c ≠ 32) (c2 : c ≠ 41) : lr (n + 1) (top :: below) (sepc top ++ c :: r) = match goL top below c r with
    | none => none
    | some (st', r') => lr n st' r' := by
  cases top with
  | nil =>
    show lr (n + 1) ([] :: below) (c :: r) = _
    rw [lr_succ]
    unfold stepL
    rw [if_neg (by simp)]
  | cons x t =>
    show lr (n + 1) ((x :: t) :: below) (32 :: c :: r) = _
    have hb := hb (by simp)
    rw [lr_succ]
    unfold stepL
    rw [if_pos ⟨by simp, by decide⟩, if_neg (by simp [hb])]
    simp only
    rw [if_neg (by omega)]
mutual
theorem lr_back : ∀ (d : D), lvs d = true → ∃ k, k ≤ (sh d).length ∧ ∀ (n : Nat) (top : List D) (below : Stack) (w : List Nat), (top ≠ [] → below ≠ []) → fol w → lr (n + k) (top :: below) (sepc top ++ sh d ++ w) = lr n ((top ++ [d]) :: below) w
  | .tup l, h => by
    simp only [lvs] at h
    obtain ⟨k, hk, ih⟩ := lr_backs l h
    refine ⟨k + 1 + 1, by simp only [sh, List.length_append, List.length_cons, List.length_nil]; omega, fun n top below w hb hw => ?_⟩
    have e1 : sepc top ++ sh (.tup l) ++ w = sepc top ++ 40 :: (shs l ++ 41 :: w) := by simp [sh]
    rw [e1, show n + (k + 1 + 1) = (n + 1 + k) + 1 by omega, lr_sep hb (by decide) (by decide)]
    have e2 : goL top below 40 (shs l ++ 41 :: w) = some ([] :: top :: below, shs l ++ 41 :: w) := by unfold goL; rw [if_pos rfl]
    rw [e2]
    simp only
    have e3 := ih (n + 1) [] (top :: below) (41 :: w) (by simp) ⟨w, rfl⟩
    simp only [sepc, List.isEmpty_nil, if_true, List.nil_append, ite_self] at e3
    rw [e3, lr_succ]
    unfold stepL
    rw [if_neg (by simp)]
    unfold goL
    rw [if_neg (by decide), if_pos rfl]
  | .non, h => lr_lf _ rfl h
  | .bl _, h => lr_lf _ rfl h
  | .int _, h => lr_lf _ rfl h
  | .str _, h => lr_lf _ rfl h
  | .lst _, h => by simp [lvs, leafB] at h
  | .dct _, h => by simp [lvs, leafB] at h
  | .kst _, h => by simp [lvs, leafB] at h
  | .ref _, h => by simp [lvs, leafB] at h
  | .st _, h => by simp [lvs, leafB] at h
  | .exn _ _ _ _, h => by simp [lvs, leafB] at h
theorem lr_backs : ∀ (l : List D), lvss l = true → ∃ k, k ≤ (shs l).length ∧ ∀ (n : Nat) (L : List D) (below : Stack) (w : List Nat), below ≠ [] → (∃ r, w = 41 :: r) → lr (n + k) (L :: below) ((if l.isEmpty then [] else sepc L) ++ shs l ++ w) = lr n ((L ++ l) :: below) w
  | [], _ => ⟨0, Nat.zero_le _, fun n L below w _ _ => by simp [shs]⟩
  | [d], h => by
    simp only [lvss, Bool.and_true] at h
    obtain ⟨k, hk, ih⟩ := lr_back d h
    refine ⟨k, by simpa [shs] using hk, fun n L below w hb ⟨r, hw⟩ => ?_⟩
    have := ih n L below w (fun _ => hb) (fun x r' e => by rw [hw] at e; simp at e; exact .inr e.1.symm)
    simpa [shs] using this
  | d :: e :: r, h => by
    simp only [lvss, Bool.and_eq_true] at h
    obtain ⟨k1, hk1, i1⟩ := lr_back d h.1
    obtain ⟨k2, hk2, i2⟩ := lr_backs (e :: r) (by simp only [lvss, Bool.and_eq_true]; exact h.2)
    refine ⟨k2 + k1, by simp only [shs, List.length_append, List.length_cons]; omega, fun n L below w hb hw => ?_⟩
    have e1 : (if (d :: e :: r).isEmpty then [] else sepc L) ++ shs (d :: e :: r) ++ w = sepc L ++ sh d ++ (32 :: shs (e :: r) ++ w) := by simp [shs]
    rw [e1, ← Nat.add_assoc, i1 (n + k2) L below _ (fun _ => hb) (fun x r' q => by simp at q; exact .inl q.1.symm)]
    have e2 := i2 n (L ++ [d]) below w hb hw
    have e3 : sepc (L ++ [d]) = [32] := by unfold sepc; simp
    rw [e3] at e2
    simp only [List.isEmpty_cons] at e2
    have e4 : (32 :: shs (e :: r) ++ w) = (if false = true then [] else [32]) ++ shs (e :: r) ++ w := by simp
    rw [e4, e2]
    simp
theorem lr_lf (d : D) (ht : isTup d = false) (h : leafB d = true) : ∃ k, k ≤ (sh d).length ∧ ∀ (n : Nat) (top : List D) (below : Stack) (w : List Nat), (top ≠ [] → below ≠ []) → fol w → lr (n + k) (top :: below) (sepc top ++ sh d ++ w) = lr n ((top ++ [d]) :: below) w := by
  obtain ⟨c, q, e, c1, c2, c3⟩ := lf_cons ht h
  refine ⟨1, by rw [sh_leaf ht, e]; simp, fun n top below w hb hw => ?_⟩
  have e1 : sepc top ++ sh d ++ w = sepc top ++ c :: (q ++ w) := by rw [sh_leaf ht, e]; simp
  rw [e1, lr_sep hb c1 c3]
  unfold goL
  rw [if_neg c2, if_neg c3, leafL_back ht h e hw]
  rfl
end
theorem lr_all {d : D} (h : lvs d = true) {N : Nat} (hN : (sh d).length < N) : lr N [[]] (sh d) = some d := by
  obtain ⟨k, hk, ih⟩ := lr_back d h
  have := ih (N - k) [] [] [] (fun z => (z rfl).elim) (fun x r e => by simp at e)
  rw [show N - k + k = N by omega] at this
  have e1 : sepc ([] : List D) ++ sh d ++ [] = sh d := by simp [sepc]
  rw [e1] at this
  rw [this]
  obtain ⟨m, e⟩ : ∃ m, N - k = m + 1 := ⟨N - k - 1, by omega⟩
  rw [e]
  rfl
theorem sh_inj {d e : D} (h1 : lvs d = true) (h2 : lvs e = true) (h : sh d = sh e) : d = e := by
  have a := lr_all h1 (N := (sh d).length + 1) (by omega)
  have b := lr_all h2 (N := (sh d).length + 1) (by rw [h]; omega)
  rw [h] at a
  rw [h] at b
  rw [a] at b
  exact Option.some.inj b
/-! the given reading -/
def nob (c : Nat) : Bool := !(c == 40 || c == 41 || c == 32)
def leafP (t : List Nat) : Option D :=
  if t = [45] then some .non else if t = [43] then some (.bl true) else if t = [33] then some (.bl false)
  else if t.head? = some 39 then (if (decide (1 < t.length) && t.tail.dropLast.all pln && (t.getLast? == some 39)) = true then some (.str ⟨t.tail.dropLast.toArray⟩) else none)
  else if numOK t = true then some (.int (numW t)) else none
def endP (w : List Nat) : List Nat :=
  if w.head? = some 39 then (if 39 ∈ w.tail then 39 :: (w.tail.takeWhile (· != 39)) ++ [39] else w) else w.takeWhile nob
def stepP (top : List D) (below : Stack) (c : Nat) (r : List Nat) : Option (Stack × List Nat) :=
  if c = 40 then some ([] :: top :: below, r)
  else if c = 41 ∧ below ≠ [] then (match below with
    | [] => none
    | M :: b => some ((M ++ [.tup top]) :: b, r))
  else if c = 32 then some (top :: below, r)
  else (leafP (endP (c :: r))).map fun d => ((top ++ [d]) :: below, (c :: r).drop (endP (c :: r)).length)
def tp : Nat → Stack → List Nat → Option D
  | 0, _, _ => none
  | _ + 1, st, [] => match st with
    | [[d]] => some d
    | _ => none
  | n + 1, top :: below, c :: r => match stepP top below c r with
    | none => none
    | some (st', r') => tp n st' r'
  | _ + 1, [], _ :: _ => none
theorem leafP_back {d : D} (h1 : isTup d = false) (h2 : leafB d = true) : leafP (lf d) = some d := by
  cases d with
  | non => rfl
  | bl b => cases b <;> rfl
  | int i =>
    simp only [leafB, Bool.and_eq_true, decide_eq_true_eq] at h2
    obtain ⟨n1, n2⟩ := num_back h2.1 h2.2
    have ne : ∀ x, intL i = [x] → 48 ≤ x := fun x e => by
      unfold intL at e
      split at e
      · simp only [List.cons.injEq] at e
        exact (TL.numL_ne _ e.2).elim
      · exact (TL.numL_digits i.natAbs x (by rw [e]; simp)).1
    obtain ⟨c, r, e, hc⟩ := intL_head i
    simp only [lf]
    unfold leafP
    rw [if_neg (fun z => by have := ne _ z; omega), if_neg (fun z => by have := ne _ z; omega), if_neg (fun z => by have := ne _ z; omega), if_neg, if_pos n1, n2]
    rw [e]
    simp
    omega
  | str z =>
    have h2 : ptx z = true := h2
    simp only [lf]
    unfold leafP
    have e1 : (39 :: tl z ++ [39]).tail.dropLast = tl z := by simp
    rw [if_neg (by simp), if_neg (by simp), if_neg (by simp), if_pos (by simp), e1, if_pos]
    · rfl
    · have : ((39 :: tl z) ++ [39]).getLast? = some 39 := by rw [List.getLast?_append]; rfl
      rw [this]
      have h2' : (tl z).all pln = true := h2
      simp [h2']
  | tup l => simp [isTup] at h1
  | _ => simp [leafB] at h2
theorem endP_back {d : D} {w : List Nat} (h1 : isTup d = false) (h2 : leafB d = true) (hw : fol w) : endP (lf d ++ w) = lf d := by
  have hs : ∀ x r, w = x :: r → nob x = false := fun x r e => by
    rcases hw x r e with rfl | rfl <;> rfl
  cases d with
  | non => show endP (45 :: w) = [45]; unfold endP; rw [if_neg (by simp)]; exact take_exact (a := [45]) (by simp [nob]) hs
  | bl b =>
    cases b
    · show endP (33 :: w) = [33]; unfold endP; rw [if_neg (by simp)]; exact take_exact (a := [33]) (by simp [nob]) hs
    · show endP (43 :: w) = [43]; unfold endP; rw [if_neg (by simp)]; exact take_exact (a := [43]) (by simp [nob]) hs
  | int i =>
    obtain ⟨c, r, e, hc⟩ := intL_head i
    simp only [lf]
    unfold endP
    rw [if_neg (by rw [e]; simp; omega)]
    refine take_exact (fun x m => ?_) hs
    have := intL_signs i x m
    unfold nob
    simp
    omega
  | str z =>
    have h2 : ptx z = true := h2
    have e1 : (lf (.str z) ++ w) = 39 :: (tl z ++ 39 :: w) := by simp [lf]
    rw [e1]
    unfold endP
    rw [if_pos (by simp), List.tail_cons, quote_cut h2, if_pos (by simp)]
    rfl
  | tup l => simp [isTup] at h1
  | _ => simp [leafB] at h2
theorem tp_succ {n : Nat} {top : List D} {below : Stack} {c : Nat} {r : List Nat} : tp (n + 1) (top :: below) (c :: r) = match stepP top below c r with
    | none => none
    | some (st', r') => tp n st' r' := by
  rw [tp]
mutual
theorem tp_back : ∀ (d : D), lvs d = true → ∃ k, k ≤ (sh d).length ∧ ∀ (n : Nat) (top : List D) (below : Stack) (w : List Nat), fol w → tp (n + k) (top :: below) (sh d ++ w) = tp n ((top ++ [d]) :: below) w
  | .tup l, h => by
    simp only [lvs] at h
    obtain ⟨k, hk, ih⟩ := tp_backs l h
    refine ⟨k + 1 + 1, by simp only [sh, List.length_append, List.length_cons, List.length_nil]; omega, fun n top below w hw => ?_⟩
    have e1 : sh (.tup l) ++ w = 40 :: (shs l ++ 41 :: w) := by simp [sh]
    rw [e1, show n + (k + 1 + 1) = (n + 1 + k) + 1 by omega, tp_succ]
    have e2 : stepP top below 40 (shs l ++ 41 :: w) = some ([] :: top :: below, shs l ++ 41 :: w) := by unfold stepP; rw [if_pos rfl]
    rw [e2]
    simp only
    have e3 := ih (n + 1) [] (top :: below) (41 :: w) ⟨w, rfl⟩
    rw [e3, tp_succ]
    unfold stepP
    rw [if_neg (by decide), if_pos ⟨rfl, by simp⟩]
    rfl
  | .non, h => tp_lf _ rfl h
  | .bl _, h => tp_lf _ rfl h
  | .int _, h => tp_lf _ rfl h
  | .str _, h => tp_lf _ rfl h
  | .lst _, h => by simp [lvs, leafB] at h
  | .dct _, h => by simp [lvs, leafB] at h
  | .kst _, h => by simp [lvs, leafB] at h
  | .ref _, h => by simp [lvs, leafB] at h
  | .st _, h => by simp [lvs, leafB] at h
  | .exn _ _ _ _, h => by simp [lvs, leafB] at h
theorem tp_backs : ∀ (l : List D), lvss l = true → ∃ k, k ≤ (shs l).length ∧ ∀ (n : Nat) (L : List D) (below : Stack) (w : List Nat), (∃ r, w = 41 :: r) → tp (n + k) (L :: below) (shs l ++ w) = tp n ((L ++ l) :: below) w
  | [], _ => ⟨0, Nat.zero_le _, fun n L below w _ => by simp [shs]⟩
  | [d], h => by
    simp only [lvss, Bool.and_true] at h
    obtain ⟨k, hk, ih⟩ := tp_back d h
    refine ⟨k, by simpa [shs] using hk, fun n L below w ⟨r, hw⟩ => ?_⟩
    have := ih n L below w (fun x r' e => by rw [hw] at e; simp at e; exact .inr e.1.symm)
    simpa [shs] using this
  | d :: e :: r, h => by
    simp only [lvss, Bool.and_eq_true] at h
    obtain ⟨k1, hk1, i1⟩ := tp_back d h.1
    obtain ⟨k2, hk2, i2⟩ := tp_backs (e :: r) (by simp only [lvss, Bool.and_eq_true]; exact h.2)
    refine ⟨k2 + 1 + k1, by simp only [shs, List.length_append, List.length_cons]; omega, fun n L below w hw => ?_⟩
    have e1 : shs (d :: e :: r) ++ w = sh d ++ (32 :: (shs (e :: r) ++ w)) := by simp [shs]
    rw [e1, ← Nat.add_assoc, i1 (n + (k2 + 1)) L below _ (fun x r' q => by simp at q; exact .inl q.1.symm), show n + (k2 + 1) = (n + k2) + 1 by omega, tp_succ]
    have e2 : stepP (L ++ [d]) below 32 (shs (e :: r) ++ w) = some ((L ++ [d]) :: below, shs (e :: r) ++ w) := by
      unfold stepP
      rw [if_neg (by decide), if_neg (by simp), if_pos rfl]
    rw [e2]
    simp only
    rw [i2 n (L ++ [d]) below w hw]
    simp
theorem tp_lf (d : D) (ht : isTup d = false) (h : leafB d = true) : ∃ k, k ≤ (sh d).length ∧ ∀ (n : Nat) (top : List D) (below : Stack) (w : List Nat), fol w → tp (n + k) (top :: below) (sh d ++ w) = tp n ((top ++ [d]) :: below) w := by
  obtain ⟨c, q, e, c1, c2, c3⟩ := lf_cons ht h
  refine ⟨1, by rw [sh_leaf ht, e]; simp, fun n top below w hw => ?_⟩
  have e1 : sh d ++ w = c :: (q ++ w) := by rw [sh_leaf ht, e]; simp
  have e2 : c :: (q ++ w) = lf d ++ w := by rw [e]; simp
  rw [e1, tp_succ]
  unfold stepP
  rw [if_neg c2, if_neg (fun z => c3 z.1), if_neg c1, e2, endP_back ht h hw, leafP_back ht h]
  simp
end
theorem tp_all {d : D} (h : lvs d = true) {N : Nat} (hN : (sh d).length < N) : tp N [[]] (sh d) = some d := by
  obtain ⟨k, hk, ih⟩ := tp_back d h
  have := ih (N - k) [] [] [] (fun x r e => by simp at e)
  rw [show N - k + k = N by omega] at this
  rw [List.append_nil] at this
  rw [this]
  obtain ⟨m, e⟩ : ∃ m, N - k = m + 1 := ⟨N - k - 1, by omega⟩
  rw [e]
  rfl
end Wk00
namespace Wk00
open PySem PySem.Spec PyProof.Rows L2 DN
theorem s45 : ("-" : Str) = ⟨#[45]⟩ := by decide +kernel
theorem s43 : ("+" : Str) = ⟨#[43]⟩ := by decide +kernel
theorem s33 : ("!" : Str) = ⟨#[33]⟩ := by decide +kernel
theorem s48 : ("0" : Str) = ⟨#[48]⟩ := by decide +kernel
theorem s40 : ("(" : Str) = ⟨#[40]⟩ := by decide +kernel
theorem s41 : (")" : Str) = ⟨#[41]⟩ := by decide +kernel
theorem s0 : ("" : Str) = ⟨#[]⟩ := by decide +kernel
theorem dig_in (c : Nat) : decide (c ∈ tl ("0123456789" : Str)) = dig c := by
  have := fig_iff c
  unfold dig
  by_cases h : 48 ≤ c ∧ c ≤ 57
  · rw [decide_eq_true (this.mpr h), decide_eq_true h.1, decide_eq_true h.2]
    rfl
  · rw [decide_eq_false (fun z => h (this.mp z))]
    have h : ¬ 48 ≤ c ∨ ¬ c ≤ 57 := by omega
    rcases h with h | h
    · rw [decide_eq_false h]; rfl
    · rw [decide_eq_false h, Bool.and_false]
theorem head_eq {l : List Nat} {a : Nat} : (((⟨(l.take 1).toArray⟩ : Str) == (⟨#[a]⟩ : Str))) = decide (l.head? = some a) := by
  rw [show (⟨#[a]⟩ : Str) = ⟨([a] : List Nat).toArray⟩ from rfl, str_eq]
  cases l with
  | nil => simp [tl]
  | cons x r => simp [tl]
theorem plain_cut {h : LH} {z : Str} (hz : z.length ≤ 100000) : ∃ F : Str, tl F = plainN (tl z) ∧ F.length ≤ z.length ∧ ∀ u : List (Option D), mIf (mTest (mOp oEq (mSl (mVar 0) oNo (oPart (mC (.int 1)))) (mC (.str "-")))) (mSl (mVar 0) (oPart (mC (.int 1))) oNo) (mVar 0) (some (.str z) :: u) h = .ok (.str F) h := by
  have c1 := cut_first (h := h) hz
  have hd := head_eq (l := tl z) (a := 45)
  by_cases c : (tl z).head? = some 45
  · rw [decide_eq_true c] at hd
    obtain ⟨r, e⟩ : ∃ r, tl z = 45 :: r := by
      cases q : tl z with
      | nil => rw [q] at c; simp at c
      | cons x r => rw [q] at c; simp at c; exact ⟨r, by rw [c]⟩
    have ct := cut_tail (h := h) hz e
    refine ⟨⟨r.toArray⟩, by rw [e]; simp [plainN, tl], ?_, fun u => ?_⟩
    · rw [len_tl, len_tl, e]
      simp [tl]
    · simp [c1, s45, hd, ct]
  · rw [decide_eq_false c] at hd
    refine ⟨z, by simp [plainN, c], Nat.le_refl _, fun u => ?_⟩
    simp [c1, s45, hd]
theorem number_ok {h : LH} {z : Str} (hz : z.length ≤ 100000) : b_number_told [.str z] h = .ok (if numOK (tl z) = true then .int (numW (tl z)) else .non) h := by
  obtain ⟨F, eF, lF, key⟩ := plain_cut (h := h) hz
  obtain ⟨l, e1, e2⟩ := signs_all (h := h) (i := 2) (s := [some (.str z), some (.str F), none]) (e := mOp oIn (mVar 2) (mC k_FIGURES)) dig (show F.length ≤ 100000 by omega) (fun c => by
    simp [in_one, dig_in])
  have ez : (F == ("" : Str)) = (plainN (tl z)).isEmpty := by
    rw [s0, show (⟨#[]⟩ : Str) = ⟨([] : List Nat).toArray⟩ from rfl, str_eq, eF]
    cases plainN (tl z) <;> rfl
  have ez : oEq h (.str F) (.str "") = some (.bl (plainN (tl z)).isEmpty) := by rw [oEq_ss, ez]
  have ln := len_str (h := h) (z := F) (by omega)
  have lF' : F.length = (plainN (tl z)).length := by rw [len_tl, eF]
  have k0 := key [none, none]
  show fin_ ((sSeq (sSet 1 _) _) [some (.str z), none, none] h) = _
  rw [sSeq_ap, sSet_ap, k0, q_ok, then_nx]
  have bz : (z == ("0" : Str)) = decide (tl z = [48]) := by rw [s48, show (⟨#[48]⟩ : Str) = ⟨([48] : List Nat).toArray⟩ from rfl, str_eq]
  have ii : numOK (tl z) = true → cInt h [.str z] = some (.int (numW (tl z))) := fun hw => by
    have := (num_ok (h := h) hw).2.2.2
    rwa [← str_mk (z := z) rfl] at this
  cases q : plainN (tl z) with
  | nil =>
    have n0 : numOK (tl z) = false := by simp [numOK, q]
    rw [q] at ez
    simp [ez, n0, -oEq_ss]
  | cons a r =>
    rw [q] at ez lF'
    have i0 : oIx h (.str F) (.int 0) = some (.str ⟨#[a]⟩) := at_sign (pre := []) (by rw [eF, q]; rfl) (by omega)
    have b0 : oEq h (.str ⟨#[a]⟩) (.str "0") = some (.bl (decide (a = 48))) := by
      rw [oEq_ss, s48, sgn_eq]
      rfl
    rw [eF, q] at e2
    have ef : ((a :: r).isEmpty) = false := rfl
    by_cases c40 : (a :: r).length ≤ 40
    · have c40' : ¬ (40 : Int) < F.length := by omega
      cases hall : (a :: r).all dig with
      | false =>
        rw [hall] at e2
        have n0 : numOK (tl z) = false := by simp only [numOK, q, hall, Bool.and_false, Bool.false_and]
        simp [ez, ln, c40', k_MOST_FIGURES, mLc_ap, e1, e2, n0, -oEq_ss]
      | true =>
        rw [hall] at e2
        by_cases a48 : a = 48
        · rw [decide_eq_true a48] at b0
          by_cases w48 : tl z = [48]
          · have n1 : numOK (tl z) = true := by rw [w48]; rfl
            have ii := ii n1
            rw [decide_eq_true w48] at bz
            simp [ez, ln, c40', k_MOST_FIGURES, mLc_ap, e1, e2, n1, i0, b0, bz, ii, -oEq_ss]
          · have n0 : numOK (tl z) = false := by simp [numOK, q, a48, w48]
            rw [decide_eq_false w48] at bz
            simp [ez, ln, c40', k_MOST_FIGURES, mLc_ap, e1, e2, n0, i0, b0, bz, -oEq_ss]
        · rw [decide_eq_false a48] at b0
          have n1 : numOK (tl z) = true := by
            simp only [numOK, q, hall, decide_eq_true c40]
            simp [a48]
          have ii := ii n1
          simp [ez, ln, c40', k_MOST_FIGURES, mLc_ap, e1, e2, n1, i0, b0, ii, -oEq_ss]
    · have c40' : (40 : Int) < F.length := by omega
      have n0 : numOK (tl z) = false := by simp only [numOK, q, decide_eq_false c40, Bool.and_false, Bool.false_and]
      simp [ez, ln, c40', k_MOST_FIGURES, n0, -oEq_ss]
/-! the end of a leaf -/
theorem endP_split (w : List Nat) : w = endP w ++ w.drop (endP w).length := by
  unfold endP
  split
  · rename_i h
    obtain ⟨r, rfl⟩ : ∃ r, w = 39 :: r := by
      cases w with
      | nil => simp at h
      | cons x r => simp at h; exact ⟨r, by rw [h]⟩
    split
    · rename_i hm
      have := take_quote hm
      simp only [List.tail_cons] at this ⊢
      have e2 : (39 :: r.takeWhile (· != 39) ++ [39]).length = (r.takeWhile (· != 39)).length + 1 + 1 := by simp
      rw [e2, List.drop_succ_cons, List.cons_append, List.cons_append, List.append_assoc]
      exact congrArg (39 :: ·) this
    · simp
  · exact take_split _ _
theorem nob_in {h : LH} (c : Nat) : oNotIn h (.str ⟨#[c]⟩) (.str "() ") = some (.bl (nob c)) := by
  have i1 : isIn h (.str ⟨#[c]⟩) (.str "() ") = some (decide (c ∈ tl ("() " : Str))) := by
    show (if decide (1 = 1) = true then some (decide (c ∈ ("() " : Str).cps.toList)) else none) = _
    rw [if_pos (by rfl)]
    rfl
  unfold oNotIn
  rw [i1]
  have e : tl ("() " : Str) = [40, 41, 32] := by decide +kernel
  rw [e]
  simp only [Option.map_some, nob, List.mem_cons, List.not_mem_nil, or_false]
  by_cases a : c = 40 <;> by_cases b : c = 41 <;> by_cases d : c = 32 <;> simp [a, b, d]
theorem l_loop {h : LH} {z : Str} (hz : z.length ≤ 100000) : ∀ (w : List Nat) (n : Nat) (pr : List Nat), tl z = pr ++ w → w.length < n →
    whileM n (mAndT (mTest (mOp oLt (mVar 1) (mCall cLen (aCons (mVar 0) aNil)))) (mTest (mOp oNotIn (mOp oIx (mVar 0) (mVar 1)) (mC (.str "() "))))) (sAug 1 oAddI (mC (.int 1))) [some (.str z), some (.int pr.length), none] h =
      .nx [some (.str z), some (.int ((pr.length + (w.takeWhile nob).length : Nat) : Int)), none] h
  | w, 0, _, _, hn => by omega
  | [], n + 1, pr, e, _ => by
    have ln := len_str (h := h) (z := z) (by omega)
    have hl : z.length = pr.length := by rw [len_tl, e]; simp
    have : ¬ ((pr.length : Int) < z.length) := by omega
    rw [while_succ]
    simp [ln, this]
  | c :: w, n + 1, pr, e, hn => by
    have ln := len_str (h := h) (z := z) (by omega)
    have hl : z.length = pr.length + (w.length + 1) := by rw [len_tl, e]; simp
    have lt : ((pr.length : Int) < z.length) := by omega
    have ia := at_sign (h := h) e (by omega)
    have nb := nob_in (h := h) c
    have ea : oAddI h (.int pr.length) (.int 1) = some (.int ((pr.length : Int) + 1)) := rfl
    rw [while_succ, List.takeWhile_cons]
    cases hb : nob c with
    | false =>
      rw [hb] at nb
      simp [ln, lt, ia, nb]
    | true =>
      rw [hb] at nb
      have ih := l_loop (h := h) hz w n (pr ++ [c]) (by simpa using e) (by simp at hn; omega)
      have el : (((pr ++ [c]).length : Nat) : Int) = (pr.length : Int) + 1 := by simp
      rw [el] at ih
      have er : (((pr ++ [c]).length + (w.takeWhile nob).length : Nat) : Int) = ((pr.length + (c :: w.takeWhile nob).length : Nat) : Int) := by simp; omega
      rw [er] at ih
      simp only [mAndT_ap, mTest_ap, mOp_ap, mVar_ap, mCall_ap, aCons_ap, aNil_ap, mC_ap, List.getElem?_cons_succ, List.getElem?_cons_zero, slotR_some, R.bind_ok, ln, optR_some, oLt_ii, lt, decide_true, toB_ok, if_true, ia, nb, q_ok, sAug_ap, ea, List.set_cons_succ, List.set_cons_zero]
      exact ih
theorem end_ok {h : LH} {z : Str} {pr w : List Nat} {c : Nat} {r : List Nat} (hz : z.length ≤ 100000) (e : tl z = pr ++ w) (ew : w = c :: r) : b_end_of_leaf [.str z, .int pr.length] h = .ok (.int ((pr.length + (endP w).length : Nat) : Int)) h := by
  have ln := len_str (h := h) (z := z) (by omega)
  have ia := at_sign (h := h) (by rw [e, ew]) (show z.length ≤ 1000000 by omega)
  have b0 : (((⟨#[c]⟩ : Str) == ("'" : Str))) = (c == 39) := by rw [s39, sgn_eq]
  have hl : z.length = pr.length + w.length := by rw [len_tl, e]; simp
  by_cases c39 : c = 39
  · subst c39
    have gf : ∀ i, gFind3 h (.str z) [.str "'", .int i] = some (.int (Txt.find3 z ⟨#[39]⟩ i), h) := fun i => by rw [s39]; rfl
    have ty : tyD h (.str z) = some "str" := rfl
    have lp : (((pr ++ [39]).length : Nat) : Int) = (pr.length : Int) + 1 := by simp
    by_cases hm : 39 ∈ r
    · have tq := take_quote hm
      have f := q_find (z := z) (pre := pr ++ [39]) (mid := r.takeWhile (· != 39)) (post := r.drop ((r.takeWhile (· != 39)).length + 1)) (by
        rw [e, ew]
        simp only [List.append_assoc, List.singleton_append, List.cons_append, List.nil_append]
        rw [← tq]) (fun m => by simpa using take_no 39 m)
      rw [lp] at f
      have ee : (endP w).length = (r.takeWhile (· != 39)).length + 2 := by
        rw [ew]
        unfold endP
        rw [if_pos (by simp), List.tail_cons, if_pos hm]
        simp
      have n0 : ¬ (((pr ++ [39]).length + (r.takeWhile (· != 39)).length : Nat) : Int) < 0 := by omega
      have eE : ((pr.length + (endP w).length : Nat) : Int) = (((pr ++ [39]).length + (r.takeWhile (· != 39)).length : Nat) : Int) + 1 := by rw [ee]; simp; omega
      rw [eE]
      generalize (((pr ++ [39]).length + (r.takeWhile (· != 39)).length : Nat) : Int) = M at f n0 ⊢
      unfold b_end_of_leaf
      simp [ia, b0, gf, f, n0, ty]
    · have f := find_no (z := z) (pre := pr ++ [39]) (suf := r) (by rw [e, ew]; simp) hm
      rw [lp] at f
      have ee : endP w = w := by
        rw [ew]
        unfold endP
        rw [if_pos (by simp), List.tail_cons, if_neg hm]
      unfold b_end_of_leaf
      simp [ia, b0, gf, f, ty, ee, ln, hl]
  · have b0' : (c == 39) = false := by simpa using c39
    have ee : endP w = w.takeWhile nob := by
      rw [ew]
      unfold endP
      rw [if_neg (by simpa using c39)]
    have lo := l_loop (h := h) hz w 1000000 pr e (by omega)
    rw [ee]
    unfold b_end_of_leaf
    generalize whileM 1000000 (mAndT (mTest (mOp oLt (mVar 1) (mCall cLen (aCons (mVar 0) aNil)))) (mTest (mOp oNotIn (mOp oIx (mVar 0) (mVar 1)) (mC (.str "() "))))) (sAug 1 oAddI (mC (.int 1))) = Wh at lo ⊢
    simp [ia, b0, b0', lo]
theorem signs_look (z : Str) : look1 k_SIGNS (.inr z) = if tl z = [45] then some .non else if tl z = [43] then some (.bl true) else if tl z = [33] then some (.bl false) else none := by
  have h1 : ((Sum.inr ("-" : Str) : Key) = .inr z) ↔ tl z = [45] := ⟨fun e => by rw [← Sum.inr.inj e]; decide +kernel, fun e => by rw [s45]; exact congrArg _ (tl_inj e.symm)⟩
  have h2 : ((Sum.inr ("+" : Str) : Key) = .inr z) ↔ tl z = [43] := ⟨fun e => by rw [← Sum.inr.inj e]; decide +kernel, fun e => by rw [s43]; exact congrArg _ (tl_inj e.symm)⟩
  have h3 : ((Sum.inr ("!" : Str) : Key) = .inr z) ↔ tl z = [33] := ⟨fun e => by rw [← Sum.inr.inj e]; decide +kernel, fun e => by rw [s33]; exact congrArg _ (tl_inj e.symm)⟩
  unfold look1 k_SIGNS
  simp only [List.find?_cons, h1, h2, h3]
  by_cases a : tl z = [45]
  · simp [a]
  · by_cases b : tl z = [43]
    · simp [b]
    · by_cases c : tl z = [33]
      · simp [c]
      · simp [a, b, c]
theorem in_plain {h : LH} {l : List Nat} (hl : l.length ≤ 80000) (hc : ∀ c ∈ l, c < 1114112) : b_is_plain_text [.str ⟨l.toArray⟩] h = .ok (.bl (l.all pln)) h := by
  have := plain_ok (h := h) (d := .str ⟨l.toArray⟩) (show okc _ from fun c m => hc c (by simpa [tl] using m)) (by
    have : (⟨l.toArray⟩ : Str).length = l.length := by rw [len_tl]; simp [tl]
    simp only [sz, this]
    omega)
  rw [this]
  rfl
theorem told_leaf_ok {h : LH} {z : Str} (hz : z.length ≤ 80000) (oz : okc z) : b_leaf_told b_is_plain_text b_number_told [.str z] h = .ok (match leafP (tl z) with
    | some d => .tup [d]
    | none => .tup []) h := by
  have sl := signs_look z
  have c1 := cut_first (h := h) (z := z) (by omega)
  have hd := head_eq (l := tl z) (a := 39)
  have ln := len_str (h := h) (z := z) (by omega)
  have nk := number_ok (h := h) (z := z) (by omega)
  have o0 : small 0 = true := rfl
  have o1 : small 1 = true := rfl
  unfold b_leaf_told
  by_cases a : tl z = [45]
  · rw [if_pos a] at sl
    have el : leafP (tl z) = some .non := by rw [a]; rfl
    rw [el]
    simp [mKin, mKg, sl, o1]
  · rw [if_neg a] at sl
    by_cases b : tl z = [43]
    · rw [if_pos b] at sl
      have el : leafP (tl z) = some (.bl true) := by rw [b]; rfl
      rw [el]
      simp [mKin, mKg, sl, o1]
    · rw [if_neg b] at sl
      by_cases c : tl z = [33]
      · rw [if_pos c] at sl
        have el : leafP (tl z) = some (.bl false) := by rw [c]; rfl
        rw [el]
        simp [mKin, mKg, sl, o1]
      · rw [if_neg c] at sl
        have el : leafP (tl z) = if (tl z).head? = some 39 then (if (decide (1 < (tl z).length) && (tl z).tail.dropLast.all pln && ((tl z).getLast? == some 39)) = true then some (.str ⟨(tl z).tail.dropLast.toArray⟩) else none) else if numOK (tl z) = true then some (.int (numW (tl z))) else none := by
          unfold leafP
          rw [if_neg a, if_neg b, if_neg c]
        rw [el]
        by_cases h39 : (tl z).head? = some 39
        · rw [if_pos h39]
          rw [decide_eq_true h39] at hd
          rcases Nat.lt_or_ge 1 (tl z).length with l2 | l2
          · obtain ⟨a0, m, b0, e⟩ : ∃ a m b, tl z = a :: m ++ [b] := by
              cases q : tl z with
              | nil => rw [q] at l2; simp at l2
              | cons x r =>
                obtain ⟨m, b, rfl⟩ := rs_snoc (l := r) (by rintro rfl; rw [q] at l2; simp at l2)
                exact ⟨x, m, b, rfl⟩
            have ci := cut_in (h := h) (z := z) (by omega) e
            have il := ix_last (h := h) (z := z) (by omega) e
            have e2 : (tl z).tail.dropLast = m := by rw [e]; simp
            have e3 : (tl z).getLast? = some b0 := by rw [e, List.getLast?_append]; rfl
            have ml : m.length ≤ 80000 := by have := len_tl z; rw [e] at this; simp at this; omega
            have ip := in_plain (h := h) ml (fun c hc => oz c (by rw [e]; simp [hc]))
            rw [e2, e3, decide_eq_true l2, Bool.true_and]
            have bb : (((⟨#[b0]⟩ : Str) == ("'" : Str))) = (b0 == 39) := by rw [s39, sgn_eq]
            have l2' : (1 : Int) < z.length := by have := len_tl z; omega
            generalize b_is_plain_text = Pt at ip
            cases hp : m.all pln with
            | false =>
              rw [hp] at ip
              simp [mKin, sl, c1, k_QUOTE, s39, hd, ln, l2', ci, ip, o0]
            | true =>
              rw [hp] at ip
              by_cases hb : b0 = 39
              · simp [mKin, sl, c1, k_QUOTE, s39, hd, ln, l2', ci, ip, o1, il, hb]
              · have hb' : (b0 == 39) = false := by simpa using hb
                rw [s39] at bb
                simp [mKin, sl, c1, k_QUOTE, s39, hd, ln, l2', ci, ip, o0, il, hb, bb]
          · have l2' : ¬ (1 : Int) < z.length := by have := len_tl z; omega
            rw [decide_eq_false (by omega), Bool.false_and, Bool.false_and]
            simp [mKin, sl, c1, k_QUOTE, s39, hd, ln, l2', o0]
        · rw [if_neg h39]
          rw [decide_eq_false h39] at hd
          generalize b_number_told = Nt at nk
          cases hn : numOK (tl z) with
          | true =>
            rw [hn] at nk
            simp [mKin, sl, c1, k_QUOTE, s39, hd, nk, oIs, o1]
          | false =>
            rw [hn] at nk
            simp [mKin, sl, c1, k_QUOTE, s39, hd, nk, oIs, o0]
def noT (cl : Cl) : EX := ⟨.ref cl.NoText, some [(.inr "line", .int 0)]⟩
theorem leaf_at_ok {cl : Cl} {h : LH} {z : Str} {pr w : List Nat} {c : Nat} {r : List Nat} (hz : z.length ≤ 80000) (oz : okc z) (e : tl z = pr ++ w) (ew : w = c :: r) : b_leaf_at cl b_end_of_leaf (b_leaf_told b_is_plain_text b_number_told) [.str z, .int pr.length] h = match leafP (endP w) with
    | some d => .ok (.tup [.tup [d], .int ((pr.length + (endP w).length : Nat) : Int)]) h
    | none => .ex (noT cl) h := by
  have en := end_ok (h := h) (by omega) e ew
  have es := endP_split w
  have cm := cut_mid_d (h := h) (z := z) (pre := pr) (mid := endP w) (post := w.drop (endP w).length) (by rw [e, List.append_assoc, ← es]) (by omega)
  have hlw : (endP w).length ≤ w.length := by have := congrArg List.length es; rw [List.length_append] at this; omega
  have hl : z.length = pr.length + w.length := by rw [len_tl, e]; simp
  have lt := told_leaf_ok (h := h) (z := ⟨(endP w).toArray⟩) (by show (endP w).toArray.size ≤ _; simp; omega) (fun x m => oz x (by
    rw [e, es]
    simp [tl] at m
    simp [m]))
  have et : tl (⟨(endP w).toArray⟩ : Str) = endP w := by simp [tl]
  rw [et] at lt
  have o2 : small 2 = true := rfl
  have o0 : small 0 = true := rfl
  have eq1 : ∀ d : D, oEq h (.tup [d]) (.tup []) = some (.bl false) := fun _ => rfl
  have eq0 : oEq h (.tup []) (.tup []) = some (.bl true) := rfl
  unfold b_leaf_at
  generalize b_end_of_leaf = En at en
  generalize b_leaf_told b_is_plain_text b_number_told = Lt at lt
  generalize ((pr.length + (endP w).length : Nat) : Int) = E at en cm ⊢
  cases hp : leafP (endP w) with
  | some d =>
    rw [hp] at lt
    simp [en, cm, lt, eq1, o2, o0]
  | none =>
    rw [hp] at lt
    simp only at lt
    simp [en, cm, lt, eq0, o0, sRaise, noT, then_ex, fin_ex]
end Wk00
namespace Wk00
open PySem PySem.Spec PyProof.Rows L2 DN
/-! lists that stand open, in the state -/
def Two (h : LH) : List Nat → Stack → Prop
  | [], [] => True
  | r :: rs, L :: st => h[r]? = some (.lst L) ∧ Two h rs st
  | _, _ => False
theorem Two.set {h : LH} {i : Nat} {x : LO} : ∀ {rs : List Nat} {st : Stack}, i ∉ rs → Two h rs st → Two (h.set i x) rs st
  | [], [], _, _ => trivial
  | r :: rs, L :: st, hi, t => ⟨by
      rw [List.getElem?_set_ne (fun e => hi (by simp [e]))]
      exact t.1, Two.set (fun m => hi (by simp [m])) t.2⟩
  | [], _ :: _, _, t => t.elim
  | _ :: _, [], _, t => t.elim
theorem Two.app {h : LH} {x : LO} : ∀ {rs : List Nat} {st : Stack}, Two h rs st → Two (h ++ [x]) rs st
  | [], [], _ => trivial
  | r :: rs, L :: st, t => ⟨by
      rw [List.getElem?_append_left (List.getElem?_eq_some_iff.mp t.1).1]
      exact t.1, Two.app t.2⟩
  | [], _ :: _, t => t.elim
  | _ :: _, [], t => t.elim
theorem Two.len {h : LH} : ∀ {rs : List Nat} {st : Stack}, Two h rs st → rs.length = st.length
  | [], [], _ => rfl
  | r :: rs, L :: st, t => by simp [Two.len t.2]
  | [], _ :: _, t => t.elim
  | _ :: _, [], t => t.elim
theorem Two.lt {h : LH} : ∀ {rs : List Nat} {st : Stack}, Two h rs st → ∀ r ∈ rs, r < h.length
  | [], [], _, _, m => by simp at m
  | r :: rs, L :: st, t, x, m => by
    rcases List.mem_cons.mp m with rfl | m
    · exact (List.getElem?_eq_some_iff.mp t.1).1
    · exact Two.lt t.2 x m
  | [], _ :: _, t, _, _ => t.elim
  | _ :: _, [], t, _, _ => t.elim
structure Stk (h0 : LH) (o : Nat) (h : LH) (rs : List Nat) (st : Stack) : Prop where
  pre : h.take h0.length = h0
  ho : h0.length ≤ o
  at_ : h[o]? = some (.lst (rs.reverse.map D.ref))
  two : Two h rs st
  own : ∀ r ∈ rs, h0.length ≤ r ∧ r ≠ o
  nd : rs.Nodup
section
variable {h0 h : LH} {o r : Nat} {rs : List Nat} {L : List D} {st : Stack}
theorem Stk.lo (s : Stk h0 o h rs st) : o < h.length := (List.getElem?_eq_some_iff.mp s.at_).1
theorem take_keep {h h0 : LH} {i : Nat} {x : LO} (e : h.take h0.length = h0) (hi : h0.length ≤ i) : (h.set i x).take h0.length = h0 := by
  rw [List.take_set_of_le hi, e]
theorem take_more {h h0 : LH} {x : LO} (e : h.take h0.length = h0) : (h ++ [x]).take h0.length = h0 := by
  have hl : h0.length ≤ h.length := by
    have := congrArg List.length e
    rw [List.length_take] at this
    omega
  rw [List.take_append_of_le_length hl, e]
/-- a list more -/
theorem Stk.push (s : Stk h0 o h rs st) (hb : rs.length ≤ 100000) : ∃ h', gAppend (h ++ [.lst []]) (.ref o) [.ref h.length] = some (.non, h') ∧ Stk h0 o h' (h.length :: rs) ([] :: st) := by
  have lo := s.lo
  have at1 : (h ++ [LO.lst []])[o]? = some (.lst (rs.reverse.map D.ref)) := by
    rw [List.getElem?_append_left lo]
    exact s.at_
  refine ⟨(h ++ [LO.lst []]).set o (.lst (rs.reverse.map D.ref ++ [D.ref h.length])), ?_, ⟨?_, s.ho, ?_, ⟨?_, ?_⟩, ?_, ?_⟩⟩
  · unfold gAppend
    simp only [at1]
    rw [if_pos (decide_eq_true (by have := sizeLine_ge; simp; omega))]
  · exact take_keep (take_more s.pre) s.ho
  · rw [List.getElem?_set_self (by simp; omega)]
    simp
  · rw [List.getElem?_set_ne (by omega)]
    simp
  · exact Two.set (fun m => (s.own o m).2 rfl) s.two.app
  · intro x m
    rcases List.mem_cons.mp m with rfl | m
    · have hl : h0.length ≤ h.length := by
        have := congrArg List.length s.pre
        rw [List.length_take] at this
        omega
      exact ⟨hl, by omega⟩
    · exact s.own x m
  · exact List.nodup_cons.mpr ⟨fun m => by have := Two.lt s.two _ m; omega, s.nd⟩
/-- the innermost list gets a part -/
theorem Stk.add (s : Stk h0 o h (r :: rs) (L :: st)) (d : D) (hb : L.length ≤ 100000) : ∃ h', gAppend h (.ref r) [d] = some (.non, h') ∧ Stk h0 o h' (r :: rs) ((L ++ [d]) :: st) := by
  have nd := List.nodup_cons.mp s.nd
  have ro := s.own r (by simp)
  refine ⟨h.set r (.lst (L ++ [d])), ?_, ⟨take_keep s.pre ro.1, s.ho, ?_, ⟨?_, Two.set nd.1 s.two.2⟩, s.own, s.nd⟩⟩
  · unfold gAppend
    simp only [s.two.1]
    rw [if_pos (decide_eq_true (by have := sizeLine_ge; omega))]
  · rw [List.getElem?_set_ne ro.2]
    exact s.at_
  · exact List.getElem?_set_self (List.getElem?_eq_some_iff.mp s.two.1).1
/-- the innermost list is taken off -/
theorem Stk.pop (s : Stk h0 o h (r :: rs) (L :: st)) : ∃ h', gPop h (.ref o) [] = some (.ref r, h') ∧ Stk h0 o h' rs st ∧ cTuple h' [.ref r] = some (.tup L) := by
  have nd := List.nodup_cons.mp s.nd
  have ro := s.own r (by simp)
  have e1 : ((r :: rs).reverse.map D.ref) = rs.reverse.map D.ref ++ [D.ref r] := by simp
  refine ⟨h.set o (.lst (rs.reverse.map D.ref)), ?_, ⟨take_keep s.pre s.ho, s.ho, ?_, ?_, fun x m => s.own x (by simp [m]), nd.2⟩, ?_⟩
  · unfold gPop
    simp only [s.at_, e1]
    have e2 : (rs.reverse.map D.ref ++ [D.ref r])[(rs.reverse.map D.ref ++ [D.ref r]).length - 1]? = some (.ref r) := by rw [List.length_append]; simp
    rw [e2, Option.map_some]
    simp
  · exact List.getElem?_set_self s.lo
  · exact Two.set (fun m => (s.own o (by simp [m])).2 rfl) s.two.2
  · have : (h.set o (.lst (rs.reverse.map D.ref)))[r]? = some (.lst L) := by
      rw [List.getElem?_set_ne (fun e => ro.2 e.symm)]
      exact s.two.1
    show (seqL _ (D.ref r)).map D.tup = _
    rw [seq_ref this]
    rfl
theorem Stk.top (s : Stk h0 o h (r :: rs) (L :: st)) : oIx h (.ref o) (.int (-1)) = some (.ref r) := by
  have e1 : ((r :: rs).reverse.map D.ref) = rs.reverse.map D.ref ++ [D.ref r] := by simp
  show (seqL h (.ref o)).bind (fun l => atI l (-1)) = _
  rw [seq_ref s.at_, Option.bind_some, e1]
  unfold atI ixN
  simp
  rw [if_pos (by omega)]
  rw [show (-1 + ((rs.length : Int) + 1)).toNat = rs.length by omega]
  simp
theorem Stk.many (s : Stk h0 o h rs st) : cLen h [.ref o] = some (.int st.length) := by
  show ((seqL h (.ref o)).map List.length).map _ = _
  rw [seq_ref s.at_, ← s.two.len]
  simp
theorem Stk.ty (s : Stk h0 o h rs st) : tyD h (.ref o) = some "list" := ty_ref s.at_
theorem Stk.ty1 (s : Stk h0 o h (r :: rs) (L :: st)) : tyD h (.ref r) = some "list" := ty_ref s.two.1
theorem Stk.ne (s : Stk h0 o h (r :: rs) (L :: st)) : oNe h (.ref r) (.lst []) = some (.bl (!L.isEmpty)) := ne_nil_ref s.two.1
theorem Stk.first (s : Stk h0 o h [r] [L]) : oIx h (.ref o) (.int 0) = some (.ref r) := by
  show (seqL h (.ref o)).bind (fun l => atI l 0) = _
  rw [seq_ref s.at_]
  rfl
theorem Stk.fl (s : Stk h0 o h (r :: rs) (L :: st)) : cLen h [.ref r] = some (.int L.length) := by
  show ((seqL h (.ref r)).map List.length).map _ = _
  rw [seq_ref s.two.1]
  rfl
theorem Stk.f0 (s : Stk h0 o h (r :: rs) ([d] :: st)) : oIx h (.ref r) (.int 0) = some d := by
  show (seqL h (.ref r)).bind (fun l => atI l 0) = _
  rw [seq_ref s.two.1]
  rfl
theorem Stk.tup (s : Stk h0 o h (r :: rs) (L :: st)) : cTuple h [.ref r] = some (.tup L) := by
  show (seqL h (.ref r)).map D.tup = _
  rw [seq_ref s.two.1]
  rfl
theorem Stk.start (h0 : LH) : Stk h0 (h0.length + 1) (h0 ++ [.lst []] ++ [.lst [.ref h0.length]]) [h0.length] [[]] := by
  refine ⟨by simp, by omega, by simp, ⟨by simp, trivial⟩, ?_, by simp⟩
  intro r m
  simp at m
  omega
end
/-! sizes -/
def stz (st : Stack) : Nat := (st.map fun L => L.length + 1).sum
theorem stz_cons (L : List D) (st : Stack) : stz (L :: st) = L.length + 1 + stz st := by simp [stz]
theorem stz_len (st : Stack) : st.length ≤ stz st := by
  induction st with
  | nil => simp
  | cons L st ih => rw [stz_cons, List.length_cons]; omega
theorem stepP_stz {top : List D} {below : Stack} {c : Nat} {r : List Nat} {st' : Stack} {r' : List Nat} (h : stepP top below c r = some (st', r')) : stz st' + r'.length ≤ stz (top :: below) + (c :: r).length ∧ r'.length < (c :: r).length ∧ ∃ p, c :: r = p ++ r' := by
  unfold stepP at h
  split at h
  · simp only [Option.some.injEq, Prod.mk.injEq] at h
    obtain ⟨rfl, rfl⟩ := h
    simp only [stz_cons, List.length_cons, List.length_nil]
    exact ⟨by omega, by omega, [c], rfl⟩
  · split at h
    · rename_i _ hc
      cases below with
      | nil => exact (hc.2 rfl).elim
      | cons M b =>
        simp only [Option.some.injEq, Prod.mk.injEq] at h
        obtain ⟨rfl, rfl⟩ := h
        simp only [stz_cons, List.length_cons, List.length_append, List.length_nil]
        exact ⟨by omega, by omega, [c], rfl⟩
    · split at h
      · simp only [Option.some.injEq, Prod.mk.injEq] at h
        obtain ⟨rfl, rfl⟩ := h
        simp only [stz_cons, List.length_cons]
        exact ⟨by omega, by omega, [c], rfl⟩
      · rename_i hb c32
        simp only [Option.map_eq_some_iff, Prod.mk.injEq] at h
        obtain ⟨d, e, rfl, rfl⟩ := h
        have es := endP_split (c :: r)
        have hp : (endP (c :: r)).length ≠ 0 := fun z => by
          have z := List.eq_nil_of_length_eq_zero z
          rw [z] at e
          simp [leafP, numOK, plainN] at e
        have := congrArg List.length es
        rw [List.length_append] at this
        simp only [stz_cons, List.length_cons, List.length_append, List.length_nil] at this ⊢
        exact ⟨by omega, by omega, endP (c :: r), es⟩
/-! the given reading, in the state -/
noncomputable def tTest : BM := mTest (mOp oLt (mVar 2) (mCall cLen (aCons (mVar 0) aNil)))
noncomputable def tBody (cl : Cl) : SM := (sIf (mTest (mOp oEq (mOp oIx (mVar 0) (mVar 2)) (mC (.str "("))))
  (sSeq (sExpr (mMeth "list" gAppend (mVar 1) (aCons (mNew aNil) aNil)))
  (sAug 2 oAddI (mC (.int 1))))
  (sIf (mAndT (mTest (mOp oEq (mOp oIx (mVar 0) (mVar 2)) (mC (.str ")")))) (mTest (mOp oGt (mCall cLen (aCons (mVar 1) aNil)) (mC (.int 1)))))
  (sSeq (sSet 3 (mMeth "list" gPop (mVar 1) aNil))
  (sSeq (sExpr (mMeth "list" gAppend (mOp oIx (mVar 1) (mNeg (mC (.int 1)))) (aCons (mCall cTuple (aCons (mVar 3) aNil)) aNil)))
  (sAug 2 oAddI (mC (.int 1)))))
  (sIf (mTest (mOp oEq (mOp oIx (mVar 0) (mVar 2)) (mC (.str " "))))
  (sAug 2 oAddI (mC (.int 1)))
  (sSeq (sAsg (mFn 2 (b_leaf_at cl b_end_of_leaf (b_leaf_told b_is_plain_text b_number_told)) [] (aCons (mVar 0) (aCons (mVar 2) aNil))) (gTp 2 (gCn (gNm 4) (gCn (gNm 2) gNl))))
  (sExpr (mMeth "list" gAppend (mOp oIx (mVar 1) (mNeg (mC (.int 1)))) (aCons (mOp oIx (mVar 4) (mC (.int 0))) aNil)))))))
theorem t_turn {cl : Cl} {h0 h : LH} {o : Nat} {rs : List Nat} {top : List D} {below : Stack} {z : Str} {pr r : List Nat} {c : Nat} {u v : Option D} (hz : z.length ≤ 20000) (oz : okc z) (e : tl z = pr ++ c :: r) (s : Stk h0 o h rs (top :: below)) (hb : stz (top :: below) ≤ 50000) :
    match stepP top below c r with
    | some (st', r') => ∃ u' v' h' rs' p, c :: r = p ++ r' ∧ tBody cl [some (.str z), some (.ref o), some (.int pr.length), u, v] h = .nx [some (.str z), some (.ref o), some (.int ((pr ++ p).length : Nat)), u', v'] h' ∧ Stk h0 o h' rs' st'
    | none => ∃ s' h', tBody cl [some (.str z), some (.ref o), some (.int pr.length), u, v] h = .ex (noT cl) s' h' ∧ h'.take h0.length = h0 := by
  obtain ⟨q, rs, rfl⟩ : ∃ q r', rs = q :: r' := by
    cases rs with
    | nil => exact s.two.elim
    | cons a b => exact ⟨a, b, rfl⟩
  have hl : z.length = pr.length + (r.length + 1) := by rw [len_tl, e]; simp
  have ia := at_sign (h := h) e (by omega)
  have b40 : oEq h (.str ⟨#[c]⟩) (.str "(") = some (.bl (decide (c = 40))) := by
    rw [oEq_ss, s40, sgn_eq]
    rfl
  have b41 : oEq h (.str ⟨#[c]⟩) (.str ")") = some (.bl (decide (c = 41))) := by
    rw [oEq_ss, s41, sgn_eq]
    rfl
  have b32 : oEq h (.str ⟨#[c]⟩) (.str " ") = some (.bl (decide (c = 32))) := by
    rw [oEq_ss, s32, sgn_eq]
    rfl
  have ea : ∀ h, oAddI h (.int pr.length) (.int 1) = some (.int ((pr.length : Int) + 1)) := fun _ => rfl
  have el : (((pr ++ [c]).length : Nat) : Int) = (pr.length : Int) + 1 := by simp
  have o0 : small 0 = true := rfl
  have sl := stz_len below
  have lrs := s.two.len
  simp only [List.length_cons] at lrs
  rw [stz_cons] at hb
  unfold stepP
  by_cases c40 : c = 40
  · rw [if_pos c40]
    rw [decide_eq_true c40] at b40
    obtain ⟨h', g1, g2⟩ := s.push (by simp; omega)
    refine ⟨u, v, h', _, [c], by simp, ?_, g2⟩
    have ty := (s.ty)
    unfold tBody
    rw [el]
    simp [ia, b40, ty, o0, g1, ea, -oEq_ss]
  · rw [if_neg c40]
    rw [decide_eq_false c40] at b40
    have mn := s.many
    by_cases c41 : c = 41 ∧ below ≠ []
    · rw [if_pos c41]
      obtain ⟨c41, hbn⟩ := c41
      rw [decide_eq_true c41] at b41
      cases below with
      | nil => exact (hbn rfl).elim
      | cons M b =>
        rw [stz_cons] at hb
        obtain ⟨q2, rs, rfl⟩ : ∃ q r', rs = q :: r' := by
          cases rs with
          | nil => exact s.two.2.elim
          | cons a b => exact ⟨a, b, rfl⟩
        obtain ⟨h1, g1, g2, g3⟩ := s.pop
        obtain ⟨h2, g4, g5⟩ := g2.add (.tup top) (by omega)
        have tp1 := g2.top
        have ty1 := g2.ty1
        have ty := s.ty
        have lt : (1 : Int) < ((top :: M :: b).length : Nat) := by simp; omega
        refine ⟨some (.ref q), v, h2, _, [c], by simp, ?_, g5⟩
        unfold tBody
        rw [el]
        generalize (((top :: M :: b).length : Nat) : Int) = N at mn lt
        simp [ia, b40, b41, mn, lt, ty, g1, tp1, ty1, g3, g4, ea, -oEq_ss]
    · rw [if_neg c41]
      by_cases c32 : c = 32
      · rw [if_pos c32]
        rw [decide_eq_true c32] at b32
        rw [decide_eq_false (by omega)] at b41
        refine ⟨u, v, h, _, [c], by simp, ?_, s⟩
        unfold tBody
        rw [el]
        simp [ia, b40, b41, b32, ea, -oEq_ss]
      · rw [if_neg c32]
        rw [decide_eq_false c32] at b32
        have lk := leaf_at_ok (cl := cl) (h := h) (z := z) (by omega) oz e rfl
        have t2 : ∀ b' : Bool, b' = decide (c = 41) → (b' = true → ¬ (1 : Int) < (((top :: below).length : Nat) : Int)) := fun b' e1 e2 => by
          have h41 : c = 41 := by rw [e1] at e2; simpa using e2
          have : below = [] := Classical.byContradiction fun z => c41 ⟨h41, z⟩
          rw [this]
          simp
        have es := endP_split (c :: r)
        generalize hB : b_leaf_at cl b_end_of_leaf (b_leaf_told b_is_plain_text b_number_told) = B at lk
        cases hp : leafP (endP (c :: r)) with
        | none =>
          rw [hp] at lk
          simp only at lk
          show ∃ s' h', _
          refine ⟨[some (.str z), some (.ref o), some (.int pr.length), u, v], h, ?_, s.pre⟩
          unfold tBody
          rw [hB]
          cases h41 : decide (c = 41) with
          | true =>
            rw [h41] at b41
            have t3 := t2 true h41.symm rfl
            generalize (((top :: below).length : Nat) : Int) = N at mn t3
            simp [ia, b40, b41, mn, t3, b32, lk, q_ex, then_ex, bind_ex, -oEq_ss]
          | false =>
            rw [h41] at b41
            simp [ia, b40, b41, b32, lk, q_ex, then_ex, bind_ex, -oEq_ss]
        | some d =>
          rw [hp] at lk
          simp only at lk
          obtain ⟨h2, g4, g5⟩ := s.add d (by omega)
          have tp1 := s.top
          have ty1 := s.ty1
          have i0 := ix0' (h := h) d []
          show ∃ u' v' h' rs' p, _
          refine ⟨u, some (.tup [d]), h2, _, endP (c :: r), es, ?_, g5⟩
          have el2 : (((pr ++ endP (c :: r)).length : Nat) : Int) = ((pr.length + (endP (c :: r)).length : Nat) : Int) := by simp
          unfold tBody
          rw [hB, el2]
          generalize ((pr.length + (endP (c :: r)).length : Nat) : Int) = E at lk ⊢
          cases h41 : decide (c = 41) with
          | true =>
            rw [h41] at b41
            have t3 := t2 true h41.symm rfl
            generalize (((top :: below).length : Nat) : Int) = N at mn t3
            simp [ia, b40, b41, mn, t3, b32, lk, tp1, ty1, i0, g4, -oEq_ss]
          | false =>
            rw [h41] at b41
            simp [ia, b40, b41, b32, lk, tp1, ty1, i0, g4, -oEq_ss]
/-- all turns -/
def fin1 : Stack → Option D
  | [[d]] => some d
  | _ => none
theorem t_loop {cl : Cl} {h0 : LH} {o : Nat} {z : Str} (hz : z.length ≤ 20000) (oz : okc z) : ∀ (n : Nat) (pr w : List Nat) (h : LH) (rs : List Nat) (st : Stack) (u v : Option D), tl z = pr ++ w → Stk h0 o h rs st → st ≠ [] → stz st + w.length ≤ 50000 → w.length < n →
    (∃ s' h', whileM n tTest (tBody cl) [some (.str z), some (.ref o), some (.int pr.length), u, v] h = .ex (noT cl) s' h' ∧ h'.take h0.length = h0 ∧ tp n st w = none) ∨
    (∃ st' rs' h' s', whileM n tTest (tBody cl) [some (.str z), some (.ref o), some (.int pr.length), u, v] h = .nx s' h' ∧ s'[1]? = some (some (.ref o)) ∧ Stk h0 o h' rs' st' ∧ st' ≠ [] ∧ tp n st w = fin1 st')
  | 0, _, _, _, _, _, _, _, _, _, _, _, hn => by omega
  | n + 1, pr, [], h, rs, st, u, v, e, s, hs, hb, hn => by
    have ln := len_str (h := h) (z := z) (by omega)
    have hl : z.length = pr.length := by rw [len_tl, e]; simp
    have ff : ¬ ((pr.length : Int) < z.length) := by omega
    right
    refine ⟨st, rs, h, [some (.str z), some (.ref o), some (.int pr.length), u, v], ?_, ?_, s, hs, ?_⟩
    · rw [while_succ]
      unfold tTest
      simp [ln, ff]
    · rfl
    · unfold tp fin1
      rfl
  | n + 1, pr, c :: r, h, rs, st, u, v, e, s, hs, hb, hn => by
    have ln := len_str (h := h) (z := z) (by omega)
    have hl : z.length = pr.length + (r.length + 1) := by rw [len_tl, e]; simp
    have ff : ((pr.length : Int) < z.length) := by omega
    obtain ⟨top, below, rfl⟩ : ∃ a b, st = a :: b := by
      cases st with
      | nil => exact (hs rfl).elim
      | cons a b => exact ⟨a, b, rfl⟩
    have tt : tTest [some (.str z), some (.ref o), some (.int pr.length), u, v] h = .ok true h := by
      unfold tTest
      simp [ln, ff]
    have tn := t_turn (cl := cl) (u := u) (v := v) hz oz e s (by omega)
    rw [while_succ, tt, q_ok, if_pos rfl, tp_succ]
    cases hp : stepP top below c r with
    | none =>
      rw [hp] at tn
      obtain ⟨s', h', q1, q2⟩ := tn
      rw [q1]
      exact .inl ⟨s', h', rfl, q2, rfl⟩
    | some p =>
      obtain ⟨st', r'⟩ := p
      rw [hp] at tn
      obtain ⟨u', v', h', rs', p, q1, q2, q3⟩ := tn
      obtain ⟨z1, z2, _⟩ := stepP_stz hp
      rw [q2]
      have hs' : st' ≠ [] := fun z => by
        rw [z] at hp
        unfold stepP at hp
        split at hp
        · simp at hp
        · split at hp
          · split at hp <;> simp at hp
          · split at hp <;> simp at hp
      exact t_loop hz oz n (pr ++ p) r' h' rs' st' u' v' (by rw [e, q1, List.append_assoc]) q3 hs' (by omega) (by omega)
theorem tree_ok {cl : Cl} {h : LH} {z : Str} (hz : z.length ≤ 20000) (oz : okc z) : (∃ h', b_tree_told cl (b_leaf_at cl b_end_of_leaf (b_leaf_told b_is_plain_text b_number_told)) [.str z] h = .ex (noT cl) h' ∧ h'.take h.length = h ∧ tp 1000000 [[]] (tl z) = none) ∨
    (∃ d h', b_tree_told cl (b_leaf_at cl b_end_of_leaf (b_leaf_told b_is_plain_text b_number_told)) [.str z] h = .ok d h' ∧ h'.take h.length = h ∧ tp 1000000 [[]] (tl z) = some d) := by
  have hl := len_tl z
  have st := Stk.start h
  have o0 : small 0 = true := rfl
  have o1 : small 1 = true := rfl
  have start : b_tree_told cl (b_leaf_at cl b_end_of_leaf (b_leaf_told b_is_plain_text b_number_told)) [.str z] h = fin_ ((whileM 1000000 tTest (tBody cl) [some (.str z), some (.ref (h.length + 1)), some (.int (([] : List Nat).length : Nat)), none, none] (h ++ [.lst []] ++ [.lst [.ref h.length]])).then ((sSeq (sIf (mOrT (mTest (mOp oNe (mCall cLen (aCons (mVar 1) aNil)) (mC (.int 1)))) (mTest (mOp oNe (mCall cLen (aCons (mOp oIx (mVar 1) (mC (.int 0))) aNil)) (mC (.int 1)))))
  (sRaise (.ref cl.NoText) "line" (aCons (mC (.int 0)) aNil))
  sNil)
  (sRet (mOp oIx (mOp oIx (mVar 1) (mC (.int 0))) (mC (.int 0))))))) := by
    unfold b_tree_told
    simp [o0, o1]
    rfl
  rcases t_loop (cl := cl) hz oz 1000000 [] (tl z) _ _ _ none none rfl st (by simp) (by simp [stz]; omega) (by omega) with ⟨s', h', q1, q2, q3⟩ | ⟨st', rs', h', s', q1, q2, q3, q4, q5⟩
  · left
    exact ⟨h', by rw [start, q1]; rfl, q2, q3⟩
  · rw [start, q1, q5]
    have raise_ok : ∀ s : Sg, (fin_ ((sSeq (fun s h => .ex (noT cl) s h) (sRet (mOp oIx (mOp oIx (mVar 1) (mC (.int 0))) (mC (.int 0))))) s h')) = .ex (noT cl) h' := fun s => rfl
    cases st' with
    | nil => exact (q4 rfl).elim
    | cons L below =>
      obtain ⟨r, rs, rfl⟩ : ∃ q r', rs' = q :: r' := by
        cases rs' with
        | nil => exact q3.two.elim
        | cons a b => exact ⟨a, b, rfl⟩
      have mn := q3.many
      cases below with
      | cons M b =>
        left
        refine ⟨h', ?_, q3.pre, by
          unfold fin1
          cases L with
          | nil => rfl
          | cons a t => cases t <;> rfl⟩
        have ne : ¬ ((((L :: M :: b).length : Nat) : Int) = 1) := by simp; omega
        have ne2 : ((((L :: M :: b).length : Nat) : Int) == 1) = false := by simpa using ne
        generalize (((L :: M :: b).length : Nat) : Int) = N at mn ne ne2
        simp [q2, mn, oNe_ii, ne, ne2, sRaise, noT, then_ex, fin_ex]
      | nil =>
        obtain rfl : rs = [] := by
          cases rs with
          | nil => rfl
          | cons a b => exact q3.two.2.elim
        have f1 := q3.first
        have fl := q3.fl
        have mn' : cLen h' [.ref (h.length + 1)] = some (.int 1) := mn
        rcases Nat.decEq L.length 1 with l1 | l1
        · left
          refine ⟨h', ?_, q3.pre, ?_⟩
          · have ne : ¬ ((L.length : Int) = 1) := by omega
            have ne2 : ((L.length : Int) == 1) = false := by simpa using ne
            simp [q2, mn', oNe_ii, f1, fl, ne, ne2, sRaise, noT, then_ex, fin_ex]
          · unfold fin1
            split
            · rename_i d e
              simp at e
              rw [e] at l1
              simp at l1
            · rfl
        · obtain ⟨d, rfl⟩ : ∃ d, L = [d] := by
            match L, l1 with
            | [d], _ => exact ⟨d, rfl⟩
          right
          have f0 := q3.f0
          have fl' : cLen h' [.ref r] = some (.int 1) := fl
          refine ⟨d, h', ?_, q3.pre, rfl⟩
          simp [q2, mn', oNe_ii, f1, fl', f0]
end Wk00
namespace Wk00
open PySem PySem.Spec PyProof.Rows L2 DN
/-! this law's own reading, in the state -/
def yDig : SM := whileM 1000000 (mAndT (mTest (mOp oLt (mVar 5) (mVar 3))) (mTest (mOp oIn (mOp oIx (mVar 0) (mVar 5)) (mC (.str "0123456789"))))) (sSet 5 (mOp oAdd (mVar 5) (mC (.int 1))))
def yNum : SM := (sSeq yDig
  (sSeq (sSet 7 (mSl (mVar 0) (oPart (mVar 1)) (oPart (mVar 5))))
  (sSeq (sSet 8 (mIf (mTest (mOp oEq (mVar 4) (mC (.str "-")))) (mSl (mVar 7) (oPart (mC (.int 1))) oNo) (mVar 7)))
  (sSeq (sIf (mOrT (mTest (mOp oNe (mLc 1000000 [9] (iStrV (mVar 8)) (gNm 9) (mTest (mOp oNotIn (mVar 9) (mC (.str "0123456789")))) (mVar 9)) (mLst aNil))) (mTest (mOp oGt (mCall cLen (aCons (mVar 8) aNil)) (mC (.int 40)))))
  (sRet (mTup aNil))
  sNil)
  (sSeq (sIf (mAndT (mTest (mOp oEq (mOp oIx (mVar 8) (mC (.int 0))) (mC (.str "0")))) (mTest (mOp oNe (mVar 7) (mC (.str "0")))))
  (sRet (mTup aNil))
  sNil)
  (sExpr (mMeth "list" gAppend (mOp oIx (mVar 2) (mNeg (mC (.int 1)))) (aCons (mCall cInt (aCons (mVar 7) aNil)) aNil))))))))
def yStr : SM := (sSeq (sSet 5 (mOp oAdd (mMeth "str" gFind3 (mVar 0) (aCons (mC (.str "'")) (aCons (mOp oAdd (mVar 1) (mC (.int 1))) aNil))) (mC (.int 1))))
  (sSeq (sIf (mOrT (mTest (mOp oEq (mVar 5) (mC (.int 0)))) (mTest (mOp oNe (mLc 1000000 [9] (iStrV (mSl (mVar 0) (oPart (mOp oAdd (mVar 1) (mC (.int 1)))) (oPart (mOp oSub (mVar 5) (mC (.int 1)))))) (gNm 9) (mNotT (mTest (mChain oLe oLe (mC (.str " ")) (mVar 9) (mC (.str "~"))))) (mVar 9)) (mLst aNil))))
  (sRet (mTup aNil))
  sNil)
  (sExpr (mMeth "list" gAppend (mOp oIx (mVar 2) (mNeg (mC (.int 1)))) (aCons (mSl (mVar 0) (oPart (mOp oAdd (mVar 1) (mC (.int 1)))) (oPart (mOp oSub (mVar 5) (mC (.int 1))))) aNil)))))
def ySign : SM := (sExpr (mMeth "list" gAppend (mOp oIx (mVar 2) (mNeg (mC (.int 1)))) (aCons (mIf (mTest (mOp oEq (mVar 4) (mC (.str "-")))) (mC .non) (mOp oEq (mVar 4) (mC (.str "+")))) aNil)))
def yLeaf : SM := (sSeq (sSet 5 (mOp oAdd (mVar 1) (mC (.int 1))))
  (sSeq (sIf (mTest (mOp oEq (mVar 4) (mC (.str "'"))))
  yStr
  (sIf (mOrT (mTest (mOp oIn (mVar 4) (mC (.str "+!")))) (mAndT (mTest (mOp oEq (mVar 4) (mC (.str "-")))) (mOrT (mTest (mOp oEq (mVar 5) (mVar 3))) (mTest (mOp oNotIn (mOp oIx (mVar 0) (mVar 5)) (mC (.str "0123456789")))))))
  ySign
  yNum))
  (sSet 1 (mVar 5))))
def yGo : SM := (sSeq (sIf (mTest (mOp oEq (mVar 4) (mC (.str "("))))
  (sSeq (sExpr (mMeth "list" gAppend (mVar 2) (aCons (mNew aNil) aNil)))
  (sSeq (sSet 1 (mOp oAdd (mVar 1) (mC (.int 1))))
  sCont))
  sNil)
  (sSeq (sIf (mTest (mOp oEq (mVar 4) (mC (.str ")"))))
  (sSeq (sIf (mTest (mOp oEq (mCall cLen (aCons (mVar 2) aNil)) (mC (.int 1))))
  (sRet (mTup aNil))
  sNil)
  (sSeq (sSet 6 (mCall cTuple (aCons (mMeth "list" gPop (mVar 2) aNil) aNil)))
  (sSeq (sExpr (mMeth "list" gAppend (mOp oIx (mVar 2) (mNeg (mC (.int 1)))) (aCons (mVar 6) aNil)))
  (sSeq (sSet 1 (mOp oAdd (mVar 1) (mC (.int 1))))
  sCont))))
  sNil)
  yLeaf))
def yBody : SM := (sSeq (sSet 4 (mOp oIx (mVar 0) (mVar 1)))
  (sSeq (sIf (mAndT (mTest (mOp oNe (mOp oIx (mVar 2) (mNeg (mC (.int 1)))) (mLst aNil))) (mTest (mOp oNe (mVar 4) (mC (.str ")")))))
  (sSeq (sIf (mOrT (mTest (mOp oNe (mVar 4) (mC (.str " ")))) (mOrT (mTest (mOp oEq (mCall cLen (aCons (mVar 2) aNil)) (mC (.int 1)))) (mOrT (mTest (mOp oEq (mOp oAdd (mVar 1) (mC (.int 1))) (mVar 3))) (mTest (mOp oIn (mOp oIx (mVar 0) (mOp oAdd (mVar 1) (mC (.int 1)))) (mC (.str " )")))))))
  (sRet (mTup aNil))
  sNil)
  (sSeq (sSet 1 (mOp oAdd (mVar 1) (mC (.int 1))))
  (sSet 4 (mOp oIx (mVar 0) (mVar 1)))))
  sNil)
  yGo))
abbrev yS (z : Str) (a : Int) (o : Nat) (g : Option D) (e p w q i : Option D) : Sg := [some (.str z), some (.int a), some (.ref o), some (.int z.length), g, e, p, w, q, i]
theorem y_dig {h : LH} {z : Str} {a : Int} {o : Nat} {g p w q i : Option D} (hz : z.length ≤ 20000) : ∀ (r : List Nat) (n : Nat) (pr : List Nat), tl z = pr ++ r → r.length < n →
    whileM n (mAndT (mTest (mOp oLt (mVar 5) (mVar 3))) (mTest (mOp oIn (mOp oIx (mVar 0) (mVar 5)) (mC (.str "0123456789"))))) (sSet 5 (mOp oAdd (mVar 5) (mC (.int 1)))) (yS z a o g (some (.int pr.length)) p w q i) h =
      .nx (yS z a o g (some (.int ((pr.length + (r.takeWhile dig).length : Nat) : Int))) p w q i) h
  | r, 0, _, _, hn => by omega
  | [], n + 1, pr, e, _ => by
    have hl : z.length = pr.length := by rw [len_tl, e]; simp
    have : ¬ ((pr.length : Int) < z.length) := by omega
    rw [while_succ]
    simp [this]
  | c :: r, n + 1, pr, e, hn => by
    have hl : z.length = pr.length + (r.length + 1) := by rw [len_tl, e]; simp
    have lt : ((pr.length : Int) < z.length) := by omega
    have ia := at_sign (h := h) e (by omega)
    have i1 := in_one h ("0123456789" : Str) c
    rw [dig_in] at i1
    rw [while_succ, List.takeWhile_cons]
    cases hb : dig c with
    | false =>
      rw [hb] at i1
      simp [lt, ia, i1]
    | true =>
      rw [hb] at i1
      have ih := y_dig (h := h) (a := a) (o := o) (g := g) (p := p) (w := w) (q := q) (i := i) hz r n (pr ++ [c]) (by simpa using e) (by simp at hn; omega)
      have el : (((pr ++ [c]).length : Nat) : Int) = (pr.length : Int) + 1 := by simp
      rw [el] at ih
      have er : (((pr ++ [c]).length + (r.takeWhile dig).length : Nat) : Int) = ((pr.length + (c :: r.takeWhile dig).length : Nat) : Int) := by simp; omega
      rw [er] at ih
      simp only [mAndT_ap, mTest_ap, mOp_ap, mVar_ap, mC_ap, List.getElem?_cons_succ, List.getElem?_cons_zero, slotR_some, R.bind_ok, optR_some, oLt_ii, lt, decide_true, toB_ok, if_true, ia, i1, q_ok, sSet_ap, oAdd_ii, List.set_cons_succ, List.set_cons_zero]
      exact ih
theorem not_dig {h : LH} (c : Nat) : oNotIn h (.str ⟨#[c]⟩) (.str "0123456789") = some (.bl (!dig c)) := by
  have i1 : isIn h (.str ⟨#[c]⟩) (.str "0123456789") = some (decide (c ∈ tl ("0123456789" : Str))) := by
    show (if decide (1 = 1) = true then some (decide (c ∈ ("0123456789" : Str).cps.toList)) else none) = _
    rw [if_pos (by rfl)]
    rfl
  unfold oNotIn
  rw [i1, dig_in]
  rfl
/-- a list none of whose signs is kept -/
theorem none_ne {h : LH} {i : Nat} {s : Sg} {z : Str} {t : BM} (q : Nat → Bool) (hi : i < s.length) (hz : z.length ≤ 100000) (ht : ∀ c, t ((s.set i none).set i (some (.str ⟨#[c]⟩))) h = .ok (!q c) h) :
    ∃ l, lcS [i] (gNm i) t (mVar i) s 1000000 (fixS (DN.signs z)) 0 [] h = .ok l h ∧ oNe h (.lst l) (.lst []) = some (.bl (!(tl z).all q)) := by
  obtain ⟨l, e1, e2⟩ := signs_none (h := h) (fun c => !q c) hi hz ht
  refine ⟨l, e1, ?_⟩
  rw [oEq_l0] at e2
  rw [oNe_l0]
  have := D.bl.inj (Option.some.inj e2)
  rw [this]
  simp
section
variable {h0 h : LH} {o a : Nat} {rs : List Nat} {top : List D} {below : Stack} {z : Str} {pr r : List Nat} {c : Nat} {e5 p6 w7 p8 i9 : Option D}
theorem y_num (hz : z.length ≤ 20000) (e : tl z = pr ++ c :: r) (s : Stk h0 o h (a :: rs) (top :: below)) (hb : top.length ≤ 50000) (hm : c = 45 → ∃ x t, r = x :: t ∧ dig x = true) :
    if numOK (c :: r.takeWhile dig) = true then ∃ h' w p, yNum (yS z pr.length o (some (.str ⟨#[c]⟩)) (some (.int ((pr.length : Int) + 1))) p6 w7 p8 i9) h = .nx (yS z pr.length o (some (.str ⟨#[c]⟩)) (some (.int ((pr ++ c :: r.takeWhile dig).length : Nat))) p6 w p i9) h' ∧ Stk h0 o h' (a :: rs) ((top ++ [.int (numW (c :: r.takeWhile dig))]) :: below)
    else yNum (yS z pr.length o (some (.str ⟨#[c]⟩)) (some (.int ((pr.length : Int) + 1))) p6 w7 p8 i9) h = .rt (.tup []) h := by
  have hl : z.length = pr.length + (r.length + 1) := by rw [len_tl, e]; simp
  have el : (((pr ++ [c]).length : Nat) : Int) = (pr.length : Int) + 1 := by simp
  have dg := y_dig (h := h) (a := pr.length) (o := o) (g := some (.str ⟨#[c]⟩)) (p := p6) (w := w7) (q := p8) (i := i9) hz r 1000000 (pr ++ [c]) (by simpa using e) (by omega)
  rw [el] at dg
  generalize hds : r.takeWhile dig = ds at dg ⊢
  have er : (((pr ++ [c]).length + ds.length : Nat) : Int) = ((pr.length + (c :: ds).length : Nat) : Int) := by simp; omega
  rw [er] at dg
  have er2 : (((pr ++ c :: ds).length : Nat) : Int) = ((pr.length + (c :: ds).length : Nat) : Int) := by simp
  rw [er2]
  have sp := take_split dig r
  rw [hds] at sp
  have cm := cut_mid_d (h := h) (z := z) (pre := pr) (mid := c :: ds) (post := r.drop ds.length) (by rw [e, List.append_assoc, List.cons_append, ← sp]) (by omega)
  have lds : ds.length ≤ r.length := by have := congrArg List.length sp; rw [List.length_append] at this; omega
  generalize hE : ((pr.length + (c :: ds).length : Nat) : Int) = E at dg cm ⊢
  have q45 : oEq h (.str ⟨#[c]⟩) (.str "-") = some (.bl (decide (c = 45))) := by
    rw [oEq_ss, s45, sgn_eq]
    rfl
  obtain ⟨F, eF, lF, key⟩ : ∃ F : Str, tl F = plainN (c :: ds) ∧ F.length ≤ 20000 ∧ mIf (mTest (mOp oEq (mVar 4) (mC (.str "-")))) (mSl (mVar 7) (oPart (mC (.int 1))) oNo) (mVar 7) (yS z pr.length o (some (.str ⟨#[c]⟩)) (some (.int E)) p6 (some (.str ⟨(c :: ds).toArray⟩)) p8 i9) h = .ok (.str F) h := by
    by_cases c45 : c = 45
    · rw [decide_eq_true c45] at q45
      have ct := cut_tail (h := h) (z := ⟨(c :: ds).toArray⟩) (c := c) (r := ds) (by rw [len_tl]; simp [tl]; omega) (by simp [tl])
      refine ⟨⟨ds.toArray⟩, by rw [c45]; simp [plainN, tl], by rw [len_tl]; simp [tl]; omega, ?_⟩
      simp [q45, ct, -oEq_ss]
    · rw [decide_eq_false c45] at q45
      refine ⟨⟨(c :: ds).toArray⟩, by simp [plainN, tl, c45], by rw [len_tl]; simp [tl]; omega, ?_⟩
      simp [q45, -oEq_ss]
  obtain ⟨l, k1, k2⟩ := none_ne (h := h) (i := 9) (s := yS z pr.length o (some (.str ⟨#[c]⟩)) (some (.int E)) p6 (some (.str ⟨(c :: ds).toArray⟩)) (some (.str F)) i9) (z := F) (t := mTest (mOp oNotIn (mVar 9) (mC (.str "0123456789")))) dig (by simp) (by omega) (fun x => by simp [not_dig])
  have ln := len_str (h := h) (z := F) (by omega)
  have lF' : F.length = (plainN (c :: ds)).length := by rw [len_tl, eF]
  have bz : ((⟨(c :: ds).toArray⟩ : Str) == ("0" : Str)) = decide (c :: ds = [48]) := by
    rw [s48, show (⟨#[48]⟩ : Str) = ⟨([48] : List Nat).toArray⟩ from rfl, str_eq]
    simp [tl]
  have bz2 : oNe h (.str ⟨(c :: ds).toArray⟩) (.str "0") = some (.bl (!decide (c :: ds = [48]))) := by rw [oNe_ss, bz]
  have o0 : small 0 = true := rfl
  rw [eF] at k2
  obtain ⟨b, t, q⟩ : ∃ b t, plainN (c :: ds) = b :: t := by
    by_cases c45 : c = 45
    · obtain ⟨x, t, e1, e2⟩ := hm c45
      rw [← hds, e1, List.takeWhile_cons, if_pos e2, c45]
      exact ⟨x, _, rfl⟩
    · exact ⟨c, ds, by simp [plainN, c45]⟩
  have i0 : oIx h (.str F) (.int 0) = some (.str ⟨#[b]⟩) := at_sign (pre := []) (by rw [eF, q]; rfl) (by omega)
  have b0 : oEq h (.str ⟨#[b]⟩) (.str "0") = some (.bl (decide (b = 48))) := by
    rw [oEq_ss, s48, sgn_eq]
    rfl
  -- the run up to the tests
  have run : ∀ X : SM, (sSeq yDig (sSeq (sSet 7 (mSl (mVar 0) (oPart (mVar 1)) (oPart (mVar 5)))) (sSeq (sSet 8 (mIf (mTest (mOp oEq (mVar 4) (mC (.str "-")))) (mSl (mVar 7) (oPart (mC (.int 1))) oNo) (mVar 7))) X))) (yS z pr.length o (some (.str ⟨#[c]⟩)) (some (.int ((pr.length : Int) + 1))) p6 w7 p8 i9) h = X (yS z pr.length o (some (.str ⟨#[c]⟩)) (some (.int E)) p6 (some (.str ⟨(c :: ds).toArray⟩)) (some (.str F)) i9) h := fun X => by
    unfold yDig
    rw [sSeq_ap, dg, then_nx, sSeq_ap]
    have e7 : mSl (mVar 0) (oPart (mVar 1)) (oPart (mVar 5)) (yS z pr.length o (some (.str ⟨#[c]⟩)) (some (.int E)) p6 w7 p8 i9) h = .ok (.str ⟨(c :: ds).toArray⟩) h := by simp [cm]
    rw [sSet_ap, e7, q_ok, then_nx, sSeq_ap, sSet_ap]
    have k3 : mIf (mTest (mOp oEq (mVar 4) (mC (.str "-")))) (mSl (mVar 7) (oPart (mC (.int 1))) oNo) (mVar 7) ((yS z pr.length o (some (.str ⟨#[c]⟩)) (some (.int E)) p6 w7 p8 i9).set 7 (some (.str ⟨(c :: ds).toArray⟩))) h = .ok (.str F) h := key
    rw [k3, q_ok, then_nx]
    rfl
  unfold yNum
  rw [run]
  clear key run dg
  have tp1 := s.top
  have ty1 := s.ty1
  by_cases c40 : (b :: t).length ≤ 40
  · have c40' : ¬ (40 : Int) < F.length := by rw [lF', q]; omega
    cases hall : (plainN (c :: ds)).all dig with
    | false =>
      rw [hall] at k2
      have n0 : numOK (c :: ds) = false := by unfold numOK; rw [hall, Bool.and_false, Bool.false_and]
      rw [if_neg (by rw [n0]; decide)]
      simp [mLc_ap, k1, k2, o0, -oNe_l0]
    | true =>
      rw [hall] at k2
      by_cases b48 : b = 48
      · rw [decide_eq_true b48] at b0
        by_cases w48 : c :: ds = [48]
        · have n1 : numOK (c :: ds) = true := by rw [w48]; rfl
          have ii := (num_ok (h := h) n1).2.2.2
          rw [decide_eq_true w48] at bz2
          rw [if_pos n1]
          obtain ⟨h', g1, g2⟩ := s.add (.int (numW (c :: ds))) (by omega)
          refine ⟨h', some (.str ⟨(c :: ds).toArray⟩), some (.str F), ?_, g2⟩
          generalize (⟨(c :: ds).toArray⟩ : Str) = Wd at k1 k2 bz2 ii ⊢
          simp [mLc_ap, k1, k2, o0, -oNe_l0, ln, c40', i0, b0, bz2, -oEq_ss, -oNe_ss, tp1, ty1, ii, g1]
        · have n0 : numOK (c :: ds) = false := by unfold numOK; simp [q, b48, w48]
          rw [decide_eq_false w48] at bz2
          rw [if_neg (by rw [n0]; decide)]
          generalize (⟨(c :: ds).toArray⟩ : Str) = Wd at k1 k2 bz2 ⊢
          simp [mLc_ap, k1, k2, o0, -oNe_l0, ln, c40', i0, b0, bz2, -oEq_ss, -oNe_ss]
      · rw [decide_eq_false b48] at b0
        have n1 : numOK (c :: ds) = true := by
          unfold numOK
          rw [hall, q, decide_eq_true c40]
          simp [b48]
        have ii := (num_ok (h := h) n1).2.2.2
        rw [if_pos n1]
        obtain ⟨h', g1, g2⟩ := s.add (.int (numW (c :: ds))) (by omega)
        refine ⟨h', some (.str ⟨(c :: ds).toArray⟩), some (.str F), ?_, g2⟩
        generalize (⟨(c :: ds).toArray⟩ : Str) = Wd at k1 k2 ii ⊢
        simp [mLc_ap, k1, k2, o0, -oNe_l0, ln, c40', i0, b0, -oEq_ss, tp1, ty1, ii, g1]
  · have c40' : (40 : Int) < F.length := by rw [lF', q]; omega
    have n0 : numOK (c :: ds) = false := by unfold numOK; rw [q, decide_eq_false c40, Bool.and_false, Bool.false_and, Bool.false_and]
    rw [if_neg (by rw [n0]; decide)]
    cases hall : (plainN (c :: ds)).all dig with
    | false =>
      rw [hall] at k2
      simp [mLc_ap, k1, k2, o0, -oNe_l0]
    | true =>
      rw [hall] at k2
      simp [mLc_ap, k1, k2, o0, -oNe_l0, ln, c40']
theorem y_str (hz : z.length ≤ 20000) (e : tl z = pr ++ 39 :: r) (s : Stk h0 o h (a :: rs) (top :: below)) (hb : top.length ≤ 50000) :
    match leafL 39 r with
    | some (d, r') => ∃ h' p, 39 :: r = p ++ r' ∧ yStr (yS z pr.length o (some (.str ⟨#[39]⟩)) (some (.int ((pr.length : Int) + 1))) p6 w7 p8 i9) h = .nx (yS z pr.length o (some (.str ⟨#[39]⟩)) (some (.int ((pr ++ p).length : Nat))) p6 w7 p8 i9) h' ∧ Stk h0 o h' (a :: rs) ((top ++ [d]) :: below)
    | none => ∃ s', yStr (yS z pr.length o (some (.str ⟨#[39]⟩)) (some (.int ((pr.length : Int) + 1))) p6 w7 p8 i9) h = .rt (.tup []) s' ∧ s' = h := by
  have hl : z.length = pr.length + (r.length + 1) := by rw [len_tl, e]; simp
  have el : (((pr ++ [39]).length : Nat) : Int) = (pr.length : Int) + 1 := by simp
  have gf : ∀ i, gFind3 h (.str z) [.str "'", .int i] = some (.int (Txt.find3 z ⟨#[39]⟩ i), h) := fun i => by rw [s39]; rfl
  have ty : tyD h (.str z) = some "str" := rfl
  have o0 : small 0 = true := rfl
  unfold leafL
  rw [if_pos rfl]
  by_cases hm : 39 ∈ r
  · rw [if_pos hm]
    have tq := take_quote hm
    generalize hmid : r.takeWhile (· != 39) = mid at tq ⊢
    have n39 : 39 ∉ mid := fun m => by
      rw [← hmid] at m
      simpa using take_no 39 m
    have e2 : tl z = (pr ++ [39]) ++ mid ++ 39 :: r.drop (mid.length + 1) := by
      rw [e]
      simp only [List.append_assoc, List.singleton_append, List.cons_append, List.nil_append]
      rw [← tq]
    have f := q_find (z := z) (pre := pr ++ [39]) (mid := mid) (post := r.drop (mid.length + 1)) e2 n39
    have cm := cut_mid_d (h := h) (z := z) (pre := pr ++ [39]) (mid := mid) (post := 39 :: r.drop (mid.length + 1)) e2 (by omega)
    rw [el] at f cm
    have lm : mid.length ≤ r.length := by have := congrArg List.length tq; rw [List.length_append] at this; omega
    generalize hM : (((pr ++ [39]).length + mid.length : Nat) : Int) = M at f cm
    have M0 : 0 ≤ M := by omega
    have q0 : oEq h (.int (M + 1)) (.int 0) = some (.bl false) := by
      rw [oEq_ii]
      congr 2
      rw [beq_eq_false_iff_ne]
      omega
    have e1 : M + 1 - 1 = M := by omega
    obtain ⟨l, k1, k2⟩ := none_ne (h := h) (i := 9) (s := yS z pr.length o (some (.str ⟨#[39]⟩)) (some (.int (M + 1))) p6 w7 p8 i9) (z := ⟨mid.toArray⟩) (t := mNotT (mTest (mChain oLe oLe (mC (.str " ")) (mVar 9) (mC (.str "~"))))) (fun c => decide (32 ≤ c) && decide (c ≤ 126)) (by simp) (by rw [len_tl]; simp [tl]; omega) (fun x => by
      by_cases c1 : 32 ≤ x
      · by_cases c2 : x ≤ 126
        · simp [s32, s126, le_sign, c1, c2]
        · simp [s32, s126, le_sign, c1, c2]
      · simp [s32, s126, le_sign, c1])
    rw [show tl (⟨mid.toArray⟩ : Str) = mid by simp [tl]] at k2
    have tp1 := s.top
    have ty1 := s.ty1
    cases hall : mid.all fun c => decide (32 ≤ c) && decide (c ≤ 126) with
    | false =>
      rw [hall] at k2
      rw [if_neg (by decide)]
      simp only
      refine ⟨h, ?_, rfl⟩
      unfold yStr
      simp [gf, f, ty, q0, -oEq_ii, e1, cm, mLc_ap, k1, k2, o0, -oNe_l0]
    | true =>
      rw [hall] at k2
      rw [if_pos rfl]
      obtain ⟨h', g1, g2⟩ := s.add (.str ⟨mid.toArray⟩) (by omega)
      refine ⟨h', 39 :: mid ++ [39], by simp only [List.cons_append, List.append_assoc, List.singleton_append, List.nil_append]; rw [← tq], ?_, g2⟩
      have er : (((pr ++ (39 :: mid ++ [39])).length : Nat) : Int) = M + 1 := by rw [← hM]; simp; omega
      rw [er]
      unfold yStr
      simp [gf, f, ty, q0, -oEq_ii, e1, cm, mLc_ap, k1, k2, o0, -oNe_l0, tp1, ty1, g1]
  · rw [if_neg hm]
    have f := find_no (z := z) (pre := pr ++ [39]) (suf := r) (by rw [e]; simp) hm
    rw [el] at f
    have q0 : oEq h (.int (-1 + 1)) (.int 0) = some (.bl true) := by rw [oEq_ii]; rfl
    simp only
    refine ⟨h, ?_, rfl⟩
    unfold yStr
    simp [gf, f, ty, oEq_ii, o0]
theorem y_leaf (hz : z.length ≤ 20000) (e : tl z = pr ++ c :: r) (s : Stk h0 o h (a :: rs) (top :: below)) (hb : top.length ≤ 50000) :
    match leafL c r with
    | some (d, r') => ∃ h' p e5' w' p', c :: r = p ++ r' ∧ yLeaf (yS z pr.length o (some (.str ⟨#[c]⟩)) e5 p6 w7 p8 i9) h = .nx (yS z (((pr ++ p).length : Nat) : Int) o (some (.str ⟨#[c]⟩)) e5' p6 w' p' i9) h' ∧ Stk h0 o h' (a :: rs) ((top ++ [d]) :: below)
    | none => yLeaf (yS z pr.length o (some (.str ⟨#[c]⟩)) e5 p6 w7 p8 i9) h = .rt (.tup []) h := by
  have hl : z.length = pr.length + (r.length + 1) := by rw [len_tl, e]; simp
  have q39 : oEq h (.str ⟨#[c]⟩) (.str "'") = some (.bl (decide (c = 39))) := by
    rw [oEq_ss, s39, sgn_eq]
    rfl
  have q45 : oEq h (.str ⟨#[c]⟩) (.str "-") = some (.bl (decide (c = 45))) := by
    rw [oEq_ss, s45, sgn_eq]
    rfl
  have q43 : oEq h (.str ⟨#[c]⟩) (.str "+") = some (.bl (decide (c = 43))) := by
    rw [oEq_ss, s43, sgn_eq]
    rfl
  have qin : oIn h (.str ⟨#[c]⟩) (.str "+!") = some (.bl (decide (c = 43 ∨ c = 33))) := by
    rw [in_one, show tl ("+!" : Str) = [43, 33] by decide +kernel]
    simp
  by_cases c39 : c = 39
  · subst c39
    have ys := y_str (p6 := p6) (w7 := w7) (p8 := p8) (i9 := i9) hz e s hb
    rw [decide_eq_true rfl] at q39
    have run : yLeaf (yS z pr.length o (some (.str ⟨#[39]⟩)) e5 p6 w7 p8 i9) h = (yStr (yS z pr.length o (some (.str ⟨#[39]⟩)) (some (.int ((pr.length : Int) + 1))) p6 w7 p8 i9) h).then (sSet 1 (mVar 5)) := by
      unfold yLeaf
      generalize yStr = Y
      simp [q39, -oEq_ss]
    rw [run]
    cases hp : leafL 39 r with
    | none =>
      rw [hp] at ys
      obtain ⟨s', q1, rfl⟩ := ys
      rw [q1]
      rfl
    | some x =>
      obtain ⟨d, r'⟩ := x
      rw [hp] at ys
      obtain ⟨h', p, q1, q2, q3⟩ := ys
      rw [q2]
      exact ⟨h', p, _, _, _, q1, rfl, q3⟩
  · rw [decide_eq_false c39] at q39
    unfold leafL
    rw [if_neg c39]
    by_cases cb : c = 43 ∨ c = 33
    · rw [if_pos cb]
      rw [decide_eq_true cb] at qin
      rw [decide_eq_false (by omega)] at q45
      have bq : (c == 43) = decide (c = 43) := rfl
      obtain ⟨h', g1, g2⟩ := s.add (.bl (c == 43)) (by omega)
      have tp1 := s.top
      have ty1 := s.ty1
      refine ⟨h', [c], some (.int ((pr.length : Int) + 1)), w7, p8, rfl, ?_, g2⟩
      rw [bq] at g1
      have el : (((pr ++ [c]).length : Nat) : Int) = (pr.length : Int) + 1 := by simp
      rw [el]
      unfold yLeaf ySign
      generalize yStr = Y1
      generalize yNum = Y2
      simp [q39, qin, q45, q43, tp1, ty1, g1, -oEq_ss]
    · rw [if_neg cb]
      rw [decide_eq_false cb] at qin
      have el : (((pr ++ [c]).length : Nat) : Int) = (pr.length : Int) + 1 := by simp
      -- the test behind a minus
      have tst : c = 45 → (mOrT (mTest (mOp oEq (mVar 5) (mVar 3))) (mTest (mOp oNotIn (mOp oIx (mVar 0) (mVar 5)) (mC (.str "0123456789"))))) (yS z pr.length o (some (.str ⟨#[c]⟩)) (some (.int ((pr.length : Int) + 1))) p6 w7 p8 i9) h = .ok (r.head?.all fun x => !dig x) h := fun c45 => by
        cases r with
        | nil =>
          have : oEq h (.int ((pr.length : Int) + 1)) (.int z.length) = some (.bl true) := by
            rw [oEq_ii]
            congr 2
            rw [beq_iff_eq]
            simp at hl
            omega
          simp [this]
        | cons x t =>
          have : oEq h (.int ((pr.length : Int) + 1)) (.int z.length) = some (.bl false) := by
            rw [oEq_ii]
            congr 2
            rw [beq_eq_false_iff_ne]
            simp at hl
            omega
          have ia := at_sign (h := h) (z := z) (pre := pr ++ [c]) (c := x) (r := t) (by rw [e]; simp) (by omega)
          rw [el] at ia
          simp [this, ia, not_dig]
      by_cases cn : c = 45 ∧ (r.head?.all fun x => !dig x) = true
      · rw [if_pos cn]
        have tst := tst cn.1
        rw [cn.2] at tst
        rw [decide_eq_true cn.1] at q45
        obtain ⟨h', g1, g2⟩ := s.add .non (by omega)
        have tp1 := s.top
        have ty1 := s.ty1
        refine ⟨h', [c], some (.int ((pr.length : Int) + 1)), w7, p8, rfl, ?_, g2⟩
        rw [el]
        unfold yLeaf ySign
        generalize yStr = Y1
        generalize yNum = Y2
        generalize mOrT (mTest (mOp oEq (mVar 5) (mVar 3))) (mTest (mOp oNotIn (mOp oIx (mVar 0) (mVar 5)) (mC (.str "0123456789")))) = Tt at tst
        simp [q39, qin, q45, tst, tp1, ty1, g1, -oEq_ss]
      · rw [if_neg cn]
        have hm : c = 45 → ∃ x t, r = x :: t ∧ dig x = true := fun c45 => by
          cases r with
          | nil => exact (cn ⟨c45, rfl⟩).elim
          | cons x t =>
            refine ⟨x, t, rfl, ?_⟩
            cases hd : dig x with
            | true => rfl
            | false => exact (cn ⟨c45, by simp [hd]⟩).elim
        have yn := y_num (p6 := p6) (w7 := w7) (p8 := p8) (i9 := i9) hz e s hb hm
        have run : yLeaf (yS z pr.length o (some (.str ⟨#[c]⟩)) e5 p6 w7 p8 i9) h = (yNum (yS z pr.length o (some (.str ⟨#[c]⟩)) (some (.int ((pr.length : Int) + 1))) p6 w7 p8 i9) h).then (sSet 1 (mVar 5)) := by
          unfold yLeaf
          generalize yStr = Y1
          generalize ySign = Y2
          generalize yNum = Y3
          generalize mOrT (mTest (mOp oEq (mVar 5) (mVar 3))) (mTest (mOp oNotIn (mOp oIx (mVar 0) (mVar 5)) (mC (.str "0123456789")))) = Tt at tst
          by_cases c45 : c = 45
          · have tst := tst c45
            have : (r.head?.all fun x => !dig x) = false := by
              cases hd : (r.head?.all fun x => !dig x) with
              | false => rfl
              | true => exact (cn ⟨c45, hd⟩).elim
            rw [this] at tst
            rw [decide_eq_true c45] at q45
            simp [q39, qin, q45, tst, -oEq_ss]
          · rw [decide_eq_false c45] at q45
            simp [q39, qin, q45, -oEq_ss]
        rw [run]
        split at yn
        · rename_i hn
          rw [if_pos hn]
          obtain ⟨h', w, p, q1, q2⟩ := yn
          rw [q1]
          refine ⟨h', c :: r.takeWhile dig, _, w, p, ?_, rfl, q2⟩
          rw [List.cons_append, ← take_split]
        · rename_i hn
          rw [if_neg hn]
          rw [yn]
          rfl
end
end Wk00
namespace Wk00
open PySem PySem.Spec PyProof.Rows L2 DN
theorem leafL_len {c : Nat} {r : List Nat} {d : D} {r' : List Nat} (h : leafL c r = some (d, r')) : r'.length < (c :: r).length := by
  obtain ⟨e, a, b⟩ := leafL_sound h
  obtain ⟨x, q, el, _⟩ := lf_cons a b
  have := congrArg List.length e
  rw [el] at this
  simp at this ⊢
  omega
theorem goL_stz {top : List D} {below : Stack} {c : Nat} {r : List Nat} {st' : Stack} {r' : List Nat} (h : goL top below c r = some (st', r')) : stz st' + r'.length ≤ stz (top :: below) + (c :: r).length ∧ r'.length < (c :: r).length ∧ st' ≠ [] := by
  unfold goL at h
  split at h
  · simp only [Option.some.injEq, Prod.mk.injEq] at h
    obtain ⟨rfl, rfl⟩ := h
    simp only [stz_cons, List.length_cons, List.length_nil]
    exact ⟨by omega, by omega, by simp⟩
  · split at h
    · cases below with
      | nil => simp at h
      | cons M b =>
        simp only [Option.some.injEq, Prod.mk.injEq] at h
        obtain ⟨rfl, rfl⟩ := h
        simp only [stz_cons, List.length_cons, List.length_append, List.length_nil]
        exact ⟨by omega, by omega, by simp⟩
    · simp only [Option.map_eq_some_iff, Prod.mk.injEq, Prod.exists] at h
      obtain ⟨d, r'', e, rfl, rfl⟩ := h
      have := leafL_len e
      simp only [stz_cons, List.length_cons, List.length_append, List.length_nil] at this ⊢
      exact ⟨by omega, by omega, by simp⟩
theorem stepL_stz {top : List D} {below : Stack} {c : Nat} {r : List Nat} {st' : Stack} {r' : List Nat} (h : stepL top below c r = some (st', r')) : stz st' + r'.length ≤ stz (top :: below) + (c :: r).length ∧ r'.length < (c :: r).length ∧ st' ≠ [] := by
  unfold stepL at h
  split at h
  · split at h
    · cases h
    · split at h
      · cases h
      · split at h
        · cases h
        · have := goL_stz h
          simp only [List.length_cons] at this ⊢
          exact ⟨by omega, by omega, this.2.2⟩
  · exact goL_stz h
section
variable {h0 h : LH} {o : Nat} {rs : List Nat} {top : List D} {below : Stack} {z : Str} {pr r : List Nat} {c : Nat} {g4 e5 p6 w7 p8 i9 : Option D}
def Goes (z : Str) (o : Nat) (h0 : LH) (pr w : List Nat) (R : RQ) (x : Option (Stack × List Nat)) : Prop := match x with
  | some (st', r') => ∃ h' rs' p g e q u v i, w = p ++ r' ∧ (R = .nx (yS z (((pr ++ p).length : Nat) : Int) o g e q u v i) h' ∨ R = .ct (yS z (((pr ++ p).length : Nat) : Int) o g e q u v i) h') ∧ Stk h0 o h' rs' st'
  | none => ∃ h', R = .rt (.tup []) h' ∧ h'.take h0.length = h0
theorem y_go (hz : z.length ≤ 20000) (e : tl z = pr ++ c :: r) (s : Stk h0 o h rs (top :: below)) (hb : stz (top :: below) ≤ 50000) : Goes z o h0 pr (c :: r) (yGo (yS z pr.length o (some (.str ⟨#[c]⟩)) e5 p6 w7 p8 i9) h) (goL top below c r) := by
  obtain ⟨a, rs, rfl⟩ : ∃ q r', rs = q :: r' := by
    cases rs with
    | nil => exact s.two.elim
    | cons a b => exact ⟨a, b, rfl⟩
  have sl := stz_len below
  have lrs := s.two.len
  simp only [List.length_cons] at lrs
  rw [stz_cons] at hb
  have o0 : small 0 = true := rfl
  have q40 : oEq h (.str ⟨#[c]⟩) (.str "(") = some (.bl (decide (c = 40))) := by
    rw [oEq_ss, s40, sgn_eq]
    rfl
  have q41 : oEq h (.str ⟨#[c]⟩) (.str ")") = some (.bl (decide (c = 41))) := by
    rw [oEq_ss, s41, sgn_eq]
    rfl
  have el : (((pr ++ [c]).length : Nat) : Int) = (pr.length : Int) + 1 := by simp
  unfold goL
  by_cases c40 : c = 40
  · rw [if_pos c40]
    rw [decide_eq_true c40] at q40
    obtain ⟨h', g1, g2⟩ := s.push (by simp; omega)
    have ty := s.ty
    refine ⟨h', _, [c], some (.str ⟨#[c]⟩), e5, p6, w7, p8, i9, by simp, .inr ?_, g2⟩
    rw [el]
    unfold yGo
    generalize yLeaf = Y
    simp [q40, ty, o0, g1, -oEq_ss]
  · rw [if_neg c40]
    rw [decide_eq_false c40] at q40
    have mn := s.many
    by_cases c41 : c = 41
    · rw [if_pos c41]
      rw [decide_eq_true c41] at q41
      cases below with
      | nil =>
        have mn' : cLen h [.ref o] = some (.int 1) := mn
        refine ⟨h, ?_, s.pre⟩
        unfold yGo
        generalize yLeaf = Y
        simp [q40, q41, mn', oEq_ii, o0, -oEq_ss]
      | cons M b =>
        rw [stz_cons] at hb
        obtain ⟨q2, rs, rfl⟩ : ∃ q r', rs = q :: r' := by
          cases rs with
          | nil => exact s.two.2.elim
          | cons a b => exact ⟨a, b, rfl⟩
        obtain ⟨h1, g1, g2, g3⟩ := s.pop
        obtain ⟨h2, g4, g5⟩ := g2.add (.tup top) (by omega)
        have tp1 := g2.top
        have ty1 := g2.ty1
        have ty := s.ty
        have ne : oEq h (.int (((top :: M :: b).length : Nat) : Int)) (.int 1) = some (.bl false) := by
          have hh : ((((top :: M :: b).length : Nat) : Int) == 1) = false := by
            rw [beq_eq_false_iff_ne]
            simp
            omega
          rw [oEq_ii, hh]
        refine ⟨h2, _, [c], some (.str ⟨#[c]⟩), e5, some (.tup top), w7, p8, i9, by simp, .inr ?_, g5⟩
        rw [el]
        unfold yGo
        generalize yLeaf = Y
        generalize (((top :: M :: b).length : Nat) : Int) = N at mn ne
        simp [q40, q41, mn, ne, ty, g1, tp1, ty1, g3, g4, -oEq_ss]
    · rw [if_neg c41]
      rw [decide_eq_false c41] at q41
      have yl := y_leaf (e5 := e5) (p6 := p6) (w7 := w7) (p8 := p8) (i9 := i9) hz e s (by omega)
      have run : yGo (yS z pr.length o (some (.str ⟨#[c]⟩)) e5 p6 w7 p8 i9) h = yLeaf (yS z pr.length o (some (.str ⟨#[c]⟩)) e5 p6 w7 p8 i9) h := by
        unfold yGo
        generalize yLeaf = Y
        simp [q40, q41, -oEq_ss]
      rw [run]
      cases hp : leafL c r with
      | none =>
        rw [hp] at yl
        simp only at yl
        exact ⟨h, yl, s.pre⟩
      | some x =>
        obtain ⟨d, r'⟩ := x
        rw [hp] at yl
        obtain ⟨h', p, e5', w', p', q1, q2, q3⟩ := yl
        exact ⟨h', _, p, _, _, _, _, _, _, q1, .inl q2, q3⟩
theorem Goes.shift {z : Str} {o : Nat} {h0 : LH} {pr w : List Nat} {c : Nat} {R : RQ} {x : Option (Stack × List Nat)} (g : Goes z o h0 (pr ++ [c]) w R x) : Goes z o h0 pr (c :: w) R x := by
  unfold Goes at g ⊢
  cases x with
  | none => exact g
  | some y =>
    obtain ⟨st', r'⟩ := y
    obtain ⟨h', rs', p, a1, a2, a3, a4, a5, a6, q1, q2, q3⟩ := g
    refine ⟨h', rs', c :: p, a1, a2, a3, a4, a5, a6, by rw [q1]; rfl, ?_, q3⟩
    simpa using q2
theorem y_turn (hz : z.length ≤ 20000) (e : tl z = pr ++ c :: r) (s : Stk h0 o h rs (top :: below)) (hb : stz (top :: below) ≤ 50000) : Goes z o h0 pr (c :: r) (yBody (yS z pr.length o g4 e5 p6 w7 p8 i9) h) (stepL top below c r) := by
  obtain ⟨a, rs, rfl⟩ : ∃ q r', rs = q :: r' := by
    cases rs with
    | nil => exact s.two.elim
    | cons a b => exact ⟨a, b, rfl⟩
  have hl : z.length = pr.length + (r.length + 1) := by rw [len_tl, e]; simp
  have ia := at_sign (h := h) e (by omega)
  have q41 : oNe h (.str ⟨#[c]⟩) (.str ")") = some (.bl (!decide (c = 41))) := by
    rw [oNe_ss, s41, sgn_eq]
    rfl
  have q32 : oNe h (.str ⟨#[c]⟩) (.str " ") = some (.bl (!decide (c = 32))) := by
    rw [oNe_ss, s32, sgn_eq]
    rfl
  have o0 : small 0 = true := rfl
  have tp1 := s.top
  have ne := s.ne
  have mn := s.many
  have gg := y_go (e5 := e5) (p6 := p6) (w7 := w7) (p8 := p8) (i9 := i9) hz e s hb
  have plain : (top = [] ∨ c = 41) → yBody (yS z pr.length o g4 e5 p6 w7 p8 i9) h = yGo (yS z pr.length o (some (.str ⟨#[c]⟩)) e5 p6 w7 p8 i9) h := fun hc => by
    unfold yBody
    generalize yGo = Y
    rcases hc with hc | hc
    · have : (!top.isEmpty) = false := by rw [hc]; rfl
      rw [this] at ne
      simp [ia, tp1, ne, o0]
    · rw [decide_eq_true hc] at q41
      cases ht : (!top.isEmpty) with
      | false =>
        rw [ht] at ne
        simp [ia, tp1, ne, o0]
      | true =>
        rw [ht] at ne
        simp [ia, tp1, ne, o0, q41, -oNe_ss]
  unfold stepL
  by_cases ht : top ≠ [] ∧ c ≠ 41
  · rw [if_pos ht]
    have t1 : (!top.isEmpty) = true := by
      cases top with
      | nil => exact (ht.1 rfl).elim
      | cons a b => rfl
    rw [t1] at ne
    rw [decide_eq_false ht.2] at q41
    by_cases h32 : c ≠ 32 ∨ below = []
    · rw [if_pos h32]
      refine ⟨h, ?_, s.pre⟩
      unfold yBody
      generalize yGo = Y
      by_cases c32 : c = 32
      · rw [decide_eq_true c32] at q32
        have hbn : below = [] := by rcases h32 with h | h; exact (h c32).elim; exact h
        have mn' : cLen h [.ref o] = some (.int 1) := by rw [mn, hbn]; rfl
        simp [ia, tp1, ne, o0, q41, q32, mn', oEq_ii, -oNe_ss]
      · rw [decide_eq_false c32] at q32
        simp [ia, tp1, ne, o0, q41, q32, -oNe_ss]
    · rw [if_neg h32]
      rw [not_or] at h32
      have c32 : c = 32 := Classical.byContradiction h32.1
      rw [decide_eq_true c32] at q32
      have nq : oEq h (.int (((top :: below).length : Nat) : Int)) (.int 1) = some (.bl false) := by
        rw [oEq_ii]
        congr 2
        rw [beq_eq_false_iff_ne]
        cases below with
        | nil => exact (h32.2 rfl).elim
        | cons a b => simp; omega
      cases r with
      | nil =>
        have eqz : oEq h (.int ((pr.length : Int) + 1)) (.int z.length) = some (.bl true) := by
          rw [oEq_ii]
          congr 2
          rw [beq_iff_eq]
          simp at hl
          omega
        refine ⟨h, ?_, s.pre⟩
        unfold yBody
        generalize yGo = Y
        generalize (((top :: below).length : Nat) : Int) = N at mn nq
        simp [ia, tp1, ne, o0, q41, q32, mn, nq, eqz, -oNe_ss]
      | cons c' r' =>
        have eqz : oEq h (.int ((pr.length : Int) + 1)) (.int z.length) = some (.bl false) := by
          rw [oEq_ii]
          congr 2
          rw [beq_eq_false_iff_ne]
          simp at hl
          omega
        have el : (((pr ++ [c]).length : Nat) : Int) = (pr.length : Int) + 1 := by simp
        have e2 : tl z = (pr ++ [c]) ++ c' :: r' := by rw [e]; simp
        have ia2 := at_sign (h := h) e2 (by omega)
        rw [el] at ia2
        have i2 := in_one h (" )" : Str) c'
        rw [show tl (" )" : Str) = [32, 41] by decide +kernel] at i2
        have i3 : decide (c' ∈ ([32, 41] : List Nat)) = decide (c' = 32 ∨ c' = 41) := by simp
        rw [i3] at i2
        simp only
        by_cases hc' : c' = 32 ∨ c' = 41
        · rw [if_pos hc']
          rw [decide_eq_true hc'] at i2
          refine ⟨h, ?_, s.pre⟩
          unfold yBody
          generalize yGo = Y
          generalize (((top :: below).length : Nat) : Int) = N at mn nq
          simp [ia, tp1, ne, o0, q41, q32, mn, nq, eqz, ia2, i2, -oNe_ss]
        · rw [if_neg hc']
          rw [decide_eq_false hc'] at i2
          have g2 := y_go (e5 := e5) (p6 := p6) (w7 := w7) (p8 := p8) (i9 := i9) hz e2 s hb
          rw [el] at g2
          have run : yBody (yS z pr.length o g4 e5 p6 w7 p8 i9) h = yGo (yS z ((pr.length : Int) + 1) o (some (.str ⟨#[c']⟩)) e5 p6 w7 p8 i9) h := by
            unfold yBody
            generalize yGo = Y
            generalize (((top :: below).length : Nat) : Int) = N at mn nq
            simp [ia, tp1, ne, o0, q41, q32, mn, nq, eqz, ia2, i2, -oNe_ss]
          rw [run]
          exact g2.shift
  · rw [if_neg ht]
    rw [plain (by
      by_cases t0 : top = []
      · exact .inl t0
      · exact .inr (Classical.byContradiction fun z => ht ⟨t0, z⟩))]
    exact gg
end
theorem y_loop {h0 : LH} {o : Nat} {z : Str} (hz : z.length ≤ 20000) : ∀ (n : Nat) (pr w : List Nat) (h : LH) (rs : List Nat) (st : Stack) (g e p u v i : Option D), tl z = pr ++ w → Stk h0 o h rs st → st ≠ [] → stz st + w.length ≤ 50000 → w.length < n →
    (∃ h', whileM n (mTest (mOp oLt (mVar 1) (mVar 3))) yBody (yS z pr.length o g e p u v i) h = .rt (.tup []) h' ∧ h'.take h0.length = h0 ∧ lr n st w = none) ∨
    (∃ st' rs' h' s', whileM n (mTest (mOp oLt (mVar 1) (mVar 3))) yBody (yS z pr.length o g e p u v i) h = .nx s' h' ∧ s'[2]? = some (some (.ref o)) ∧ Stk h0 o h' rs' st' ∧ st' ≠ [] ∧ lr n st w = fin1 st')
  | 0, _, _, _, _, _, _, _, _, _, _, _, _, _, _, _, hn => by omega
  | n + 1, pr, [], h, rs, st, g, e, p, u, v, i, ez, s, hs, hb, hn => by
    have hl : z.length = pr.length := by rw [len_tl, ez]; simp
    have ff : ¬ ((pr.length : Int) < z.length) := by omega
    right
    refine ⟨st, rs, h, yS z pr.length o g e p u v i, ?_, rfl, s, hs, ?_⟩
    · rw [while_succ]
      simp [ff]
    · unfold lr fin1
      rfl
  | n + 1, pr, c :: r, h, rs, st, g, e, p, u, v, i, ez, s, hs, hb, hn => by
    have hl : z.length = pr.length + (r.length + 1) := by rw [len_tl, ez]; simp
    have ff : ((pr.length : Int) < z.length) := by omega
    obtain ⟨top, below, rfl⟩ : ∃ a b, st = a :: b := by
      cases st with
      | nil => exact (hs rfl).elim
      | cons a b => exact ⟨a, b, rfl⟩
    have tt : mTest (mOp oLt (mVar 1) (mVar 3)) (yS z pr.length o g e p u v i) h = .ok true h := by simp [ff]
    have tn := y_turn (g4 := g) (e5 := e) (p6 := p) (w7 := u) (p8 := v) (i9 := i) hz ez s (by omega)
    rw [while_succ, tt, q_ok, if_pos rfl, lr_succ]
    cases hp : stepL top below c r with
    | none =>
      rw [hp] at tn
      obtain ⟨h', q1, q2⟩ := tn
      rw [q1]
      exact .inl ⟨h', rfl, q2, rfl⟩
    | some x =>
      obtain ⟨st', r'⟩ := x
      rw [hp] at tn
      obtain ⟨h', rs', pp, a1, a2, a3, a4, a5, a6, q1, q2, q3⟩ := tn
      obtain ⟨z1, z2, z3⟩ := stepL_stz hp
      have ih := y_loop hz n (pr ++ pp) r' h' rs' st' a1 a2 a3 a4 a5 a6 (by rw [ez, q1, List.append_assoc]) q3 z3 (by omega) (by omega)
      rcases q2 with q2 | q2
      · rw [q2]; exact ih
      · rw [q2]; exact ih
theorem read_law_ok {h : LH} {z : Str} (hz : z.length ≤ 20000) : ∃ h', b__law_read [.str z] h = .ok (match lr 1000000 [[]] (tl z) with
    | some d => .tup [d]
    | none => .tup []) h' ∧ h'.take h.length = h := by
  have hl := len_tl z
  have st := Stk.start h
  have o0 : small 0 = true := rfl
  have o1 : small 1 = true := rfl
  have ln := len_str (h := h ++ [.lst []] ++ [.lst [.ref h.length]]) (z := z) (by omega)
  have start : b__law_read [.str z] h = fin_ ((whileM 1000000 (mTest (mOp oLt (mVar 1) (mVar 3))) yBody (yS z (([] : List Nat).length : Nat) (h.length + 1) none none none none none none) (h ++ [.lst []] ++ [.lst [.ref h.length]])).then (sRet (mIf (mAndT (mTest (mOp oEq (mCall cLen (aCons (mVar 2) aNil)) (mC (.int 1)))) (mTest (mOp oEq (mCall cLen (aCons (mOp oIx (mVar 2) (mC (.int 0))) aNil)) (mC (.int 1))))) (mCall cTuple (aCons (mOp oIx (mVar 2) (mC (.int 0))) aNil)) (mTup aNil)))) := by
    have e0 : b__law_read [.str z] h = fin_ (((sPar3 1 2 3 (aCons (mC (.int 0)) (aCons (mNew (aCons (mNew aNil) aNil)) (aCons (mCall cLen (aCons (mVar 0) aNil)) aNil)))) [some (.str z), none, none, none, none, none, none, none, none, none] h).then (sSeq (whileM 1000000 (mTest (mOp oLt (mVar 1) (mVar 3))) yBody) (sRet (mIf (mAndT (mTest (mOp oEq (mCall cLen (aCons (mVar 2) aNil)) (mC (.int 1)))) (mTest (mOp oEq (mCall cLen (aCons (mOp oIx (mVar 2) (mC (.int 0))) aNil)) (mC (.int 1))))) (mCall cTuple (aCons (mOp oIx (mVar 2) (mC (.int 0))) aNil)) (mTup aNil))))) := rfl
    rw [e0]
    have e1 : (sPar3 1 2 3 (aCons (mC (.int 0)) (aCons (mNew (aCons (mNew aNil) aNil)) (aCons (mCall cLen (aCons (mVar 0) aNil)) aNil)))) [some (.str z), none, none, none, none, none, none, none, none, none] h = .nx (yS z (([] : List Nat).length : Nat) (h.length + 1) none none none none none none) (h ++ [.lst []] ++ [.lst [.ref h.length]]) := by
      simp only [List.append_assoc, List.cons_append, List.nil_append] at ln
      simp [o0, o1, ln]
    rw [e1]
    rfl
  rcases y_loop hz 1000000 [] (tl z) _ _ _ none none none none none none rfl st (by simp) (by simp [stz]; omega) (by omega) with ⟨h', q1, q2, q3⟩ | ⟨st', rs', h', s', q1, q2, q3, q4, q5⟩
  · refine ⟨h', ?_, q2⟩
    rw [start, q1, q3]
    rfl
  · refine ⟨h', ?_, q3.pre⟩
    rw [start, q1, q5]
    cases st' with
    | nil => exact (q4 rfl).elim
    | cons L below =>
      obtain ⟨r, rs, rfl⟩ : ∃ q r', rs' = q :: r' := by
        cases rs' with
        | nil => exact q3.two.elim
        | cons a b => exact ⟨a, b, rfl⟩
      have mn := q3.many
      cases below with
      | cons M b =>
        have f1 : fin1 (L :: M :: b) = none := by
          unfold fin1
          cases L with
          | nil => rfl
          | cons a t => cases t <;> rfl
        rw [f1]
        have ne : oEq h' (.int (((L :: M :: b).length : Nat) : Int)) (.int 1) = some (.bl false) := by
          have hh : ((((L :: M :: b).length : Nat) : Int) == 1) = false := by
            rw [beq_eq_false_iff_ne]
            simp
            omega
          rw [oEq_ii, hh]
        generalize (((L :: M :: b).length : Nat) : Int) = N at mn ne
        simp [q2, mn, ne, o0]
      | nil =>
        obtain rfl : rs = [] := by
          cases rs with
          | nil => rfl
          | cons a b => exact q3.two.2.elim
        have f1 := q3.first
        have fl := q3.fl
        have tu := q3.tup
        have mn' : cLen h' [.ref (h.length + 1)] = some (.int 1) := mn
        rcases Nat.decEq L.length 1 with l1 | l1
        · have ne : oEq h' (.int L.length) (.int 1) = some (.bl false) := by
            rw [oEq_ii]
            congr 2
            rw [beq_eq_false_iff_ne]
            omega
          have e0 : fin1 [L] = none := by
            unfold fin1
            split
            · rename_i d e
              simp at e
              rw [e] at l1
              simp at l1
            · rfl
          have eq1 : oEq h' (.int 1) (.int 1) = some (.bl true) := by rw [oEq_ii]; rfl
          rw [e0]
          simp [q2, mn', f1, fl, ne, eq1, o0]
        · obtain ⟨d, rfl⟩ : ∃ d, L = [d] := by
            match L, l1 with
            | [d], _ => exact ⟨d, rfl⟩
          have fl' : cLen h' [.ref r] = some (.int 1) := fl
          have eq1 : oEq h' (.int 1) (.int 1) = some (.bl true) := by rw [oEq_ii]; rfl
          simp [q2, mn', f1, fl', eq1, tu, fin1]
end Wk00
namespace Wk00
open PySem PySem.Spec PyProof.Rows L2 DN
/-! how great what is read is -/
def okst (st : Stack) : Prop := ∀ L ∈ st, okL L
theorem okst_cons {L : List D} {st : Stack} : okst (L :: st) ↔ okL L ∧ okst st := by simp [okst]
def cost (st : Stack) : Nat := (st.map fun L => 5 + szs L).sum
def cosm (st : Stack) : Nat := (st.map fun L => 3 + mms L).sum
theorem cost_cons (L : List D) (st : Stack) : cost (L :: st) = 5 + szs L + cost st := by simp [cost]
theorem cosm_cons (L : List D) (st : Stack) : cosm (L :: st) = 3 + mms L + cosm st := by simp [cosm]
theorem mms_app (a b : List D) : mms (a ++ b) = mms a + mms b := by simp [mms_sum]
theorem leafP_size {t : List Nat} {d : D} (h : leafP t = some d) : okD d ∧ sz d + 2 ≤ 54 * t.length ∧ mm d + 1 ≤ 3 * t.length := by
  unfold leafP at h
  split at h
  · rename_i e
    cases h
    rw [e]
    exact ⟨trivial, by decide, by decide⟩
  · split at h
    · rename_i e
      cases h
      rw [e]
      exact ⟨trivial, by decide, by decide⟩
    · split at h
      · rename_i e
        cases h
        rw [e]
        exact ⟨trivial, by decide, by decide⟩
      · split at h
        · split at h
          · rename_i e
            cases h
            simp only [Bool.and_eq_true, decide_eq_true_eq] at e
            have l1 : t.tail.dropLast.length = t.length - 2 := by simp; omega
            have l2 : (⟨t.tail.dropLast.toArray⟩ : Str).length = t.length - 2 := by rw [len_tl]; simp [tl]; omega
            refine ⟨?_, ?_, ?_⟩
            · intro c m
              have := List.all_eq_true.mp e.1.2 c (by simpa [tl] using m)
              simp only [pln, Bool.and_eq_true, decide_eq_true_eq] at this
              omega
            · simp only [sz, l2]
              omega
            · simp only [mm]
              omega
          · cases h
        · split at h
          · rename_i hn
            cases h
            obtain ⟨_, a1, a2, _⟩ := num_ok (h := []) hn
            have : t ≠ [] := by
              rintro rfl
              simp [numOK, plainN] at hn
            have := List.length_pos_iff.mpr this
            refine ⟨⟨by unfold G40 at *; omega, by unfold G40 at *; omega⟩, by simp only [sz]; omega, by simp only [mm]; omega⟩
          · cases h
theorem stepP_cost {top : List D} {below : Stack} {c : Nat} {r : List Nat} {st' : Stack} {r' : List Nat} (h : stepP top below c r = some (st', r')) (ok : okst (top :: below)) :
    okst st' ∧ cost st' + 54 * r'.length ≤ cost (top :: below) + 54 * (r.length + 1) ∧ cosm st' + 3 * r'.length ≤ cosm (top :: below) + 3 * (r.length + 1) := by
  have ok' := okst_cons.mp ok
  unfold stepP at h
  split at h
  · simp only [Option.some.injEq, Prod.mk.injEq] at h
    obtain ⟨rfl, rfl⟩ := h
    simp only [cost_cons, cosm_cons, szs, mms]
    exact ⟨okst_cons.mpr ⟨trivial, ok⟩, by omega, by omega⟩
  · split at h
    · rename_i _ hc
      cases below with
      | nil => exact (hc.2 rfl).elim
      | cons M b =>
        simp only [Option.some.injEq, Prod.mk.injEq] at h
        obtain ⟨rfl, rfl⟩ := h
        have ok2 := okst_cons.mp ok'.2
        simp only [cost_cons, cosm_cons, szs_app, mms_app, szs, mms, sz, mm]
        refine ⟨okst_cons.mpr ⟨okL_mem.mpr fun d m => ?_, ok2.2⟩, by omega, by omega⟩
        rcases List.mem_append.mp m with m | m
        · exact okL_mem.mp ok2.1 d m
        · simp at m
          subst m
          simpa only [okD] using ok'.1
    · split at h
      · simp only [Option.some.injEq, Prod.mk.injEq] at h
        obtain ⟨rfl, rfl⟩ := h
        exact ⟨ok, by omega, by omega⟩
      · simp only [Option.map_eq_some_iff, Prod.mk.injEq] at h
        obtain ⟨d, e, rfl, rfl⟩ := h
        obtain ⟨a1, a2, a3⟩ := leafP_size e
        have es := congrArg List.length (endP_split (c :: r))
        rw [List.length_append, List.length_cons] at es
        simp only [cost_cons, cosm_cons, szs_app, mms_app, szs, mms]
        refine ⟨okst_cons.mpr ⟨okL_mem.mpr fun x m => ?_, ok'.2⟩, by omega, by omega⟩
        rcases List.mem_append.mp m with m | m
        · exact okL_mem.mp ok'.1 x m
        · simp at m
          subst m
          exact a1
theorem tp_cost : ∀ (n : Nat) (st : Stack) (w : List Nat) (T : D), tp n st w = some T → okst st → okD T ∧ sz T + 7 ≤ cost st + 54 * w.length ∧ mm T + 4 ≤ cosm st + 3 * w.length
  | 0, _, _, _, h, _ => by simp [tp] at h
  | n + 1, st, [], T, h, ok => by
    unfold tp at h
    split at h
    · simp only [Option.some.injEq] at h
      subst h
      have := okst_cons.mp ok
      simp only [cost_cons, cosm_cons, szs, mms]
      exact ⟨okL_mem.mp this.1 _ (by simp), by omega, by omega⟩
    · cases h
  | n + 1, [], _ :: _, T, h, _ => by simp [tp] at h
  | n + 1, top :: below, c :: r, T, h, ok => by
    rw [tp_succ] at h
    cases hp : stepP top below c r with
    | none => rw [hp] at h; cases h
    | some x =>
      obtain ⟨st', r'⟩ := x
      rw [hp] at h
      obtain ⟨b1, b2, b3⟩ := stepP_cost hp ok
      obtain ⟨d1, d2, d3⟩ := tp_cost n st' r' T h b1
      rw [List.length_cons]
      exact ⟨d1, by omega, by omega⟩
theorem tp_size {n : Nat} {w : List Nat} {T : D} (h : tp n [[]] w = some T) : okD T ∧ sz T + 2 ≤ 54 * w.length ∧ mm T + 1 ≤ 3 * w.length := by
  obtain ⟨a, b, c⟩ := tp_cost n [[]] w T h (fun L m => by simp at m; subst m; trivial)
  have c1 : cost [[]] = 5 := rfl
  have c2 : cosm [[]] = 3 := rfl
  exact ⟨a, by omega, by omega⟩
theorem lvs_size {T : D} (h : lvs T = true) : okD T ∧ sz T + 2 ≤ 54 * (sh T).length ∧ mm T + 1 ≤ 3 * (sh T).length := tp_size (tp_all h (Nat.lt_succ_self _))
mutual
theorem nd_mm : ∀ d : D, nd d ≤ mm d
  | .tup l => by
    have := nds_mms l
    simp only [nd, mm]
    omega
  | .non => Nat.le_refl _
  | .bl _ => Nat.le_refl _
  | .int _ => Nat.le_refl _
  | .str _ => Nat.le_refl _
  | .lst _ => Nat.le_refl _
  | .dct _ => Nat.le_refl _
  | .kst _ => Nat.le_refl _
  | .ref _ => Nat.le_refl _
  | .st _ => Nat.le_refl _
  | .exn _ _ _ _ => Nat.le_refl _
theorem nds_mms : ∀ l : List D, nds l ≤ mms l
  | [] => Nat.le_refl _
  | d :: l => by
    have := nd_mm d
    have := nds_mms l
    simp only [nds, mms]
    omega
end
mutual
theorem sh_sz : ∀ d : D, lvs d = true → (sh d).length ≤ sz d
  | .tup l, h => by
    have := shs_szs l (by simpa only [lvs] using h)
    simp only [sh, sz, List.length_append, List.length_cons, List.length_nil]
    omega
  | .non, _ => by decide
  | .bl b, _ => by cases b <;> decide
  | .int i, h => by
    have h : (decide (-G40 < i) && decide (i < G40)) = true := h
    simp only [Bool.and_eq_true, decide_eq_true_eq] at h
    have hl : (TL.numL i.natAbs).length ≤ 40 := TL.numL_len (by decide) (by unfold G40 at *; omega)
    show (intL i).length ≤ 50
    unfold intL
    split
    · rw [List.length_cons]; omega
    · omega
  | .str z, _ => by
    have := len_tl z
    show (39 :: tl z ++ [39]).length ≤ 10 * z.length + 2
    simp
    omega
  | .lst _, h => by simp [lvs, leafB] at h
  | .dct _, h => by simp [lvs, leafB] at h
  | .kst _, h => by simp [lvs, leafB] at h
  | .ref _, h => by simp [lvs, leafB] at h
  | .st _, h => by simp [lvs, leafB] at h
  | .exn _ _ _ _, h => by simp [lvs, leafB] at h
theorem shs_szs : ∀ l : List D, lvss l = true → (shs l).length ≤ szs l
  | [], _ => Nat.le_refl _
  | [d], h => by
    simp only [lvss, Bool.and_true] at h
    have := sh_sz d h
    simp only [shs, szs]
    omega
  | d :: e :: r, h => by
    simp only [lvss, Bool.and_eq_true] at h
    have h1 := sh_sz d h.1
    have h2 := shs_szs (e :: r) (by simp only [lvss, Bool.and_eq_true]; exact h.2)
    simp only [shs, List.length_append, List.length_cons]
    simp only [szs] at h2 ⊢
    omega
end
mutual
theorem told_dp : ∀ (d : D) (k : Nat), k ≤ 200 → told k d = true → dp d + k ≤ 200
  | .tup l, k, hk, h => by
    simp only [told, Bool.and_eq_true, decide_eq_true_eq] at h
    have := tolds_dp l (k + 1) (by omega) h.2
    simp only [dp]
    omega
  | .non, _, hk, _ => by simp [dp]; exact hk
  | .bl _, _, hk, _ => by simp [dp]; exact hk
  | .int _, _, hk, _ => by simp [dp]; exact hk
  | .str _, _, hk, _ => by simp [dp]; exact hk
  | .lst _, _, _, h => by simp [told, leafB] at h
  | .dct _, _, _, h => by simp [told, leafB] at h
  | .kst _, _, _, h => by simp [told, leafB] at h
  | .ref _, _, _, h => by simp [told, leafB] at h
  | .st _, _, _, h => by simp [told, leafB] at h
  | .exn _ _ _ _, _, _, h => by simp [told, leafB] at h
theorem tolds_dp : ∀ (l : List D) (k : Nat), k ≤ 200 → tolds k l = true → dps l + k ≤ 200
  | [], k, hk, _ => by simp only [dps]; omega
  | d :: l, k, hk, h => by
    simp only [tolds, Bool.and_eq_true] at h
    have h1 := told_dp d k hk h.1
    have h2 := tolds_dp l k hk h.2
    simp only [dps]
    omega
end
/-! reading -/
noncomputable def treeM (cl : Cl) : FM := b_tree_told cl (b_leaf_at cl b_end_of_leaf (b_leaf_told b_is_plain_text b_number_told))
noncomputable def isM : FM := gcM (b_is_told (b_is_leaf b_is_plain_text))
noncomputable def showM : FM := gcM (b_show_told b_leaf_text)
noncomputable def readM (cl : Cl) : FM := gcM (b_read_told cl (treeM cl) isM showM)
/-- the told thing that a text writes -/
def Wr (z : Str) (T : D) : Prop := told 0 T = true ∧ tl z = sh T
theorem Wr.uniq {z : Str} {T U : D} (a : Wr z T) (b : Wr z U) : T = U := sh_inj (told_lvs T 0 a.1) (told_lvs U 0 b.1) (a.2.symm.trans b.2)
theorem gc_data {m : FM} {ds : List D} {h h' : LH} {d : D} (e : m ds h = .ok d h') (tk : h'.take h.length = h) (ok : okD d) : gcM m ds h = .ok d h := by
  unfold gcM
  rw [e]
  simp only [tk, if_true]
  have fr : frzD h.length h' d = some d := by
    have := below_ok h.length d ok
    cases d <;> first | (unfold frzD; simp only [this, if_true]; done) | (simp only [okD] at ok; done)
  rw [fr]
theorem read_ok {cl : Cl} {h : LH} {z : Str} (hz : z.length ≤ 16000) (oz : okc z) : (∃ T, Wr z T ∧ readM cl [.str z] h = .ok T h) ∨ ((¬ ∃ T, Wr z T) ∧ ∃ h', readM cl [.str z] h = .ex (noT cl) h' ∧ h'.take h.length = h) := by
  have hl := len_tl z
  have is1 : ∀ h : LH, cIsi h [.str z, .st (.ty "str")] = some (.bl true) := fun _ => rfl
  rcases tree_ok (cl := cl) (h := h) (z := z) (by omega) oz with ⟨h', q1, q2, q3⟩ | ⟨T, h', q1, q2, q3⟩
  · right
    refine ⟨?_, h', ?_, q2⟩
    · rintro ⟨T, w1, w2⟩
      have := tp_all (told_lvs T 0 w1) (N := 1000000) (by rw [← w2]; omega)
      rw [← w2, q3] at this
      cases this
    · have e : b_read_told cl (treeM cl) isM showM [.str z] h = .ex (noT cl) h' := by
        unfold b_read_told treeM
        generalize b_tree_told cl (b_leaf_at cl b_end_of_leaf (b_leaf_told b_is_plain_text b_number_told)) = Tm at q1
        simp [is1, q1, q_ex, then_ex, fin_ex, bind_ex]
      unfold readM gcM
      rw [e]
  · obtain ⟨ok, s1, s2⟩ := tp_size q3
    have nm := nd_mm T
    have it : isM [T] h' = .ok (.bl (told 0 T)) h' := is_told_ok ok (by omega) (by omega)
    have ex : ∀ (k : b_read_told cl (treeM cl) isM showM [.str z] h = .ex (noT cl) h'), readM cl [.str z] h = .ex (noT cl) h' := fun k => by
      unfold readM gcM
      rw [k]
    have uniq : ∀ U, Wr z U → U = T := fun U w => by
      have := tp_all (told_lvs U 0 w.1) (N := 1000000) (by rw [← w.2]; omega)
      rw [← w.2, q3] at this
      exact (Option.some.inj this).symm
    cases ht : told 0 T with
    | false =>
      rw [ht] at it
      right
      refine ⟨fun ⟨U, w⟩ => ?_, h', ex ?_, q2⟩
      · have := uniq U w
        rw [this] at w
        rw [w.1] at ht
        cases ht
      · unfold b_read_told treeM
        generalize b_tree_told cl (b_leaf_at cl b_end_of_leaf (b_leaf_told b_is_plain_text b_number_told)) = Tm at q1
        simp [is1, q1, it, sRaise, noT, then_ex, fin_ex]
    | true =>
      rw [ht] at it
      have lv := told_lvs T 0 ht
      have shl := sh_sz T lv
      have sw : showM [T] h' = .ok (.str ⟨(sh T).toArray⟩) h' := show_ok ok (by omega) (by omega) lv (by omega)
      have cmp : oNe h' (.str ⟨(sh T).toArray⟩) (.str z) = some (.bl (!decide (tl z = sh T))) := by
        rw [oNe_ss, bswap, str_eq]
      by_cases he : tl z = sh T
      · left
        rw [decide_eq_true he] at cmp
        refine ⟨T, ⟨ht, he⟩, gc_data (h' := h') ?_ q2 ok⟩
        unfold b_read_told treeM
        generalize b_tree_told cl (b_leaf_at cl b_end_of_leaf (b_leaf_told b_is_plain_text b_number_told)) = Tm at q1
        simp [is1, q1, it, sw, cmp, -oNe_ss]
      · right
        rw [decide_eq_false he] at cmp
        refine ⟨fun ⟨U, w⟩ => he ?_, h', ex ?_, q2⟩
        · rw [← uniq U w]
          exact w.2
        · unfold b_read_told treeM
          generalize b_tree_told cl (b_leaf_at cl b_end_of_leaf (b_leaf_told b_is_plain_text b_number_told)) = Tm at q1
          simp [is1, q1, it, sw, cmp, -oNe_ss, sRaise, noT, then_ex, fin_ex]
theorem read_odd {cl : Cl} {h : LH} {d : D} (ok : okD d) (hd : isStr d = false) : readM cl [d] h = .ex (noT cl) h := by
  have is := isi_str (h := h) ok
  rw [hd] at is
  have e : b_read_told cl (treeM cl) isM showM [d] h = .ex (noT cl) h := by
    unfold b_read_told
    simp [is, sRaise, noT, then_ex, fin_ex]
  unfold readM gcM
  rw [e]
noncomputable def heardM (cl : Cl) : FM := gcM (b__law_heard cl (readM cl))
def noneD : D := .tup [.str "none", .int 0, .bl true]
def okc_lit {z : Str} (h : (tl z).all (fun c => decide (c < 1114112)) = true) : okc z := fun c m => of_decide_eq_true (List.all_eq_true.mp h c m)
theorem okc_none : okc "none" := okc_lit (by decide +kernel)
theorem okc_read : okc "read" := okc_lit (by decide +kernel)
theorem heard_ok {cl : Cl} {h : LH} {d : D} {b : Bool} {T : D} (hT : readM cl [d] h = .ok T h) (ok : okD T) : heardM cl [d, .bl b] h = .ok (.tup [.str "read", T]) h := by
  refine gc_data (h' := h) ?_ (by simp) ⟨okc_read, ok, trivial⟩
  generalize readM cl = W at hT
  have pk : pick [] [d] [] [.kw 0] = [d] := rfl
  unfold b__law_heard
  have e : sRet (mTup (aCons (mC (.str "read")) (aCons (mIf (mTest (mVar 1)) (mFnK 1 0 1 [.kw 0] W [] aNil (aCons (mVar 0) aNil)) (mFn 1 W [] (aCons (mVar 0) aNil))) aNil))) [some d, some (.bl b), none] h = .rt (.tup [.str "read", T]) h := by
    cases b <;> simp [hT, pk, show small 2 = true from rfl]
  show fin_ (sTry _ 2 _ _ [some d, some (.bl b), none] h) = _
  have : ∀ (su : Addr → Value → Option Addr → SM), sTry (mtC (.ref cl.NoText)) 2 (sRet (mTup (aCons (mC (.str "read")) (aCons (mIf (mTest (mVar 1)) (mFnK 1 0 1 [.kw 0] W [] aNil (aCons (mVar 0) aNil)) (mFn 1 W [] (aCons (mVar 0) aNil))) aNil)))) su [some d, some (.bl b), none] h = .rt (.tup [.str "read", T]) h := fun su => by
    unfold sTry
    rw [e]
  rw [this]
  rfl
theorem heard_no {cl : Cl} {h h' : LH} {d : D} {b : Bool} (hT : readM cl [d] h = .ex (noT cl) h') (tk : h'.take h.length = h) : heardM cl [d, .bl b] h = .ok noneD h := by
  refine gc_data (h' := h') ?_ tk ⟨okc_none, ⟨by decide, by decide⟩, trivial, trivial⟩
  generalize readM cl = W at hT
  have pk : pick [] [d] [] [.kw 0] = [d] := rfl
  unfold b__law_heard
  have e : sRet (mTup (aCons (mC (.str "read")) (aCons (mIf (mTest (mVar 1)) (mFnK 1 0 1 [.kw 0] W [] aNil (aCons (mVar 0) aNil)) (mFn 1 W [] (aCons (mVar 0) aNil))) aNil))) [some d, some (.bl b), none] h = .ex (noT cl) [some d, some (.bl b), none] h' := by
    cases b <;> simp [hT, pk, q_ex, bind_ex]
  show fin_ (sTry _ 2 _ _ [some d, some (.bl b), none] h) = _
  rw [try_ex (mt := mtC (.ref cl.NoText)) (r := .rt noneD h') e (mtC_self _)]
  · rfl
  · intro a dd hd
    obtain ⟨d', rfl⟩ : ∃ d', dd = some d' := by
      cases dd with
      | none => cases hd
      | some d' => exact ⟨d', rfl⟩
    have k2 : cIsE a (.ref cl.NoText) (some d') cl.NoText (tbL [(.ref cl.SoError)] true) h' [.exn a (.ref cl.NoText) (some d') [(.inr "line", .int 0)], .st (.ref cl.SoError)] = some (.bl true) := by
      show (if _ ∧ _ ∧ _ then Option.map D.bl (tbL [(Value.ref cl.SoError)] true (.ref cl.SoError)) else none) = _
      rw [if_pos ⟨rfl, rfl, rfl⟩, tb_mem (by simp)]
      rfl
    have k4 : ∀ s : Sg, s[2]? = some (some (.exn a (.ref cl.NoText) (some d') [(.inr "line", .int 0)])) → mXf a (.ref cl.NoText) (some d') cl.NoText "line" (mVar 2) s h' = .ok (.int 0) h' := fun s hs => by
      unfold mXf
      rw [mVar_ap, hs]
      simp only [slotR_some, R.bind_ok, and_self, if_true, line_of]
    have k4a := k4 [some d, some (.bl b), some (.exn a (.ref cl.NoText) (some d') [(.inr "line", .int 0)])] rfl
    have o3 : small 3 = true := rfl
    unfold tryG
    simp only [noT, Option.getD_some, sRet_ap, mTup_ap, aCons_ap, mC_ap, R.bind_ok, List.set_cons_succ, List.set_cons_zero, k4a, mCall_ap, mVar_ap, List.getElem?_cons_succ, List.getElem?_cons_zero, slotR_some, aNil_ap, k2, optR_some, List.length_cons, List.length_nil, q_ok]
    rw [if_pos (by rfl)]
    rfl
/-! this law's own reading, and what is due -/
noncomputable def lreadM : FM := gcM b__law_read
noncomputable def ltoldM : FM := gcM b__law_is_told
theorem lread_ok {h : LH} {z : Str} (hz : z.length ≤ 16000) : (∃ T, lreadM [.str z] h = .ok (.tup [T]) h ∧ lvs T = true ∧ tl z = sh T) ∨ (lreadM [.str z] h = .ok (.tup []) h ∧ ¬ ∃ T, Wr z T) := by
  have hl := len_tl z
  obtain ⟨h', e, tk⟩ := read_law_ok (h := h) (z := z) (by omega)
  cases q : lr 1000000 [[]] (tl z) with
  | none =>
    right
    rw [q] at e
    refine ⟨gc_data e tk trivial, ?_⟩
    rintro ⟨T, w1, w2⟩
    have := lr_all (told_lvs T 0 w1) (N := 1000000) (by rw [← w2]; omega)
    rw [← w2, q] at this
    cases this
  | some T =>
    left
    rw [q] at e
    obtain ⟨a, b⟩ := lr_sound 1000000 [[]] (tl z) T q (fun L m => by simp at m; subst m; rfl)
    have a : tl z = sh T := by simpa [pre, shs] using a
    have okT := (lvs_size b).1
    exact ⟨T, gc_data e tk ⟨okT, trivial⟩, b, a⟩
theorem right_ok {cl : Cl} {h : LH} {x : D} {z : Str} {b : Bool} (hz : z.length ≤ 16000) (oz : okc z) : b__law_is_read_right lreadM ltoldM (heardM cl) [x, .str z, .bl b] h = .ok (.bl true) h := by
  have hl := len_tl z
  have o2 : small 2 = true := rfl
  have o3 : small 3 = true := rfl
  have o0 : small 0 = true := rfl
  have ne1 : ∀ T : D, oNe h (.tup [T]) (.tup []) = some (.bl true) := fun _ => rfl
  have ne0 : oNe h (.tup []) (.tup []) = some (.bl false) := rfl
  have due : ∀ y : D, okD y → sz y ≤ 1000000 → dp y ≤ 600 → ∃ t, cRepr h [y] = some (.str t) := fun y a b c => by
    obtain ⟨p, _, e⟩ := repr_of (h := h) a b c
    exact ⟨_, e⟩
  obtain ⟨tn, en⟩ := due noneD ⟨okc_none, ⟨by decide, by decide⟩, trivial, trivial⟩ (by decide) (by decide)
  have noN : (¬ ∃ T, Wr z T) → heardM cl [.str z, .bl b] h = .ok noneD h := fun hn => by
    rcases read_ok (cl := cl) (h := h) hz oz with ⟨T, w, _⟩ | ⟨_, h', e, tk⟩
    · exact (hn ⟨T, w⟩).elim
    · exact heard_no e tk
  rcases lread_ok (h := h) hz with ⟨T, e1, lv, e2⟩ | ⟨e1, hn⟩
  · obtain ⟨ok, s1, s2⟩ := lvs_size lv
    rw [← e2] at s1 s2
    have nm := nd_mm T
    have lt : ltoldM [T] h = .ok (.bl (told 0 T)) h := law_told_ok ok (by omega) (by omega)
    have i0 : oIx h (.tup [T]) (.int 0) = some T := ix0' T []
    cases ht : told 0 T with
    | true =>
      rw [ht] at lt
      have w : Wr z T := ⟨ht, e2⟩
      have hd : heardM cl [.str z, .bl b] h = .ok (.tup [.str "read", T]) h := by
        rcases read_ok (cl := cl) (h := h) hz oz with ⟨U, w', e⟩ | ⟨hn, _⟩
        · rw [← w.uniq w'] at e
          exact heard_ok e ok
        · exact (hn ⟨T, w⟩).elim
      have dpT := told_dp T 0 (by omega) ht
      have l4 : ("read" : Str).length = 4 := rfl
      obtain ⟨t, et⟩ := due (.tup [.str "read", T]) ⟨okc_read, ok, trivial⟩ (by simp only [sz, szs, l4]; omega) (by simp only [dp, dps]; omega)
      generalize lreadM = M1 at e1
      generalize ltoldM = M2 at lt
      generalize heardM cl = M3 at hd
      unfold b__law_is_read_right
      simp [e1, ne1, i0, lt, o2, o0, hd, et]
    | false =>
      rw [ht] at lt
      have hd := noN (fun ⟨U, w⟩ => by
        have : T = U := sh_inj lv (told_lvs U 0 w.1) (e2.symm.trans w.2)
        rw [this, w.1] at ht
        cases ht)
      unfold noneD at hd en
      generalize lreadM = M1 at e1
      generalize ltoldM = M2 at lt
      generalize heardM cl = M3 at hd
      unfold b__law_is_read_right
      simp [e1, ne1, i0, lt, o3, o0, hd, en]
  · have hd := noN hn
    unfold noneD at hd en
    generalize lreadM = M1 at e1
    generalize ltoldM = M2
    generalize heardM cl = M3 at hd
    unfold b__law_is_read_right
    simp [e1, ne0, o3, o0, hd, en]
end Wk00
namespace Wk00
open PySem PySem.Spec PyProof.Rows L2 DN
/-! the deck -/
abbrev drawM : FM := b__law_draw
noncomputable abbrev pkM : FM := b__law_pick drawM
def dk (cs : List Int) (t n : Int) (rest : LH) : LH := .lst (cs.map .int) :: .dct [(.inr "cells", .ref 0), (.inr "mixed", .int t), (.inr "draws", .int n)] :: rest
def Dk (N : Nat) (rest h : LH) : Prop := ∃ cs t n, h = dk cs t n rest ∧ 0 ≤ t ∧ t < 2147483587 ∧ 0 ≤ n ∧ n ≤ N ∧ cs.length ≤ 1000
theorem Dk.mono {N M : Nat} {rest h : LH} (hd : Dk N rest h) (l : N ≤ M) : Dk M rest h := by
  obtain ⟨cs, t, n, e, h1, h2, h3, h4, h5⟩ := hd
  exact ⟨cs, t, n, e, h1, h2, h3, by omega, h5⟩
theorem kne1 : ¬ ((Sum.inr ("cells" : Str) : Key) = .inr "mixed") := by decide +kernel
theorem kne2 : ¬ ((Sum.inr ("cells" : Str) : Key) = .inr "draws") := by decide +kernel
theorem kne3 : ¬ ((Sum.inr ("mixed" : Str) : Key) = .inr "draws") := by decide +kernel
section
variable (cs : List Int) (t n : Int) (rest : LH) (u : List (Option D))
theorem g_cells : mDr (mVar 0) (mC (.str "cells")) (some (.ref 1) :: u) (dk cs t n rest) = .ok (.ref 0) (dk cs t n rest) := by
  simp [mDr, dk, look1]
theorem g_mixed : mDr (mVar 0) (mC (.str "mixed")) (some (.ref 1) :: u) (dk cs t n rest) = .ok (.int t) (dk cs t n rest) := by
  simp only [mDr, dk, look1, mVar_ap, mC_ap, List.getElem?_cons_zero, List.getElem?_cons_succ, slotR_some, R.bind_ok, key_str, List.find?_cons, kne1, decide_false, decide_true, Option.map_some]
theorem g_draws : mDr (mVar 0) (mC (.str "draws")) (some (.ref 1) :: u) (dk cs t n rest) = .ok (.int n) (dk cs t n rest) := by
  simp only [mDr, dk, look1, mVar_ap, mC_ap, List.getElem?_cons_zero, List.getElem?_cons_succ, slotR_some, R.bind_ok, key_str, List.find?_cons, kne2, kne3, decide_false, decide_true, Option.map_some]
theorem s_draws (x : Int) : gSd (mVar 0) (mC (.str "draws")) (.int x) (some (.ref 1) :: u) (dk cs t n rest) = some (some (.ref 1) :: u, dk cs t x rest) := by
  have e : putD [(.inr ("cells" : Str), D.ref 0), (.inr "mixed", .int t), (.inr "draws", .int n)] (.inr "draws") (.int x) = [(.inr ("cells" : Str), D.ref 0), (.inr "mixed", .int t), (.inr "draws", .int x)] := by
    simp only [putD, List.any_cons, kne2, kne3, decide_false, decide_true, Bool.or_true, Bool.true_or, if_true, List.map_cons, if_false, List.map_nil]
  simp only [gSd, dk, mVar_ap, mC_ap, List.getElem?_cons_zero, List.getElem?_cons_succ, slotR_some, key_str]
  rw [e, if_pos (by rfl)]
  rfl
end
theorem max2 {h : LH} (j : Int) : cMax2 h [.int 2, .int j] = some (.int (if j > 2 then j else 2)) := rfl
theorem draw_ok {N : Nat} {rest h : LH} {lots : Int} (hd : Dk N rest h) (hN : N < 1000000) (hl : 0 < lots) (hl2 : lots ≤ 1000000) :
    ∃ r h', drawM [.ref 1, .int lots] h = .ok (.int r) h' ∧ 0 ≤ r ∧ r < lots ∧ Dk (N + 1) rest h' := by
  obtain ⟨cs, t, n, rfl, ht, ht2, hn, hn2, hc⟩ := hd
  have ne : ∀ (cs : List Int) (t n : Int), oNe (dk cs t n rest) (.ref 0) (.lst []) = some (.bl (!cs.isEmpty)) := fun _ _ _ => ne_nil_ints rfl
  have ty0 : ∀ (cs : List Int) (t n : Int), tyD (dk cs t n rest) (.ref 0) = some "list" := fun _ _ _ => rfl
  have sm0 : small 0 = true := rfl
  have ci : ∀ (h : LH) (i : Int), cInt h [.int i] = some (.int i) := fun _ _ => rfl
  -- behind the cells
  have m1 : ∀ (cs : List Int) (t n : Int) (num : Int) (y : Option D), 0 ≤ n → n ≤ N + 1 → 0 ≤ num → num ≤ 10 ^ 12 → ∃ r, 0 ≤ r ∧ r < lots ∧
      fin_ ((sSeq (sSet 2 (mOp oMod (mCall cInt (aCons (mOp oAdd (mOp oMul (mVar 2) (mC (.int 39373))) (mC (.int 0))) aNil)) (mC (.int 2147483647))))
  (sSeq (sSet 2 (mOp oMod (mCall cInt (aCons (mOp oAdd (mOp oAdd (mOp oMul (mVar 2) (mVar 2)) (mOp oMul (mC (.int 52713)) (mDr (mVar 0) (mC (.str "draws"))))) (mC (.int 0))) aNil)) (mC (.int 2147483587))))
  (sSeq (sSet 2 (mOp oMod (mCall cInt (aCons (mOp oMul (mVar 2) (mC (.int 40692))) aNil)) (mC (.int 2147483563))))
  (sRet (mOp oMod (mCall cInt (aCons (mOp oDiv (mVar 2) (mC (.int 64))) aNil)) (mVar 1)))))) [some (.ref 1), some (.int lots), some (.int num), y] (dk cs t n rest)) = .ok (.int r) (dk cs t n rest) := by
    intro cs t n num y h1 h2 h3 h4
    generalize ey : num * 39373 % 2147483647 = x
    have d0 := Int.emod_nonneg (num * 39373) (b := 2147483647) (by omega)
    have d1 := Int.emod_lt_of_pos (num * 39373) (b := 2147483647) (by omega)
    rw [ey] at d0 d1
    generalize ez : (x * x + 52713 * n) % 2147483587 = z
    have f0 := Int.emod_nonneg (x * x + 52713 * n) (b := 2147483587) (by omega)
    have f1 := Int.emod_lt_of_pos (x * x + 52713 * n) (b := 2147483587) (by omega)
    rw [ez] at f0 f1
    generalize ev : z * 40692 % 2147483563 = v
    have g0 := Int.emod_nonneg (z * 40692) (b := 2147483563) (by omega)
    have g1 := Int.emod_lt_of_pos (z * 40692) (b := 2147483563) (by omega)
    rw [ev] at g0 g1
    have a1 : oMul (dk cs t n rest) (.int num) (.int 39373) = some (.int (num * 39373)) := mul_okS (by omega) (by omega)
    have a2 : oMul (dk cs t n rest) (.int x) (.int x) = some (.int (x * x)) := mul_okS (by omega) (by omega)
    have a3 : oMul (dk cs t n rest) (.int 52713) (.int n) = some (.int (52713 * n)) := mul_okS (by omega) (by omega)
    have a4 : oMul (dk cs t n rest) (.int z) (.int 40692) = some (.int (z * 40692)) := mul_okS (by omega) (by omega)
    have a5 : oDiv (dk cs t n rest) (.int v) (.int 64) = some (.int (v / 64)) := div_okS (by omega) (by omega)
    refine ⟨v / 64 % lots, Int.emod_nonneg _ (by omega), Int.emod_lt_of_pos _ hl, ?_⟩
    simp [a1, ci, ey, a2, g_draws, a3, ez, a4, ev, a5, hl]
  -- the number ahead
  have b1 : oMul (dk cs t (n + 1) rest) (.int 61473) (.int (n + 1)) = some (.int (61473 * (n + 1))) := mul_okS (by omega) (by omega)
  unfold drawM b__law_draw
  cases hcs : cs.isEmpty with
  | true =>
    obtain ⟨r, r1, r2, e⟩ := m1 cs t (n + 1) (t + 61473 * (n + 1)) none (by omega) (by omega) (by omega) (by omega)
    refine ⟨r, dk cs t (n + 1) rest, ?_, r1, r2, cs, t, n + 1, rfl, ht, ht2, by omega, by omega, hc⟩
    rw [← e]
    simp [g_draws, s_draws, g_mixed, b1, g_cells, ne, hcs, sm0]
  | false =>
    have hne : cs ≠ [] := fun z => by rw [z] at hcs; cases hcs
    have hlen : 0 < cs.length := List.length_pos_iff.mpr hne
    have hp : ∀ (t n : Int), gPop (dk cs t n rest) (.ref 0) [] = some (.int (cs.getLast hne), dk cs.dropLast t n rest) := fun t n => by
      have e1 : (cs.map D.int)[(cs.map D.int).length - 1]? = some (.int (cs.getLast hne)) := by
        rw [List.getElem?_map, List.length_map, List.getLast_eq_getElem, List.getElem?_eq_getElem (by omega)]
        rfl
      show ((cs.map D.int)[(cs.map D.int).length - 1]?.map fun d => (d, (dk cs t n rest).set 0 (.lst (cs.map D.int).dropLast))) = _
      rw [e1, ← List.map_dropLast]
      rfl
    generalize cs.getLast hne = cell at hp
    have hdl : cs.dropLast.length ≤ 999 := by rw [List.length_dropLast]; omega
    by_cases big : (10 ^ 18 : Int) ≤ cell
    · have ap : ∀ (x : Int), gAppend (dk cs.dropLast t (n + 1) rest) (.ref 0) [.int x] = some (.non, dk (cs.dropLast ++ [x]) t (n + 1) rest) := fun x => by
        show (if decide ((cs.dropLast.map D.int).length < sizeLine) = true then _ else _) = _
        rw [if_pos (decide_eq_true (by have := sizeLine_ge; rw [List.length_map]; omega))]
        simp [dk]
      have dv : oDiv (dk cs.dropLast t (n + 1) rest) (.int cell) (.int (if lots > 2 then lots else 2)) = some (.int (cell / (if lots > 2 then lots else 2))) := div_okS (by split <;> omega) (by split <;> omega)
      refine ⟨cell % lots, dk (cs.dropLast ++ [cell / (if lots > 2 then lots else 2)]) t (n + 1) rest, ?_, Int.emod_nonneg _ (by omega), Int.emod_lt_of_pos _ hl, _, t, n + 1, rfl, ht, ht2, by omega, by omega, by simp; omega⟩
      have big' : (1000000000000000000 : Int) ≤ cell := big
      simp only [gt_iff_lt] at dv
      simp [g_draws, s_draws, g_mixed, b1, g_cells, ne, hcs, sm0, hp, ty0, big', max2, dv, ap, ci, hl]
    · have c0 := Int.emod_nonneg cell (b := 2147483629) (by omega)
      have c1 := Int.emod_lt_of_pos cell (b := 2147483629) (by omega)
      obtain ⟨r, r1, r2, e⟩ := m1 cs.dropLast t (n + 1) (t + 61473 * (n + 1) + cell % 2147483629) (some (.int cell)) (by omega) (by omega) (by omega) (by omega)
      refine ⟨r, dk cs.dropLast t (n + 1) rest, ?_, r1, r2, _, t, n + 1, rfl, ht, ht2, by omega, by omega, by omega⟩
      rw [← e]
      have big' : ¬ (1000000000000000000 : Int) ≤ cell := big
      simp [g_draws, s_draws, g_mixed, b1, g_cells, ne, hcs, sm0, hp, ty0, big', ci]
theorem deck_loop (a c : Option D) (h : LH) : ∀ (ms : List Int) (b : Option D) (t : Int), 0 ≤ t → t < 2147483587 → ∃ b' t', 0 ≤ t' ∧ t' < 2147483587 ∧
    forL (gNm 1) (sSet 3 (mOp oMod (mCall cInt (aCons (mOp oAdd (mOp oAdd (mOp oMul (mVar 3) (mC (.int 48271))) (mOp oMod (mCall cInt (aCons (mVar 1) aNil)) (mC (.int 2147483629)))) (mC (.int 0))) aNil)) (mC (.int 2147483587)))) (ms.map .int) [a, b, c, some (.int t)] h = .nx [a, b', c, some (.int t')] h
  | [], b, t, h1, h2 => ⟨b, t, h1, h2, rfl⟩
  | m :: ms, b, t, h1, h2 => by
    have ci : ∀ (h : LH) (i : Int), cInt h [.int i] = some (.int i) := fun _ _ => rfl
    have a1 : oMul h (.int t) (.int 48271) = some (.int (t * 48271)) := mul_okS (by omega) (by omega)
    obtain ⟨b', t', x1, x2, e⟩ := deck_loop a c h ms (some (.int m)) ((t * 48271 + m % 2147483629) % 2147483587) (Int.emod_nonneg _ (by omega)) (Int.emod_lt_of_pos _ (by omega))
    refine ⟨b', t', x1, x2, ?_⟩
    rw [List.map_cons]
    unfold forL
    simp [a1, ci, e]
theorem deck_ok {ns : List Int} (hl : ns.length ≤ 63) : ∃ h', b__law_deck [.kst (ns.map .int)] [] = .ok (.ref 1) h' ∧ Dk 0 [] h' := by
  have hc := cut_len ns none (some 63)
  have e0 : oCut [] (.kst (ns.map .int)) none (some 63) = some (.lst ((cut ns none (some 63)).map .int)) := by rw [← cut_map]; rfl
  generalize cut ns none (some 63) = ms at hc e0
  have e1 : cList [] [.lst (ms.map .int)] = some (.lst (ms.map .int)) := rfl
  obtain ⟨b', t', x1, x2, e⟩ := deck_loop (some (.kst (ns.map .int))) (some (.lst (ms.map .int))) [] ms none 2013300 (by omega) (by omega)
  have hf : (ms.map D.int).length < 1000000 := by rw [List.length_map]; omega
  have e2 : seqL [] (.lst (ms.map .int)) = some (ms.map .int) := rfl
  refine ⟨dk ms.reverse t' 0 [], ?_, ms.reverse, t', 0, rfl, x1, x2, by omega, by omega, by simp; omega⟩
  unfold b__law_deck
  have q1 : ¬ (("cells" : Str) = "mixed") := by decide +kernel
  have q2 : ¬ (("cells" : Str) = "draws") := by decide +kernel
  have q3 : ¬ (("mixed" : Str) = "draws") := by decide +kernel
  simp [e0, e1, sFor_ap, for_fix hf, e, e2, dk, mDctN, q1, q2, q3]
theorem pk_ok {N : Nat} {rest h : LH} {l : List D} (hd : Dk N rest h) (hN : N < 1000000) (hl : l ≠ []) (hl2 : l.length ≤ 1000000) :
    ∃ d h', pkM [.ref 1, .lst l] h = .ok d h' ∧ d ∈ l ∧ Dk (N + 1) rest h' := by
  have hp : 0 < l.length := List.length_pos_iff.mpr hl
  obtain ⟨r, h', e, r1, r2, hd'⟩ := draw_ok (lots := (l.length : Int)) hd hN (by omega) (by omega)
  obtain ⟨d, e2, m⟩ := atI_in r1 r2
  refine ⟨d, h', ?_, m, hd'⟩
  have e3 : cLen h [.lst l] = some (.int l.length) := rfl
  have e4 : oIx h' (.lst l) (.int r) = some d := e2
  unfold pkM b__law_pick
  generalize drawM = Dm at e
  simp [e3, e, e4]
theorem pkS_ok {N : Nat} {rest h : LH} {z : Str} (hd : Dk N rest h) (hN : N < 1000000) (hl : tl z ≠ []) (hl2 : z.length ≤ 1000000) :
    ∃ c h', pkM [.ref 1, .str z] h = .ok (.str ⟨#[c]⟩) h' ∧ c ∈ tl z ∧ Dk (N + 1) rest h' := by
  have hp : 0 < (tl z).length := List.length_pos_iff.mpr hl
  have lz := len_tl z
  obtain ⟨r, h', e, r1, r2, hd'⟩ := draw_ok (lots := (z.length : Int)) hd hN (by omega) (by omega)
  obtain ⟨c, e2, m⟩ := atI_in (l := tl z) (r := r) r1 (by omega)
  refine ⟨c, h', ?_, m, hd'⟩
  have e3 := len_str (h := h) hl2
  have e4 : oIx h' (.str z) (.int r) = some (.str ⟨#[c]⟩) := by
    show (if small z.length = true then (atI (tl z) r).map fun c => D.str ⟨#[c]⟩ else none) = _
    rw [if_pos (small_of hl2), e2]
    rfl
  unfold pkM b__law_pick
  generalize drawM = Dm at e
  simp [e3, e, e4]
/-! what is drawn -/
def Lv (b k : Nat) (T : D) : Prop := lvs T = true ∧ (sh T).length ≤ b ∧ dp T ≤ k
theorem Lv.le {b k b' k' : Nat} {T : D} (h : Lv b k T) (h1 : b ≤ b') (h2 : k ≤ k') : Lv b' k' T := ⟨h.1, by have := h.2.1; omega, by have := h.2.2; omega⟩
theorem text_ok {N : Nat} {rest h : LH} (hd : Dk N rest h) (hN : N < 900000) : ∃ z h', b__law_text pkM [.ref 1] h = .ok (.str z) h' ∧ z.length ≤ 8 ∧ ptx z = true ∧ Dk (N + 9) rest h' := by
  let sg : Str := " !\"#$&()*+,-./0123456789:;<=>?@ABZ[\\]^_`az{|}~"
  obtain ⟨d, h1, e1, m1, d1⟩ := pk_ok (l := [.int 0, .int 1, .int 3, .int 8]) hd (by omega) (by simp) (by simp)
  obtain ⟨n, rfl, hn⟩ : ∃ n : Int, d = .int n ∧ inRng n = true ∧ n.toNat ≤ 8 := by
    simp only [List.mem_cons, List.not_mem_nil, or_false] at m1
    rcases m1 with rfl | rfl | rfl | rfl <;> exact ⟨_, rfl, by decide, by decide⟩
  have sgp : ∀ c ∈ tl sg, pln c = true := List.all_eq_true.mp (by decide +kernel)
  obtain ⟨l, h2, e2, ll, d2, hl⟩ := lcL_run (vs := [2]) (g := gNm 2) (t := bYes) (e := mFn 2 pkM [] (aCons (mVar 0) (aCons (mVar 1) aNil))) (s := [some (.ref 1), some (.str sg), none]) (fun k h => Dk (N + 1 + k) rest h) (fun y => ∃ c, y = .str ⟨#[c]⟩ ∧ pln c = true) 8 (rngL 0 n.toNat) [] 0 h1 d1 (by simpa using hn.2) (by have := sizeLine_ge; simp; omega)
    (fun d _ k h hk hd => by
      obtain ⟨c, h', e, m, d'⟩ := pkS_ok (z := sg) hd (by omega) (by decide +kernel) (by decide +kernel)
      refine ⟨[some (.ref 1), some (.str sg), some d], _, h', rfl, rfl, ?_, d', c, rfl, sgp c m⟩
      simp [e])
  simp only [rngL_len] at ll d2
  obtain ⟨z, e3, lz, pz⟩ := join_signs (h := h2) (l := l) hl (by omega)
  refine ⟨z, h2, ?_, by omega, ?_, d2.mono (by omega)⟩
  · have rg := hn.1
    have ty : ∀ h, tyD h (.str "") = some "str" := fun _ => rfl
    have e2' : lcS [2] (gNm 2) bYes (mFn 2 pkM [] (aCons (mVar 0) (aCons (mVar 1) aNil))) [some (.ref 1), some (.str sg), none] 1000000 (fixS (rngL 0 n.toNat)) 0 [] h1 = .ok l h2 := by
      rw [lc_fix (by simp; omega), e2]
      simp
    have s4 : small 4 = true := rfl
    unfold b__law_text
    generalize pkM = Pm at e1 e2'
    rw [s0] at ty ⊢
    simp [e1, rg, mLc_ap, ty, s4, e2', sg, e3]
  · unfold ptx
    rw [List.all_eq_true]
    exact pz
end Wk00
namespace Wk00
open PySem PySem.Spec PyProof.Rows L2 DN
noncomputable abbrev leafM : FM := b__law_leaf pkM (b__law_text pkM)
def P39 : Int := 1000000000000000000000000000000000000000
theorem p39 {h : LH} : oPow h (.int 10) (.int 39) = some (.int P39) := by
  rw [oPow_ii, if_pos (by decide)]
  rw [show (10 : Int) ^ (39 : Int).toNat = P39 by decide +kernel]
theorem int_len {i : Int} (h1 : -G40 < i) (h2 : i < G40) : (sh (.int i)).length ≤ 41 := by
  have hl : (TL.numL i.natAbs).length ≤ 40 := TL.numL_len (by decide) (by unfold G40 at *; omega)
  show (intL i).length ≤ 41
  unfold intL
  split
  · rw [List.length_cons]; omega
  · omega
theorem Lv.int {i : Int} (h1 : -G40 < i) (h2 : i < G40) : Lv 42 0 (.int i) := ⟨by show (decide (-G40 < i) && decide (i < G40)) = true; simp [h1, h2], by have := int_len h1 h2; omega, Nat.le_refl _⟩
theorem Lv.str {z : Str} (h1 : ptx z = true) (h2 : z.length ≤ 8) : Lv 42 0 (.str z) := ⟨h1, by
  have := len_tl z
  show (39 :: tl z ++ [39]).length ≤ 42
  simp
  omega, Nat.le_refl _⟩
theorem leaf_d {N : Nat} {rest h : LH} (hd : Dk N rest h) (hN : N < 800000) : ∃ T h', leafM [.ref 1] h = .ok T h' ∧ Lv 42 0 T ∧ Dk (N + 10) rest h' := by
  obtain ⟨z, h1, e1, l1, p1, d1⟩ := text_ok hd (by omega)
  obtain ⟨T, h2, e2, m2, d2⟩ := pk_ok (l := [.non, .bl true, .bl false, .int 0, .int 1, .int (-1), .int 7, .int (-10), .int 1000000000000000000000000000000000000000, .int 9999999999999999999999999999999999999999, .int (-9999999999999999999999999999999999999999), .str "", .str "a", .str "-", .str "()", .str z]) d1 (by omega) (by simp) (by simp)
  refine ⟨T, h2, ?_, ?_, d2⟩
  · have s16 : small 16 = true := rfl
    unfold leafM b__law_leaf
    generalize b__law_text pkM = Tx at e1
    generalize pkM = Pm at e2
    simp [p39, P39, pw, G40, e1, s16, e2]
  · simp only [List.mem_cons, List.not_mem_nil, or_false] at m2
    rcases m2 with rfl | rfl | rfl | rfl | rfl | rfl | rfl | rfl | rfl | rfl | rfl | rfl | rfl | rfl | rfl | rfl
    · exact ⟨rfl, by decide, by decide⟩
    · exact ⟨rfl, by decide, by decide⟩
    · exact ⟨rfl, by decide, by decide⟩
    · exact Lv.int (by unfold G40; omega) (by unfold G40; omega)
    · exact Lv.int (by unfold G40; omega) (by unfold G40; omega)
    · exact Lv.int (by unfold G40; omega) (by unfold G40; omega)
    · exact Lv.int (by unfold G40; omega) (by unfold G40; omega)
    · exact Lv.int (by unfold G40; omega) (by unfold G40; omega)
    · exact Lv.int (by unfold G40; omega) (by unfold G40; omega)
    · exact Lv.int (by unfold G40; omega) (by unfold G40; omega)
    · exact Lv.int (by unfold G40; omega) (by unfold G40; omega)
    · exact Lv.str (by decide +kernel) (by decide +kernel)
    · exact Lv.str (by decide +kernel) (by decide +kernel)
    · exact Lv.str (by decide +kernel) (by decide +kernel)
    · exact Lv.str (by decide +kernel) (by decide +kernel)
    · exact Lv.str p1 l1
theorem shs_len : ∀ {l : List D} {b : Nat}, (∀ x ∈ l, (sh x).length ≤ b) → (shs l).length ≤ l.length * (b + 1)
  | [], _, _ => Nat.zero_le _
  | [d], b, h => by
    have := h d (by simp)
    simp only [shs, List.length_cons, List.length_nil]
    omega
  | d :: e :: r, b, h => by
    have h1 := h d (by simp)
    have h2 := shs_len (l := e :: r) fun x m => h x (by simp [m])
    simp only [shs, List.length_append, List.length_cons] at h2 ⊢
    rw [Nat.add_mul (r.length + 1)]
    omega
theorem Lv.tup {b k n : Nat} {l : List D} (h : ∀ x ∈ l, Lv b k x) (hn : l.length ≤ n) : Lv (2 + n * (b + 1)) (k + 1) (.tup l) := by
  have h1 := shs_len fun x m => (h x m).2.1
  have h2 := dps_le fun x m => (h x m).2.2
  have h3 := Nat.mul_le_mul_right (b + 1) hn
  refine ⟨?_, ?_, by simp only [dp]; omega⟩
  · rw [lvs_tup, List.all_eq_true]
    exact fun x m => (h x m).1
  · simp only [sh, List.length_append, List.length_cons, List.length_nil]
    omega
noncomputable def thRec : Nat → FM
  | 0 => fun _ _ => .no
  | n + 1 => b__law_thing drawM leafM (thRec n)
def Bk : Nat → Nat
  | 0 => 42
  | k + 1 => 2 + 3 * (Bk k + 1)
def Dc : Nat → Nat
  | 0 => 10
  | k + 1 => 12 + 3 * Dc k
theorem Bk_ge : ∀ k, 42 ≤ Bk k
  | 0 => Nat.le_refl _
  | k + 1 => by have := Bk_ge k; simp only [Bk]; omega
theorem thing_d : ∀ (k N : Nat) (rest h : LH), k ≤ 4 → Dk N rest h → N + Dc k < 100000 → ∃ T h', thRec (k + 1) [.ref 1, .int k] h = .ok T h' ∧ Lv (Bk k) k T ∧ Dk (N + Dc k) rest h'
  | 0, N, rest, h, _, hd, hN => by
    simp only [Dc] at hN
    obtain ⟨T, h1, e1, l1, d1⟩ := leaf_d hd (by omega)
    refine ⟨T, h1, ?_, l1, d1⟩
    show b__law_thing drawM leafM (thRec 0) [.ref 1, .int 0] h = _
    unfold b__law_thing
    generalize leafM = L at e1
    simp [oEq_ii, e1]
  | k + 1, N, rest, h, hk, hd, hN => by
    simp only [Dc] at hN
    have k0 : oEq h (.int ((k + 1 : Nat) : Int)) (.int 0) = some (.bl false) := by
      rw [oEq_ii]
      have : (((k + 1 : Nat) : Int) == 0) = false := by rw [beq_eq_false_iff_ne]; omega
      rw [this]
    have es : ((k + 1 : Nat) : Int) - 1 = (k : Int) := by omega
    obtain ⟨r, h1, e1, r1, r2, d1⟩ := draw_ok (lots := 3) hd (by omega) (by decide) (by decide)
    have q : oEq h1 (.int r) (.int 0) = some (.bl (decide (r = 0))) := by rw [oEq_ii]; rfl
    show ∃ T h', b__law_thing drawM leafM (thRec (k + 1)) [.ref 1, .int ((k + 1 : Nat) : Int)] h = _ ∧ _
    by_cases r0 : r = 0
    · rw [decide_eq_true r0] at q
      obtain ⟨T, h2, e2, l2, d2⟩ := leaf_d d1 (by omega)
      refine ⟨T, h2, ?_, l2.le (by have := Bk_ge (k + 1); omega) (by omega), d2.mono (by simp only [Dc]; omega)⟩
      generalize ((k + 1 : Nat) : Int) = K at k0
      unfold b__law_thing
      generalize leafM = L at e2
      generalize drawM = Dm at e1
      simp [k0, e1, q, e2]
    · rw [decide_eq_false r0] at q
      obtain ⟨m, h2, e2, m1, m2, d2⟩ := draw_ok (lots := 4) d1 (by omega) (by decide) (by decide)
      obtain ⟨l, h3, e3, ll, d3, hl⟩ := lcL_run (vs := [2]) (g := gNm 2) (t := bYes) (e := mFn 2 (thRec (k + 1)) [] (aCons (mVar 0) (aCons (mOp oSub (mVar 1) (mC (.int 1))) aNil))) (s := [some (.ref 1), some (.int ((k + 1 : Nat) : Int)), none]) (fun j h => Dk (N + 2 + j * Dc k) rest h) (fun y => Lv (Bk k) k y) 3 (rngL 0 m.toNat) [] 0 h2 (by simpa using d2) (by simp; omega) (by have := sizeLine_ge; simp; omega)
        (fun d _ j h hj hd => by
          obtain ⟨T, h', e, lv, d'⟩ := thing_d k (N + 2 + j * Dc k) rest h (by omega) hd (by
            have : j * Dc k ≤ 2 * Dc k := Nat.mul_le_mul_right _ (by omega)
            omega)
          refine ⟨[some (.ref 1), some (.int ((k + 1 : Nat) : Int)), some d], T, h', rfl, rfl, ?_, ?_, lv⟩
          · generalize thRec (k + 1) = R at e
            generalize ((k + 1 : Nat) : Int) = K at es
            simp [es, e]
          · show Dk (N + 2 + (j + 1) * Dc k) rest h'
            rw [Nat.add_mul, Nat.one_mul, ← Nat.add_assoc]
            exact d')
      simp only [rngL_len] at ll d3
      have lm : l.length ≤ 3 := by omega
      refine ⟨.tup l, h3, ?_, Lv.tup hl lm, d3.mono ?_⟩
      · have rg : inRng m = true := by
          unfold inRng
          simp
          omega
        have e3' : lcS [2] (gNm 2) bYes (mFn 2 (thRec (k + 1)) [] (aCons (mVar 0) (aCons (mOp oSub (mVar 1) (mC (.int 1))) aNil))) [some (.ref 1), some (.int ((k + 1 : Nat) : Int)), none] 1000000 (fixS (rngL 0 m.toNat)) 0 [] h2 = .ok l h3 := by
          rw [lc_fix (by simp; omega), e3]
          simp
        have ct : cTuple h3 [.lst l] = some (.tup l) := rfl
        unfold b__law_thing
        generalize thRec (k + 1) = R at e3'
        generalize leafM = L
        generalize drawM = Dm at e1 e2
        generalize ((k + 1 : Nat) : Int) = K at k0 e3'
        simp [k0, e1, q, e2, rg, mLc_ap, e3', ct]
      · have : (0 + m.toNat) * Dc k ≤ 3 * Dc k := Nat.mul_le_mul_right _ (by omega)
        simp only [Dc]
        omega
/-! chains, wide ones -/
noncomputable abbrev anyM : FM := b__law_any_thing leafM drawM pkM (thRec 5)
theorem lv_one {b k : Nat} {T : D} (h : Lv b k T) : Lv (b + 2) (k + 1) (.tup [T]) := ⟨by rw [lvs_tup]; simp [h.1], by have := h.2.1; simp [sh, shs]; omega, by have := h.2.2; simp [dp, dps]; omega⟩
theorem lv_ahead {b k : Nat} {T : D} (h : Lv b k T) : Lv (b + 4) (k + 1) (.tup [.int 1, T]) := ⟨by rw [lvs_tup]; simp [h.1]; rfl, by
  have := h.2.1
  have : (sh (.int 1)).length = 1 := rfl
  simp only [sh, shs, List.length_append, List.length_cons, List.length_nil]
  have : (lf (.int 1)).length = 1 := by simp [lf, intL, TL.numL_lt (show 1 < 10 by decide)]
  omega, by have := h.2.2; simp [dp, dps]; omega⟩
theorem lv_behind {b k : Nat} {T : D} (h : Lv b k T) : Lv (b + 4) (k + 1) (.tup [T, .non]) := ⟨by rw [lvs_tup]; simp [h.1]; rfl, by
  have := h.2.1
  simp only [sh, shs, lf, List.length_append, List.length_cons, List.length_nil]
  omega, by have := h.2.2; simp [dp, dps]; omega⟩
noncomputable def chBody : SM := (sSet 2 (mFn 2 pkM [] (aCons (mVar 0) (aCons (mLst (aCons (mTup (aCons (mVar 2) aNil)) (aCons (mTup (aCons (mVar 2) aNil)) (aCons (mTup (aCons (mC (.int 1)) (aCons (mVar 2) aNil))) (aCons (mTup (aCons (mVar 2) (aCons (mC .non) aNil))) aNil))))) aNil))))
theorem chain_loop {a b : Option D} {rest : LH} : ∀ (ds : List D) (N k : Nat) (h : LH) (T : D) (y : Option D), Dk N rest h → N + ds.length < 900000 → Lv (42 + 4 * k) k T → ∃ U h' y', forL (gNm 3) chBody ds [some (.ref 1), b, some T, y] h = .nx [some (.ref 1), b, some U, y'] h' ∧ Lv (42 + 4 * (k + ds.length)) (k + ds.length) U ∧ Dk (N + ds.length) rest h'
  | [], N, k, h, T, y, hd, _, lv => ⟨T, h, y, rfl, lv, hd⟩
  | d :: ds, N, k, h, T, y, hd, hN, lv => by
    rw [List.length_cons] at hN
    obtain ⟨U, h1, e1, m1, d1⟩ := pk_ok (l := [.tup [T], .tup [T], .tup [.int 1, T], .tup [T, .non]]) hd (by omega) (by simp) (by simp)
    have lu : Lv (42 + 4 * (k + 1)) (k + 1) U := by
      simp only [List.mem_cons, List.not_mem_nil, or_false] at m1
      rcases m1 with rfl | rfl | rfl | rfl
      · exact (lv_one lv).le (by omega) (Nat.le_refl _)
      · exact (lv_one lv).le (by omega) (Nat.le_refl _)
      · exact (lv_ahead lv).le (by omega) (Nat.le_refl _)
      · exact (lv_behind lv).le (by omega) (Nat.le_refl _)
    obtain ⟨V, h2, y', e2, l2, d2⟩ := chain_loop (a := a) (b := b) (rest := rest) ds (N + 1) (k + 1) h1 U (some d) d1 (by omega) lu
    refine ⟨V, h2, y', ?_, ?_, ?_⟩
    · have s1 : small 1 = true := rfl
      have s2 : small 2 = true := rfl
      have s4 : small 4 = true := rfl
      have eb : chBody [some (.ref 1), b, some T, some d] h = .nx [some (.ref 1), b, some U, some d] h1 := by
        unfold chBody
        generalize pkM = Pm at e1
        simp [s1, s2, s4, e1]
      unfold forL
      simp only [gNm_ap, List.set_cons_succ, List.set_cons_zero]
      rw [eb]
      simp only
      exact e2
    · rw [List.length_cons, show k + (ds.length + 1) = k + 1 + ds.length by omega]; exact l2
    · rw [List.length_cons, show N + (ds.length + 1) = N + 1 + ds.length by omega]; exact d2
theorem any_d {N : Nat} {rest h : LH} (hd : Dk N rest h) (hN : N < 90000) : ∃ T h', anyM [.ref 1] h = .ok T h' ∧ Lv 3602 200 T ∧ Dk (N + 1400) rest h' := by
  obtain ⟨r, h1, e1, r1, r2, d1⟩ := draw_ok (lots := 6) hd (by omega) (by decide) (by decide)
  obtain ⟨T, h2, e2, l2, d2⟩ := leaf_d d1 (by omega)
  have q0 : ∀ h, oEq h (.int r) (.int 0) = some (.bl (decide (r = 0))) := fun h => by rw [oEq_ii]; rfl
  have q1 : ∀ h, oEq h (.int r) (.int 1) = some (.bl (decide (r = 1))) := fun h => by rw [oEq_ii]; rfl
  by_cases r0 : r = 0
  · rw [decide_eq_true r0] at q0
    obtain ⟨d, h3, e3, m3, d3⟩ := pk_ok (l := [.int 20, .int 39, .int 99, .int 199]) d2 (by omega) (by simp) (by simp)
    obtain ⟨n, rfl, hn⟩ : ∃ n : Int, d = .int n ∧ inRng n = true ∧ n.toNat ≤ 199 := by
      simp only [List.mem_cons, List.not_mem_nil, or_false] at m3
      rcases m3 with rfl | rfl | rfl | rfl <;> exact ⟨_, rfl, by decide, by decide⟩
    obtain ⟨U, h4, y', e4, l4, d4⟩ := chain_loop (a := none) (b := some (.int r)) (rngL 0 n.toNat) (N + 1 + 10 + 1) 0 h3 T none d3 (by simp; omega) (by simpa using l2)
    simp only [rngL_len] at l4 d4
    refine ⟨.tup [U], h4, ?_, (lv_one l4).le (by omega) (by omega), d4.mono (by omega)⟩
    have rg := hn.1
    have s1 : small 1 = true := rfl
    have s4 : small 4 = true := rfl
    have e5 : forS 1000000 (fixS (rngL 0 n.toNat)) 0 (gNm 3) chBody [some (.ref 1), some (.int r), some T, none] h3 = .nx [some (.ref 1), some (.int r), some U, y'] h4 := by
      rw [for_fix (by simp; omega), e4]
    unfold anyM b__law_any_thing
    generalize leafM = L at e2
    unfold chBody at e5
    generalize pkM = Pm at e3 e5
    generalize drawM = Dm at e1
    simp [e1, e2, q0, s4, e3, rg, sFor_ap]
    rw [e5, then_nx]
    simp only [sRet_ap, mTup_ap, aCons_ap, aNil_ap, mVar_ap, List.getElem?_cons_succ, List.getElem?_cons_zero, slotR_some, R.bind_ok, List.length_cons, List.length_nil, Nat.zero_add, s1, if_true, q_ok, then_rt, fin_rt]
  · rw [decide_eq_false r0] at q0
    by_cases r1' : r = 1
    · rw [decide_eq_true r1'] at q1
      obtain ⟨l, h3, e3, ll, d3, hl⟩ := lcL_run (vs := [3]) (g := gNm 3) (t := bYes) (e := mFn 1 leafM [] (aCons (mVar 0) aNil)) (s := [some (.ref 1), some (.int r), some T, none]) (fun j h => Dk (N + 11 + j * 10) rest h) (fun y => Lv 42 0 y) 60 (rngL 0 (60 : Int).toNat) [] 0 h2 (by simpa using d2) (by rw [rngL_len]; decide) (by have := sizeLine_ge; simp; omega)
        (fun d _ j h hj hd => by
          obtain ⟨T', h', e, lv, d'⟩ := leaf_d hd (by omega)
          refine ⟨[some (.ref 1), some (.int r), some T, some d], T', h', rfl, rfl, ?_, ?_, lv⟩
          · generalize leafM = L at e
            simp [e]
          · show Dk (N + 11 + (j + 1) * 10) rest h'
            rw [Nat.add_mul, ← Nat.add_assoc]
            exact d')
      rw [rngL_len, show (60 : Int).toNat = 60 from rfl] at ll d3
      refine ⟨.tup l, h3, ?_, (Lv.tup hl (n := 60) (by omega)).le (by omega) (by omega), d3.mono (by omega)⟩
      have rg : inRng 60 = true := by decide
      have e3' : lcS [3] (gNm 3) bYes (mFn 1 leafM [] (aCons (mVar 0) aNil)) [some (.ref 1), some (.int r), some T, none] 1000000 (fixS (rngL 0 (60 : Int).toNat)) 0 [] h2 = .ok l h3 := by
        rw [lc_fix (by rw [rngL_len]; decide), e3]
        simp
      have ct : cTuple h3 [.lst l] = some (.tup l) := rfl
      unfold anyM b__law_any_thing
      generalize thRec 5 = R
      generalize leafM = L at e2 e3'
      generalize pkM = Pm
      generalize drawM = Dm at e1
      simp [-Int.reduceToNat, e1, e2, q0, q1, rg, mLc_ap, e3', ct]
    · rw [decide_eq_false r1'] at q1
      obtain ⟨U, h3, e3, l3, d3⟩ := thing_d 4 (N + 1 + 10) rest h2 (by decide) d2 (by
        have : Dc 4 = 1290 := by decide
        omega)
      refine ⟨U, h3, ?_, l3.le (by decide) (by decide), d3.mono (by
        have : Dc 4 = 1290 := by decide
        omega)⟩
      have e3' : thRec 5 [.ref 1, .int 4] h2 = .ok U h3 := e3
      unfold anyM b__law_any_thing
      generalize thRec 5 = R at e3'
      generalize leafM = L at e2
      generalize pkM = Pm
      generalize drawM = Dm at e1
      simp [e1, e2, q0, q1, e3']
end Wk00
namespace Wk00
open PySem PySem.Spec PyProof.Rows L2 DN
/-! the text put together -/
noncomputable def wRec : Nat → FM
  | 0 => fun _ _ => .no
  | n + 1 => b__law_words (wRec n)
theorem shs_part : ∀ {l : List D} {x : D}, x ∈ l → (sh x).length ≤ (shs l).length
  | [d], x, m => by
    simp at m
    subst m
    simp [shs]
  | d :: e :: r, x, m => by
    simp only [shs, List.length_append, List.length_cons]
    rcases List.mem_cons.mp m with rfl | m
    · omega
    · have := shs_part (l := e :: r) m
      omega
theorem sh_pos {d : D} (h : lvs d = true) : 1 ≤ (sh d).length := by
  cases ht : isTup d with
  | false =>
    obtain ⟨c, q, e, _⟩ := lf_cons ht (by rw [← lvs_leaf ht]; exact h)
    rw [sh_leaf ht, e]
    simp
  | true =>
    obtain ⟨l, rfl⟩ : ∃ l, d = .tup l := by
      cases d <;> first | exact ⟨_, rfl⟩ | (simp [isTup] at ht)
    simp [sh]
theorem len_shs : ∀ {l : List D}, (∀ x ∈ l, lvs x = true) → l.length ≤ (shs l).length
  | [], _ => Nat.le_refl _
  | [d], h => by
    have := sh_pos (h d (by simp))
    simpa [shs] using this
  | d :: e :: r, h => by
    have h1 := sh_pos (h d (by simp))
    have h2 := len_shs (l := e :: r) fun x m => h x (by simp [m])
    simp only [shs, List.length_append, List.length_cons] at h2 ⊢
    omega
theorem join_ok2 {h : LH} {ys : List Str} (hl : (joinL (ys.map tl)).length ≤ 9000) (hn : ys.length ≤ 9000) : gJoin h (.str " ") [.lst (ys.map .str)] = some (.str ⟨(joinL (ys.map tl)).toArray⟩, h) := by
  have e1 : strsOf h (.lst (ys.map .str)) = some ys := mapM_asS ys
  have e2 : ys.map (·.length) = (ys.map tl).map List.length := by rw [List.map_map]; exact List.map_congr_left fun y _ => len_tl y
  have e3 := sum_join (ys.map tl)
  unfold gJoin
  simp only [e1, Option.bind_some]
  rw [if_pos (decide_eq_true (by rw [e2]; show _ + ys.length * 1 ≤ _; omega))]
  congr 3
  refine str_mk ?_
  rw [TL.join_eq]
  exact tl_join32 ys
theorem words_ok : ∀ (n : Nat) (T : D) (h : LH), dp T < n → lvs T = true → (sh T).length ≤ 4000 → wRec n [T] h = .ok (.str ⟨(sh T).toArray⟩) h
  | 0, _, _, hn, _, _ => by omega
  | n + 1, T, h, hn, lv, hl => by
    have ok := (lvs_size lv).1
    have it := isi_tup (h := h) ok
    have is := isi_str (h := h) ok
    have ib := isi_bl (h := h) ok
    show b__law_words (wRec n) [T] h = _
    cases ht : isTup T with
    | true =>
      obtain ⟨l, rfl⟩ : ∃ l, T = .tup l := by
        cases T <;> first | exact ⟨_, rfl⟩ | (simp [isTup] at ht)
      have lvl : ∀ x ∈ l, lvs x = true := by
        rw [lvs_tup, List.all_eq_true] at lv
        exact lv
      have es : (sh (.tup l)).length = (shs l).length + 2 := by simp [sh]
      have ll := len_shs lvl
      have lc := lc_map (h := h) (i := 1) (s := [some (.tup l), none]) (e := mFn 1 (wRec n) [] (aCons (mVar 1) aNil)) (l := l) (fun x => .str ⟨(sh x).toArray⟩) (by omega) (fun x m => by
        have hx := shs_part m
        have dx : dp x ≤ dps l := dps_mem m
        have := words_ok n x h (by simp only [dp] at hn; omega) (lvl x m) (by omega)
        generalize wRec n = W at this
        simp [this])
      have e1 : (l.map fun x => D.str ⟨(sh x).toArray⟩) = (l.map fun x => (⟨(sh x).toArray⟩ : Str)).map .str := by rw [List.map_map]; rfl
      have e2 : ((l.map fun x => (⟨(sh x).toArray⟩ : Str)).map tl) = l.map sh := by
        rw [List.map_map]
        exact List.map_congr_left fun x _ => by simp [tl]
      have jn := join_ok2 (h := h) (ys := l.map fun x => (⟨(sh x).toArray⟩ : Str)) (by rw [e2, ← shs_join]; omega) (by simp; omega)
      rw [e2, ← shs_join, ← e1] at jn
      have ty : tyD h (.str " ") = some "str" := rfl
      have o1 : (("(" : Str)).length = 1 := rfl
      have o2 : ((")" : Str)).length = 1 := rfl
      have sl : (⟨(shs l).toArray⟩ : Str).length = (shs l).length := by rw [len_tl]; simp [tl]
      have s4 : small (1 + (shs l).length) = true := small_of (by omega)
      have s5 : small (1 + (shs l).length + 1) = true := small_of (by omega)
      have l2 : (("(" : Str) ++ (⟨(shs l).toArray⟩ : Str)).length = 1 + (shs l).length := by rw [len_app, o1, sl]
      rw [ht] at it
      unfold b__law_words
      generalize wRec n = W at lc
      simp [it, mLc_ap, lc, ty, jn, o1, o2, sl, s4, l2, s5]
      refine str_mk ?_
      rw [tl_app, tl_app, show tl ("(" : Str) = [40] by decide +kernel, show tl (")" : Str) = [41] by decide +kernel]
      simp [tl, sh]
    | false =>
      have lb : leafB T = true := by rw [← lvs_leaf ht]; exact lv
      rw [ht] at it
      rw [sh_leaf ht]
      unfold b__law_words
      generalize wRec n = W
      cases T with
      | non =>
        simp [it, is, isStr, in_non]
        exact str_mk (by decide +kernel)
      | bl b => cases b <;> simp [it, is, isStr, in_bl, ib, isBl] <;> exact str_mk (by decide +kernel)
      | int i =>
        simp only [leafB, Bool.and_eq_true, decide_eq_true_eq] at lb
        have i3 := str_int40 (h := h) lb.1 lb.2
        simp [it, is, isStr, in_int, ib, isBl, i3]
        exact toS i
      | str z =>
        have hz' : z.length ≤ 100000 := by
          have := len_tl z
          have : (sh (.str z)).length = (tl z).length + 2 := by
            show (39 :: tl z ++ [39]).length = _
            simp
          omega
        have l1 : ("'" : Str).length = 1 := rfl
        have l2 : (("'" : Str) ++ z).length = 1 + z.length := by rw [len_app, l1]
        have s4 : small (1 + z.length) = true := small_of (by omega)
        have s5 : small (1 + z.length + 1) = true := small_of (by omega)
        simp [it, is, isStr, l1, l2, s4, s5]
        refine str_mk ?_
        rw [tl_app, tl_app, show tl ("'" : Str) = [39] by decide +kernel]
        rfl
      | _ => simp [leafB] at lb
/-! near ones -/
noncomputable def nRec : Nat → FM
  | 0 => fun _ _ => .no
  | n + 1 => b__law_near drawM (nRec n) pkM
theorem mid_split {α : Type} {l : List α} {k : Nat} {x : α} (e : l[k]? = some x) : l = l.take k ++ x :: l.drop (k + 1) := by
  have hk : k < l.length := (List.getElem?_eq_some_iff.mp e).1
  have e1 : l[k] = x := (List.getElem?_eq_some_iff.mp e).2
  rw [← e1, List.getElem_cons_drop, List.take_append_drop]
theorem tup_cut {h : LH} (l : List D) (k : Nat) (hk : k < l.length) : oCut h (.tup l) none (some (k : Int)) = some (.tup (l.take k)) ∧ oCut h (.tup l) (some ((k : Int) + 1)) none = some (.tup (l.drop (k + 1))) := by
  constructor
  · show some (D.tup (cut l _ _)) = _
    unfold cut
    rw [HT.sIx_nat, Nat.min_eq_left (by omega)]
    simp [HT.sIx]
  · show some (D.tup (cut l _ _)) = _
    unfold cut
    rw [show ((k : Int) + 1) = ((k + 1 : Nat) : Int) by omega, HT.sIx_nat, Nat.min_eq_left (by omega)]
    simp [HT.sIx]
    exact List.take_of_length_le (by simp)
theorem near_ok : ∀ (n : Nat) (T : D) (N : Nat) (rest h : LH), dp T < n → okD T → szs [T] ≤ 500000 → Dk N rest h → N + 2 * n < 900000 → ∃ U h', nRec n [.ref 1, T] h = .ok U h' ∧ okD U ∧ sz U ≤ sz T + 100 ∧ mm U ≤ mm T + 10 ∧ Dk (N + 2 * n) rest h'
  | 0, _, _, _, _, hn, _, _, _, _ => by omega
  | n + 1, T, N, rest, h, hn, ok, hz, hd, hN => by
    have it := isi_tup (h := h) ok
    have okit : okc "it's" := okc_lit (by decide +kernel)
    have okab : okc "a\nb" := okc_lit (by decide +kernel)
    have oka : okc "a" := okc_lit (by decide +kernel)
    have oke : okc "" := okc_lit (by decide +kernel)
    have okt : okc "\t" := okc_lit (by decide +kernel)
    have pick : ∀ (N' : Nat) (h1 : LH), Dk N' rest h1 → N' < 900000 → ∃ U h', pkM [.ref 1, .lst [.lst [], .dct [], .str "it's", .str "a\nb", .int G40, .int (-G40), .lst [.int 1], .dct [(.inr "a", .int 1)], .tup [T, .lst []], T, .tup [T], .str "", .str "\t"]] h1 = .ok U h' ∧ okD U ∧ sz U ≤ sz T + 100 ∧ mm U ≤ mm T + 10 ∧ Dk (N' + 1) rest h' := fun N' h1 hd' hN' => by
      obtain ⟨U, h', e, m, d⟩ := pk_ok (l := [.lst [], .dct [], .str "it's", .str "a\nb", .int G40, .int (-G40), .lst [.int 1], .dct [(.inr "a", .int 1)], .tup [T, .lst []], T, .tup [T], .str "", .str "\t"]) hd' (by omega) (by simp) (by simp)
      refine ⟨U, h', e, ?_, ?_, ?_, d⟩
      · simp only [List.mem_cons, List.not_mem_nil, or_false] at m
        rcases m with rfl | rfl | rfl | rfl | rfl | rfl | rfl | rfl | rfl | rfl | rfl | rfl | rfl
        · trivial
        · trivial
        · exact okit
        · exact okab
        · exact ⟨by unfold G40; omega, by unfold G40; omega⟩
        · exact ⟨by unfold G40; omega, by unfold G40; omega⟩
        · exact ⟨⟨by decide, by decide⟩, trivial⟩
        · exact ⟨oka, ⟨by decide, by decide⟩, trivial⟩
        · exact ⟨ok, trivial, trivial⟩
        · exact ok
        · exact ⟨ok, trivial⟩
        · exact oke
        · exact okt
      · have l1 : ("it's" : Str).length = 4 := rfl
        have l2 : ("a\nb" : Str).length = 3 := rfl
        have l3 : ("a" : Str).length = 1 := rfl
        have l4 : ("" : Str).length = 0 := rfl
        have l5 : ("\t" : Str).length = 1 := rfl
        simp only [List.mem_cons, List.not_mem_nil, or_false] at m
        rcases m with rfl | rfl | rfl | rfl | rfl | rfl | rfl | rfl | rfl | rfl | rfl | rfl | rfl <;> first | (simp only [sz, szs, szk, kz, l1, l2, l3, l4, l5]; omega) | omega
      · have := mm_pos T
        simp only [List.mem_cons, List.not_mem_nil, or_false] at m
        rcases m with rfl | rfl | rfl | rfl | rfl | rfl | rfl | rfl | rfl | rfl | rfl | rfl | rfl <;> first | (simp only [mm, mms]; omega) | omega
    show ∃ U h', b__law_near drawM (nRec n) pkM [.ref 1, T] h = _ ∧ _
    have s0' : small 0 = true := rfl
    have s1 : small 1 = true := rfl
    have s2 : small 2 = true := rfl
    have s13 : small 13 = true := rfl
    have run0 : ∀ (h1 : LH) (v : Option D) (U : D) (h' : LH), pkM [.ref 1, .lst [.lst [], .dct [], .str "it's", .str "a\nb", .int G40, .int (-G40), .lst [.int 1], .dct [(.inr "a", .int 1)], .tup [T, .lst []], T, .tup [T], .str "", .str "\t"]] h1 = .ok U h' →
        sRet (mFn 2 pkM [] (aCons (mVar 0) (aCons (mLst (aCons (mLst aNil) (aCons mDNew (aCons (mC (.str "it's")) (aCons (mC (.str "a\nb")) (aCons (mOp oPow (mC (.int 10)) (mC (.int 40))) (aCons (mNeg (mOp oPow (mC (.int 10)) (mC (.int 40)))) (aCons (mLst (aCons (mC (.int 1)) aNil)) (aCons (mDct (dCons (mC (.str "a")) (mC (.int 1)) dNil)) (aCons (mTup (aCons (mVar 1) (aCons (mLst aNil) aNil))) (aCons (mVar 1) (aCons (mTup (aCons (mVar 1) aNil)) (aCons (mC (.str "")) (aCons (mC (.str "\t")) aNil)))))))))))))) aNil))) [some (.ref 1), some T, v] h1 = .rt U h' := fun h1 v U h' e => by
      generalize pkM = Pm at e
      simp [pw, G40, s0', s1, s2, s13] at e ⊢
      simp [e]
    cases ht : isTup T with
    | false =>
      rw [ht] at it
      obtain ⟨U, h', e, a1, a2, a3, d⟩ := pick N h hd (by omega)
      refine ⟨U, h', ?_, a1, a2, a3, d.mono (by omega)⟩
      have r0 := run0 h none U h' e
      unfold b__law_near
      generalize sRet (mFn 2 pkM [] (aCons (mVar 0) (aCons (mLst (aCons (mLst aNil) (aCons mDNew (aCons (mC (.str "it's")) (aCons (mC (.str "a\nb")) (aCons (mOp oPow (mC (.int 10)) (mC (.int 40))) (aCons (mNeg (mOp oPow (mC (.int 10)) (mC (.int 40)))) (aCons (mLst (aCons (mC (.int 1)) aNil)) (aCons (mDct (dCons (mC (.str "a")) (mC (.int 1)) dNil)) (aCons (mTup (aCons (mVar 1) (aCons (mLst aNil) aNil))) (aCons (mVar 1) (aCons (mTup (aCons (mVar 1) aNil)) (aCons (mC (.str "")) (aCons (mC (.str "\t")) aNil)))))))))))))) aNil))) = Rt at r0 ⊢
      simp [it, r0]
    | true =>
      obtain ⟨l, rfl⟩ : ∃ l, T = .tup l := by
        cases T <;> first | exact ⟨_, rfl⟩ | (simp [isTup] at ht)
      rw [ht] at it
      have ne : oNe h (.tup l) (.tup []) = some (.bl (!l.isEmpty)) := rfl
      cases hl : l.isEmpty with
      | true =>
        rw [hl] at ne
        obtain ⟨U, h', e, a1, a2, a3, d⟩ := pick N h hd (by omega)
        refine ⟨U, h', ?_, a1, a2, a3, d.mono (by omega)⟩
        have r0 := run0 h none U h' e
        unfold b__law_near
        generalize sRet (mFn 2 pkM [] (aCons (mVar 0) (aCons (mLst (aCons (mLst aNil) (aCons mDNew (aCons (mC (.str "it's")) (aCons (mC (.str "a\nb")) (aCons (mOp oPow (mC (.int 10)) (mC (.int 40))) (aCons (mNeg (mOp oPow (mC (.int 10)) (mC (.int 40)))) (aCons (mLst (aCons (mC (.int 1)) aNil)) (aCons (mDct (dCons (mC (.str "a")) (mC (.int 1)) dNil)) (aCons (mTup (aCons (mVar 1) (aCons (mLst aNil) aNil))) (aCons (mVar 1) (aCons (mTup (aCons (mVar 1) aNil)) (aCons (mC (.str "")) (aCons (mC (.str "\t")) aNil)))))))))))))) aNil))) = Rt at r0 ⊢
        simp [it, ne, s0', r0, -oNe_t0]
      | false =>
        rw [hl] at ne
        have lp : 0 < l.length := List.length_pos_iff.mpr (by rintro rfl; simp at hl)
        obtain ⟨r, h1, e1, r1, r2, d1⟩ := draw_ok (lots := 4) hd (by omega) (by decide) (by decide)
        by_cases r0 : (0 : Int) < r
        · have ll : l.length ≤ 900000 := by have := len_szs l; simp only [szs, sz] at hz; omega
          obtain ⟨a, h2, e2, a1, a2, d2⟩ := draw_ok (lots := (l.length : Int)) d1 (by omega) (by omega) (by omega)
          obtain ⟨k, rfl⟩ : ∃ k : Nat, a = k := ⟨a.toNat, by omega⟩
          have hk : k < l.length := by omega
          obtain ⟨x, ex⟩ : ∃ x, l[k]? = some x := ⟨l[k], List.getElem?_eq_getElem hk⟩
          have xm : x ∈ l := List.mem_of_getElem? ex
          have okl : okL l := by simpa only [okD] using ok
          have zx := szs_mem xm
          have dx := dps_mem xm
          simp only [szs, sz] at hz
          simp only [dp] at hn
          obtain ⟨U, h3, e3, u1, u2, u3, d3⟩ := near_ok n x (N + 1 + 1) rest h2 (by omega) (okL_mem.mp okl x xm) (by simp only [szs]; omega) d2 (by omega)
          have sp := mid_split ex
          have ix := ix_tup (h := h2) ex
          obtain ⟨c1, c2⟩ := tup_cut (h := h2) l k hk
          have c1' := (tup_cut (h := h3) l k hk).2
          have lt1 : (l.take k).length + 1 ≤ 1000000 := by simp; omega
          have lt2 : (l.take k).length + 1 + (l.drop (k + 1)).length ≤ 1000000 := by simp; omega
          have ad1 : oAdd h3 (.tup (l.take k)) (.tup [U]) = some (.tup (l.take k ++ [U])) := by
            rw [oAdd_tt, if_pos (small_of (by simp; omega))]
          have ad2 : oAdd h3 (.tup (l.take k ++ [U])) (.tup (l.drop (k + 1))) = some (.tup (l.take k ++ [U] ++ l.drop (k + 1))) := by
            rw [oAdd_tt, if_pos (small_of (by simp; omega))]
          refine ⟨.tup (l.take k ++ [U] ++ l.drop (k + 1)), h3, ?_, ?_, ?_, ?_, d3.mono (by omega)⟩
          · have ln := len_tup (h := h1) l
            unfold b__law_near
            generalize nRec n = Nr at e3
            generalize pkM = Pm
            generalize drawM = Dm at e1 e2
            simp [it, ne, s0', e1, r0, ln, e2, c1, ix, e3, s1, ad1, c1', ad2, -oNe_t0, -oAdd_tt]
          · show okL _
            rw [okL_mem]
            intro y m
            simp only [List.mem_append, List.mem_cons, List.not_mem_nil, or_false] at m
            rcases m with (m | rfl) | m
            · exact okL_mem.mp okl y (List.mem_of_mem_take m)
            · exact u1
            · exact okL_mem.mp okl y (List.mem_of_mem_drop m)
          · have := congrArg szs sp
            rw [szs_app] at this
            simp only [sz, szs_app, szs] at this ⊢
            omega
          · have := congrArg mms sp
            rw [mms_app] at this
            simp only [mm, mms_app, mms] at this ⊢
            omega
        · obtain ⟨U, h', e, a1, a2, a3, d⟩ := pick (N + 1) h1 d1 (by omega)
          refine ⟨U, h', ?_, a1, a2, a3, d.mono (by omega)⟩
          have rr := run0 h1 none U h' e
          unfold b__law_near
          generalize sRet (mFn 2 pkM [] (aCons (mVar 0) (aCons (mLst (aCons (mLst aNil) (aCons mDNew (aCons (mC (.str "it's")) (aCons (mC (.str "a\nb")) (aCons (mOp oPow (mC (.int 10)) (mC (.int 40))) (aCons (mNeg (mOp oPow (mC (.int 10)) (mC (.int 40)))) (aCons (mLst (aCons (mC (.int 1)) aNil)) (aCons (mDct (dCons (mC (.str "a")) (mC (.int 1)) dNil)) (aCons (mTup (aCons (mVar 1) (aCons (mLst aNil) aNil))) (aCons (mVar 1) (aCons (mTup (aCons (mVar 1) aNil)) (aCons (mC (.str "")) (aCons (mC (.str "\t")) aNil)))))))))))))) aNil))) = Rt at rr ⊢
          generalize drawM = Dm at e1
          simp [it, ne, s0', e1, r0, rr, -oNe_t0]
end Wk00
namespace Wk00
open PySem PySem.Spec PyProof.Rows L2 DN
/-! bent texts -/
noncomputable abbrev bentM : FM := b__law_bent drawM pkM
theorem ad2 {h : LH} (a b : List Nat) (hl : a.length + b.length ≤ 100000) : oAdd h (.str ⟨a.toArray⟩) (.str ⟨b.toArray⟩) = some (.str ⟨(a ++ b).toArray⟩) := by
  have l1 : (⟨a.toArray⟩ : Str).length = a.length := by rw [len_tl]; simp [tl]
  have l2 : (⟨b.toArray⟩ : Str).length = b.length := by rw [len_tl]; simp [tl]
  rw [oAdd_ss, if_pos (small_of (by omega))]
  congr 2
  refine str_mk ?_
  rw [tl_app]
  simp [tl]
theorem c_one {h : LH} {T : List Nat} (hz : T.length ≤ 100000) (n : Nat) : oCut h (.str ⟨T.toArray⟩) (some (n : Int)) (some ((n + 1 : Nat) : Int)) = some (.str ⟨((T.drop n).take 1).toArray⟩) := by
  have lz : (⟨T.toArray⟩ : Str).length = T.length := by rw [len_tl]; simp [tl]
  refine ocut (by omega) ?_
  rw [HT.sIx_nat, HT.sIx_nat, lz]
  have : tl (⟨T.toArray⟩ : Str) = T := by simp [tl]
  rw [this]
  by_cases hn : n < T.length
  · rw [Nat.min_eq_left (by omega), Nat.min_eq_left (by omega), show n + 1 - n = 1 by omega]
  · rw [Nat.min_eq_right (by omega), Nat.min_eq_right (by omega), List.drop_eq_nil_of_le (Nat.le_refl _), List.drop_eq_nil_of_le (by omega)]
    simp
theorem okc_mk {l : List Nat} (h : ∀ c ∈ l, c < 1114112) : okc ⟨l.toArray⟩ := fun c m => h c (by simpa [tl] using m)
theorem bent_ok {N : Nat} {rest h : LH} {T : List Nat} (hd : Dk N rest h) (hN : N < 900000) (hz : T.length ≤ 7500) (oz : ∀ c ∈ T, c < 1114112) :
    ∃ (Y : List Nat) (h' : LH), bentM [.ref 1, .str ⟨T.toArray⟩] h = .ok (.str ⟨Y.toArray⟩) h' ∧ Y.length ≤ 2 * T.length + 1 ∧ (∀ c ∈ Y, c < 1114112) ∧ Dk (N + 4) rest h' := by
  have lz : (⟨T.toArray⟩ : Str).length = T.length := by rw [len_tl]; simp [tl]
  have ln : ∀ h : LH, cLen h [.str ⟨T.toArray⟩] = some (.int T.length) := fun h => by rw [DN.len_str (by omega), lz]
  obtain ⟨a, h1, e1, a1, a2, d1⟩ := draw_ok (lots := (T.length : Int) + 1) hd (by omega) (by omega) (by omega)
  obtain ⟨k, rfl⟩ : ∃ k : Nat, a = k := ⟨a.toNat, by omega⟩
  have hk : k ≤ T.length := by omega
  obtain ⟨w, h2, e2, w1, w2, d2⟩ := draw_ok (lots := 6) d1 (by omega) (by decide) (by decide)
  obtain ⟨c, h3, e3, m3, d3⟩ := pkS_ok (z := " ()'+-!0129a") d2 (by omega) (by decide +kernel) (by decide +kernel)
  have hc : c < 1114112 := of_decide_eq_true (List.all_eq_true.mp (by decide +kernel : (tl (" ()'+-!0129a" : Str)).all (fun c => decide (c < 1114112)) = true) c m3)
  have tT : tl (⟨T.toArray⟩ : Str) = T := by simp [tl]
  have k1 : ((k : Int) + 1) = ((k + 1 : Nat) : Int) := by omega
  have k2 : ((k : Int) + 2) = ((k + 1 + 1 : Nat) : Int) := by omega
  have cto : ∀ (h : LH) (n : Nat), oCut h (.str ⟨T.toArray⟩) none (some (n : Int)) = some (.str ⟨(T.take n).toArray⟩) := fun h n => by rw [cut_to (by omega), tT]
  have cfr : ∀ (h : LH) (n : Nat), oCut h (.str ⟨T.toArray⟩) (some (n : Int)) none = some (.str ⟨(T.drop n).toArray⟩) := fun h n => by rw [cut_from (by omega), tT]
  have con : ∀ (h : LH) (n : Nat), oCut h (.str ⟨T.toArray⟩) (some (n : Int)) (some ((n + 1 : Nat) : Int)) = some (.str ⟨((T.drop n).take 1).toArray⟩) := fun h n => c_one (by omega) n
  have q : ∀ (h : LH) (j : Int), oEq h (.int w) (.int j) = some (.bl (decide (w = j))) := fun h j => by rw [oEq_ii]; rfl
  have mt : ∀ n, ∀ x ∈ T.take n, x < 1114112 := fun n x m => oz x (List.mem_of_mem_take m)
  have md : ∀ n, ∀ x ∈ T.drop n, x < 1114112 := fun n x m => oz x (List.mem_of_mem_drop m)
  have m1 : ∀ n, ∀ x ∈ (T.drop n).take 1, x < 1114112 := fun n x m => md n x (List.mem_of_mem_take m)
  have lt : ∀ n, (T.take n).length = min n T.length := fun n => List.length_take
  have ld : ∀ n, (T.drop n).length = T.length - n := fun n => List.length_drop
  have l1 : ∀ n, ((T.drop n).take 1).length = min 1 (T.length - n) := fun n => by rw [List.length_take, List.length_drop]
  -- the state behind the draws
  have start : ∀ X : SM, fin_ ((sSeq (sPar 3 4 (aCons (mFn 2 drawM [] (aCons (mVar 0) (aCons (mOp oAdd (mCall cLen (aCons (mVar 1) aNil)) (mC (.int 1))) aNil))) (aCons (mFn 2 drawM [] (aCons (mVar 0) (aCons (mC (.int 6)) aNil))) aNil))) (sSeq (sSet 2 (mFn 2 pkM [] (aCons (mVar 0) (aCons (mC (.str " ()'+-!0129a")) aNil)))) X)) [some (.ref 1), some (.str ⟨T.toArray⟩), none, none, none] h) = fin_ (X [some (.ref 1), some (.str ⟨T.toArray⟩), some (.str ⟨#[c]⟩), some (.int k), some (.int w)] h3) := fun X => by
    generalize pkM = Pm at e3
    generalize drawM = Dm at e1 e2
    simp [ln, e1, e2, e3]
  show ∃ Y h', fin_ ((sSeq (sPar 3 4 (aCons (mFn 2 drawM [] (aCons (mVar 0) (aCons (mOp oAdd (mCall cLen (aCons (mVar 1) aNil)) (mC (.int 1))) aNil))) (aCons (mFn 2 drawM [] (aCons (mVar 0) (aCons (mC (.int 6)) aNil))) aNil))) (sSeq (sSet 2 (mFn 2 pkM [] (aCons (mVar 0) (aCons (mC (.str " ()'+-!0129a")) aNil)))) _)) [some (.ref 1), some (.str ⟨T.toArray⟩), none, none, none] h) = _ ∧ _
  rw [start]
  have c1 : (⟨#[c]⟩ : Str) = ⟨([c] : List Nat).toArray⟩ := rfl
  rw [c1]
  rcases (by omega : w = 0 ∨ w = 1 ∨ w = 2 ∨ w = 3 ∨ w = 4 ∨ w = 5) with rfl | rfl | rfl | rfl | rfl | rfl
  · refine ⟨T.take k ++ T.drop (k + 1), h3, ?_, ?_, ?_, d3.mono (by omega)⟩
    · have a1 := ad2 (h := h3) (T.take k) (T.drop (k + 1)) (by rw [lt, ld]; omega)
      have f1 := cfr h3 (k + 1)
      rw [← k1] at f1
      simp [oEq_ii, cto, f1, a1, -oAdd_ss]
    · rw [List.length_append, lt, ld]; omega
    · intro x m
      rcases List.mem_append.mp m with m | m
      · exact mt _ x m
      · exact md _ x m
  · refine ⟨T.take k ++ (T.drop k).take 1 ++ T.drop k, h3, ?_, ?_, ?_, d3.mono (by omega)⟩
    · have a1 := ad2 (h := h3) (T.take k) ((T.drop k).take 1) (by rw [lt, l1]; omega)
      have a2 := ad2 (h := h3) (T.take k ++ (T.drop k).take 1) (T.drop k) (by rw [List.length_append, lt, l1, ld]; omega)
      have f1 := con h3 k
      rw [← k1] at f1
      have f2 := cfr h3 k
      have f3 := cto h3 k
      generalize T.take k = A at *
      generalize (T.drop k).take 1 = B at *
      generalize T.drop k = C at *
      simp [oEq_ii, f3, f1, f2, a1, a2, -oAdd_ss]
    · rw [List.length_append, List.length_append, lt, l1, ld]; omega
    · intro x m
      simp only [List.mem_append] at m
      rcases m with (m | m) | m
      · exact mt _ x m
      · exact m1 _ x m
      · exact md _ x m
  · refine ⟨T.take k ++ [c] ++ T.drop (k + 1), h3, ?_, ?_, ?_, d3.mono (by omega)⟩
    · have a1 := ad2 (h := h3) (T.take k) [c] (by rw [lt]; simp; omega)
      have a2 := ad2 (h := h3) (T.take k ++ [c]) (T.drop (k + 1)) (by rw [List.length_append, lt, ld]; simp; omega)
      have f1 := cfr h3 (k + 1)
      rw [← k1] at f1
      have f3 := cto h3 k
      generalize T.take k = A at *
      generalize T.drop (k + 1) = C at *
      generalize ([c] : List Nat) = B at *
      simp [oEq_ii, f3, f1, a1, a2, -oAdd_ss]
    · rw [List.length_append, List.length_append, lt, ld]; simp; omega
    · intro x m
      simp only [List.mem_append, List.mem_cons, List.not_mem_nil, or_false] at m
      rcases m with (m | rfl) | m
      · exact mt _ x m
      · exact hc
      · exact md _ x m
  · refine ⟨T.take k ++ [c] ++ T.drop k, h3, ?_, ?_, ?_, d3.mono (by omega)⟩
    · have a1 := ad2 (h := h3) (T.take k) [c] (by rw [lt]; simp; omega)
      have a2 := ad2 (h := h3) (T.take k ++ [c]) (T.drop k) (by rw [List.length_append, lt, ld]; simp; omega)
      have f1 := cfr h3 k
      have f3 := cto h3 k
      generalize T.take k = A at *
      generalize T.drop k = C at *
      generalize ([c] : List Nat) = B at *
      simp [oEq_ii, f3, f1, a1, a2, -oAdd_ss]
    · rw [List.length_append, List.length_append, lt, ld]; simp; omega
    · intro x m
      simp only [List.mem_append, List.mem_cons, List.not_mem_nil, or_false] at m
      rcases m with (m | rfl) | m
      · exact mt _ x m
      · exact hc
      · exact md _ x m
  · refine ⟨T.take k ++ (T.drop (k + 1)).take 1 ++ (T.drop k).take 1 ++ T.drop (k + 1 + 1), h3, ?_, ?_, ?_, d3.mono (by omega)⟩
    · have a1 := ad2 (h := h3) (T.take k) ((T.drop (k + 1)).take 1) (by rw [lt, l1]; omega)
      have a2 := ad2 (h := h3) (T.take k ++ (T.drop (k + 1)).take 1) ((T.drop k).take 1) (by rw [List.length_append, lt, l1, l1]; omega)
      have a3 := ad2 (h := h3) (T.take k ++ (T.drop (k + 1)).take 1 ++ (T.drop k).take 1) (T.drop (k + 1 + 1)) (by rw [List.length_append, List.length_append, lt, l1, l1, ld]; omega)
      have f1 := con h3 k
      rw [← k1] at f1
      have f2 := con h3 (k + 1)
      rw [← k1, ← k2] at f2
      have f3 := cto h3 k
      have f4 := cfr h3 (k + 1 + 1)
      rw [← k2] at f4
      generalize T.take k = A at *
      generalize (T.drop (k + 1)).take 1 = B at *
      generalize (T.drop k).take 1 = C at *
      generalize T.drop (k + 1 + 1) = E at *
      simp [oEq_ii, f3, f1, f2, f4, a1, a2, a3, -oAdd_ss, -List.append_assoc]
    · rw [List.length_append, List.length_append, List.length_append, lt, l1, l1, ld]; omega
    · intro x m
      simp only [List.mem_append] at m
      rcases m with ((m | m) | m) | m
      · exact mt _ x m
      · exact m1 _ x m
      · exact m1 _ x m
      · exact md _ x m
  · have ss : ∀ z l, z = (⟨(l : List Nat).toArray⟩ : Str) → oAdd h3 (.str ⟨T.toArray⟩) (.str z) = oAdd h3 (.str ⟨T.toArray⟩) (.str ⟨l.toArray⟩) := fun z l e => by rw [e]
    have sp : (" " : Str) = ⟨([32] : List Nat).toArray⟩ := s32
    have sn : ("\n" : Str) = ⟨([10] : List Nat).toArray⟩ := by decide +kernel
    have so : ("(" : Str) = ⟨([40] : List Nat).toArray⟩ := s40
    have sc : (")" : Str) = ⟨([41] : List Nat).toArray⟩ := s41
    have b1 : oAdd h3 (.str ⟨T.toArray⟩) (.str " ") = some (.str ⟨(T ++ [32]).toArray⟩) := by rw [sp]; exact ad2 _ _ (by simp; omega)
    have b2 : oAdd h3 (.str " ") (.str ⟨T.toArray⟩) = some (.str ⟨([32] ++ T).toArray⟩) := by rw [sp]; exact ad2 _ _ (by simp; omega)
    have b3 : oAdd h3 (.str ⟨T.toArray⟩) (.str ⟨T.toArray⟩) = some (.str ⟨(T ++ T).toArray⟩) := ad2 _ _ (by omega)
    have b4 : oAdd h3 (.str ⟨T.toArray⟩) (.str "\n") = some (.str ⟨(T ++ [10]).toArray⟩) := by rw [sn]; exact ad2 _ _ (by simp; omega)
    have b5 : oAdd h3 (.str "(") (.str ⟨T.toArray⟩) = some (.str ⟨([40] ++ T).toArray⟩) := by rw [so]; exact ad2 _ _ (by simp; omega)
    have b6 : oAdd h3 (.str ⟨T.toArray⟩) (.str ")") = some (.str ⟨(T ++ [41]).toArray⟩) := by rw [sc]; exact ad2 _ _ (by simp; omega)
    obtain ⟨d, h4, e4, m4, d4⟩ := pk_ok (l := [.str ⟨(T ++ [32]).toArray⟩, .str ⟨([32] ++ T).toArray⟩, .str ⟨(T ++ T).toArray⟩, .str ⟨(T ++ [10]).toArray⟩, .str ⟨([40] ++ T).toArray⟩, .str ⟨(T ++ [41]).toArray⟩]) d3 (by omega) (by simp) (by simp)
    obtain ⟨Y, rfl, hY, oY⟩ : ∃ Y : List Nat, d = .str ⟨Y.toArray⟩ ∧ Y.length ≤ 2 * T.length + 1 ∧ ∀ c ∈ Y, c < 1114112 := by
      have fin : ∀ A B : List Nat, A.length + B.length ≤ 2 * T.length + 1 → (∀ c ∈ A, c < 1114112) → (∀ c ∈ B, c < 1114112) → ∃ Y : List Nat, D.str ⟨(A ++ B).toArray⟩ = .str ⟨Y.toArray⟩ ∧ Y.length ≤ 2 * T.length + 1 ∧ ∀ c ∈ Y, c < 1114112 := fun A B a b c => ⟨A ++ B, rfl, by rw [List.length_append]; omega, fun x m => (List.mem_append.mp m).elim (b x) (c x)⟩
      simp only [List.mem_cons, List.not_mem_nil, or_false] at m4
      rcases m4 with rfl | rfl | rfl | rfl | rfl | rfl
      · exact fin _ _ (by simp; omega) oz (by simp)
      · exact fin _ _ (by simp; omega) (by simp) oz
      · exact fin _ _ (by omega) oz oz
      · exact fin _ _ (by simp; omega) oz (by simp)
      · exact fin _ _ (by simp; omega) (by simp) oz
      · exact fin _ _ (by simp; omega) oz (by simp)
    have s6 : small 6 = true := rfl
    refine ⟨Y, h4, ?_, hY, oY, d4.mono (by omega)⟩
    generalize (⟨(T ++ [32]).toArray⟩ : Str) = B1 at *
    generalize (⟨([32] ++ T).toArray⟩ : Str) = B2 at *
    generalize (⟨(T ++ T).toArray⟩ : Str) = B3 at *
    generalize (⟨(T ++ [10]).toArray⟩ : Str) = B4 at *
    generalize (⟨([40] ++ T).toArray⟩ : Str) = B5 at *
    generalize (⟨(T ++ [41]).toArray⟩ : Str) = B6 at *
    generalize pkM = Pm at e4
    simp [oEq_ii, b1, b2, b3, b4, b5, b6, s6, e4, -oAdd_ss]
end Wk00
namespace Wk00
open PySem PySem.Spec PyProof.Rows L2 DN
noncomputable abbrev wordsM : FM := wRec 202
noncomputable abbrev nearM : FM := nRec 202
noncomputable abbrev rightM (cl : Cl) : FM := b__law_is_read_right lreadM ltoldM (heardM cl)
mutual
theorem told_of : ∀ (d : D) (k : Nat), lvs d = true → dp d + k ≤ 200 → told k d = true
  | .tup l, k, h, hk => by
    simp only [lvs] at h
    simp only [dp] at hk
    simp only [told, Bool.and_eq_true, decide_eq_true_eq]
    exact ⟨by omega, tolds_of l (k + 1) h (by omega)⟩
  | .non, _, h, _ => h
  | .bl _, _, h, _ => h
  | .int _, _, h, _ => h
  | .str _, _, h, _ => h
  | .lst _, _, h, _ => h
  | .dct _, _, h, _ => h
  | .kst _, _, h, _ => h
  | .ref _, _, h, _ => h
  | .st _, _, h, _ => h
  | .exn _ _ _ _, _, h, _ => h
theorem tolds_of : ∀ (l : List D) (k : Nat), lvss l = true → dps l + k ≤ 200 → tolds k l = true
  | [], _, _, _ => rfl
  | d :: l, k, h, hk => by
    simp only [lvss, Bool.and_eq_true] at h
    simp only [dps] at hk
    simp only [tolds, Bool.and_eq_true]
    exact ⟨told_of d k h.1 (by omega), tolds_of l k h.2 (by omega)⟩
end
theorem rp {h : LH} {d : D} (ok : okD d) (hz : sz d ≤ 1000000) (hd : dp d ≤ 600) : ∃ t, cRepr h [d] = some (.str t) := by
  obtain ⟨p, _, e⟩ := repr_of (h := h) ok hz hd
  exact ⟨_, e⟩
/-- behind the bent line -/
noncomputable def lTail (cl : Cl) : SM := (sIf (mTest (mOp oLt (mMeth "str" gCount (mVar 6) (aCons (mC (.str "(")) aNil)) (mC (.int 30))))
  (sSeq (sSet 8 (mFn 2 bentM [] (aCons (mVar 1) (aCons (mVar 6) aNil))))
  (sSeq (sSet 8 (mIf (mTest (mOp oEq (mFn 2 drawM [] (aCons (mVar 1) (aCons (mC (.int 3)) aNil))) (mC (.int 0)))) (mFn 2 bentM [] (aCons (mVar 1) (aCons (mVar 8) aNil))) (mVar 8)))
  (sIf (mNotT (mTest (mFn 3 (rightM cl) [] (aCons (mVar 1) (aCons (mVar 8) (aCons (mOp oEq (mOp oAnd (mVar 2) (mC (.int 1))) (mC (.int 1))) aNil))))))
  (sRet (mC (.bl false)))
  sNil)))
  sNil)
theorem tail_ok {cl : Cl} {N : Nat} {rest h : LH} {T : List Nat} {t : Int} {a b c d e f : Option D} (hd : Dk N rest h) (hN : N < 800000) (hz : T.length ≤ 3700) (oz : ∀ c ∈ T, c < 1114112) :
    ∃ f' h', lTail cl [a, some (.ref 1), some (.int t), b, c, d, some (.str ⟨T.toArray⟩), e, f] h = .nx [a, some (.ref 1), some (.int t), b, c, d, some (.str ⟨T.toArray⟩), e, f'] h' ∧ Dk (N + 9) rest h' := by
  have ct : gCount h (.str ⟨T.toArray⟩) [.str "("] = some (.int ((tl ⟨T.toArray⟩).count 40 : Nat), h) := by rw [s40]; exact count_ok
  have ty : tyD h (.str ⟨T.toArray⟩) = some "str" := rfl
  generalize ((tl ⟨T.toArray⟩).count 40 : Nat) = m at ct
  by_cases hm : (m : Int) < 30
  · obtain ⟨Y, h1, e1, l1, o1, d1⟩ := bent_ok hd (by omega) (show T.length ≤ 7500 by omega) oz
    obtain ⟨r, h2, e2, r1, r2, d2⟩ := draw_ok (lots := 3) d1 (by omega) (by decide) (by decide)
    have q : oEq h2 (.int r) (.int 0) = some (.bl (decide (r = 0))) := by rw [oEq_ii]; rfl
    have q2 : ∀ h, oEq h (.int (Builtin.bitAnd t 1)) (.int 1) = some (.bl (Builtin.bitAnd t 1 == 1)) := fun h => oEq_ii _ _
    have oa : ∀ h, oAnd h (.int t) (.int 1) = some (.int (Builtin.bitAnd t 1)) := fun _ => rfl
    obtain ⟨Z, h3, eZ, lZ, oZ, d3⟩ : ∃ (Z : List Nat) (h3 : LH), (mIf (mTest (mOp oEq (mFn 2 drawM [] (aCons (mVar 1) (aCons (mC (.int 3)) aNil))) (mC (.int 0)))) (mFn 2 bentM [] (aCons (mVar 1) (aCons (mVar 8) aNil))) (mVar 8)) [a, some (.ref 1), some (.int t), b, c, d, some (.str ⟨T.toArray⟩), e, some (.str ⟨Y.toArray⟩)] h1 = .ok (.str ⟨Z.toArray⟩) h3 ∧ Z.length ≤ 16000 ∧ (∀ c ∈ Z, c < 1114112) ∧ Dk (N + 9) rest h3 := by
      by_cases r0 : r = 0
      · rw [decide_eq_true r0] at q
        obtain ⟨Z, h3, e3, l3, o3, d3⟩ := bent_ok d2 (by omega) (show Y.length ≤ 7500 by omega) o1
        refine ⟨Z, h3, ?_, by omega, o3, d3.mono (by omega)⟩
        generalize bentM = Bm at e3
        generalize drawM = Dm at e2
        simp [e2, q, e3]
      · rw [decide_eq_false r0] at q
        refine ⟨Y, h2, ?_, by omega, o1, d2.mono (by omega)⟩
        generalize bentM = Bm
        generalize drawM = Dm at e2
        simp [e2, q]
    have ri : rightM cl [.ref 1, .str ⟨Z.toArray⟩, .bl (Builtin.bitAnd t 1 == 1)] h3 = .ok (.bl true) h3 := right_ok (cl := cl) (h := h3) (x := .ref 1) (z := ⟨Z.toArray⟩) (b := Builtin.bitAnd t 1 == 1) (by rw [len_tl]; simp [tl]; omega) (okc_mk oZ)
    refine ⟨some (.str ⟨Z.toArray⟩), h3, ?_, d3⟩
    unfold lTail
    generalize (mIf (mTest (mOp oEq (mFn 2 drawM [] (aCons (mVar 1) (aCons (mC (.int 3)) aNil))) (mC (.int 0)))) (mFn 2 bentM [] (aCons (mVar 1) (aCons (mVar 8) aNil))) (mVar 8)) = I at eZ ⊢
    generalize bentM = Bm at e1
    generalize rightM cl = Rm at ri
    simp [ty, ct, hm, e1, eZ, oa, q2, ri]
  · refine ⟨f, h, ?_, hd.mono (by omega)⟩
    unfold lTail
    generalize bentM = Bm
    generalize rightM cl = Rm
    simp [ty, ct, hm]
noncomputable def lBody (cl : Cl) : SM := (sSeq (sSet 4 (mFn 1 anyM [] (aCons (mVar 1) aNil)))
  (sSeq (sPar 6 7 (aCons (mFn 1 wordsM [] (aCons (mVar 4) aNil)) (aCons (mCall cRepr (aCons (mVar 4) aNil)) aNil)))
  (sSeq (sIf (mTest (mOp oNe (mCall cRepr (aCons (mLst (aCons (mFn 1 isM [] (aCons (mVar 4) aNil)) (aCons (mFnK 1 0 1 [.kw 0] isM [] aNil (aCons (mVar 4) aNil)) (aCons (mFn 1 showM [] (aCons (mVar 4) aNil)) (aCons (mFnK 1 0 1 [.kw 0] showM [] aNil (aCons (mVar 4) aNil)) aNil))))) aNil)) (mCall cRepr (aCons (mLst (aCons (mC (.bl true)) (aCons (mC (.bl true)) (aCons (mVar 6) (aCons (mVar 6) aNil))))) aNil))))
  (sRet (mC (.bl false)))
  sNil)
  (sSeq (sIf (mOrT (mTest (mOp oNe (mCall cRepr (aCons (mLst (aCons (mFn 1 (readM cl) [] (aCons (mVar 6) aNil)) (aCons (mFnK 1 0 1 [.kw 0] (readM cl) [] aNil (aCons (mVar 6) aNil)) aNil))) aNil)) (mCall cRepr (aCons (mLst (aCons (mVar 4) (aCons (mVar 4) aNil))) aNil)))) (mTest (mOp oNe (mCall cRepr (aCons (mVar 4) aNil)) (mVar 7))))
  (sRet (mC (.bl false)))
  sNil)
  (sSeq (sSet 5 (mFn 2 nearM [] (aCons (mVar 1) (aCons (mVar 4) aNil))))
  (sSeq (sIf (mTest (mOp oNe (mCall cRepr (aCons (mFn 1 isM [] (aCons (mVar 5) aNil)) aNil)) (mCall cRepr (aCons (mFn 1 ltoldM [] (aCons (mVar 5) aNil)) aNil))))
  (sRet (mC (.bl false)))
  sNil)
  (lTail cl)))))))
theorem body_ok {cl : Cl} {N : Nat} {rest h : LH} {t : Int} {a b c d e f g : Option D} (hd : Dk N rest h) (hN : N < 80000) :
    ∃ c' d' e' f' g' h', lBody cl [a, some (.ref 1), some (.int t), b, c, d, e, f, g] h = .nx [a, some (.ref 1), some (.int t), b, c', d', e', f', g'] h' ∧ Dk (N + 2000) rest h' := by
  obtain ⟨T, h1, e1, lv, d1⟩ := any_d hd (by omega)
  obtain ⟨lv, lb, ld⟩ := lv
  obtain ⟨ok, z1, z2⟩ := lvs_size lv
  have nm := nd_mm T
  have ht := told_of T 0 lv (by omega)
  have w : wordsM [T] h1 = .ok (.str ⟨(sh T).toArray⟩) h1 := words_ok 202 T h1 (by omega) lv (by omega)
  have i1 : ∀ h, isM [T] h = .ok (.bl true) h := fun h => by
    have : isM [T] h = .ok (.bl (told 0 T)) h := is_told_ok ok (by omega) (by omega)
    rw [this, ht]
  have s1 : ∀ h, showM [T] h = .ok (.str ⟨(sh T).toArray⟩) h := fun h => show_ok ok (by omega) (by omega) lv (by omega)
  have tz : tl (⟨(sh T).toArray⟩ : Str) = sh T := by simp [tl]
  have lz : (⟨(sh T).toArray⟩ : Str).length = (sh T).length := by rw [len_tl, tz]
  have oT : ∀ c ∈ sh T, c < 1114112 := by
    intro c m
    have key : ∀ (d : D), lvs d = true → ∀ c ∈ sh d, c < 1114112 := by
      intro d
      refine (show ∀ n (d : D), sizeOf d < n → lvs d = true → ∀ c ∈ sh d, c < 1114112 from ?_) (sizeOf d + 1) d (Nat.lt_succ_self _)
      intro n
      induction n with
      | zero => intro d hs; omega
      | succ n ih =>
        intro d hs h c m
        cases hd : isTup d with
        | true =>
          obtain ⟨l, rfl⟩ : ∃ l, d = .tup l := by
            cases d <;> first | exact ⟨_, rfl⟩ | (simp [isTup] at hd)
          rw [lvs_tup, List.all_eq_true] at h
          have hl : ∀ l : List D, (∀ x ∈ l, ∀ c ∈ sh x, c < 1114112) → ∀ c ∈ shs l, c < 1114112 := by
            intro l
            induction l with
            | nil => intro _ c m; simp [shs] at m
            | cons x r ih2 =>
              intro hx c m
              cases r with
              | nil =>
                simp only [shs] at m
                exact hx x (by simp) c m
              | cons y r =>
                simp only [shs, List.mem_append, List.mem_cons] at m
                rcases m with m | rfl | m
                · exact hx x (by simp) c m
                · decide
                · exact ih2 (fun z mz => hx z (by simp [mz])) c m
          simp only [sh, List.cons_append, List.mem_cons, List.mem_append, List.not_mem_nil, or_false] at m
          rcases m with rfl | m | rfl
          · decide
          · refine hl l (fun x mx => ih x ?_ (h x mx)) c m
            have := List.sizeOf_lt_of_mem mx
            simp only [D.tup.sizeOf_spec] at hs
            omega
          · decide
        | false =>
          rw [sh_leaf hd] at m
          rw [lvs_leaf hd] at h
          cases d with
          | non => simp [lf] at m; omega
          | bl b => cases b <;> simp [lf] at m <;> omega
          | int i => have := intL_signs i c m; omega
          | str z =>
            simp only [lf, List.cons_append, List.mem_cons, List.mem_append, List.not_mem_nil, or_false] at m
            rcases m with rfl | m | rfl
            · decide
            · have := List.all_eq_true.mp (show (tl z).all pln = true from h) c m
              simp only [pln, Bool.and_eq_true, decide_eq_true_eq] at this
              omega
            · decide
          | tup l => simp [isTup] at hd
          | _ => simp [leafB] at h
    exact key T lv c m
  have oz : okc (⟨(sh T).toArray⟩ : Str) := okc_mk oT
  have rd : ∀ h, readM cl [.str ⟨(sh T).toArray⟩] h = .ok T h := fun h => by
    rcases read_ok (cl := cl) (h := h) (z := ⟨(sh T).toArray⟩) (by omega) oz with ⟨U, wu, e⟩ | ⟨hn, _⟩
    · have := (show Wr ⟨(sh T).toArray⟩ T from ⟨ht, tz⟩).uniq wu
      rw [← this] at e
      exact e
    · exact (hn ⟨T, ht, tz⟩).elim
  obtain ⟨t1, p1⟩ := rp (h := h1) ok (by omega) (by omega)
  obtain ⟨t2, p2⟩ := rp (h := h1) (d := .lst [.bl true, .bl true, .str ⟨(sh T).toArray⟩, .str ⟨(sh T).toArray⟩]) ⟨trivial, trivial, oz, oz, trivial⟩ (by simp only [sz, szs, lz]; omega) (by simp only [dp, dps]; omega)
  obtain ⟨t3, p3⟩ := rp (h := h1) (d := .lst [T, T]) ⟨ok, ok, trivial⟩ (by simp only [sz, szs]; omega) (by simp only [dp, dps]; omega)
  obtain ⟨U, h2, (e2 : nearM [.ref 1, T] h1 = .ok U h2), ok2, y1, y2, d2⟩ := near_ok 202 T (N + 1400) rest h1 (by omega) ok (by simp only [szs]; omega) d1 (by omega)
  have nm2 := nd_mm U
  have i2 : isM [U] h2 = .ok (.bl (told 0 U)) h2 := is_told_ok ok2 (by omega) (by omega)
  have l2 : ltoldM [U] h2 = .ok (.bl (told 0 U)) h2 := law_told_ok ok2 (by omega) (by omega)
  obtain ⟨t4, p4⟩ := rp (h := h2) (d := .bl (told 0 U)) trivial (by simp [sz]) (by simp [dp])
  obtain ⟨g', h3, e3, d3⟩ := tail_ok (cl := cl) (t := t) (a := a) (b := b) (c := some T) (d := some U) (e := some (.str t1)) (f := g) d2 (by omega) (show (sh T).length ≤ 3700 by omega) oT
  refine ⟨some T, some U, some (D.str ⟨(sh T).toArray⟩), some (D.str t1), g', h3, ?_, d3.mono (by omega)⟩
  have s2 : small 2 = true := rfl
  have s4 : small 4 = true := rfl
  have pk1 : pick [] [T] [] [.kw 0] = [T] := rfl
  have pk2 : pick [] [D.str ⟨(sh T).toArray⟩] [] [.kw 0] = [D.str ⟨(sh T).toArray⟩] := rfl
  unfold lBody
  generalize (⟨(sh T).toArray⟩ : Str) = Z at *
  generalize lTail cl = Tm at e3
  generalize anyM = Am at e1
  generalize wordsM = Wm at w
  generalize isM = Im at i1 i2
  generalize showM = Sm at s1
  generalize readM cl = Rm at rd
  generalize nearM = Nm at e2
  generalize ltoldM = Lm at l2
  simp [e1, w, p1, i1, pk1, s1, s4, p2, rd, pk2, s2, p3, e2, i2, l2, p4, e3]
theorem loop_ok {cl : Cl} {rest : LH} {a b : Option D} : ∀ (ds : List D) (N : Nat) (h : LH) (t c d e f g : Option D), Dk N rest h → N + 2000 * ds.length < 80000 → (∀ x ∈ ds, ∃ i, x = .int i) → ∃ t' c' d' e' f' g' h', forL (gNm 2) (lBody cl) ds [a, some (.ref 1), t, b, c, d, e, f, g] h = .nx [a, some (.ref 1), t', b, c', d', e', f', g'] h' ∧ Dk (N + 2000 * ds.length) rest h'
  | [], N, h, t, c, d, e, f, g, hd, _, _ => ⟨t, c, d, e, f, g, h, rfl, hd⟩
  | x :: ds, N, h, t, c, d, e, f, g, hd, hN, hx => by
    rw [List.length_cons] at hN
    obtain ⟨i, rfl⟩ := hx x (by simp)
    obtain ⟨c1, d1, e1, f1, g1, h1, q1, k1⟩ := body_ok (cl := cl) (t := i) (a := a) (b := b) (c := c) (d := d) (e := e) (f := f) (g := g) hd (by omega)
    obtain ⟨t2, c2, d2, e2, f2, g2, h2, q2, k2⟩ := loop_ok (cl := cl) (a := a) (b := b) ds (N + 2000) h1 (some (.int i)) c1 d1 e1 f1 g1 k1 (by omega) (fun y m => hx y (by simp [m]))
    refine ⟨t2, c2, d2, e2, f2, g2, h2, ?_, k2.mono (by rw [List.length_cons]; omega)⟩
    unfold forL
    simp only [gNm_ap, List.set_cons_succ, List.set_cons_zero]
    rw [q1]
    simp only
    exact q2
def oddL : List D := [.non, .int 0, .bl true, .tup [], .tup [.str "-"], .lst [.str "-"], .dct [], .str "", .str " ", .str "00", .str "-0", .str "01", .str "(1  2)", .str "( 1)", .str "(1 )", .str "'", .str "+-", .str "1 2", .str "-5", .str "(-)", .str (sRep "10" 21)]
theorem law_ok (cl : Cl) {ns : List Int} (hl : ns.length ≤ 63) : ∃ h', b_law b__law_deck anyM wordsM showM isM (readM cl) nearM ltoldM bentM drawM (rightM cl) pkM (heardM cl) [.kst (ns.map .int)] [] = .ok (.bl true) h' := by
  obtain ⟨h1, e1, d1⟩ := deck_ok hl
  obtain ⟨t, c, d, e, f, g, h2, e2, d2⟩ := loop_ok (cl := cl) (a := some (.kst (ns.map .int))) (b := none) (rngL 0 (6 : Int).toNat) 0 h1 none none none none none none d1 (by rw [rngL_len]; decide) (fun x m => by
    unfold rngL at m
    simp only [List.mem_map] at m
    obtain ⟨k, _, rfl⟩ := m
    exact ⟨_, rfl⟩)
  rw [rngL_len, show (6 : Int).toNat = 6 from rfl] at d2
  obtain ⟨o, h3, e3, m3, d3⟩ := pk_ok (l := oddL) d2 (by omega) (by simp [oddL]) (by decide)
  have e2' : forS 1000000 (fixS (rngL 0 (6 : Int).toNat)) 0 (gNm 2) (lBody cl) [some (.kst (ns.map .int)), some (.ref 1), none, none, none, none, none, none, none] h1 = .nx [some (.kst (ns.map .int)), some (.ref 1), t, none, c, d, e, f, g] h2 := by
    rw [for_fix (by rw [rngL_len]; decide), e2]
  have rg : inRng 6 = true := by decide
  have mu : ∀ h, oMul h (.str "10") (.int 21) = some (.str (sRep "10" 21)) := fun h => by
    rw [oMul_si, if_pos (by decide +kernel)]
  have s0' : small 0 = true := rfl
  have s1 : small 1 = true := rfl
  have s21 : small 21 = true := rfl
  -- up to the odd one
  have run : ∀ X : SM, fin_ ((sSeq (sSet 1 (mFn 1 b__law_deck [] (aCons (mVar 0) aNil)))
  (sSeq (sFor 1000000 (iRng1 (aCons (mC (.int 6)) aNil)) (gNm 2) (lBody cl))
  (sSeq (sSet 3 (mFn 2 pkM [] (aCons (mVar 1) (aCons (mLst (aCons (mC .non) (aCons (mC (.int 0)) (aCons (mC (.bl true)) (aCons (mTup aNil) (aCons (mTup (aCons (mC (.str "-")) aNil)) (aCons (mLst (aCons (mC (.str "-")) aNil)) (aCons mDNew (aCons (mC (.str "")) (aCons (mC (.str " ")) (aCons (mC (.str "00")) (aCons (mC (.str "-0")) (aCons (mC (.str "01")) (aCons (mC (.str "(1  2)")) (aCons (mC (.str "( 1)")) (aCons (mC (.str "(1 )")) (aCons (mC (.str "'")) (aCons (mC (.str "+-")) (aCons (mC (.str "1 2")) (aCons (mC (.str "-5")) (aCons (mC (.str "(-)")) (aCons (mOp oMul (mC (.str "10")) (mC (.int 21))) aNil)))))))))))))))))))))) aNil)))) X))) [some (.kst (ns.map .int)), none, none, none, none, none, none, none, none] []) = fin_ (X [some (.kst (ns.map .int)), some (.ref 1), t, some o, c, d, e, f, g] h3) := fun X => by
    unfold oddL at e3
    generalize lBody cl = Bm at e2'
    generalize pkM = Pm at e3
    generalize b__law_deck = Dm at e1
    simp [-Int.reduceToNat, e1, rg, sFor_ap]
    rw [e2', then_nx]
    simp [mu, s0', s1, s21, e3]
  have st : ∀ X Y : R D, X = Y → (∃ h', Y = .ok (.bl true) h') → ∃ h', X = .ok (.bl true) h' := fun X Y a b => by rw [a]; exact b
  refine st _ _ (run _) ?_
  have oko : okD o ∧ (∀ z, o = .str z → z.length ≤ 16000 ∧ okc z) := by
    have ob : ∀ z : Str, (decide (z.length ≤ 16000) && (tl z).all (fun c => decide (c < 1114112))) = true → okD (.str z) ∧ (∀ y, D.str z = .str y → y.length ≤ 16000 ∧ okc y) := fun z hz => by
      rw [Bool.and_eq_true, decide_eq_true_eq] at hz
      exact ⟨okc_lit hz.2, fun y e => by cases e; exact ⟨hz.1, okc_lit hz.2⟩⟩
    have okm : okc "-" := okc_lit (by decide +kernel)
    unfold oddL at m3
    simp only [List.mem_cons, List.not_mem_nil, or_false] at m3
    rcases m3 with rfl | rfl | rfl | rfl | rfl | rfl | rfl | rfl | rfl | rfl | rfl | rfl | rfl | rfl | rfl | rfl | rfl | rfl | rfl | rfl | rfl
    · exact ⟨trivial, fun z e => by cases e⟩
    · exact ⟨⟨by decide, by decide⟩, fun z e => by cases e⟩
    · exact ⟨trivial, fun z e => by cases e⟩
    · exact ⟨trivial, fun z e => by cases e⟩
    · exact ⟨⟨okm, trivial⟩, fun z e => by cases e⟩
    · exact ⟨⟨okm, trivial⟩, fun z e => by cases e⟩
    · exact ⟨trivial, fun z e => by cases e⟩
    all_goals exact ob _ (by decide +kernel)
  obtain ⟨ok, oz⟩ := oko
  have is := isi_str (h := h3) ok
  cases hs : isStr o with
  | true =>
    obtain ⟨z, rfl⟩ : ∃ z, o = .str z := by
      cases o <;> first | exact ⟨_, rfl⟩ | (simp [isStr] at hs)
    obtain ⟨z1, z2⟩ := oz z rfl
    have ri : rightM cl [.ref 1, .str z, .bl false] h3 = .ok (.bl true) h3 := right_ok (cl := cl) (h := h3) (x := .ref 1) (z := z) (b := false) z1 z2
    rw [hs] at is
    refine ⟨h3, ?_⟩
    generalize rightM cl = Rm at ri
    generalize heardM cl = Hm
    simp [is, ri]
  | false =>
    rw [hs] at is
    have rd := read_odd (cl := cl) (h := h3) ok hs
    have hn := heard_no (b := true) rd (by simp)
    obtain ⟨t4, p4⟩ := rp (h := h3) (d := noneD) ⟨okc_none, ⟨by decide, by decide⟩, trivial, trivial⟩ (by decide) (by decide)
    unfold noneD at hn p4
    have s3 : small 3 = true := rfl
    refine ⟨h3, ?_⟩
    generalize rightM cl = Rm
    generalize heardM cl = Hm at hn
    simp [is, hn, p4, s3]
end Wk00
namespace Wk00
open PySem PySem.Spec PyProof.Rows L2 DN
section
variable {P : Program} {w : World} {K : PySem.W.Frag} {mg : Str → Option Value} {cl : Cl} (T : Tops P w K mg cl) (base : Heap)
include T
theorem c_draw : CalP P w K mg base 1 "_law_draw" s__law_draw ["deck", "many"] drawM := ok__law_draw T
theorem c_pick : CalP P w K mg base 2 "_law_pick" s__law_pick ["deck", "some"] pkM := ok__law_pick (c_draw T base) T
theorem c_leaf : CalP P w K mg base 4 "_law_leaf" s__law_leaf ["deck"] leafM :=
  ok__law_leaf (k := 3) ((c_pick T base).mono (by decide)) (ok__law_text (k := 2) (c_pick T base) T) T
theorem c_thing : ∀ n : Nat, CalP P w K mg base (4 + n) "_law_thing" s__law_thing ["deck", "deep"] (thRec n)
  | 0 => T.d__law_thing.none
  | n + 1 => ok__law_thing (k := 4 + n) ((c_draw T base).mono (by omega)) ((c_leaf T base).mono (by omega)) (c_thing n) T
theorem c_any : CalP P w K mg base 10 "_law_any_thing" s__law_any_thing ["deck"] anyM :=
  ok__law_any_thing (k := 9) ((c_leaf T base).mono (by decide)) ((c_draw T base).mono (by decide)) ((c_pick T base).mono (by decide)) (c_thing T base 5) T
theorem c_words : ∀ n : Nat, CalP P w K mg base (1 + n) "_law_words" s__law_words ["thing"] (wRec n)
  | 0 => T.d__law_words.none
  | n + 1 => ok__law_words (k := 1 + n) (c_words n) T
theorem c_near : ∀ n : Nat, CalP P w K mg base (2 + n) "_law_near" s__law_near ["deck", "thing"] (nRec n)
  | 0 => T.d__law_near.none
  | n + 1 => ok__law_near (k := 2 + n) ((c_draw T base).mono (by omega)) (c_near n) ((c_pick T base).mono (by omega)) T
theorem c_is : CalP P w K mg base 3 "is_told" s_is_told ["thing"] isM :=
  (ok_is_told (k := 2) (ok_is_leaf (k := 1) (ok_is_plain_text (k := 0) T) T) T).gc
theorem c_show : CalP P w K mg base 2 "show_told" s_show_told ["thing"] showM := (ok_show_told (k := 1) (ok_leaf_text (k := 0) T) T).gc
theorem c_tree : CalP P w K mg base 4 "tree_told" s_tree_told ["text"] (treeM cl) :=
  have c1 := ok_leaf_told (P := P) (w := w) (base := base) (k := 1) (ok_is_plain_text (k := 0) T) (ok_number_told (k := 0) T) T
  have c2 := ok_end_of_leaf (P := P) (w := w) (base := base) (k := 0) T
  ok_tree_told (k := 1) (ok_leaf_at (k := 0) (c2.mono (by decide)) c1 T) T
theorem c_read : CalP P w K mg base 5 "read_told" s_read_told ["text"] (readM cl) :=
  (ok_read_told (k := 2) (c_tree T base) ((c_is T base).mono (by decide)) ((c_show T base).mono (by decide)) T).gc
theorem c_heard : CalP P w K mg base 6 "_law_heard" s__law_heard ["text", "by_name"] (heardM cl) := (ok__law_heard (k := 5) (c_read T base) T).gc
theorem c_ltold : CalP P w K mg base 1 "_law_is_told" s__law_is_told ["thing"] ltoldM := (ok__law_is_told (k := 0) T).gc
theorem c_lread : CalP P w K mg base 1 "_law_read" s__law_read ["text"] lreadM := (ok__law_read (k := 0) T).gc
theorem c_right : CalP P w K mg base 7 "_law_is_read_right" s__law_is_read_right ["deck", "text", "by_name"] (rightM cl) :=
  ok__law_is_read_right (k := 6) ((c_lread T base).mono (by decide)) ((c_ltold T base).mono (by decide)) (c_heard T base) T
theorem c_bent : CalP P w K mg base 3 "_law_bent" s__law_bent ["deck", "text"] bentM := ok__law_bent (k := 2) ((c_draw T base).mono (by decide)) (c_pick T base) T
theorem whole : CalP P w K mg base 205 "law" s_law ["script"] (b_law b__law_deck anyM wordsM showM isM (readM cl) nearM ltoldM bentM drawM (rightM cl) pkM (heardM cl)) :=
  ok_law (k := 204) ((ok__law_deck (P := P) (w := w) (base := base) (k := 0) T).mono (by decide)) ((c_any T base).mono (by decide)) ((c_words T base 202).mono (by decide)) ((c_show T base).mono (by decide)) ((c_is T base).mono (by decide)) ((c_read T base).mono (by decide)) (c_near T base 202) ((c_ltold T base).mono (by decide)) ((c_bent T base).mono (by decide)) ((c_draw T base).mono (by decide)) ((c_right T base).mono (by decide)) ((c_pick T base).mono (by decide)) ((c_heard T base).mono (by decide)) T
theorem fin_ {fa : Addr} (hmg : mg "law" = some (.ref fa)) : ∃ m : FM, (∀ ns : List Int, ns.length ≤ 63 → ∃ h', m [.kst (ns.map .int)] [] = .ok (.bl true) h') ∧ ∃ fd : FuncData, (∀ (s : Shared) (u : Value), BindsTo s fd ⟨[u], []⟩ [("script", u)]) ∧
    ∀ base : Heap, K.In base → base.Ns mainGlobals mg → FnG P w K mg base 205 fa fd ["script"] m :=
  ⟨Wk00.b_law Wk00.b__law_deck Wk00.anyM Wk00.wordsM Wk00.showM Wk00.isM (Wk00.readM cl) Wk00.nearM Wk00.ltoldM Wk00.bentM Wk00.drawM (Wk00.rightM cl) Wk00.pkM (Wk00.heardM cl), fun ns hl => law_ok _ hl, DN.law_of (st := s_law) T.d_law hmg (fun _ _ _ _ _ _ _ => rfl) (fun base => whole T base)⟩
end
theorem fin_x {P : Program} {w : World} {K : PySem.W.Frag} {mg : Str → Option Value} {c0 c1 : Addr} (T : Tops P w K mg (Cl.mk c0 c1)) {fa : Addr} (hmg : mg "law" = some (.ref fa)) : ∃ m : FM, (∀ ns : List Int, ns.length ≤ 63 → ∃ h', m [.kst (ns.map .int)] [] = .ok (.bl true) h') ∧ ∃ fd : FuncData, (∀ (s : Shared) (u : Value), BindsTo s fd ⟨[u], []⟩ [("script", u)]) ∧
    ∀ base : Heap, K.In base → base.Ns mainGlobals mg → FnG P w K mg base 205 fa fd ["script"] m := fin_ T hmg
end Wk00
open PySem PySem.W PyProof.Rows
theorem PySem.Challenge.cw_everyway_k00_told_things_there_and_back_holds : PySem.Challenge.rw_everyway_k00_told_things_there_and_back.Holds := by
  w_on; o_law; k_head; (case hw => w_witness2)
  k_fill
  refine DN.walk_x (l := PySem.Challenge.rw_everyway_k00_told_things_there_and_back) (n := 63) (k := 205) (x := "script") rfl (by decide) rfl ⟨⟨rfl, by decide, by decide⟩, rfl, by decide⟩ (fun w h Y => PySem.W.kIn_of Y) (by rfl) (fun w => by rfl) ?F
  case F =>
    intro w mg fa h KX G hmg
    refine' Wk00.fin_x ?T hmg
    case T =>
    refine' ⟨DN.defAt_mk KX G ?a0 ?l0 ?c0 ?k0, DN.defAt_mk KX G ?a1 ?l1 ?c1 ?k1, DN.defAt_mk KX G ?a2 ?l2 ?c2 ?k2, DN.defAt_mk KX G ?a3 ?l3 ?c3 ?k3, DN.defAt_mk KX G ?a4 ?l4 ?c4 ?k4, DN.defAt_mk KX G ?a5 ?l5 ?c5 ?k5, DN.defAt_mk KX G ?a6 ?l6 ?c6 ?k6, DN.defAt_mk KX G ?a7 ?l7 ?c7 ?k7, DN.defAt_mk KX G ?a8 ?l8 ?c8 ?k8, DN.defAt_mk KX G ?a9 ?l9 ?c9 ?k9, DN.defAt_mk KX G ?a10 ?l10 ?c10 ?k10, DN.defAt_mk KX G ?a11 ?l11 ?c11 ?k11, DN.defAt_mk KX G ?a12 ?l12 ?c12 ?k12, DN.defAt_mk KX G ?a13 ?l13 ?c13 ?k13, DN.defAt_mk KX G ?a14 ?l14 ?c14 ?k14, DN.defAt_mk KX G ?a15 ?l15 ?c15 ?k15, DN.defAt_mk KX G ?a16 ?l16 ?c16 ?k16, DN.defAt_mk KX G ?a17 ?l17 ?c17 ?k17, DN.defAt_mk KX G ?a18 ?l18 ?c18 ?k18, DN.defAt_mk KX G ?a19 ?l19 ?c19 ?k19, DN.defAt_mk KX G ?a20 ?l20 ?c20 ?k20, DN.defAt_mk KX G ?a21 ?l21 ?c21 ?k21, DN.defAt_mk KX G ?a22 ?l22 ?c22 ?k22, DN.defAt_mk KX G ?a23 ?l23 ?c23 ?k23, DN.defAt_mk KX G ?a24 ?l24 ?c24 ?k24, DN.defAt_mk KX G ?a25 ?l25 ?c25 ?k25, PySem.W.mg_none_of KX G ?z_abs, PySem.W.mg_none_of KX G ?z_all, PySem.W.mg_none_of KX G ?z_bool, PySem.W.mg_none_of KX G ?z_int, PySem.W.mg_none_of KX G ?z_isinstance, PySem.W.mg_none_of KX G ?z_len, PySem.W.mg_none_of KX G ?z_list, PySem.W.mg_none_of KX G ?z_max, PySem.W.mg_none_of KX G ?z_ord, PySem.W.mg_none_of KX G ?z_range, PySem.W.mg_none_of KX G ?z_repr, PySem.W.mg_none_of KX G ?z_str, PySem.W.mg_none_of KX G ?z_tuple, ⟨_, [(.inr "-", .non), (.inr "+", .bl true), (.inr "!", .bl false)], PySem.W.mg_of KX G ?y_SIGNS, DN.stK_mk ?l_SIGNS ?v_SIGNS ?n_SIGNS ?s_SIGNS, ?r_SIGNS⟩, ⟨_, PySem.W.mg_of KX G ?y_DEEPEST, ?v_DEEPEST⟩, ⟨_, PySem.W.mg_of KX G ?y_FIGURES, ?v_FIGURES⟩, ⟨_, PySem.W.mg_of KX G ?y_FIRST_SIGN, ?v_FIRST_SIGN⟩, ⟨_, PySem.W.mg_of KX G ?y_GREATEST, ?v_GREATEST⟩, ⟨_, PySem.W.mg_of KX G ?y_LAST_SIGN, ?v_LAST_SIGN⟩, ⟨_, PySem.W.mg_of KX G ?y_MOST_FIGURES, ?v_MOST_FIGURES⟩, ⟨_, PySem.W.mg_of KX G ?y_QUOTE, ?v_QUOTE⟩, PySem.W.mg_of KX G ?g_NoText, PySem.W.mg_of KX G ?g_SoError, DN.raiseAt_mk (st := DN.clsRow (Wk00.topS 2) 0) (y := "line") (qual := "NoText.__init__") (PySem.W.mg_of KX G ?ry_NoText) (DN.oexC_mk ?rl_NoText ?rb_NoText ?rs_NoText ?re_NoText ?rt_NoText ?rk_NoText) ?rn_NoText ?rf_NoText ?ri_NoText ?rq_NoText ?rc_NoText ?rp_NoText ⟨rfl, rfl, rfl, by decide +kernel, rfl, by decide +kernel, by decide +kernel⟩ ⟨_, _, _, _, rfl⟩ (Or.inl rfl) (Or.inl rfl) (by decide) (by decide) (fun _ _ _ _ _ _ us hl => match us, hl with | [_, _], _ => rfl), ?m_NoText, DN.xfC_mk ?fga_NoText ?fgg_NoText ?fex_NoText ?fhd_NoText, ?fn_NoText_line, ⟨DN.some_is ?x0_NoText, ?x1_NoText, ?x2_NoText, ?x3_NoText, ?x4_NoText, ?x5_NoText, ?x6_NoText, ?x7_NoText⟩, ?i_0⟩
    (case a0 => k_is)
    (case l0 => k_is)
    (case c0 => k_is)
    (case k0 => k_is)
    (case a1 => k_is)
    (case l1 => k_is)
    (case c1 => k_is)
    (case k1 => k_is)
    (case a2 => k_is)
    (case l2 => k_is)
    (case c2 => k_is)
    (case k2 => k_is)
    (case a3 => k_is)
    (case l3 => k_is)
    (case c3 => k_is)
    (case k3 => k_is)
    (case a4 => k_is)
    (case l4 => k_is)
    (case c4 => k_is)
    (case k4 => k_is)
    (case a5 => k_is)
    (case l5 => k_is)
    (case c5 => k_is)
    (case k5 => k_is)
    (case a6 => k_is)
    (case l6 => k_is)
    (case c6 => k_is)
    (case k6 => k_is)
    (case a7 => k_is)
    (case l7 => k_is)
    (case c7 => k_is)
    (case k7 => k_is)
    (case a8 => k_is)
    (case l8 => k_is)
    (case c8 => k_is)
    (case k8 => k_is)
    (case a9 => k_is)
    (case l9 => k_is)
    (case c9 => k_is)
    (case k9 => k_is)
    (case a10 => k_is)
    (case l10 => k_is)
    (case c10 => k_is)
    (case k10 => k_is)
    (case a11 => k_is)
    (case l11 => k_is)
    (case c11 => k_is)
    (case k11 => k_is)
    (case a12 => k_is)
    (case l12 => k_is)
    (case c12 => k_is)
    (case k12 => k_is)
    (case a13 => k_is)
    (case l13 => k_is)
    (case c13 => k_is)
    (case k13 => k_is)
    (case a14 => k_is)
    (case l14 => k_is)
    (case c14 => k_is)
    (case k14 => k_is)
    (case a15 => k_is)
    (case l15 => k_is)
    (case c15 => k_is)
    (case k15 => k_is)
    (case a16 => k_is)
    (case l16 => k_is)
    (case c16 => k_is)
    (case k16 => k_is)
    (case a17 => k_is)
    (case l17 => k_is)
    (case c17 => k_is)
    (case k17 => k_is)
    (case a18 => k_is)
    (case l18 => k_is)
    (case c18 => k_is)
    (case k18 => k_is)
    (case a19 => k_is)
    (case l19 => k_is)
    (case c19 => k_is)
    (case k19 => k_is)
    (case a20 => k_is)
    (case l20 => k_is)
    (case c20 => k_is)
    (case k20 => k_is)
    (case a21 => k_is)
    (case l21 => k_is)
    (case c21 => k_is)
    (case k21 => k_is)
    (case a22 => k_is)
    (case l22 => k_is)
    (case c22 => k_is)
    (case k22 => k_is)
    (case a23 => k_is)
    (case l23 => k_is)
    (case c23 => k_is)
    (case k23 => k_is)
    (case a24 => k_is)
    (case l24 => k_is)
    (case c24 => k_is)
    (case k24 => k_is)
    (case a25 => k_is)
    (case l25 => k_is)
    (case c25 => k_is)
    (case k25 => k_is)
    (case z_abs => k_is)
    (case z_all => k_is)
    (case z_bool => k_is)
    (case z_int => k_is)
    (case z_isinstance => k_is)
    (case z_len => k_is)
    (case z_list => k_is)
    (case z_max => k_is)
    (case z_ord => k_is)
    (case z_range => k_is)
    (case z_repr => k_is)
    (case z_str => k_is)
    (case z_tuple => k_is)
    (case y_SIGNS => k_is)
    (case l_SIGNS => k_is)
    (case v_SIGNS => exact .cons (by rfl) (by rfl) (by first | rfl | exact ⟨_, rfl⟩) (.cons (by rfl) (by rfl) (by first | rfl | exact ⟨_, rfl⟩) (.cons (by rfl) (by rfl) (by first | rfl | exact ⟨_, rfl⟩) (.nil))))
    (case n_SIGNS => decide +kernel)
    (case s_SIGNS => rfl)
    (case r_SIGNS => exact fun _ => .cons (.non) (.cons (.bl _) (.cons (.bl _) (.nil))))
    (case y_DEEPEST => k_is)
    (case v_DEEPEST => exact ⟨_, rfl⟩)
    (case y_FIGURES => k_is)
    (case v_FIGURES => exact ⟨_, rfl⟩)
    (case y_FIRST_SIGN => k_is)
    (case v_FIRST_SIGN => exact ⟨_, rfl⟩)
    (case y_GREATEST => k_is)
    (case v_GREATEST => exact ⟨_, rfl⟩)
    (case y_LAST_SIGN => k_is)
    (case v_LAST_SIGN => exact ⟨_, rfl⟩)
    (case y_MOST_FIGURES => k_is)
    (case v_MOST_FIGURES => exact ⟨_, rfl⟩)
    (case y_QUOTE => k_is)
    (case v_QUOTE => exact ⟨_, rfl⟩)
    (case g_NoText => ((try dsimp only); k_is))
    (case g_SoError => ((try dsimp only); k_is))
    (case ry_NoText => ((try dsimp only); k_is))
    (case rl_NoText => ((try dsimp only); k_is))
    (case rb_NoText => rfl)
    (case rs_NoText => ((try dsimp only); k_is))
    (case re_NoText => ((try dsimp only); k_is))
    (case rt_NoText => ((try dsimp only); k_is))
    (case rk_NoText => ((try dsimp only); k_is))
    (case rn_NoText => ((try dsimp only); k_is))
    (case rf_NoText => ((try dsimp only); k_is))
    (case ri_NoText => ((try dsimp only); k_is))
    (case rq_NoText => ((try dsimp only); k_is))
    (case rc_NoText => ((try dsimp only); k_is))
    (case rp_NoText => ((try dsimp only); k_is))
    (case m_NoText => ((try dsimp only); kts_exm))
    (case fga_NoText => ((try dsimp only); k_is))
    (case fgg_NoText => ((try dsimp only); k_is))
    (case fex_NoText => ((try dsimp only); k_is))
    (case fhd_NoText => ((try dsimp only); k_is))
    (case fn_NoText_line => ((try dsimp only); k_is))
    (case x0_NoText => ((try dsimp only); k_is))
    (case x1_NoText => ((try dsimp only); k_is))
    (case x2_NoText => ((try dsimp only); k_is))
    (case x3_NoText => ((try dsimp only); k_is))
    (case x4_NoText => ((try dsimp only); k_is))
    (case x5_NoText => ((try dsimp only); k_is))
    (case x6_NoText => ((try dsimp only); k_is))
    (case x7_NoText => ((try dsimp only); k_is))
    (case i_0 => (intro c hc; simp only [List.mem_cons, List.not_mem_nil, or_false] at hc; rcases hc with rfl <;> ((try dsimp only); kit_is)))
