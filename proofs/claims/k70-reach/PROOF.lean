import PyProof.Rows.All
import Wide.All
import OpenK.AllK
import Wide.FinOn
import HandS.ForMost
import HandS.Exc
import HandS.Defaults
import HandS.IsInst
import HandS.Conv
import HandS.Zip
import HandS.CallRecv
import HandS.Style
import HandS.Flow
import HandS.TupAny
import HandS.Strs
import HandS.More
import PyProof.NeKinds
import HandS.DictComp
import HandS.Wide
import HandS.WideBits
import KE.KStateDown
import HandS.Head0
import HandS.Head1
import HandS.Head2
import HandS.HeadEnd
import HandS.HeadHook1
import HandS.HeadHook2
import HandS.HeadHook3
import HandS.HeadHook4
import HandS.HeadWalk
import PySem.Challenge.RW_linearmix_k70_reach
set_option Elab.async false
set_option linter.all false
set_option maxRecDepth 100000
set_option maxHeartbeats 1000000
/-! DL: data as trees over the hand layer: what never changes is a tree, what changes stands at an address of a small store. Own work. -/
namespace DL
open PySem PySem.Spec PyProof.Rows L2

inductive D where
  | non | bl (b : Bool) | int (i : Int) | str (x : Str) | tup (ds : List D) | lst (ds : List D) | dic (kvs : List (Key × D)) | ptr (a : Addr) | scr (is : List Int)
  deriving Inhabited
abbrev DV := List (Option D)

mutual
inductive Rep (K : PySem.W.Frag) (Hi : Hp) : D → V → Prop
  | non : Rep K Hi .non .non
  | bl (b : Bool) : Rep K Hi (.bl b) (.bl b)
  | int (i : Int) : Rep K Hi (.int i) (.int i)
  | str (x : Str) : Rep K Hi (.str x) (.str x)
  | ptr (a : Addr) : Rep K Hi (.ptr a) (.ref a)
  | scr {a : Addr} {is : List Int} (h : SqL K Hi a (is.map V.int)) : Rep K Hi (.scr is) (.ref a)
  | tup {a : Addr} {vs : List V} {ds : List D} (h : SqT K Hi a vs) (r : Reps K Hi ds vs) : Rep K Hi (.tup ds) (.ref a)
  | lst {a : Addr} {vs : List V} {ds : List D} (h : Hi a = some (.lst vs)) (r : Reps K Hi ds vs) : Rep K Hi (.lst ds) (.ref a)
  | dic {a : Addr} {kvs : List (Key × V)} {kds : List (Key × D)} (h : Hi a = some (.dK kvs)) (r : RepK K Hi kds kvs) : Rep K Hi (.dic kds) (.ref a)
inductive Reps (K : PySem.W.Frag) (Hi : Hp) : List D → List V → Prop
  | nil : Reps K Hi [] []
  | cons {d : D} {v : V} {ds : List D} {vs : List V} (h : Rep K Hi d v) (t : Reps K Hi ds vs) : Reps K Hi (d :: ds) (v :: vs)
inductive RepK (K : PySem.W.Frag) (Hi : Hp) : List (Key × D) → List (Key × V) → Prop
  | nil : RepK K Hi [] []
  | cons {k : Key} {d : D} {v : V} {ds : List (Key × D)} {vs : List (Key × V)} (h : Rep K Hi d v) (t : RepK K Hi ds vs) : RepK K Hi ((k, d) :: ds) ((k, v) :: vs)
end

def Sub (H H' : Hp) : Prop := ∀ a o, H a = some o → H' a = some o
theorem Sub.refl (H : Hp) : Sub H H := fun _ _ h => h
theorem Sub.trans {H H1 H2 : Hp} (a : Sub H H1) (b : Sub H1 H2) : Sub H H2 := fun c o h => b c o (a c o h)
theorem Sub.upd {H : Hp} {p : Addr} (o : HO) (h : H p = none) : Sub H (upd H p o) := fun a q e => by rw [upd_ne (ne_of_none e h)]; exact e
theorem Sub.sqT {K : PySem.W.Frag} {H H' : Hp} {a : Addr} {xs : List V} (e : Sub H H') (h : SqT K H a xs) : SqT K H' a xs := by
  rcases h with (h | ⟨o, h⟩) | h
  · exact .inl (.inl (e _ _ h))
  · exact .inl (.inr ⟨o, e _ _ h⟩)
  · exact .inr h
theorem Sub.sqL {K : PySem.W.Frag} {H H' : Hp} {a : Addr} {xs : List V} (e : Sub H H') (h : SqL K H a xs) : SqL K H' a xs := by
  rcases h with (h | ⟨o, h⟩) | h
  · exact .inl (.inl (e _ _ h))
  · exact .inl (.inr ⟨o, e _ _ h⟩)
  · exact .inr h

section
variable {K : PySem.W.Frag} {H H' : Hp}
mutual
theorem Rep.mono (s : Sub H H') : ∀ {d : D} {v : V}, Rep K H d v → Rep K H' d v
  | _, _, .non => .non
  | _, _, .bl b => .bl b
  | _, _, .int i => .int i
  | _, _, .str x => .str x
  | _, _, .ptr a => .ptr a
  | _, _, .scr h => .scr (s.sqL h)
  | _, _, .tup h r => .tup (s.sqT h) (Reps.mono s r)
  | _, _, .lst h r => .lst (s _ _ h) (Reps.mono s r)
  | _, _, .dic h r => .dic (s _ _ h) (RepK.mono s r)
theorem Reps.mono (s : Sub H H') : ∀ {d : List D} {v : List V}, Reps K H d v → Reps K H' d v
  | _, _, .nil => .nil
  | _, _, .cons h t => .cons (Rep.mono s h) (Reps.mono s t)
theorem RepK.mono (s : Sub H H') : ∀ {d : List (Key × D)} {v : List (Key × V)}, RepK K H d v → RepK K H' d v
  | _, _, .nil => .nil
  | _, _, .cons h t => .cons (Rep.mono s h) (RepK.mono s t)
end
theorem Reps.length : ∀ {ds : List D} {vs : List V}, Reps K H ds vs → ds.length = vs.length
  | _, _, .nil => rfl
  | _, _, .cons _ t => by rw [List.length_cons, List.length_cons, t.length]
theorem Reps.get : ∀ {ds : List D} {vs : List V} {i : Nat} {d : D}, Reps K H ds vs → ds[i]? = some d → ∃ v, vs[i]? = some v ∧ Rep K H d v
  | _, _, _, _, .nil, e => by simp at e
  | _, _, 0, _, .cons h _, e => by simp at e; subst e; exact ⟨_, rfl, h⟩
  | _, _, i + 1, d, .cons _ t, e => by
    obtain ⟨v, h1, h2⟩ := t.get (i := i) (d := d) (by simpa using e)
    exact ⟨v, by simpa using h1, h2⟩
theorem Reps.getV : ∀ {ds : List D} {vs : List V} {i : Nat} {v : V}, Reps K H ds vs → vs[i]? = some v → ∃ d, ds[i]? = some d ∧ Rep K H d v
  | _, _, _, _, .nil, e => by simp at e
  | _, _, 0, _, .cons h _, e => by simp at e; subst e; exact ⟨_, rfl, h⟩
  | _, _, i + 1, d, .cons _ t, e => by
    obtain ⟨v, h1, h2⟩ := t.getV (i := i) (by simpa using e)
    exact ⟨v, by simpa using h1, h2⟩
theorem Reps.append : ∀ {ds es : List D} {vs ws : List V}, Reps K H ds vs → Reps K H es ws → Reps K H (ds ++ es) (vs ++ ws)
  | _, _, _, _, .nil, s => s
  | _, _, _, _, .cons r t, s => .cons r (t.append s)
theorem Reps.take : ∀ {ds : List D} {vs : List V} (n : Nat), Reps K H ds vs → Reps K H (ds.take n) (vs.take n)
  | _, _, 0, _ => .nil
  | _, _, _ + 1, .nil => .nil
  | _, _, n + 1, .cons r t => .cons r (t.take n)
theorem Reps.drop : ∀ {ds : List D} {vs : List V} (n : Nat), Reps K H ds vs → Reps K H (ds.drop n) (vs.drop n)
  | _, _, 0, r => r
  | _, _, _ + 1, .nil => .nil
  | _, _, n + 1, .cons _ t => t.drop n
theorem Reps.set : ∀ {ds : List D} {vs : List V} (n : Nat) {d : D} {v : V}, Reps K H ds vs → Rep K H d v → Reps K H (ds.set n d) (vs.set n v)
  | _, _, _, _, _, .nil, _ => .nil
  | _, _, 0, _, _, .cons _ t, r => .cons r t
  | _, _, n + 1, _, _, .cons h t, r => .cons h (t.set n r)
theorem Reps.dropLast {ds : List D} {vs : List V} (r : Reps K H ds vs) : Reps K H ds.dropLast vs.dropLast := by
  rw [List.dropLast_eq_take, List.dropLast_eq_take, r.length]
  exact r.take _
theorem Reps.insertIdx : ∀ {ds : List D} {vs : List V} (n : Nat) {d : D} {v : V}, Reps K H ds vs → Rep K H d v → Reps K H (ds.insertIdx n d) (vs.insertIdx n v)
  | _, _, 0, _, _, .nil, r => .cons r .nil
  | _, _, _ + 1, _, _, .nil, _ => .nil
  | _, _, 0, _, _, .cons h t, r => .cons r (.cons h t)
  | _, _, n + 1, _, _, .cons h t, r => .cons h (t.insertIdx n r)
theorem Reps.reverse : ∀ {ds : List D} {vs : List V}, Reps K H ds vs → Reps K H ds.reverse vs.reverse
  | _, _, .nil => .nil
  | _, _, .cons h t => by rw [List.reverse_cons, List.reverse_cons]; exact t.reverse.append (.cons h .nil)
theorem Reps.ints : ∀ (is : List Int), Reps K H (is.map D.int) (is.map V.int)
  | [] => .nil
  | i :: r => .cons (.int i) (Reps.ints r)
theorem Reps.bls : ∀ (is : List Bool), Reps K H (is.map D.bl) (is.map V.bl)
  | [] => .nil
  | i :: r => .cons (.bl i) (Reps.bls r)
theorem Reps.ints_inv : ∀ {is : List Int} {vs : List V}, Reps K H (is.map D.int) vs → vs = is.map V.int
  | [], _, .nil => rfl
  | i :: r, _, .cons h t => by cases h; rw [List.map_cons, t.ints_inv]
theorem Reps.bls_inv : ∀ {is : List Bool} {vs : List V}, Reps K H (is.map D.bl) vs → vs = is.map V.bl
  | [], _, .nil => rfl
  | i :: r, _, .cons h t => by cases h; rw [List.map_cons, t.bls_inv]
theorem RepK.length : ∀ {ds : List (Key × D)} {vs : List (Key × V)}, RepK K H ds vs → ds.length = vs.length
  | _, _, .nil => rfl
  | _, _, .cons _ t => by rw [List.length_cons, List.length_cons, t.length]
end

/-! ### the store -/
inductive MO where
  | lst (ds : List D) | dic (kvs : List (Key × D)) | ins (C : Addr) (fs : List (Str × D))
abbrev Mh := Addr → Option MO
def mup (M : Mh) (a : Addr) (o : MO) : Mh := fun b => if b = a then some o else M b
def mdel (M : Mh) (a : Addr) : Mh := fun b => if b = a then none else M b
@[simp] theorem mup_same {M : Mh} {a : Addr} {o : MO} : mup M a o a = some o := by simp [mup]
theorem mup_ne {M : Mh} {a b : Addr} {o : MO} (h : b ≠ a) : mup M a o b = M b := by simp [mup, h]
@[simp] theorem mup_mup {M : Mh} {a : Addr} {o u : MO} : mup (mup M a o) a u = mup M a u := by
  funext b; unfold mup; split <;> rfl
@[simp] theorem mdel_mup {M : Mh} {a : Addr} {o : MO} (h : M a = none) : mdel (mup M a o) a = M := by
  funext b
  by_cases e : b = a
  · subst e; simp [mdel, h]
  · simp [mdel, mup, e]
theorem ne_m {M : Mh} {a b : Addr} {o : MO} (h : M a = some o) (h' : M b = none) : a ≠ b := by
  intro e; subst e; rw [h] at h'; cases h'

section
variable (K : PySem.W.Frag)
inductive Flds (Hi : Hp) : List (Str × D) → List (Str × V) → Prop
  | nil : Flds Hi [] []
  | cons {f : Str} {d : D} {v : V} {ds : List (Str × D)} {vs : List (Str × V)} (h : Rep K Hi d v) (t : Flds Hi ds vs) : Flds Hi ((f, d) :: ds) ((f, v) :: vs)
inductive RepO (Hi : Hp) : MO → HO → Prop
  | lst {ds : List D} {vs : List V} (r : Reps K Hi ds vs) : RepO Hi (.lst ds) (.lst vs)
  | dic {ds : List (Key × D)} {vs : List (Key × V)} (r : RepK K Hi ds vs) : RepO Hi (.dic ds) (.dK vs)
  | ins {C dx : Addr} {ds : List (Str × D)} {vs : List (Str × V)} (r : Flds K Hi ds vs) : RepO Hi (.ins C ds) (.ins C dx vs)
structure AbsH (Hi : Hp) (M : Mh) (H : Hp) : Prop where
  sub : Sub Hi H
  mt : ∀ a m, M a = some m → Hi a = none ∧ ∃ o, H a = some o ∧ RepO K Hi m o
end
theorem Flds.mono {K : PySem.W.Frag} {H H' : Hp} (s : Sub H H') : ∀ {d : List (Str × D)} {v : List (Str × V)}, Flds K H d v → Flds K H' d v
  | _, _, .nil => .nil
  | _, _, .cons h t => .cons (h.mono s) (t.mono s)
theorem RepO.mono {K : PySem.W.Frag} {H H' : Hp} (s : Sub H H') {m : MO} {o : HO} (h : RepO K H m o) : RepO K H' m o := by
  cases h with
  | lst r => exact .lst (r.mono s)
  | dic r => exact .dic (r.mono s)
  | ins r => exact .ins (r.mono s)
structure Ext (Hi : Hp) (M : Mh) (H : Hp) (Hi' : Hp) (M' : Mh) (H' : Hp) : Prop where
  hi : Sub Hi Hi'
  fr : ∀ a o, H a = some o → M a = none → H' a = some o ∧ M' a = none ∧ (Hi a = none → Hi' a = none)
theorem Ext.refl (Hi : Hp) (M : Mh) (H : Hp) : Ext Hi M H Hi M H := ⟨Sub.refl _, fun _ _ h e => ⟨h, e, id⟩⟩
theorem Ext.trans {Hi Hi1 Hi2 H H1 H2 : Hp} {M M1 M2 : Mh} (a : Ext Hi M H Hi1 M1 H1) (b : Ext Hi1 M1 H1 Hi2 M2 H2) : Ext Hi M H Hi2 M2 H2 :=
  ⟨a.hi.trans b.hi, fun c o h e => let ⟨h1, e1, z1⟩ := a.fr c o h e; let ⟨h2, e2, z2⟩ := b.fr c o h1 e1; ⟨h2, e2, fun z => z2 (z1 z)⟩⟩

def lk : DV → Nat → Option D
  | [], _ => none
  | x :: _, 0 => x
  | _ :: r, n + 1 => lk r n
structure Sl (K : PySem.W.Frag) (Hi : Hp) (ρ : DV) (σ : L2.St) : Prop where
  at_ : ∀ i d, lk ρ i = some d → ∃ v, σ[i]? = some (some v) ∧ Rep K Hi d v
theorem Sl.mono {K : PySem.W.Frag} {H H' : Hp} {ρ : DV} {σ : L2.St} (s : Sub H H') (h : Sl K H ρ σ) : Sl K H' ρ σ :=
  ⟨fun i d e => let ⟨v, a, r⟩ := h.at_ i d e; ⟨v, a, r.mono s⟩⟩
theorem lk_set : ∀ {ρ : DV} {i j : Nat} {x d : D}, lk (ρ.set i (some x)) j = some d → (j = i ∧ d = x ∧ i < ρ.length) ∨ (j ≠ i ∧ lk ρ j = some d)
  | [], _, _, _, _, h => by simp [lk] at h
  | y :: r, 0, 0, x, d, h => by simp [lk] at h; exact .inl ⟨rfl, h.symm, Nat.succ_pos _⟩
  | y :: r, 0, j + 1, x, d, h => .inr ⟨Nat.succ_ne_zero _, by simpa [lk] using h⟩
  | y :: r, i + 1, 0, x, d, h => .inr ⟨(Nat.succ_ne_zero _).symm, by simpa [lk] using h⟩
  | y :: r, i + 1, j + 1, x, d, h => by
    have h' : lk (r.set i (some x)) j = some d := by simpa [lk] using h
    rcases lk_set h' with ⟨a, b, c⟩ | ⟨a, b⟩
    · exact .inl ⟨by rw [a], b, Nat.succ_lt_succ c⟩
    · exact .inr ⟨fun e => a (Nat.succ.inj e), by simpa [lk] using b⟩

/-! ### readings over the store -/
abbrev DE := DV → Mh → (D → Mh → Prop) → Prop
abbrev DT := DV → Mh → (Bool → Mh → Prop) → Prop
abbrev DA := DV → Mh → (List D → Mh → Prop) → Prop
structure DEnds where
  nx : DV → Mh → Prop
  rt : D → Mh → Prop
  bk : DV → Mh → Prop := fun _ _ => False
  ct : DV → Mh → Prop := fun _ _ => False
abbrev DS := DEnds → DV → Mh → Prop
section
variable (K : PySem.W.Frag)
def Kont (Hi : Hp) (M : Mh) (H : Hp) (R : D → Mh → Prop) (Q : VK) : Prop :=
  ∀ x M', R x M' → ∀ Hi' v H', Ext Hi M H Hi' M' H' → AbsH K Hi' M' H' → Rep K Hi' x v → Q v H'
def KontT (Hi : Hp) (M : Mh) (H : Hp) (R : Bool → Mh → Prop) (Q : Bool → Hp → Prop) : Prop :=
  ∀ x M', R x M' → ∀ Hi' H', Ext Hi M H Hi' M' H' → AbsH K Hi' M' H' → Q x H'
def KontA (Hi : Hp) (M : Mh) (H : Hp) (R : List D → Mh → Prop) (Q : List V → Hp → Prop) : Prop :=
  ∀ x M', R x M' → ∀ Hi' v H', Ext Hi M H Hi' M' H' → AbsH K Hi' M' H' → Reps K Hi' x v → Q v H'
def KontN (Hi : Hp) (M : Mh) (H : Hp) (R : DV → Mh → Prop) (Q : L2.St → Hp → Prop) : Prop :=
  ∀ ρ' M', R ρ' M' → ∀ Hi' σ' H', Ext Hi M H Hi' M' H' → AbsH K Hi' M' H' → Sl K Hi' ρ' σ' → Q σ' H'
def liftE (d : DE) : TE := fun σ H Q => ∃ Hi ρ M R, AbsH K Hi M H ∧ Sl K Hi ρ σ ∧ d ρ M R ∧ Kont K Hi M H R Q
def liftT (d : DT) : TT := fun σ H Q => ∃ Hi ρ M R, AbsH K Hi M H ∧ Sl K Hi ρ σ ∧ d ρ M R ∧ KontT K Hi M H R Q
def liftA (d : DA) : TA := fun σ H Q => ∃ Hi ρ M R, AbsH K Hi M H ∧ Sl K Hi ρ σ ∧ d ρ M R ∧ KontA K Hi M H R Q
structure KEnds (Hi : Hp) (M : Mh) (H : Hp) (E : DEnds) (D : Ends) : Prop where
  nx : KontN K Hi M H E.nx D.nx
  rt : Kont K Hi M H E.rt D.rt
  bk : KontN K Hi M H E.bk D.bk
  ct : KontN K Hi M H E.ct D.ct
def liftS (d : DS) : TS := fun D σ H => ∃ Hi ρ M E, AbsH K Hi M H ∧ Sl K Hi ρ σ ∧ d E ρ M ∧ KEnds K Hi M H E D
end
section
variable {K : PySem.W.Frag} {Hi Hi1 H H1 : Hp} {M M1 : Mh}
theorem Kont.ext {R : D → Mh → Prop} {Q : VK} (k : Kont K Hi M H R Q) (e : Ext Hi M H Hi1 M1 H1) : Kont K Hi1 M1 H1 R Q := fun x M' r Hi' v H' e' a p => k x M' r Hi' v H' (e.trans e') a p
theorem KontT.ext {R : Bool → Mh → Prop} {Q : Bool → Hp → Prop} (k : KontT K Hi M H R Q) (e : Ext Hi M H Hi1 M1 H1) : KontT K Hi1 M1 H1 R Q := fun x M' r Hi' H' e' a => k x M' r Hi' H' (e.trans e') a
theorem KontA.ext {R : List D → Mh → Prop} {Q : List V → Hp → Prop} (k : KontA K Hi M H R Q) (e : Ext Hi M H Hi1 M1 H1) : KontA K Hi1 M1 H1 R Q := fun x M' r Hi' v H' e' a p => k x M' r Hi' v H' (e.trans e') a p
theorem KontN.ext {R : DV → Mh → Prop} {Q : L2.St → Hp → Prop} (k : KontN K Hi M H R Q) (e : Ext Hi M H Hi1 M1 H1) : KontN K Hi1 M1 H1 R Q := fun x M' r Hi' v H' e' a p => k x M' r Hi' v H' (e.trans e') a p
theorem KEnds.ext {E : DEnds} {D : Ends} (k : KEnds K Hi M H E D) (e : Ext Hi M H Hi1 M1 H1) : KEnds K Hi1 M1 H1 E D := ⟨k.nx.ext e, k.rt.ext e, k.bk.ext e, k.ct.ext e⟩
end

section
variable {X : Cx}
theorem PEw {e : Expr} {t t' : TE} (h : PE X e t) (w : ∀ σ H Q, t' σ H Q → t σ H Q) : PE X e t' := ⟨fun pins s σ H Q I q => h.run pins s σ H Q I (w _ _ _ q)⟩
theorem PTw {e : Expr} {t t' : TT} (h : PT X e t) (w : ∀ σ H Q, t' σ H Q → t σ H Q) : PT X e t' := ⟨fun pins s σ H Q I q => h.run pins s σ H Q I (w _ _ _ q)⟩
theorem PWw {e : Expr} {t t' : TT} (h : PW X e t) (w : ∀ σ H Q, t' σ H Q → t σ H Q) : PW X e t' := ⟨fun wh pins s σ H Q I q => h.run wh pins s σ H Q I (w _ _ _ q)⟩
theorem PAw {e : List Expr} {t t' : TA} (h : PA X e t) (w : ∀ σ H Q, t' σ H Q → t σ H Q) : PA X e t' := ⟨fun pos pins s σ H Q I q => h.run pos pins s σ H Q I (w _ _ _ q)⟩
theorem PSw {e : Stmt} {t t' : TS} (h : PS X e t) (w : ∀ D σ H, t' D σ H → t D σ H) : PS X e t' := ⟨fun pins s σ H D I q => h.run pins s σ H D I (w _ _ _ q)⟩
theorem PSsw {e : List Stmt} {t t' : TS} (h : PSs X e t) (w : ∀ D σ H, t' D σ H → t D σ H) : PSs X e t' := ⟨fun pins s σ H D I q => h.run pins s σ H D I (w _ _ _ q)⟩
end
/-! ### the judgements -/
abbrev XE (X : Cx) (e : Expr) (d : DE) : Prop := PE X e (liftE X.K d)
abbrev XT (X : Cx) (e : Expr) (d : DT) : Prop := PT X e (liftT X.K d)
abbrev XW (X : Cx) (e : Expr) (d : DT) : Prop := PW X e (liftT X.K d)
abbrev XA (X : Cx) (es : List Expr) (d : DA) : Prop := PA X es (liftA X.K d)
abbrev XS (X : Cx) (st : Stmt) (d : DS) : Prop := PS X st (liftS X.K d)
abbrev XSs (X : Cx) (st : List Stmt) (d : DS) : Prop := PSs X st (liftS X.K d)

/-! ### names, constants -/
def dVar (i : Nat) : DE := fun ρ M Q => match lk ρ i with | some d => Q d M | none => False
def dC (d : D) : DE := fun _ M Q => Q d M
section
variable {X : Cx}
theorem w_var {K : PySem.W.Frag} {i : Nat} (σ : L2.St) (H : Hp) (Q : VK) (h : liftE K (dVar i) σ H Q) : tVar i σ H Q := by
  obtain ⟨Hi, ρ, M, R, ah, sl, hd, k⟩ := h
  unfold dVar at hd
  split at hd
  · rename_i d e
    obtain ⟨v, e1, r⟩ := sl.at_ i d e
    exact ⟨v, e1, k _ _ hd Hi v H (Ext.refl _ _ _) ah r⟩
  · exact hd.elim
theorem xv (i : Nat) {x : Str} {pos : Pos} (hN : X.N[i]? = some x := by rfl) (hv : Vis X.env.scope x := by first | exact Or.inl rfl | exact Or.inr (Or.inl rfl) | exact Or.inr (Or.inr rfl)) (hd : (x == ("__debug__" : Str)) = false := by decide)
    (hcd : (x == ("__classdict__" : Str)) = false := by decide) : XE X (.Name x pos) (dVar i) := PEw (pe_var hN hv hd hcd) w_var
theorem w_c {K : PySem.W.Frag} {d : D} {v : V} (hr : ∀ Hi, Rep K Hi d v) (σ : L2.St) (H : Hp) (Q : VK) (h : liftE K (dC d) σ H Q) : tC v σ H Q := by
  obtain ⟨Hi, ρ, M, R, ah, sl, hd, k⟩ := h
  exact k _ _ hd Hi v H (Ext.refl _ _ _) ah (hr Hi)
theorem xint {i j pos} : XE X (.Constant (.int i) j pos) (dC (.int i)) := PEw pe_int (w_c fun _ => .int i)
theorem xbl {b j pos} : XE X (.Constant (.bool b) j pos) (dC (.bl b)) := PEw pe_bl (w_c fun _ => .bl b)
theorem xnon {j pos} : XE X (.Constant .none j pos) (dC .non) := PEw pe_non (w_c fun _ => .non)
theorem xstr {x j pos} : XE X (.Constant (.str x) j pos) (dC (.str x)) := PEw pe_str (w_c fun _ => .str x)
theorem xglobI {x : Str} {i : Int} {t : Tok} {pos : Pos} (hg : Gl X x) (hm : X.mg x = some (.int i t)) (hd : (x == ("__debug__" : Str)) = false := by decide) : XE X (.Name x pos) (dC (.int i)) :=
  PEw (pe_glob (v := .int i) hg hm ⟨t, rfl⟩ hd) (w_c fun _ => .int i)
end
end DL
set_option maxRecDepth 100000
set_option maxHeartbeats 1000000
namespace DL
open PySem PySem.Spec PyProof.Rows L2

/-! ### sequences as they are read -/
def mlst (M : Mh) (a : Addr) : Option (List D) := match M a with | some (.lst ds) => some ds | _ => none
def mdic (M : Mh) (a : Addr) : Option (List (Key × D)) := match M a with | some (.dic ds) => some ds | _ => none
def mins (M : Mh) (a : Addr) : Option (Addr × List (Str × D)) := match M a with | some (.ins C fs) => some (C, fs) | _ => none
theorem mlst_eq {M : Mh} {a : Addr} {ds : List D} (h : mlst M a = some ds) : M a = some (.lst ds) := by
  unfold mlst at h
  split at h
  · rename_i e; cases h; exact e
  · cases h
theorem mdic_eq {M : Mh} {a : Addr} {ds : List (Key × D)} (h : mdic M a = some ds) : M a = some (.dic ds) := by
  unfold mdic at h
  split at h
  · rename_i e; cases h; exact e
  · cases h
theorem mins_eq {M : Mh} {a C : Addr} {fs : List (Str × D)} (h : mins M a = some (C, fs)) : M a = some (.ins C fs) := by
  unfold mins at h
  split at h
  · rename_i e; cases h; exact e
  · cases h
theorem mlst_of {M : Mh} {a : Addr} {ds : List D} (h : M a = some (.lst ds)) : mlst M a = some ds := by unfold mlst; rw [h]
theorem mdic_of {M : Mh} {a : Addr} {ds : List (Key × D)} (h : M a = some (.dic ds)) : mdic M a = some ds := by unfold mdic; rw [h]
theorem mins_of {M : Mh} {a C : Addr} {fs : List (Str × D)} (h : M a = some (.ins C fs)) : mins M a = some (C, fs) := by unfold mins; rw [h]
def asL (M : Mh) : D → Option (List D)
  | .lst ds => some ds
  | .ptr a => mlst M a
  | _ => none
def asT : D → Option (List D)
  | .tup ds => some ds
  | _ => none
def asQ (M : Mh) : D → Option (List D)
  | .tup ds => some ds
  | .lst ds => some ds
  | .scr is => some (is.map D.int)
  | .ptr a => mlst M a
  | _ => none
def asK (M : Mh) : D → Option (List (Key × D))
  | .dic ks => some ks
  | .ptr a => mdic M a
  | _ => none
section
variable {K : PySem.W.Frag} {Hi H : Hp} {M : Mh} {x : D} {v : V} {ds : List D}
theorem AbsH.at_lst (A : AbsH K Hi M H) {a : Addr} (e : M a = some (.lst ds)) : ∃ vs, H a = some (.lst vs) ∧ Reps K Hi ds vs := by
  obtain ⟨_, o, ho, r⟩ := A.mt _ _ e
  cases r with
  | lst r => exact ⟨_, ho, r⟩
theorem AbsH.at_dic (A : AbsH K Hi M H) {a : Addr} {ks : List (Key × D)} (e : M a = some (.dic ks)) : ∃ vs, H a = some (.dK vs) ∧ RepK K Hi ks vs := by
  obtain ⟨_, o, ho, r⟩ := A.mt _ _ e
  cases r with
  | dic r => exact ⟨_, ho, r⟩
theorem AbsH.at_ins (A : AbsH K Hi M H) {a C : Addr} {fs : List (Str × D)} (e : M a = some (.ins C fs)) : ∃ dx vs, H a = some (.ins C dx vs) ∧ Flds K Hi fs vs := by
  obtain ⟨_, o, ho, r⟩ := A.mt _ _ e
  cases r with
  | ins r => exact ⟨_, _, ho, r⟩
theorem asL_ok (A : AbsH K Hi M H) (r : Rep K Hi x v) (e : asL M x = some ds) : ∃ a vs, v = .ref a ∧ H a = some (.lst vs) ∧ Reps K Hi ds vs := by
  cases r with
  | lst h t =>
    cases e
    exact ⟨_, _, rfl, A.sub _ _ h, t⟩
  | ptr a =>
    obtain ⟨vs, h1, h2⟩ := A.at_lst (mlst_eq e)
    exact ⟨_, vs, rfl, h1, h2⟩
  | _ => cases e
theorem asT_ok (A : AbsH K Hi M H) (r : Rep K Hi x v) (e : asT x = some ds) : ∃ a vs, v = .ref a ∧ SqT K H a vs ∧ Reps K Hi ds vs := by
  cases r with
  | tup h t =>
    cases e
    exact ⟨_, _, rfl, A.sub.sqT h, t⟩
  | _ => cases e
theorem asQ_ok (A : AbsH K Hi M H) (r : Rep K Hi x v) (e : asQ M x = some ds) : ∃ a vs, v = .ref a ∧ (SqL K H a vs ∨ SqT K H a vs) ∧ Reps K Hi ds vs := by
  cases r with
  | tup h t =>
    cases e
    exact ⟨_, _, rfl, .inr (A.sub.sqT h), t⟩
  | lst h t =>
    cases e
    exact ⟨_, _, rfl, .inl (SqL.of (A.sub _ _ h)), t⟩
  | scr h =>
    cases e
    exact ⟨_, _, rfl, .inl (A.sub.sqL h), Reps.ints _⟩
  | ptr a =>
    obtain ⟨vs, h1, h2⟩ := A.at_lst (mlst_eq e)
    exact ⟨_, vs, rfl, .inl (SqL.of h1), h2⟩
  | _ => cases e
theorem asK_ok (A : AbsH K Hi M H) (r : Rep K Hi x v) {ks : List (Key × D)} (e : asK M x = some ks) : ∃ a vs, v = .ref a ∧ H a = some (.dK vs) ∧ RepK K Hi ks vs := by
  cases r with
  | dic h t =>
    cases e
    exact ⟨_, _, rfl, A.sub _ _ h, t⟩
  | ptr a =>
    obtain ⟨vs, h1, h2⟩ := A.at_dic (mdic_eq e)
    exact ⟨_, vs, rfl, h1, h2⟩
  | _ => cases e
theorem AbsH.none_m (A : AbsH K Hi M H) {p : Addr} (h : H p = none) : M p = none := by
  cases e : M p with
  | none => rfl
  | some m =>
    obtain ⟨_, o, ho, _⟩ := A.mt _ _ e
    rw [h] at ho; cases ho
theorem AbsH.none_i (A : AbsH K Hi M H) {p : Addr} (h : H p = none) : Hi p = none := by
  cases e : Hi p with
  | none => rfl
  | some o => rw [A.sub _ _ e] at h; cases h
/-- a new object that never changes -/
theorem AbsH.newI (A : AbsH K Hi M H) {p : Addr} (h : H p = none) (o : HO) : AbsH K (upd Hi p o) M (upd H p o) := by
  refine ⟨fun a q e => ?_, fun a m e => ?_⟩
  · by_cases ea : a = p
    · subst ea
      rw [upd_same] at e ⊢
      exact e
    · rw [upd_ne ea] at e ⊢
      exact A.sub _ _ e
  · obtain ⟨h1, u, h2, h3⟩ := A.mt a m e
    have ea : a ≠ p := ne_of_none h2 h
    exact ⟨by rw [upd_ne ea]; exact h1, u, by rw [upd_ne ea]; exact h2, h3.mono (Sub.upd o (A.none_i h))⟩
theorem AbsH.extI (A : AbsH K Hi M H) {p : Addr} (h : H p = none) (o : HO) : Ext Hi M H (upd Hi p o) M (upd H p o) :=
  ⟨Sub.upd o (A.none_i h), fun a q e em => ⟨by rw [upd_ne (ne_of_none e h)]; exact e, em, fun z => by rw [upd_ne (ne_of_none e h)]; exact z⟩⟩
/-- a new object of the store -/
theorem AbsH.newM (A : AbsH K Hi M H) {p : Addr} (h : H p = none) {o : HO} {m : MO} (r : RepO K Hi m o) : AbsH K Hi (mup M p m) (upd H p o) := by
  refine ⟨A.sub.trans (Sub.upd o h), fun a q e => ?_⟩
  by_cases ea : a = p
  · subst ea
    rw [mup_same] at e
    cases e
    exact ⟨A.none_i h, o, upd_same, r⟩
  · rw [mup_ne ea] at e
    obtain ⟨h1, u, h2, h3⟩ := A.mt a q e
    exact ⟨h1, u, by rw [upd_ne ea]; exact h2, h3⟩
theorem AbsH.extM (A : AbsH K Hi M H) {p : Addr} (h : H p = none) (o : HO) (m : MO) : Ext Hi M H Hi (mup M p m) (upd H p o) :=
  ⟨Sub.refl _, fun a q e em => ⟨by rw [upd_ne (ne_of_none e h)]; exact e, by rw [mup_ne (ne_of_none e h)]; exact em, id⟩⟩
/-- an object of the store is changed -/
theorem AbsH.setM (A : AbsH K Hi M H) {p : Addr} {m0 : MO} (h : M p = some m0) {o : HO} {m : MO} (r : RepO K Hi m o) : AbsH K Hi (mup M p m) (upd H p o) := by
  obtain ⟨hp, o0, ho, _⟩ := A.mt p m0 h
  refine ⟨fun a q e => ?_, fun a q e => ?_⟩
  · have ea : a ≠ p := fun z => by subst z; rw [hp] at e; cases e
    rw [upd_ne ea]
    exact A.sub _ _ e
  · by_cases ea : a = p
    · subst ea
      rw [mup_same] at e
      cases e
      exact ⟨hp, o, upd_same, r⟩
    · rw [mup_ne ea] at e
      obtain ⟨h1, u, h2, h3⟩ := A.mt a q e
      exact ⟨h1, u, by rw [upd_ne ea]; exact h2, h3⟩
theorem AbsH.extS (A : AbsH K Hi M H) {p : Addr} {m0 : MO} (h : M p = some m0) (o : HO) (m : MO) : Ext Hi M H Hi (mup M p m) (upd H p o) :=
  ⟨Sub.refl _, fun a q e em => by
    have ea : a ≠ p := fun z => by subst z; rw [h] at em; cases em
    exact ⟨by rw [upd_ne ea]; exact e, by rw [mup_ne ea]; exact em, id⟩⟩
/-- a list of the store becomes one that never changes again -/
theorem AbsH.frz (A : AbsH K Hi M H) {p : Addr} {vs : List V} (h : M p = some (.lst ds)) (hv : H p = some (.lst vs)) : AbsH K (upd Hi p (.lst vs)) (mdel M p) H := by
  obtain ⟨hp, _⟩ := A.mt p _ h
  refine ⟨fun a q e => ?_, fun a q e => ?_⟩
  · by_cases ea : a = p
    · subst ea
      rw [upd_same] at e
      cases e
      exact hv
    · rw [upd_ne ea] at e
      exact A.sub _ _ e
  · by_cases ea : a = p
    · subst ea
      simp [mdel] at e
    · simp only [mdel, ea, if_false] at e
      obtain ⟨h1, u, h2, h3⟩ := A.mt a q e
      exact ⟨by rw [upd_ne ea]; exact h1, u, h2, h3.mono (Sub.upd _ hp)⟩
theorem AbsH.frzK (A : AbsH K Hi M H) {p : Addr} {ks : List (Key × D)} {vs : List (Key × V)} (h : M p = some (.dic ks)) (hv : H p = some (.dK vs)) : AbsH K (upd Hi p (.dK vs)) (mdel M p) H := by
  obtain ⟨hp, _⟩ := A.mt p _ h
  refine ⟨fun a q e => ?_, fun a q e => ?_⟩
  · by_cases ea : a = p
    · subst ea
      rw [upd_same] at e
      cases e
      exact hv
    · rw [upd_ne ea] at e
      exact A.sub _ _ e
  · by_cases ea : a = p
    · subst ea
      simp [mdel] at e
    · simp only [mdel, ea, if_false] at e
      obtain ⟨h1, u, h2, h3⟩ := A.mt a q e
      exact ⟨by rw [upd_ne ea]; exact h1, u, h2, h3.mono (Sub.upd _ hp)⟩
theorem AbsH.extF (A : AbsH K Hi M H) {p : Addr} {m0 : MO} (h : M p = some m0) (o : HO) : Ext Hi M H (upd Hi p o) (mdel M p) H :=
  ⟨Sub.upd o (A.mt p _ h).1, fun a q e em => ⟨e, by by_cases ea : a = p <;> simp [mdel, ea, em], fun z => by rw [upd_ne (fun ea => by subst ea; rw [h] at em; cases em)]; exact z⟩⟩
end

/-! ### operations of two values -/
abbrev G2 := D → D → Mh → (D → Mh → Prop) → Prop
def Lf2 (K : PySem.W.Frag) (r : R2) (g : G2) : Prop := ∀ Hi M H x y v w R Q, AbsH K Hi M H → Rep K Hi x v → Rep K Hi y w → g x y M R → Kont K Hi M H R Q → r v w H Q
def dOp (g : G2) (da db : DE) : DE := fun ρ M Q => da ρ M fun x M1 => db ρ M1 fun y M2 => g x y M2 Q
def dTst (da : DE) : DT := fun ρ M Q => da ρ M fun x M1 => match x with | .bl b => Q b M1 | _ => False
section
variable {X : Cx} {a b c : Expr} {da db dc : DE} {r r' : R2} {g g' : G2} {pos : Pos}
theorem w_op {K : PySem.W.Frag} (l : Lf2 K r g) (σ : L2.St) (H : Hp) (Q : VK) (h : liftE K (dOp g da db) σ H Q) : tOp r (liftE K da) (liftE K db) σ H Q := by
  obtain ⟨Hi, ρ, M, R, ah, sl, hd, k⟩ := h
  refine ⟨Hi, ρ, M, _, ah, sl, hd, fun x M1 h1 Hi1 v H1 e1 a1 r1 => ?_⟩
  refine ⟨Hi1, ρ, M1, _, a1, sl.mono e1.hi, h1, fun y M2 h2 Hi2 w H2 e2 a2 r2 => ?_⟩
  exact l Hi2 M2 H2 x y v w R Q a2 (r1.mono e2.hi) r2 h2 (k.ext (e1.trans e2))
theorem xop {op : Operator} (ho : OpR X (binaryOp op) r) (l : Lf2 X.K r g) (ha : XE X a da) (hb : XE X b db) : XE X (.BinOp a op b pos) (dOp g da db) := PEw (pe_op ho ha hb) (w_op l)
theorem xcmp {op : CmpOp} (ho : OpR X (compareOp op) r) (l : Lf2 X.K r g) (ha : XE X a da) (hb : XE X b db) (hm : behindInMarks op b = false := by first | exact nomark _ | rfl) : XE X (.Compare a [op] [b] pos) (dOp g da db) := PEw (pe_cmpR ho ha hb hm) (w_op l)
theorem w_tst {K : PySem.W.Frag} (σ : L2.St) (H : Hp) (Q : Bool → Hp → Prop) (h : liftT K (dTst da) σ H Q) : tTest (liftE K da) σ H Q := by
  obtain ⟨Hi, ρ, M, R, ah, sl, hd, k⟩ := h
  refine ⟨Hi, ρ, M, _, ah, sl, hd, fun x M1 h1 Hi1 v H1 e1 a1 r1 => ?_⟩
  cases x with
  | bl b =>
    cases r1
    exact ⟨b, rfl, k b M1 h1 Hi1 H1 e1 a1⟩
  | _ => exact False.elim h1
theorem xtcmp {op : CmpOp} (ho : OpR X (compareOp op) r) (l : Lf2 X.K r g) (ha : XE X a da) (hb : XE X b db) (hm : behindInMarks op b = false := by first | exact nomark _ | rfl) : XT X (.Compare a [op] [b] pos) (dTst (dOp g da db)) :=
  PTw (pt_cmpR ho ha hb hm) fun σ H Q h => by
    obtain ⟨Hi, ρ, M, R, ah, sl, hd, k⟩ := w_tst σ H Q h
    exact w_op l σ H _ ⟨Hi, ρ, M, R, ah, sl, hd, k⟩
/-- an expression whose value is a truth, as a test -/
theorem xtv {e : Expr} (h : XE X e da) (he : ∀ whole, isTrue e X.env whole = (do let v ← whole; standAt e.pos; holding [v] (truthy v)) := by intro _; rfl) : XT X e (dTst da) := PTw (pt_val h he) fun σ H Q h => w_tst σ H Q h
end

/-! ### ints -/
def gI (C : Int → Int → Prop) (f : Int → Int → Int) : G2 := fun x y M Q => match x, y with | .int i, .int j => C i j ∧ Q (.int (f i j)) M | _, _ => False
def gI0 (f : Int → Int → Int) : G2 := fun x y M Q => match x, y with | .int i, .int j => Q (.int (f i j)) M | _, _ => False
def gB0 (f : Int → Int → Bool) : G2 := fun x y M Q => match x, y with | .int i, .int j => Q (.bl (f i j)) M | _, _ => False
section
variable {K : PySem.W.Frag}
theorem lf_I {C : Int → Int → Prop} {f : Int → Int → Int} : Lf2 K (rI C fun i j => .int (f i j)) (gI C f) := by
  intro Hi M H x y v w R Q ah r1 r2 h k
  cases r1 <;> cases r2 <;> first | exact False.elim h | skip
  exact ⟨_, _, rfl, rfl, h.1, k _ _ h.2 Hi _ H (Ext.refl _ _ _) ah (.int _)⟩
theorem lf_I0 {f : Int → Int → Int} : Lf2 K (rI0 fun i j => .int (f i j)) (gI0 f) := by
  intro Hi M H x y v w R Q ah r1 r2 h k
  cases r1 <;> cases r2 <;> first | exact False.elim h | skip
  exact ⟨_, _, rfl, rfl, k _ _ h Hi _ H (Ext.refl _ _ _) ah (.int _)⟩
theorem lf_B0 {f : Int → Int → Bool} : Lf2 K (rI0 fun i j => .bl (f i j)) (gB0 f) := by
  intro Hi M H x y v w R Q ah r1 r2 h k
  cases r1 <;> cases r2 <;> first | exact False.elim h | skip
  exact ⟨_, _, rfl, rfl, k _ _ h Hi _ H (Ext.refl _ _ _) ah (.bl _)⟩
end
abbrev gAdd : G2 := gI0 fun i j => i + j
abbrev gSub : G2 := gI0 fun i j => i - j
abbrev gMul : G2 := gI CMul fun i j => i * j
abbrev gFdiv : G2 := gI CDiv fun i j => i / j
abbrev gMod : G2 := gI (fun _ j => 0 < j) fun i j => i % j
abbrev gPow : G2 := gI CPow fun i j => i ^ j.toNat
abbrev gLt : G2 := gB0 fun i j => decide (i < j)
abbrev gLe : G2 := gB0 fun i j => decide (i ≤ j)
abbrev gGt : G2 := gB0 fun i j => decide (j < i)
abbrev gGe : G2 := gB0 fun i j => decide (j ≤ i)
/-! ### scalars told apart -/
def scalD : D → D → Bool
  | .non, .non => true | .non, .int _ => true | .int _, .non => true | .non, .bl _ => true | .bl _, .non => true | .non, .str _ => true | .str _, .non => true
  | .int _, .int _ => true | .bl _, .bl _ => true | .str _, .str _ => true | .int _, .str _ => true | .str _, .int _ => true | .bl _, .str _ => true | .str _, .bl _ => true
  | _, _ => false
def eqS : D → D → Bool
  | .non, .non => true | .int i, .int j => decide (i = j) | .bl i, .bl j => decide (i = j) | .str i, .str j => decide (i = j) | _, _ => false
def gEq : G2 := fun x y M Q => scalD x y = true ∧ Q (.bl (eqS x y)) M
def gNe : G2 := fun x y M Q => scalD x y = true ∧ Q (.bl (!eqS x y)) M
def gIsN : G2 := fun x y M Q => match y with | .non => Q (.bl (match x with | .non => true | _ => false)) M | _ => False
def gNotN : G2 := fun x y M Q => match y with | .non => Q (.bl (match x with | .non => false | _ => true)) M | _ => False
def gIsB : G2 := fun x y M Q => match x, y with | .bl a, .bl b => Q (.bl (decide (a = b))) M | _, _ => False
def gNotB : G2 := fun x y M Q => match x, y with | .bl a, .bl b => Q (.bl (!decide (a = b))) M | _, _ => False
def gStr (f : Str → Str → Bool) : G2 := fun x y M Q => match x, y with | .str i, .str j => Q (.bl (f i j)) M | _, _ => False
section
variable {K : PySem.W.Frag}
theorem scal_of {Hi : Hp} {x y : D} {v w : V} (r1 : Rep K Hi x v) (r2 : Rep K Hi y w) (h : scalD x y = true) : scal v w = true ∧ decide (v = w) = eqS x y := by
  cases r1 <;> cases r2 <;> first | (cases h; done) | (refine ⟨rfl, ?_⟩; simp [eqS])
theorem lf_eq : Lf2 K rEq gEq := by
  intro Hi M H x y v w R Q ah r1 r2 h k
  obtain ⟨h1, h2⟩ := scal_of r1 r2 h.1
  exact ⟨h1, by rw [h2]; exact k _ _ h.2 Hi _ H (Ext.refl _ _ _) ah (.bl _)⟩
theorem lf_ne : Lf2 K rNe gNe := by
  intro Hi M H x y v w R Q ah r1 r2 h k
  obtain ⟨h1, h2⟩ := scal_of r1 r2 h.1
  exact ⟨h1, by rw [h2]; exact k _ _ h.2 Hi _ H (Ext.refl _ _ _) ah (.bl _)⟩
theorem lf_isN : Lf2 K (fun x y H Q => y = .non ∧ Q (.bl (decide (x = .non))) H) gIsN := by
  intro Hi M H x y v w R Q ah r1 r2 h k
  cases r2 <;> first | exact False.elim h | skip
  refine ⟨rfl, ?_⟩
  cases r1 <;> exact k _ _ h Hi _ H (Ext.refl _ _ _) ah (.bl _)
theorem lf_notN : Lf2 K (fun x y H Q => y = .non ∧ Q (.bl (!decide (x = .non))) H) gNotN := by
  intro Hi M H x y v w R Q ah r1 r2 h k
  cases r2 <;> first | exact False.elim h | skip
  refine ⟨rfl, ?_⟩
  cases r1 <;> exact k _ _ h Hi _ H (Ext.refl _ _ _) ah (.bl _)
theorem lf_isB : Lf2 K rIsB gIsB := by
  intro Hi M H x y v w R Q ah r1 r2 h k
  cases r1 <;> cases r2 <;> first | exact False.elim h | skip
  exact ⟨_, _, rfl, rfl, k _ _ h Hi _ H (Ext.refl _ _ _) ah (.bl _)⟩
theorem lf_notB : Lf2 K rNotB gNotB := by
  intro Hi M H x y v w R Q ah r1 r2 h k
  cases r1 <;> cases r2 <;> first | exact False.elim h | skip
  exact ⟨_, _, rfl, rfl, k _ _ h Hi _ H (Ext.refl _ _ _) ah (.bl _)⟩
def ltS (i j : Str) : Bool := decide (i.cps.toList < j.cps.toList)
def leS (i j : Str) : Bool := decide (i.cps.toList ≤ j.cps.toList)
theorem lf_str {f : Str → Str → Bool} : Lf2 K (fun x y H Q => ∃ i j, x = .str i ∧ y = .str j ∧ Q (.bl (f i j)) H) (gStr f) := by
  intro Hi M H x y v w R Q ah r1 r2 h k
  cases r1 <;> cases r2 <;> first | exact False.elim h | skip
  exact ⟨_, _, rfl, rfl, k _ _ h Hi _ H (Ext.refl _ _ _) ah (.bl _)⟩
end
end DL
set_option maxRecDepth 100000
set_option maxHeartbeats 1000000
namespace DL
open PySem PySem.Spec PyProof.Rows L2

/-! ### new lists: one that never changes, one of the store -/
abbrev MkL := List D → Mh → (D → Mh → Prop) → Prop
def mkF : MkL := fun xs M Q => Q (.lst xs) M
def mkP : MkL := fun xs M Q => ∀ a, M a = none → Q (.ptr a) (mup M a (.lst xs))
def NewL (mk : MkL) : Prop := ∀ (K : PySem.W.Frag) (Hi : Hp) (M : Mh) (H : Hp) (xs : List D) (vs : List V) (p : Addr) (R : D → Mh → Prop) (Q : VK), AbsH K Hi M H → H p = none → Reps K Hi xs vs → mk xs M R → Kont K Hi M H R Q → Q (.ref p) (upd H p (.lst vs))
theorem newF : NewL mkF := fun K Hi M H xs vs p R Q A hp r h k => k _ _ h _ _ _ (A.extI hp _) (A.newI hp _) (.lst upd_same (r.mono (Sub.upd _ (A.none_i hp))))
theorem newP : NewL mkP := fun K Hi M H xs vs p R Q A hp r h k => k _ _ (h p (A.none_m hp)) _ _ _ (A.extM hp _ _) (A.newM hp (.lst r)) (.ptr p)
theorem new_tup {K : PySem.W.Frag} {Hi H : Hp} {M : Mh} {xs : List D} {vs : List V} {p : Addr} {R : D → Mh → Prop} {Q : VK} (A : AbsH K Hi M H) (hp : H p = none) (r : Reps K Hi xs vs) (h : R (.tup xs) M) (k : Kont K Hi M H R Q) :
    Q (.ref p) (upd H p (.tup vs)) := k _ _ h _ _ _ (A.extI hp _) (A.newI hp _) (.tup (SqT.of upd_same) (r.mono (Sub.upd _ (A.none_i hp))))
theorem same_r {K : PySem.W.Frag} {Hi H : Hp} {M : Mh} {x : D} {v : V} {R : D → Mh → Prop} {Q : VK} (A : AbsH K Hi M H) (r : Rep K Hi x v) (h : R x M) (k : Kont K Hi M H R Q) : Q v H := k _ _ h _ _ _ (Ext.refl _ _ _) A r

/-! ### items -/
theorem atI_rep {K : PySem.W.Frag} {Hi : Hp} {ds : List D} {vs : List V} (r : Reps K Hi ds vs) {i : Int} {d : D} (h : atI ds i = some d) : ∃ v, atI vs i = some v ∧ Rep K Hi d v := by
  unfold atI at h ⊢
  rw [r.length] at h
  cases e : ixN vs.length i with
  | none => rw [e] at h; cases h
  | some j =>
    rw [e] at h
    obtain ⟨v, h1, h2⟩ := r.get (i := j) h
    exact ⟨v, h1, h2⟩
def gIx : G2 := fun x y M Q => match asQ M x, y with
  | some xs, .int i => (match atI xs i with | some d => Q d M | none => False)
  | _, _ => False
theorem lf_ix {K : PySem.W.Frag} : Lf2 K (rIx K) gIx := by
  intro Hi M H x y v w R Q ah r1 r2 h k
  unfold gIx at h
  cases e : asQ M x with
  | none => rw [e] at h; exact False.elim h
  | some xs =>
    rw [e] at h
    cases r2 with
    | int i =>
      obtain ⟨a, vs, rfl, hs, rs⟩ := asQ_ok ah r1 e
      have h : (match atI xs i with | some d => R d M | none => False) := h
      cases ei : atI xs i with
      | none => rw [ei] at h; exact False.elim h
      | some d =>
        rw [ei] at h
        obtain ⟨u, h1, h2⟩ := atI_rep rs ei
        rcases hs with hs | hs
        · exact .inl ⟨_, _, _, _, rfl, rfl, hs, h1, same_r ah h2 h k⟩
        · exact .inr (.inl ⟨_, _, _, _, rfl, rfl, hs, h1, same_r ah h2 h k⟩)
    | _ => exact False.elim h
section
variable {X : Cx} {a b : Expr} {da db : DE} {pos : Pos}
theorem xix (ha : XE X a da) (hb : XE X b db) (hs : PlainIx b := by exact fun _ _ => rfl) : XE X (.Subscript a b pos) (dOp gIx da db) := PEw (pe_ix ix_seq ha hb hs) (w_op lf_ix)
end

/-! ### slices -/
abbrev DO := DV → Mh → (Option Int → Mh → Prop) → Prop
def KontO (K : PySem.W.Frag) (Hi : Hp) (M : Mh) (H : Hp) (R : Option Int → Mh → Prop) (Q : Option Int → Hp → Prop) : Prop :=
  ∀ x M', R x M' → ∀ Hi' H', Ext Hi M H Hi' M' H' → AbsH K Hi' M' H' → Q x H'
def liftO (K : PySem.W.Frag) (d : DO) : TO := fun σ H Q => ∃ Hi ρ M R, AbsH K Hi M H ∧ Sl K Hi ρ σ ∧ d ρ M R ∧ KontO K Hi M H R Q
abbrev XO (X : Cx) (e : Option Expr) (d : DO) : Prop := PO X e (liftO X.K d)
theorem POw {X : Cx} {e : Option Expr} {t t' : TO} (h : PO X e t) (w : ∀ σ H Q, t' σ H Q → t σ H Q) : PO X e t' := ⟨fun pins s σ H Q I q => h.run pins s σ H Q I (w _ _ _ q)⟩
def dNo : DO := fun _ M Q => Q none M
def dPart (da : DE) : DO := fun ρ M Q => da ρ M fun x M1 => match x with | .int i => Q (some i) M1 | _ => False
section
variable {X : Cx} {e : Expr} {da : DE}
theorem xo_none : XO X none dNo := POw po_none fun σ H Q ⟨Hi, ρ, M, R, ah, sl, hd, k⟩ => k _ _ hd Hi H (Ext.refl _ _ _) ah
theorem xo_some (h : XE X e da) : XO X (some e) (dPart da) := POw (po_some h) fun σ H Q ⟨Hi, ρ, M, R, ah, sl, hd, k⟩ => by
  refine ⟨Hi, ρ, M, _, ah, sl, hd, fun x M1 h1 Hi1 v H1 e1 a1 r1 => ?_⟩
  cases r1 with
  | int i => exact ⟨i, rfl, k _ _ h1 Hi1 H1 e1 a1⟩
  | _ => exact False.elim h1
end
abbrev GS := D → Option Int → Option Int → Mh → (D → Mh → Prop) → Prop
def dSl (g : GS) (da : DE) (dl dh : DO) : DE := fun ρ M Q => da ρ M fun x M1 => dl ρ M1 fun l M2 => dh ρ M2 fun u M3 => g x l u M3 Q
def cutD (xs : List D) (lo hi : Option Int) : List D := (xs.drop (HT.sIx xs.length 0 lo)).take (HT.sIx xs.length xs.length hi - HT.sIx xs.length 0 lo)
theorem cut_rep {K : PySem.W.Frag} {Hi : Hp} {ds : List D} {vs : List V} (r : Reps K Hi ds vs) (lo hi : Option Int) : Reps K Hi (cutD ds lo hi) (cutV vs lo hi) := by
  unfold cutD cutV
  rw [r.length]
  exact (r.drop _).take _
def asLS (M : Mh) : D → Option (List D)
  | .lst ds => some ds
  | .scr is => some (is.map D.int)
  | .ptr a => mlst M a
  | _ => none
theorem asLS_ok {K : PySem.W.Frag} {Hi H : Hp} {M : Mh} {x : D} {v : V} {ds : List D} (A : AbsH K Hi M H) (r : Rep K Hi x v) (e : asLS M x = some ds) : ∃ a vs, v = .ref a ∧ SqL K H a vs ∧ Reps K Hi ds vs := by
  cases r with
  | lst h t =>
    cases e
    exact ⟨_, _, rfl, SqL.of (A.sub _ _ h), t⟩
  | scr h =>
    cases e
    exact ⟨_, _, rfl, A.sub.sqL h, Reps.ints _⟩
  | ptr a =>
    obtain ⟨vs, h1, h2⟩ := A.at_lst (mlst_eq e)
    exact ⟨_, vs, rfl, SqL.of h1, h2⟩
  | _ => cases e
def gSlT : GS := fun x lo hi M Q => match asT x with | some xs => Q (.tup (cutD xs lo hi)) M | none => False
def gSlL (mk : MkL) : GS := fun x lo hi M Q => match asLS M x with | some xs => mk (cutD xs lo hi) M Q | none => False
def LfS (K : PySem.W.Frag) (r : V → Option Int → Option Int → Hp → VK → Prop) (g : GS) : Prop := ∀ Hi M H x v lo hi R Q, AbsH K Hi M H → Rep K Hi x v → g x lo hi M R → Kont K Hi M H R Q → r v lo hi H Q
theorem lf_slT {K : PySem.W.Frag} : LfS K (rSlA K) gSlT := by
  intro Hi M H x v lo hi R Q ah r h k
  unfold gSlT at h
  cases e : asT x with
  | none => rw [e] at h; exact False.elim h
  | some xs =>
    rw [e] at h
    have h : R (.tup (cutD xs lo hi)) M := h
    obtain ⟨a, vs, rfl, hs, rs⟩ := asT_ok ah r e
    refine ⟨a, vs, rfl, hs, fun hw => ?_, fun _ p hp => new_tup ah hp (cut_rep rs lo hi) h k⟩
    have ec : cutD xs lo hi = xs := by
      unfold cutD
      rw [rs.length, hw.1, hw.2, List.drop_zero, Nat.sub_zero, ← rs.length, List.take_length]
    rw [ec] at h
    cases x with
    | tup ys =>
      cases e
      exact same_r ah r h k
    | _ => cases e
theorem lf_slL {K : PySem.W.Frag} {mk : MkL} (hm : NewL mk) : LfS K (rSlL K) (gSlL mk) := by
  intro Hi M H x v lo hi R Q ah r h k
  unfold gSlL at h
  cases e : asLS M x with
  | none => rw [e] at h; exact False.elim h
  | some xs =>
    rw [e] at h
    obtain ⟨a, vs, rfl, hs, rs⟩ := asLS_ok ah r e
    exact ⟨a, vs, rfl, hs, fun p hp => hm K Hi M H _ _ p R Q ah hp (cut_rep rs lo hi) h k⟩
section
variable {X : Cx} {e : Expr} {lo hi : Option Expr} {da : DE} {dl dh : DO} {pos p2 : Pos} {g : GS} {r : V → Option Int → Option Int → Hp → VK → Prop}
theorem xsl (hr : SlR X r) (l : LfS X.K r g) (he : XE X e da) (hl : XO X lo dl) (hu : XO X hi dh) : XE X (.Subscript e (.Slice lo hi none p2) pos) (dSl g da dl dh) := PEw (pe_slice hr he hl hu) fun σ H Q ⟨Hi, ρ, M, R, ah, sl, hd, k⟩ => by
  refine ⟨Hi, ρ, M, _, ah, sl, hd, fun x M1 h1 Hi1 v H1 e1 a1 r1 => ?_⟩
  refine ⟨Hi1, ρ, M1, _, a1, sl.mono e1.hi, h1, fun y M2 h2 Hi2 H2 e2 a2 => ?_⟩
  refine ⟨Hi2, ρ, M2, _, a2, sl.mono (e1.hi.trans e2.hi), h2, fun z M3 h3 Hi3 H3 e3 a3 => ?_⟩
  exact l Hi3 M3 H3 x v y z R Q a3 (r1.mono (e2.hi.trans e3.hi)) h3 (k.ext (e1.trans (e2.trans e3)))
theorem xslT (he : XE X e da) (hl : XO X lo dl) (hu : XO X hi dh) : XE X (.Subscript e (.Slice lo hi none p2) pos) (dSl gSlT da dl dh) := xsl sl_tupA lf_slT he hl hu
theorem xslL {mk : MkL} (hm : NewL mk) (he : XE X e da) (hl : XO X lo dl) (hu : XO X hi dh) : XE X (.Subscript e (.Slice lo hi none p2) pos) (dSl (gSlL mk) da dl dh) := xsl sl_list (lf_slL hm) he hl hu
/-- xs[::-1] of a list -/
def dRevL (mk : MkL) (da : DE) : DE := fun ρ M Q => da ρ M fun x M1 => match asLS M1 x with | some xs => mk xs.reverse M1 Q | none => False
theorem xrevL {mk : MkL} (hm : NewL mk) {k : Nat} {p1 p2 p3 : Pos} (he : XE X e da) : XE X (.Subscript e (.Slice none none (some (.UnaryOp .USub (.Constant (.int 1) k p1) p2)) p3) pos) (dRevL mk da) := PEw (pe_revL he) fun σ H Q ⟨Hi, ρ, M, R, ah, sl, hd, k⟩ => by
  refine ⟨Hi, ρ, M, _, ah, sl, hd, fun x M1 h1 Hi1 v H1 e1 a1 r1 => ?_⟩
  cases e : asLS M1 x with
  | none => rw [e] at h1; exact False.elim h1
  | some xs =>
    rw [e] at h1
    obtain ⟨a, vs, rfl, hs, rs⟩ := asLS_ok a1 r1 e
    exact ⟨a, vs, rfl, hs, fun p hp => hm X.K Hi1 M1 H1 _ _ p R Q a1 hp rs.reverse h1 (k.ext e1)⟩
end

/-! ### + and * of lists, tuples -/
def gCatT : G2 := fun x y M Q => match asT x, asT y with | some xs, some ys => xs.length + ys.length ≤ sizeLine ∧ Q (.tup (xs ++ ys)) M | _, _ => False
def gCatL (mk : MkL) : G2 := fun x y M Q => match asL M x, asL M y with | some xs, some ys => xs.length + ys.length ≤ sizeLine ∧ mk (xs ++ ys) M Q | _, _ => False
def gRep (mk : MkL) : G2 := fun x y M Q => match asL M x, y with | some xs, .int k => (-(2 ^ 63) ≤ k ∧ k < 2 ^ 63 ∧ xs.length * k.toNat ≤ sizeLine) ∧ mk (List.replicate k.toNat xs).flatten M Q | _, _ => False
theorem rep_flat {K : PySem.W.Frag} {Hi : Hp} {xs : List D} {vs : List V} (r : Reps K Hi xs vs) : ∀ k : Nat, Reps K Hi (List.replicate k xs).flatten (List.replicate k vs).flatten
  | 0 => .nil
  | k + 1 => by rw [List.replicate_succ, List.replicate_succ, List.flatten_cons, List.flatten_cons]; exact r.append (rep_flat r k)
section
variable {K : PySem.W.Frag}
theorem lf_catT : Lf2 K (rCatA K) gCatT := by
  intro Hi M H x y v w R Q ah r1 r2 h k
  unfold gCatT at h
  cases e1 : asT x with
  | none => rw [e1] at h; exact False.elim h
  | some xs =>
    rw [e1] at h
    cases e2 : asT y with
    | none => rw [e2] at h; exact False.elim h
    | some ys =>
      rw [e2] at h
      obtain ⟨hz, h⟩ : xs.length + ys.length ≤ sizeLine ∧ R (.tup (xs ++ ys)) M := h
      obtain ⟨a, vs, rfl, h1, s1⟩ := asT_ok ah r1 e1
      obtain ⟨b, ws, rfl, h2, s2⟩ := asT_ok ah r2 e2
      cases x <;> first | (cases e1; done) | skip
      cases y <;> first | (cases e2; done) | skip
      cases e1
      cases e2
      refine ⟨a, b, vs, ws, rfl, rfl, h1, h2, by rw [← s1.length, ← s2.length]; exact hz, fun e => ?_, fun _ e => ?_, fun _ _ p hp => new_tup ah hp (s1.append s2) h k⟩
      · subst e
        cases s1
        exact same_r ah r2 h k
      · subst e
        cases s2
        rw [List.append_nil] at h
        exact same_r ah r1 h k
theorem lf_catL {mk : MkL} (hm : NewL mk) : Lf2 K rCat (gCatL mk) := by
  intro Hi M H x y v w R Q ah r1 r2 h k
  unfold gCatL at h
  cases e1 : asL M x with
  | none => rw [e1] at h; exact False.elim h
  | some xs =>
    rw [e1] at h
    cases e2 : asL M y with
    | none => rw [e2] at h; exact False.elim h
    | some ys =>
      rw [e2] at h
      obtain ⟨hz, h⟩ : xs.length + ys.length ≤ sizeLine ∧ mk (xs ++ ys) M R := h
      obtain ⟨a, vs, rfl, h1, s1⟩ := asL_ok ah r1 e1
      obtain ⟨b, ws, rfl, h2, s2⟩ := asL_ok ah r2 e2
      exact ⟨a, b, vs, ws, rfl, rfl, h1, h2, by rw [← s1.length, ← s2.length]; exact hz, fun p hp => hm K Hi M H _ _ p R Q ah hp (s1.append s2) h k⟩
theorem lf_rep {mk : MkL} (hm : NewL mk) : Lf2 K rRep (gRep mk) := by
  intro Hi M H x y v w R Q ah r1 r2 h k
  unfold gRep at h
  cases e1 : asL M x with
  | none => rw [e1] at h; exact False.elim h
  | some xs =>
    rw [e1] at h
    cases r2 with
    | int i =>
      obtain ⟨⟨z1, z2, z3⟩, h⟩ : (-(2 ^ 63) ≤ i ∧ i < 2 ^ 63 ∧ xs.length * i.toNat ≤ sizeLine) ∧ mk (List.replicate i.toNat xs).flatten M R := h
      obtain ⟨a, vs, rfl, h1, s1⟩ := asL_ok ah r1 e1
      exact ⟨a, i, vs, rfl, rfl, h1, z1, z2, by rw [← s1.length]; exact z3, fun p hp => hm K Hi M H _ _ p R Q ah hp (rep_flat s1 _) h k⟩
    | _ => exact False.elim h
end
end DL
set_option maxRecDepth 100000
set_option maxHeartbeats 1000000
namespace DL
open PySem PySem.Spec PyProof.Rows L2

/-! ### argument lists, with their length -/
structure PAL (X : Cx) (es : List Expr) (t : TA) : Prop where
  run : ∀ (pos : Pos) (pins : List (Addr × Obj)) (s : Shared) (σ : L2.St) (H : Hp) (Q : List V → Hp → Prop), Inv X pins σ H s → t σ H Q →
    wpAny (model X.prog X.w) X.A (spliced (backTo pos (starEach es X.env))) (fun us s' => ∃ vs H', Inv X pins σ H' s' ∧ Vals vs us ∧ vs.length = es.length ∧ Q vs H') X.xe s
def dNil : DA := fun _ M Q => Q [] M
def dCons (da : DE) (dr : DA) : DA := fun ρ M Q => da ρ M fun x M1 => dr ρ M1 fun xs M2 => Q (x :: xs) M2
abbrev XAL (X : Cx) (es : List Expr) (d : DA) : Prop := PAL X es (liftA X.K d)
section
variable {X : Cx} {e : Expr} {es : List Expr} {da : DE} {dr : DA} {t : TA} {pos : Pos}
theorem PAL.pa (h : PAL X es t) : PA X es t := ⟨fun pos pins s σ H Q I q => thn (h.run pos pins s σ H Q I q) fun us s1 ⟨vs, H', I1, r, _, q1⟩ => ⟨vs, H', I1, r, q1⟩⟩
theorem xnil : XAL X [] dNil := ⟨fun _ _ _ _ H Q I ⟨Hi, ρ, M, R, ah, sl, hd, k⟩ => Calls.spliced_nil ⟨[], H, I, .nil, rfl, k _ _ hd Hi [] H (Ext.refl _ _ _) ah .nil⟩⟩
theorem xcons (ha : XE X e da) (hr : XAL X es dr) (hs : starEach (e :: es) X.env = (false, eval e X.env) :: starEach es X.env := by rfl) : XAL X (e :: es) (dCons da dr) := by
  refine ⟨fun pos pins s σ H Q I ⟨Hi, ρ, M, R, ah, sl, hd, k⟩ => ?_⟩
  rw [hs]
  show wpAny _ _ (spliced ((false, eval e X.env) :: backTo pos (starEach es X.env))) _ _ s
  refine Calls.spliced_cons (thn (ha.run pins s σ H (fun v H1 => ∃ Hi1 M1 x, Ext Hi M H Hi1 M1 H1 ∧ AbsH X.K Hi1 M1 H1 ∧ Rep X.K Hi1 x v ∧ dr ρ M1 fun xs M2 => R (x :: xs) M2) I ⟨Hi, ρ, M, _, ah, sl, hd, fun x M1 h1 Hi1 v H1 e1 a1 r1 => ⟨Hi1, M1, x, e1, a1, r1, h1⟩⟩) fun u s1 ⟨v, H1, I1, r1, Hi1, M1, x, e1, a1, rx, h1⟩ => ?_)
  refine thn (hr.run pos pins s1 σ H1 (fun vs H2 => Q (v :: vs) H2) I1 ⟨Hi1, ρ, M1, _, a1, sl.mono e1.hi, h1, fun xs M2 h2 Hi2 vs H2 e2 a2 r2 => k _ _ h2 Hi2 _ H2 (e1.trans e2) a2 (.cons (rx.mono e2.hi) r2)⟩) fun us s2 ⟨vs, H2, I2, r2, l2, q2⟩ => ⟨v :: vs, H2, I2, .cons r1 r2, by rw [List.length_cons, List.length_cons, l2], q2⟩
/-! ### displays -/
def dTup (da : DA) : DE := fun ρ M Q => da ρ M fun xs M1 => Q (.tup xs) M1
def dLst (mk : MkL) (da : DA) : DE := fun ρ M Q => da ρ M fun xs M1 => mk xs M1 Q
theorem xtup {x1} (h : XAL X es dr) (hn : es.length ≤ sizeLine := by decide) : XE X (.Tuple es x1 pos) (dTup dr) := by
  refine ⟨fun pins s σ H Q I ⟨Hi, ρ, M, R, ah, sl, hd, k⟩ => ?_⟩
  refine wpAny_Tuple_spliced (thn (h.run pos pins s σ H (fun vs H1 => ∀ p, H1 p = none → Q (.ref p) (upd H1 p (.tup vs))) I ⟨Hi, ρ, M, _, ah, sl, hd, fun xs M1 h1 Hi1 vs H1 e1 a1 r1 p hp => new_tup a1 hp r1 h1 (k.ext e1)⟩) fun us s1 ⟨xs, H1, I1, r, l1, q⟩ => ⟨by rw [← r.length, l1]; exact hn, ?_⟩)
  have hf : H1 s1.heap.objs.size = none := I1.hok.fresh (Nat.le_refl _)
  refine ⟨.ref s1.heap.objs.size, upd H1 s1.heap.objs.size (.tup xs), I1.laid (t' := s1.toks) (fun b u e => Heap.get?_push_of_some _ e) (Nat.le_refl _) ?_, rfl, q _ hf⟩
  exact ⟨by rw [l1]; exact hn, us, r, ⟨_, Heap.get?_push_size _ rfl, rfl, _, rfl⟩⟩
theorem xlst {mk : MkL} (hm : NewL mk) (h : XAL X es dr) (hn : es.length ≤ sizeLine := by decide) : XE X (.List es pos) (dLst mk dr) := by
  refine ⟨fun pins s σ H Q I ⟨Hi, ρ, M, R, ah, sl, hd, k⟩ => ?_⟩
  refine wpAny_List_spliced (thn (h.run pos pins s σ H (fun vs H1 => ∀ p, H1 p = none → Q (.ref p) (upd H1 p (.lst vs))) I ⟨Hi, ρ, M, _, ah, sl, hd, fun xs M1 h1 Hi1 vs H1 e1 a1 r1 p hp => hm X.K Hi1 M1 H1 xs vs p R Q a1 hp r1 h1 (k.ext e1)⟩) fun us s1 ⟨xs, H1, I1, r, l1, q⟩ => ⟨by rw [← r.length, l1]; exact hn, ?_⟩)
  have hf : H1 s1.heap.objs.size = none := I1.hok.fresh (Nat.le_refl _)
  refine ⟨.ref s1.heap.objs.size, upd H1 s1.heap.objs.size (.lst xs), I1.laid (t' := s1.toks) (fun b u e => Heap.get?_push_of_some _ e) (Nat.le_refl _) ?_, rfl, q _ hf⟩
  exact ⟨by rw [l1]; exact hn, us, 0, r, Heap.get?_push_size _ rfl⟩
end

/-! ### calls of built-ins -/
abbrev GC := List D → Mh → (D → Mh → Prop) → Prop
def LfC (K : PySem.W.Frag) (r : List V → Hp → VK → Prop) (g : GC) : Prop := ∀ Hi M H xs vs R Q, AbsH K Hi M H → Reps K Hi xs vs → g xs M R → Kont K Hi M H R Q → r vs H Q
def dCB (g : GC) (da : DA) : DE := fun ρ M Q => da ρ M fun xs M1 => g xs M1 Q
theorem w_cb {K : PySem.W.Frag} {r : List V → Hp → VK → Prop} {g : GC} {da : DA} (l : LfC K r g) (σ : L2.St) (H : Hp) (Q : VK) (h : liftE K (dCB g da) σ H Q) : tCB r (liftA K da) σ H Q := by
  obtain ⟨Hi, ρ, M, R, ah, sl, hd, k⟩ := h
  exact ⟨Hi, ρ, M, _, ah, sl, hd, fun xs M1 h1 Hi1 vs H1 e1 a1 r1 => l Hi1 M1 H1 xs vs R Q a1 r1 h1 (k.ext e1)⟩
section
variable {X : Cx} {x : Str} {p pos : Pos} {e : Expr} {es : List Expr} {da : DA} {id T : String} {r : List V → Hp → VK → Prop} {g : GC}
theorem xcallB (hc : CallR X (.builtin id) r) (l : LfC X.K r g) (hg : Gl X x) (hm : X.mg x = none) (hv : bootBuiltins x = some (.builtin id)) (ha : XAL X (e :: es) da) (hn : x ≠ "__name__" := by decide) (hdb : (x == ("__debug__" : Str)) = false := by decide)
    (he : starEach (e :: es) X.env = (false, eval e X.env) :: starEach es X.env := by rfl) (hpl : (backTo pos (starEach es X.env)).any (·.1) = false := by rfl) : XE X (.Call (.Name x p) (e :: es) [] pos) (dCB g da) :=
  PEw (pe_callB hc hg hm hv ha.pa hn hdb he hpl) (w_cb l)
theorem xcallTy (hc : CallR X (.type T) r) (l : LfC X.K r g) (hg : Gl X x) (hm : X.mg x = none) (hv : bootBuiltins x = some (.type T)) (ha : XAL X (e :: es) da) (hn : x ≠ "__name__" := by decide) (hdb : (x == ("__debug__" : Str)) = false := by decide)
    (he : starEach (e :: es) X.env = (false, eval e X.env) :: starEach es X.env := by rfl) (hpl : (backTo pos (starEach es X.env)).any (·.1) = false := by rfl) : XE X (.Call (.Name x p) (e :: es) [] pos) (dCB g da) :=
  PEw (pe_callTy hc hg hm hv ha.pa hn hdb he hpl) (w_cb l)
end
theorem Reps.one {K : PySem.W.Frag} {Hi : Hp} {x : D} {vs : List V} (r : Reps K Hi [x] vs) : ∃ v, vs = [v] ∧ Rep K Hi x v := by
  cases r with
  | cons h t => cases t; exact ⟨_, rfl, h⟩
theorem Reps.two {K : PySem.W.Frag} {Hi : Hp} {x y : D} {vs : List V} (r : Reps K Hi [x, y] vs) : ∃ v w, vs = [v, w] ∧ Rep K Hi x v ∧ Rep K Hi y w := by
  cases r with
  | cons h t => obtain ⟨w, rfl, h2⟩ := Reps.one t; exact ⟨_, w, rfl, h, h2⟩
/-- len -/
def lenD (M : Mh) (x : D) : Option Nat := match asQ M x with
  | some ys => some ys.length
  | none => (match asK M x with | some ks => some ks.length | none => none)
def gLen : GC := fun xs M Q => match xs with
  | [.str z] => z.length ≤ sizeLine ∧ Q (.int (z.length : Nat)) M
  | [x] => (match lenD M x with | some n => Q (.int (n : Nat)) M | none => False)
  | _ => False
def rLenA (K : PySem.W.Frag) : List V → Hp → VK → Prop := fun xs H Q => (∃ p ys, xs = [.ref p] ∧ (SqL K H p ys ∨ SqT K H p ys) ∧ Q (.int ys.length) H) ∨ ((∃ a kvs, xs = [V.ref a] ∧ H a = some (.dK kvs) ∧ Q (.int kvs.length) H) ∨ ∃ z, xs = [.str z] ∧ z.length ≤ sizeLine ∧ Q (.int z.length) H)
theorem cr_lenA {X : Cx} : CallR X (.builtin "len") (rLenA X.K) := CallR.or call_len_seq (CallR.or call_lenD call_len_str)
theorem lf_len {K : PySem.W.Frag} : LfC K (rLenA K) gLen := by
  intro Hi M H xs vs R Q ah rs h k
  match xs, rs, h with
  | [], rs, h => exact False.elim h
  | x :: y :: r, rs, h => cases x <;> exact False.elim h
  | [x], rs, h =>
    obtain ⟨v, rfl, r⟩ := Reps.one rs
    have key : (match lenD M x with | some n => R (.int (n : Nat)) M | none => False) → rLenA K [v] H Q := fun h => by
      unfold lenD at h
      cases e : asQ M x with
      | some ys =>
        rw [e] at h
        obtain ⟨a, vs, rfl, h1, r1⟩ := asQ_ok ah r e
        refine .inl ⟨a, vs, rfl, h1, ?_⟩
        rw [← r1.length]
        exact k _ _ h Hi _ H (Ext.refl _ _ _) ah (.int _)
      | none =>
        rw [e] at h
        cases e2 : asK M x with
        | none => rw [e2] at h; exact False.elim h
        | some ks =>
          rw [e2] at h
          obtain ⟨a, vs, rfl, h1, r1⟩ := asK_ok ah r e2
          refine .inr (.inl ⟨a, vs, rfl, h1, ?_⟩)
          rw [← r1.length]
          exact k _ _ h Hi _ H (Ext.refl _ _ _) ah (.int _)
    cases x with
    | str z =>
      cases r
      exact .inr (.inr ⟨z, rfl, h.1, k _ _ h.2 Hi _ H (Ext.refl _ _ _) ah (.int _)⟩)
    | _ => exact key h
/-- list(x), tuple(x) -/
def gList (mk : MkL) : GC := fun xs M Q => match xs with | [x] => (match asQ M x with | some ys => mk ys M Q | none => False) | _ => False
def keyD' : Key → D
  | .inl i => .int i
  | .inr x => .str x
def gListK (mk : MkL) : GC := fun xs M Q => match xs with | [x] => (match asK M x with | some ks => mk (ks.map fun p => keyD' p.1) M Q | none => False) | _ => False
def gTuple : GC := fun xs M Q => match xs with | [x] => (match asQ M x with | some ys => Q (.tup ys) M | none => False) | _ => False
theorem key_rep {K : PySem.W.Frag} {Hi : Hp} : ∀ {ks : List (Key × D)} {vs : List (Key × V)}, RepK K Hi ks vs → Reps K Hi (ks.map fun p => keyD' p.1) (vs.map fun p => kV p.1)
  | _, _, .nil => .nil
  | (Sum.inl i, _) :: _, _, .cons _ t => .cons (.int i) (key_rep t)
  | (Sum.inr x, _) :: _, _, .cons _ t => .cons (.str x) (key_rep t)
theorem lf_list {K : PySem.W.Frag} {mk : MkL} (hm : NewL mk) : LfC K (fun xs H Q => ∃ p ys, xs = [.ref p] ∧ (SqL K H p ys ∨ SqT K H p ys) ∧ ∀ l, H l = none → Q (.ref l) (upd H l (.lst ys))) (gList mk) := by
  intro Hi M H xs vs R Q ah rs h k
  match xs, rs, h with
  | [], rs, h => exact False.elim h
  | x :: y :: r, rs, h => exact False.elim h
  | [x], rs, h =>
    obtain ⟨v, rfl, r⟩ := Reps.one rs
    have h : (match asQ M x with | some ys => mk ys M R | none => False) := h
    cases e : asQ M x with
    | none => rw [e] at h; exact False.elim h
    | some ys =>
      rw [e] at h
      obtain ⟨a, ws, rfl, h1, r1⟩ := asQ_ok ah r e
      exact ⟨a, ws, rfl, h1, fun l hl => hm K Hi M H ys ws l R Q ah hl r1 h k⟩
theorem lf_listK {K : PySem.W.Frag} {mk : MkL} (hm : NewL mk) : LfC K rListD (gListK mk) := by
  intro Hi M H xs vs R Q ah rs h k
  match xs, rs, h with
  | [], rs, h => exact False.elim h
  | x :: y :: r, rs, h => exact False.elim h
  | [x], rs, h =>
    obtain ⟨v, rfl, r⟩ := Reps.one rs
    have h : (match asK M x with | some ks => mk (ks.map fun p => keyD' p.1) M R | none => False) := h
    cases e : asK M x with
    | none => rw [e] at h; exact False.elim h
    | some ys =>
      rw [e] at h
      obtain ⟨a, ws, rfl, h1, r1⟩ := asK_ok ah r e
      exact ⟨a, ws, rfl, h1, fun l hl => hm K Hi M H _ _ l R Q ah hl (key_rep r1) h k⟩
theorem lf_tuple {K : PySem.W.Frag} : LfC K (fun xs H Q => ∃ p ys, xs = [.ref p] ∧ ((SqL K H p ys ∧ ∀ l, H l = none → Q (.ref l) (upd H l (.tup ys))) ∨ (SqT K H p ys ∧ Q (.ref p) H))) gTuple := by
  intro Hi M H xs vs R Q ah rs h k
  match xs, rs, h with
  | [], rs, h => exact False.elim h
  | x :: y :: r, rs, h => exact False.elim h
  | [x], rs, h =>
    obtain ⟨v, rfl, r⟩ := Reps.one rs
    have h : (match asQ M x with | some ys => R (.tup ys) M | none => False) := h
    cases e : asLS M x with
    | some ys =>
      have e' : asQ M x = some ys := by
        cases x <;> first | exact e | cases e
      rw [e'] at h
      obtain ⟨a, ws, rfl, h1, r1⟩ := asLS_ok ah r e
      exact ⟨a, ws, rfl, .inl ⟨h1, fun l hl => new_tup ah hl r1 h k⟩⟩
    | none =>
      cases r with
      | tup h1 t =>
        exact ⟨_, _, rfl, .inr ⟨ah.sub.sqT h1, same_r ah (.tup h1 t) h k⟩⟩
      | lst => cases e
      | scr => cases e
      | ptr a =>
        have e : mlst M a = none := e
        have h : (match mlst M a with | some ys => R (.tup ys) M | none => False) := h
        rw [e] at h
        exact False.elim h
      | _ => exact False.elim h
/-- all(bools) -/
def bls? : List D → Option (List Bool)
  | [] => some []
  | .bl b :: r => (match bls? r with | some bs => some (b :: bs) | none => none)
  | _ :: _ => none
def ints? : List D → Option (List Int)
  | [] => some []
  | .int b :: r => (match ints? r with | some bs => some (b :: bs) | none => none)
  | _ :: _ => none
theorem bls_eq : ∀ {ds : List D} {bs : List Bool}, bls? ds = some bs → ds = bs.map D.bl
  | [], bs, h => by cases h; rfl
  | x :: r, bs, h => by
    cases x with
    | bl b =>
      unfold bls? at h
      cases e : bls? r with
      | none => rw [e] at h; cases h
      | some cs => rw [e] at h; cases h; rw [bls_eq e]; rfl
    | _ => cases h
theorem ints_eq : ∀ {ds : List D} {bs : List Int}, ints? ds = some bs → ds = bs.map D.int
  | [], bs, h => by cases h; rfl
  | x :: r, bs, h => by
    cases x with
    | int b =>
      unfold ints? at h
      cases e : ints? r with
      | none => rw [e] at h; cases h
      | some cs => rw [e] at h; cases h; rw [ints_eq e]; rfl
    | _ => cases h
theorem ints_map : ∀ is : List Int, ints? (is.map D.int) = some is
  | [] => rfl
  | i :: r => by show (match ints? (r.map D.int) with | some bs => some (i :: bs) | none => none) = _; rw [ints_map r]
theorem bls_map : ∀ is : List Bool, bls? (is.map D.bl) = some is
  | [] => rfl
  | i :: r => by show (match bls? (r.map D.bl) with | some bs => some (i :: bs) | none => none) = _; rw [bls_map r]
def oneLS (M : Mh) (C : List D → Prop) (xs : List D) : Prop := match xs with | [x] => (match asLS M x with | some ys => C ys | none => False) | _ => False
def onB (C : List Bool → Prop) (ys : List D) : Prop := match bls? ys with | some bs => C bs | none => False
def onI (C : List Int → Prop) (ys : List D) : Prop := match ints? ys with | some bs => C bs | none => False
def gAll : GC := fun xs M Q => oneLS M (onB fun bs => Q (.bl (bs.all id)) M) xs
def gSum : GC := fun xs M Q => oneLS M (onI fun bs => Q (.int bs.sum) M) xs
theorem one_LS {K : PySem.W.Frag} {Hi H : Hp} {M : Mh} {xs : List D} {vs : List V} {P : Prop} {C : List D → Prop} (ah : AbsH K Hi M H) (rs : Reps K Hi xs vs) (h : oneLS M C xs)
    (k : ∀ a ys ws, vs = [.ref a] → SqL K H a ws → Reps K Hi ys ws → C ys → P) : P := by
  match xs, rs, h with
  | [], rs, h => exact False.elim h
  | x :: y :: r, rs, h => exact False.elim h
  | [x], rs, h =>
    obtain ⟨v, rfl, r⟩ := Reps.one rs
    have h : (match asLS M x with | some ys => C ys | none => False) := h
    cases e : asLS M x with
    | none => rw [e] at h; exact False.elim h
    | some ys =>
      rw [e] at h
      obtain ⟨a, ws, rfl, h1, r1⟩ := asLS_ok ah r e
      exact k a ys ws rfl h1 r1 h
theorem on_B {ys : List D} {C : List Bool → Prop} (h : onB C ys) : ∃ bs, ys = bs.map D.bl ∧ C bs := by
  unfold onB at h
  cases eb : bls? ys with
  | none => rw [eb] at h; exact False.elim h
  | some bs => rw [eb] at h; exact ⟨bs, bls_eq eb, h⟩
theorem on_I {ys : List D} {C : List Int → Prop} (h : onI C ys) : ∃ bs, ys = bs.map D.int ∧ C bs := by
  unfold onI at h
  cases eb : ints? ys with
  | none => rw [eb] at h; exact False.elim h
  | some bs => rw [eb] at h; exact ⟨bs, ints_eq eb, h⟩
theorem lf_all {K : PySem.W.Frag} : LfC K (rAll K) gAll := by
  intro Hi M H xs vs R Q ah rs h k
  refine one_LS ah rs h fun a ys ws e h1 r1 h => ?_
  obtain ⟨bs, rfl, h2⟩ := on_B h
  have := r1.bls_inv
  subst this
  exact ⟨a, bs, e, h1, k _ _ h2 Hi _ H (Ext.refl _ _ _) ah (.bl _)⟩
theorem lf_sum {K : PySem.W.Frag} : LfC K (rSum K) gSum := by
  intro Hi M H xs vs R Q ah rs h k
  refine one_LS ah rs h fun a ys ws e h1 r1 h => ?_
  obtain ⟨bs, rfl, h2⟩ := on_I h
  have := r1.ints_inv
  subst this
  exact ⟨a, bs, e, h1, k _ _ h2 Hi _ H (Ext.refl _ _ _) ah (.int _)⟩
/-- sorted(ints) -/
def gSorted (mk : MkL) : GC := fun xs M Q => oneLS M (onI fun bs => bs.length < 64 ∧ ∀ cs : List Int, cs.Perm bs → cs.Pairwise (· ≤ ·) → mk (cs.map D.int) M Q) xs
theorem lf_sorted {K : PySem.W.Frag} {mk : MkL} (hm : NewL mk) : LfC K (rSorted K) (gSorted mk) := by
  intro Hi M H xs vs R Q ah rs h k
  refine one_LS ah rs h fun a ys ws e h1 r1 h => ?_
  obtain ⟨bs, rfl, h2⟩ := on_I h
  have := r1.ints_inv
  subst this
  exact ⟨a, bs, e, h1, h2.1, fun cs p hp1 hp2 hp => hm K Hi M H _ _ p R Q ah hp (Reps.ints cs) (h2.2 cs hp1 hp2) k⟩
/-- max, min of two; int -/
def gII (f : Int → Int → Int) : GC := fun xs M Q => match xs with | [.int i, .int j] => Q (.int (f i j)) M | _ => False
def gInt : GC := fun xs M Q => match xs with | [.int i] => Q (.int i) M | _ => False
theorem lf_max {K : PySem.W.Frag} : LfC K (fun xs H Q => ∃ i j, xs = [.int i, .int j] ∧ Q (.int (if j > i then j else i)) H) (gII fun i j => if j > i then j else i) := by
  intro Hi M H xs vs R Q ah rs h k
  unfold gII at h
  split at h
  · rename_i i j
    obtain ⟨v, w, rfl, r1, r2⟩ := Reps.two rs
    cases r1; cases r2
    exact ⟨i, j, rfl, k _ _ h Hi _ H (Ext.refl _ _ _) ah (.int _)⟩
  · exact False.elim h
theorem lf_min {K : PySem.W.Frag} : LfC K (fun xs H Q => ∃ i j, xs = [.int i, .int j] ∧ Q (.int (if j < i then j else i)) H) (gII fun i j => if j < i then j else i) := by
  intro Hi M H xs vs R Q ah rs h k
  unfold gII at h
  split at h
  · rename_i i j
    obtain ⟨v, w, rfl, r1, r2⟩ := Reps.two rs
    cases r1; cases r2
    exact ⟨i, j, rfl, k _ _ h Hi _ H (Ext.refl _ _ _) ah (.int _)⟩
  · exact False.elim h
theorem lf_int {K : PySem.W.Frag} : LfC K (fun xs H Q => (∃ i, xs = [.int i] ∧ Q (.int i) H) ∨ ∃ k, xs = [.bl k] ∧ Q (.int (if k then 1 else 0)) H) gInt := by
  intro Hi M H xs vs R Q ah rs h k
  unfold gInt at h
  split at h
  · rename_i i
    obtain ⟨v, rfl, r1⟩ := Reps.one rs
    cases r1
    exact .inl ⟨i, rfl, k _ _ h Hi _ H (Ext.refl _ _ _) ah (.int _)⟩
  · exact False.elim h
end DL
set_option maxRecDepth 100000
set_option maxHeartbeats 1000000
namespace DL
open PySem PySem.Spec PyProof.Rows L2

/-! ### and, or, not, if -/
def dAnd (t u : DT) : DT := fun ρ M Q => t ρ M fun c M1 => if c = true then u ρ M1 Q else Q false M1
def dOr (t u : DT) : DT := fun ρ M Q => t ρ M fun c M1 => if c = true then Q true M1 else u ρ M1 Q
def dNot (t : DT) : DT := fun ρ M Q => t ρ M fun c M1 => Q (!c) M1
def onBl (x : D) (C : Bool → Prop) : Prop := match x with | .bl b => C b | _ => False
def dAndV (da db : DE) : DE := fun ρ M Q => da ρ M fun x M1 => onBl x fun c => if c = true then db ρ M1 Q else Q (.bl false) M1
def dOrV (da db : DE) : DE := fun ρ M Q => da ρ M fun x M1 => onBl x fun c => if c = true then Q (.bl true) M1 else db ρ M1 Q
def dNotV (da : DE) : DE := fun ρ M Q => da ρ M fun x M1 => onBl x fun c => Q (.bl (!c)) M1
def dIf (t : DT) (da db : DE) : DE := fun ρ M Q => t ρ M fun c M1 => if c = true then da ρ M1 Q else db ρ M1 Q
theorem on_bl {K : PySem.W.Frag} {Hi : Hp} {x : D} {v : V} {C : Bool → Prop} (r : Rep K Hi x v) (h : onBl x C) : ∃ b, v = .bl b ∧ C b := by
  cases r with
  | bl b => exact ⟨b, rfl, h⟩
  | _ => exact False.elim h
section
variable {X : Cx} {a b c : Expr} {da db : DE} {t u : DT} {rest : List Expr} {pos : Pos}
theorem xw_and1 (ha : XT X a t) : XW X (.BoolOp .And [a] pos) t := pw_and1 ha
theorem xw_or1 (ha : XT X a t) : XW X (.BoolOp .Or [a] pos) t := pw_or1 ha
theorem xw_and (ha : XT X a t) (hb : XW X (.BoolOp .And (b :: rest) pos) u) : XW X (.BoolOp .And (a :: b :: rest) pos) (dAnd t u) := PWw (pw_and ha hb) fun σ H Q ⟨Hi, ρ, M, R, ah, sl, hd, k⟩ => by
  refine ⟨Hi, ρ, M, _, ah, sl, hd, fun c M1 h1 Hi1 H1 e1 a1 => ?_⟩
  cases c with
  | true => exact ⟨Hi1, ρ, M1, R, a1, sl.mono e1.hi, h1, k.ext e1⟩
  | false => exact k _ _ h1 Hi1 H1 e1 a1
theorem xw_or (ha : XT X a t) (hb : XW X (.BoolOp .Or (b :: rest) pos) u) : XW X (.BoolOp .Or (a :: b :: rest) pos) (dOr t u) := PWw (pw_or ha hb) fun σ H Q ⟨Hi, ρ, M, R, ah, sl, hd, k⟩ => by
  refine ⟨Hi, ρ, M, _, ah, sl, hd, fun c M1 h1 Hi1 H1 e1 a1 => ?_⟩
  cases c with
  | false => exact ⟨Hi1, ρ, M1, R, a1, sl.mono e1.hi, h1, k.ext e1⟩
  | true => exact k _ _ h1 Hi1 H1 e1 a1
theorem xt_not (ha : XT X a t) : XT X (.UnaryOp .Not a pos) (dNot t) := PTw (pt_not ha) fun σ H Q ⟨Hi, ρ, M, R, ah, sl, hd, k⟩ =>
  ⟨Hi, ρ, M, _, ah, sl, hd, fun c M1 h1 Hi1 H1 e1 a1 => k _ _ h1 Hi1 H1 e1 a1⟩
theorem x_one {op} (h : XE X a da) : XE X (.BoolOp op [a] pos) da := pe_one h
theorem x_and (ha : XE X a da) (hb : XE X (.BoolOp .And (b :: rest) pos) db) : XE X (.BoolOp .And (a :: b :: rest) pos) (dAndV da db) := PEw (pe_and ha hb) fun σ H Q ⟨Hi, ρ, M, R, ah, sl, hd, k⟩ => by
  refine ⟨Hi, ρ, M, _, ah, sl, hd, fun x M1 h1 Hi1 v H1 e1 a1 r1 => ?_⟩
  obtain ⟨c, rfl, h1⟩ := on_bl r1 h1
  refine ⟨c, rfl, ?_⟩
  cases c with
  | true => exact ⟨Hi1, ρ, M1, R, a1, sl.mono e1.hi, h1, k.ext e1⟩
  | false => exact k _ _ h1 Hi1 _ H1 e1 a1 (.bl _)
theorem x_or (ha : XE X a da) (hb : XE X (.BoolOp .Or (b :: rest) pos) db) : XE X (.BoolOp .Or (a :: b :: rest) pos) (dOrV da db) := PEw (pe_or ha hb) fun σ H Q ⟨Hi, ρ, M, R, ah, sl, hd, k⟩ => by
  refine ⟨Hi, ρ, M, _, ah, sl, hd, fun x M1 h1 Hi1 v H1 e1 a1 r1 => ?_⟩
  obtain ⟨c, rfl, h1⟩ := on_bl r1 h1
  refine ⟨c, rfl, ?_⟩
  cases c with
  | false => exact ⟨Hi1, ρ, M1, R, a1, sl.mono e1.hi, h1, k.ext e1⟩
  | true => exact k _ _ h1 Hi1 _ H1 e1 a1 (.bl _)
theorem x_not (ha : XE X a da) : XE X (.UnaryOp .Not a pos) (dNotV da) := PEw (pe_not ha) fun σ H Q ⟨Hi, ρ, M, R, ah, sl, hd, k⟩ => by
  refine ⟨Hi, ρ, M, _, ah, sl, hd, fun x M1 h1 Hi1 v H1 e1 a1 r1 => ?_⟩
  obtain ⟨c, rfl, h1⟩ := on_bl r1 h1
  exact ⟨c, rfl, k _ _ h1 Hi1 _ H1 e1 a1 (.bl _)⟩
theorem x_if {c : Expr} (hc : XT X c t) (ha : XE X a da) (hb : XE X b db) : XE X (.IfExp c a b pos) (dIf t da db) := PEw (pe_ifExp hc ha hb) fun σ H Q ⟨Hi, ρ, M, R, ah, sl, hd, k⟩ => by
  refine ⟨Hi, ρ, M, _, ah, sl, hd, fun c M1 h1 Hi1 H1 e1 a1 => ?_⟩
  cases c with
  | true => exact ⟨Hi1, ρ, M1, R, a1, sl.mono e1.hi, h1, k.ext e1⟩
  | false => exact ⟨Hi1, ρ, M1, R, a1, sl.mono e1.hi, h1, k.ext e1⟩
end

/-! ### a chain of two comparisons -/
def dChain (g g' : G2) (da db dc : DE) : DE := fun ρ M Q => da ρ M fun x M1 => db ρ M1 fun y M2 => g x y M2 fun z M3 => onBl z fun c => if c = true then dc ρ M3 fun w M4 => g' y w M4 Q else Q (.bl false) M3
theorem xchain {X : Cx} {a b c : Expr} {da db dc : DE} {pos : Pos} {op op' : CmpOp} {r r' : R2} {g g' : G2} (ho : OpR X (compareOp op) r) (l : Lf2 X.K r g) (ho' : OpR X (compareOp op') r') (l' : Lf2 X.K r' g') (ha : XE X a da) (hb : XE X b db) (hc : XE X c dc)
    (hm : lastMarks [op, op'] [b, c] = false := by with_unfolding_all rfl) : XE X (.Compare a [op, op'] [b, c] pos) (dChain g g' da db dc) := PEw (pe_chain ho ho' ha hb hc hm) fun σ H Q ⟨Hi, ρ, M, R, ah, sl, hd, k⟩ => by
  refine ⟨Hi, ρ, M, _, ah, sl, hd, fun x M1 h1 Hi1 v H1 e1 a1 r1 => ?_⟩
  refine ⟨Hi1, ρ, M1, _, a1, sl.mono e1.hi, h1, fun y M2 h2 Hi2 w H2 e2 a2 r2 => ?_⟩
  refine l Hi2 M2 H2 x y v w _ _ a2 (r1.mono e2.hi) r2 h2 fun z M3 h3 Hi3 u H3 e3 a3 r3 => ?_
  obtain ⟨b, rfl, h3⟩ := on_bl r3 h3
  refine ⟨b, rfl, ?_⟩
  have e123 := e1.trans (e2.trans e3)
  cases b with
  | false => exact k _ _ h3 Hi3 _ H3 e123 a3 (.bl _)
  | true =>
    refine ⟨Hi3, ρ, M3, _, a3, sl.mono e123.hi, h3, fun t M4 h4 Hi4 q H4 e4 a4 r4 => ?_⟩
    exact l' Hi4 M4 H4 y t w q R Q a4 (r2.mono (e3.trans e4).hi) r4 h4 (k.ext (e123.trans e4))

/-! ### isinstance of a built-in type -/
inductive Tn where | int | str | bool | tuple | list
def Tn.name : Tn → String
  | .int => "int" | .str => "str" | .bool => "bool" | .tuple => "tuple" | .list => "list"
def Tn.isL : Tn → Bool | .list => true | _ => false
def Tn.isI : Tn → Bool | .int => true | _ => false
def Tn.isS : Tn → Bool | .str => true | _ => false
def Tn.isB : Tn → Bool | .bool => true | .int => true | _ => false
def Tn.isTup : Tn → Bool | .tuple => true | _ => false
def isT (M : Mh) (T : Tn) : D → Option Bool
  | .non => some false
  | .bl _ => some T.isB
  | .int _ => some T.isI
  | .str _ => some T.isS
  | .tup _ => some T.isTup
  | .lst _ => some T.isL
  | .scr _ => some T.isL
  | .dic _ => some false
  | .ptr a => (mlst M a).map fun _ => T.isL
def dIsT (T : Tn) (da : DE) : DE := fun ρ M Q => da ρ M fun x M1 => match isT M1 T x with | some b => Q (.bl b) M1 | none => False
theorem isT_ok {K : PySem.W.Frag} {Hi H : Hp} {M : Mh} {x : D} {v : V} {T : Tn} {b : Bool} (A : AbsH K Hi M H) (r : Rep K Hi x v) (h : isT M T x = some b) : ∃ t, TyX K H v t ∧ PySem.W.kitOne K t (.type T.name) = some b := by
  cases r with
  | non => cases h; exact ⟨_, .base .non, kit_ty (by cases T <;> decide +kernel)⟩
  | bl c => cases T <;> cases h <;> exact ⟨_, .base (.bl c), kit_ty (by decide +kernel)⟩
  | int c => cases T <;> cases h <;> exact ⟨_, .base (.int c), kit_ty (by decide +kernel)⟩
  | str c => cases T <;> cases h <;> exact ⟨_, .base (.str c), kit_ty (by decide +kernel)⟩
  | @tup a vs ds hs _ =>
    have ty : TyX K H (.ref a) (.type "tuple") := by
      rcases A.sub.sqT hs with (e | ⟨o, e⟩) | ⟨o, its, n, e, c, _⟩
      · exact .base (.tup e)
      · exact .fTuple e
      · exact .kTuple e c
    cases T <;> cases h <;> exact ⟨_, ty, kit_ty (by decide +kernel)⟩
  | @lst a vs ds hs _ =>
    have ty : TyX K H (.ref a) (.type "list") := .base (.lst (A.sub _ _ hs))
    cases T <;> cases h <;> exact ⟨_, ty, kit_ty (by decide +kernel)⟩
  | @scr a is hs =>
    have ty : TyX K H (.ref a) (.type "list") := by
      rcases A.sub.sqL hs with (e | ⟨o, e⟩) | ⟨o, its, n, e, c, _⟩
      · exact .base (.lst e)
      · exact .base (.frz e)
      · exact .kList e c
    cases T <;> cases h <;> exact ⟨_, ty, kit_ty (by decide +kernel)⟩
  | @dic a vs ds hs _ =>
    have ty : TyX K H (.ref a) (.type "dict") := .base (.dK (A.sub _ _ hs))
    cases T <;> cases h <;> exact ⟨_, ty, kit_ty (by decide +kernel)⟩
  | ptr a =>
    have h : (mlst M a).map (fun _ => T.isL) = some b := h
    cases e : mlst M a with
    | none => rw [e] at h; cases h
    | some ds =>
      rw [e] at h
      obtain ⟨vs, h1, _⟩ := A.at_lst (mlst_eq e)
      have ty : TyX K H (.ref a) (.type "list") := .base (.lst h1)
      have h : T.isL = b := Option.some.inj h
      subst h
      cases T <;> exact ⟨_, ty, kit_ty (by decide +kernel)⟩
theorem xisT {X : Cx} {a : Expr} {da : DE} {n : Str} {p q pos : Pos} (T : Tn) (hg : Gl X "isinstance") (hm : X.mg "isinstance" = none) (hg2 : Gl X n) (hm2 : X.mg n = none) (hv2 : bootBuiltins n = some (.type T.name)) (ha : XE X a da)
    (hn : n ≠ "__name__" := by decide) (hd : (n == ("__debug__" : Str)) = false := by decide)
    (he : starEach [a, .Name n q] X.env = (false, eval a X.env) :: starEach [.Name n q] X.env := by rfl) (he2 : starEach [.Name n q] X.env = (false, eval (.Name n q) X.env) :: starEach [] X.env := by rfl) (hpl : (backTo pos (starEach [.Name n q] X.env)).any (·.1) = false := by rfl) :
    XE X (.Call (.Name "isinstance" p) [a, .Name n q] [] pos) (dIsT T da) :=
  PEw (pe_callB call_isi hg hm (by decide +kernel) (pa_cons ha (pa_cons (pe_bltn (v := .ty T.name) hg2 hm2 hv2 rfl hn hd) pa_nil he2) he) (by decide) (by decide) he hpl) fun σ H Q ⟨Hi, ρ, M, R, ah, sl, hd, k⟩ => by
    refine ⟨Hi, ρ, M, _, ah, sl, hd, fun x M1 h1 Hi1 v H1 e1 a1 r1 => ?_⟩
    cases e : isT M1 T x with
    | none => rw [e] at h1; exact False.elim h1
    | some b =>
      rw [e] at h1
      obtain ⟨t, ty, ki⟩ := isT_ok a1 r1 e
      exact ⟨v, .ty T.name, t, _, b, rfl, .ty _, ty, ki, k _ _ h1 Hi1 _ H1 e1 a1 (.bl _)⟩

/-! ### x in a sequence of ints; keys of a dict -/
def gInI (neg : Bool) : G2 := fun x y M Q => match x, asQ M y with
  | .int i, some ys => onI (fun bs => Q (.bl (if neg then !decide (i ∈ bs) else decide (i ∈ bs))) M) ys
  | _, _ => False
theorem flat_ints (is : List Int) : (is.map V.int).all flatV = true := by
  rw [List.all_eq_true]
  intro x hx
  obtain ⟨i, _, rfl⟩ := List.mem_map.mp hx
  rfl
theorem inV_ints (i : Int) : ∀ is : List Int, inV (.int i) (is.map V.int) = decide (i ∈ is)
  | [] => by simp [inV]
  | j :: r => by
    have ih := inV_ints i r
    unfold inV at ih ⊢
    rw [List.map_cons, List.any_cons, ih]
    show ((j == i) || decide (i ∈ r)) = decide (i ∈ j :: r)
    rw [Bool.eq_iff_iff]
    simp only [Bool.or_eq_true, beq_iff_eq, decide_eq_true_eq, List.mem_cons]
    constructor
    · rintro (h | h)
      · exact .inl h.symm
      · exact .inr h
    · rintro (h | h)
      · exact .inl h.symm
      · exact .inr h
theorem lf_inI {K : PySem.W.Frag} {neg : Bool} : Lf2 K (rIn K neg) (gInI neg) := by
  intro Hi M H x y v w R Q ah r1 r2 h k
  cases r1 with
  | int i =>
    have h : (match asQ M y with | some ys => onI (fun bs => R (.bl (if neg then !decide (i ∈ bs) else decide (i ∈ bs))) M) ys | none => False) := by
      unfold gInI at h
      split at h
      · rename_i i' ys' e1 e2
        cases e1
        rw [e2]
        exact h
      · exact False.elim h
    cases e : asQ M y with
    | none => rw [e] at h; exact False.elim h
    | some ys =>
      rw [e] at h
      obtain ⟨bs, rfl, h2⟩ := on_I h
      obtain ⟨a, ws, rfl, h1, r1⟩ := asQ_ok ah r2 e
      have := r1.ints_inv
      subst this
      refine ⟨a, _, rfl, h1, rfl, flat_ints bs, ?_⟩
      rw [inV_ints]
      exact k _ _ h2 Hi _ H (Ext.refl _ _ _) ah (.bl _)
  | _ =>
    unfold gInI at h
    exact False.elim h
def keyOf? : D → Option Key
  | .int i => some (.inl i)
  | .str x => some (.inr x)
  | _ => none
def hasK (kvs : List (Key × D)) (k : Key) : Bool := kvs.any fun p => decide (p.1 = k)
def getK (kvs : List (Key × D)) (k : Key) : Option D := (kvs.find? fun p => decide (p.1 = k)).map (·.2)
def putD (kvs : List (Key × D)) (k : Key) (v : D) : List (Key × D) := if hasK kvs k then kvs.map (fun p => if p.1 = k then (p.1, v) else p) else kvs ++ [(k, v)]
theorem keyOf_rep {K : PySem.W.Frag} {Hi : Hp} {x : D} {v : V} {k : Key} (r : Rep K Hi x v) (h : keyOf? x = some k) : v = kV k := by
  cases r <;> first | (cases h; rfl) | cases h
theorem has_rep {K : PySem.W.Frag} {Hi : Hp} (k : Key) : ∀ {ks : List (Key × D)} {vs : List (Key × V)}, RepK K Hi ks vs → (valV vs k).isSome = hasK ks k
  | _, _, .nil => rfl
  | _, _, .cons (k := j) h t => by
    unfold hasK
    rw [List.any_cons]
    by_cases e : j = k
    · rw [valV_pos (by exact e)]; simp [e]
    · rw [valV_neg (by exact e), has_rep k t]; simp [e, hasK]
theorem get_rep {K : PySem.W.Frag} {Hi : Hp} (k : Key) {d : D} : ∀ {ks : List (Key × D)} {vs : List (Key × V)}, RepK K Hi ks vs → getK ks k = some d → ∃ v, valV vs k = some v ∧ Rep K Hi d v
  | _, _, .nil, h => by simp [getK] at h
  | _, _, @RepK.cons _ _ j d0 v0 ds0 vs0 hr t, h => by
    by_cases e : j = k
    · have hd : d0 = d := by simpa [getK, List.find?_cons, e] using h
      subst hd
      exact ⟨_, valV_pos (by exact e), hr⟩
    · have h' : getK ds0 k = some d := by simpa [getK, List.find?_cons, e] using h
      obtain ⟨v, h1, h2⟩ := get_rep k t h'
      exact ⟨v, (valV_neg (by exact e)).trans h1, h2⟩
theorem repl_rep {K : PySem.W.Frag} {Hi : Hp} (k : Key) {d : D} {v : V} (hv : Rep K Hi d v) : ∀ {ks : List (Key × D)} {vs : List (Key × V)}, RepK K Hi ks vs → RepK K Hi (ks.map fun p => if p.1 = k then (p.1, d) else p) (vs.map fun p => if p.1 = k then (p.1, v) else p)
  | _, _, .nil => .nil
  | _, _, .cons (k := j) h t => by
    rw [List.map_cons, List.map_cons]
    by_cases e : j = k
    · simp only [e, if_true]; exact .cons hv (repl_rep k hv t)
    · simp only [e, if_false]; exact .cons h (repl_rep k hv t)
theorem app_rep {K : PySem.W.Frag} {Hi : Hp} (k : Key) {d : D} {v : V} (hv : Rep K Hi d v) : ∀ {ks : List (Key × D)} {vs : List (Key × V)}, RepK K Hi ks vs → RepK K Hi (ks ++ [(k, d)]) (vs ++ [(k, v)])
  | _, _, .nil => .cons hv .nil
  | _, _, .cons h t => .cons h (app_rep k hv t)
theorem any_rep {K : PySem.W.Frag} {Hi : Hp} (k : Key) : ∀ {ks : List (Key × D)} {vs : List (Key × V)}, RepK K Hi ks vs → (vs.any fun kv => decide (kv.1 = k)) = hasK ks k
  | _, _, .nil => rfl
  | _, _, .cons h t => by unfold hasK; rw [List.any_cons, List.any_cons, any_rep k t]; rfl
theorem put_rep {K : PySem.W.Frag} {Hi : Hp} (k : Key) {d : D} {v : V} (hv : Rep K Hi d v) {ks : List (Key × D)} {vs : List (Key × V)} (r : RepK K Hi ks vs) : RepK K Hi (putD ks k d) (putK vs k v) := by
  unfold putD putK
  have e := any_rep k r
  cases h : hasK ks k with
  | true =>
    rw [h] at e
    rw [if_pos rfl, if_pos e]
    exact repl_rep k hv r
  | false =>
    rw [h] at e
    rw [if_neg Bool.false_ne_true, if_neg (by rw [e]; exact Bool.false_ne_true)]
    exact app_rep k hv r
end DL
set_option maxRecDepth 100000
set_option maxHeartbeats 1000000
namespace DL
open PySem PySem.Spec PyProof.Rows L2

/-! ### dicts -/
def onK (y : D) (C : Key → Prop) : Prop := match keyOf? y with | some k => C k | none => False
def onD (M : Mh) (x : D) (C : List (Key × D) → Prop) : Prop := match asK M x with | some ks => C ks | none => False
theorem on_K {K : PySem.W.Frag} {Hi : Hp} {y : D} {v : V} {C : Key → Prop} (r : Rep K Hi y v) (h : onK y C) : ∃ k, v = kV k ∧ C k := by
  unfold onK at h
  cases e : keyOf? y with
  | none => rw [e] at h; exact False.elim h
  | some k => rw [e] at h; exact ⟨k, keyOf_rep r e, h⟩
theorem on_D {K : PySem.W.Frag} {Hi H : Hp} {M : Mh} {x : D} {v : V} {C : List (Key × D) → Prop} (A : AbsH K Hi M H) (r : Rep K Hi x v) (h : onD M x C) : ∃ ks a vs, v = .ref a ∧ H a = some (.dK vs) ∧ RepK K Hi ks vs ∧ C ks := by
  unfold onD at h
  cases e : asK M x with
  | none => rw [e] at h; exact False.elim h
  | some ks =>
    rw [e] at h
    obtain ⟨a, vs, e1, e2, e3⟩ := asK_ok A r e
    exact ⟨ks, a, vs, e1, e2, e3, h⟩
def dDIn (dy dx : DE) : DE := fun ρ M Q => dy ρ M fun y M1 => dx ρ M1 fun x M2 => onK y fun k => onD M2 x fun ks => Q (.bl (hasK ks k)) M2
def dDNotIn (dy dx : DE) : DE := fun ρ M Q => dy ρ M fun y M1 => dx ρ M1 fun x M2 => onK y fun k => onD M2 x fun ks => Q (.bl (!hasK ks k)) M2
def dDGet (dx dy : DE) : DE := fun ρ M Q => dx ρ M fun x M1 => dy ρ M1 fun y M2 => onK y fun k => onD M2 x fun ks => (match getK ks k with | some d => Q d M2 | none => False)
section
variable {X : Cx} {i o : Expr} {dy dx : DE} {pos : Pos}
theorem w_din {K : PySem.W.Frag} (σ : L2.St) (H : Hp) (Q : VK) (h : liftE K (dDIn dy dx) σ H Q) : tDIn (liftE K dy) (liftE K dx) σ H Q := by
  obtain ⟨Hi, ρ, M, R, ah, sl, hd, k⟩ := h
  refine ⟨Hi, ρ, M, _, ah, sl, hd, fun x M1 h1 Hi1 v H1 e1 a1 r1 => ?_⟩
  refine ⟨Hi1, ρ, M1, _, a1, sl.mono e1.hi, h1, fun y M2 h2 Hi2 w H2 e2 a2 r2 => ?_⟩
  obtain ⟨kk, rfl, h2⟩ := on_K r1 h2
  obtain ⟨ks, a, vs, rfl, hv, rk, h2⟩ := on_D a2 r2 h2
  refine ⟨a, _, rfl, DGet.k hv, ?_⟩
  rw [has_rep kk rk]
  exact k _ _ h2 Hi2 _ H2 (e1.trans e2) a2 (.bl _)
theorem w_dnotin {K : PySem.W.Frag} (σ : L2.St) (H : Hp) (Q : VK) (h : liftE K (dDNotIn dy dx) σ H Q) : tDNotIn (liftE K dy) (liftE K dx) σ H Q := by
  obtain ⟨Hi, ρ, M, R, ah, sl, hd, k⟩ := h
  refine ⟨Hi, ρ, M, _, ah, sl, hd, fun x M1 h1 Hi1 v H1 e1 a1 r1 => ?_⟩
  refine ⟨Hi1, ρ, M1, _, a1, sl.mono e1.hi, h1, fun y M2 h2 Hi2 w H2 e2 a2 r2 => ?_⟩
  obtain ⟨kk, rfl, h2⟩ := on_K r1 h2
  obtain ⟨ks, a, vs, rfl, hv, rk, h2⟩ := on_D a2 r2 h2
  refine ⟨a, _, rfl, DGet.k hv, ?_⟩
  rw [has_rep kk rk]
  exact k _ _ h2 Hi2 _ H2 (e1.trans e2) a2 (.bl _)
theorem xdin (hu : X.A.units + 1 < cLine) (hi : XE X i dy) (ho : XE X o dx) (h1 : behindInMarks .In o = false := by rfl) : XE X (.Compare i [.In] [o] pos) (dDIn dy dx) :=
  PEw (pe_cmp (pc_din hu hi ho) h1) w_din
theorem xdnotin (hu : X.A.units + 1 < cLine) (hi : XE X i dy) (ho : XE X o dx) (h1 : behindInMarks .NotIn o = false := by rfl) : XE X (.Compare i [.NotIn] [o] pos) (dDNotIn dy dx) :=
  PEw (pe_cmp (pc_dnotin hu hi ho) h1) w_dnotin
theorem xdget (hu : X.A.units + 1 < cLine) (ho : XE X o dx) (hi : XE X i dy) (hs : NoSl i := by exact fun _ _ => rfl) : XE X (.Subscript o i pos) (dDGet dx dy) := PEw (pe_dget hu ho hi hs) fun σ H Q ⟨Hi, ρ, M, R, ah, sl, hd, k⟩ => by
  refine ⟨Hi, ρ, M, _, ah, sl, hd, fun x M1 h1 Hi1 v H1 e1 a1 r1 => ?_⟩
  refine ⟨Hi1, ρ, M1, _, a1, sl.mono e1.hi, h1, fun y M2 h2 Hi2 w H2 e2 a2 r2 => ?_⟩
  obtain ⟨kk, rfl, h2⟩ := on_K r2 h2
  obtain ⟨ks, a, vs, rfl, hv, rk, h2⟩ := on_D a2 (r1.mono e2.hi) h2
  cases e : getK ks kk with
  | none => rw [e] at h2; exact False.elim h2
  | some d =>
    rw [e] at h2
    obtain ⟨u, hu, ru⟩ := get_rep kk rk e
    refine ⟨a, u, rfl, ?_, k _ _ h2 Hi2 _ H2 (e1.trans e2) a2 ru⟩
    have g := DGet.k (k := kk) hv
    rw [hu] at g
    exact g
theorem xtin (hu : X.A.units + 1 < cLine) (hi : XE X i dy) (ho : XE X o dx) (h1 : behindInMarks .In o = false := by rfl) : XT X (.Compare i [.In] [o] pos) (dTst (dDIn dy dx)) :=
  PTw (pt_cmp (pc_din hu hi ho) h1) fun σ H Q h => by
    obtain ⟨Hi, ρ, M, R, ah, sl, hd, k⟩ := w_tst σ H Q h
    exact w_din σ H _ ⟨Hi, ρ, M, R, ah, sl, hd, k⟩
theorem xtnotin (hu : X.A.units + 1 < cLine) (hi : XE X i dy) (ho : XE X o dx) (h1 : behindInMarks .NotIn o = false := by rfl) : XT X (.Compare i [.NotIn] [o] pos) (dTst (dDNotIn dy dx)) :=
  PTw (pt_cmp (pc_dnotin hu hi ho) h1) fun σ H Q h => by
    obtain ⟨Hi, ρ, M, R, ah, sl, hd, k⟩ := w_tst σ H Q h
    exact w_dnotin σ H _ ⟨Hi, ρ, M, R, ah, sl, hd, k⟩
end

/-! ### a dict of the written part, as far as it is looked at -/
def lkS (tbl : List (Str × Option D)) (z : Str) : Option (Option D) := (tbl.find? fun p => decide (p.1 = z)).map (·.2)
def WRep (K : PySem.W.Frag) (d : D) (u : Value) : Prop := ∃ v, RelV v u ∧ ∀ Hi, Rep K Hi d v
def WD (K : PySem.W.Frag) (w : World) (d : Addr) (tbl : List (Str × Option D)) : Prop := (∃ es n, KDict K w d es n) ∧ ∀ p ∈ tbl, match p.2 with
  | none => PySem.W.nsIn K d p.1 = some none
  | some x => ∃ u, PySem.W.nsIn K d p.1 = some (some u) ∧ WRep K x u
theorem lkS_mem {tbl : List (Str × Option D)} {z : Str} {o : Option D} (h : lkS tbl z = some o) : (z, o) ∈ tbl := by
  unfold lkS at h
  cases e : tbl.find? (fun p => decide (p.1 = z)) with
  | none => rw [e] at h; cases h
  | some p =>
    rw [e] at h
    have h1 := List.find?_some e
    have h2 := List.mem_of_find?_eq_some e
    have h3 : p.1 = z := of_decide_eq_true h1
    have h4 : p.2 = o := Option.some.inj h
    rw [← h3, ← h4]
    exact h2
def onW (tbl : List (Str × Option D)) (x : D) (C : Option D → Prop) : Prop := match x with | .str z => (match lkS tbl z with | some o => C o | none => False) | _ => False
theorem on_W {K : PySem.W.Frag} {Hi : Hp} {x : D} {v : V} {tbl : List (Str × Option D)} {C : Option D → Prop} (r : Rep K Hi x v) (h : onW tbl x C) : ∃ z o, v = .str z ∧ (z, o) ∈ tbl ∧ C o := by
  cases r with
  | str z =>
    have h : (match lkS tbl z with | some o => C o | none => False) := h
    cases e : lkS tbl z with
    | none => rw [e] at h; exact False.elim h
    | some o => rw [e] at h; exact ⟨z, o, rfl, lkS_mem e, h⟩
  | _ => exact False.elim h
def dWIn (tbl : List (Str × Option D)) (da : DE) : DE := fun ρ M Q => da ρ M fun x M1 => onW tbl x fun o => Q (.bl o.isSome) M1
def dWNotIn (tbl : List (Str × Option D)) (da : DE) : DE := fun ρ M Q => da ρ M fun x M1 => onW tbl x fun o => Q (.bl (!o.isSome)) M1
def dWItem (tbl : List (Str × Option D)) (da : DE) : DE := fun ρ M Q => da ρ M fun x M1 => onW tbl x fun o => (match o with | some d => Q d M1 | none => False)
def dWGet (tbl : List (Str × Option D)) (da db : DE) : DE := fun ρ M Q => da ρ M fun x M1 => db ρ M1 fun y M2 => onW tbl x fun o => Q (o.getD y) M2
section
variable {X : Cx} {a b : Expr} {da db : DE} {pos : Pos} {d : Addr} {tbl : List (Str × Option D)} {n : Str} {q : Pos}
theorem w_win {K : PySem.W.Frag} {w : World} {r : R2} {f : Bool → Bool} (W : WD K w d tbl) (hr : ∀ z rr Q H, PySem.W.nsIn K d z = some rr → Q (.bl (f rr.isSome)) H → r (.str z) (.ref d) H Q) (σ : L2.St) (H : Hp) (Q : VK)
    (h : liftE K (fun ρ M Q => da ρ M fun x M1 => onW tbl x fun o => Q (.bl (f o.isSome)) M1) σ H Q) : tOp r (liftE K da) (tC (.ref d)) σ H Q := by
  obtain ⟨Hi, ρ, M, R, ah, sl, hd, k⟩ := h
  refine ⟨Hi, ρ, M, _, ah, sl, hd, fun x M1 h1 Hi1 v H1 e1 a1 r1 => ?_⟩
  obtain ⟨z, o, rfl, hm, h1⟩ := on_W r1 h1
  have hw := W.2 _ hm
  cases o with
  | none => exact hr z none Q H1 hw (k _ _ h1 Hi1 _ H1 e1 a1 (.bl _))
  | some x =>
    obtain ⟨u, hu, _⟩ := hw
    exact hr z (some u) Q H1 hu (k _ _ h1 Hi1 _ H1 e1 a1 (.bl _))
theorem xwin (W : WD X.K X.w d tbl) (hg : Gl X n) (hm : X.mg n = some (.ref d)) (ha : XE X a da) (hd : (n == ("__debug__" : Str)) = false := by decide) (h1 : behindInMarks .In (.Name n q) = false := by rfl) : XE X (.Compare a [.In] [.Name n q] pos) (dWIn tbl da) := by
  obtain ⟨es, m, kd⟩ := W.1
  exact PEw (pe_cmpR (op_in_kd kd) ha (pe_glob (v := .ref d) hg hm rfl hd) h1) fun σ H Q h => w_win (f := id) W (fun z rr Q H h1 h2 => ⟨z, rr, rfl, rfl, h1, h2⟩) σ H Q h
theorem xwnotin (W : WD X.K X.w d tbl) (hg : Gl X n) (hm : X.mg n = some (.ref d)) (ha : XE X a da) (hd : (n == ("__debug__" : Str)) = false := by decide) (h1 : behindInMarks .NotIn (.Name n q) = false := by rfl) : XE X (.Compare a [.NotIn] [.Name n q] pos) (dWNotIn tbl da) := by
  obtain ⟨es, m, kd⟩ := W.1
  exact PEw (pe_cmpR (op_notIn_kd kd) ha (pe_glob (v := .ref d) hg hm rfl hd) h1) fun σ H Q h => w_win (f := fun b => !b) W (fun z rr Q H h1 h2 => ⟨z, rr, rfl, rfl, h1, h2⟩) σ H Q h
theorem xtwin (W : WD X.K X.w d tbl) (hg : Gl X n) (hm : X.mg n = some (.ref d)) (ha : XE X a da) (hd : (n == ("__debug__" : Str)) = false := by decide) (h1 : behindInMarks .In (.Name n q) = false := by rfl) : XT X (.Compare a [.In] [.Name n q] pos) (dTst (dWIn tbl da)) := by
  obtain ⟨es, m, kd⟩ := W.1
  exact PTw (pt_cmpR (op_in_kd kd) ha (pe_glob (v := .ref d) hg hm rfl hd) h1) fun σ H Q h => by
    obtain ⟨Hi, ρ, M, R, ah, sl, hd, k⟩ := w_tst σ H Q h
    exact w_win (f := id) W (fun z rr Q H h1 h2 => ⟨z, rr, rfl, rfl, h1, h2⟩) σ H _ ⟨Hi, ρ, M, R, ah, sl, hd, k⟩
theorem xtwnotin (W : WD X.K X.w d tbl) (hg : Gl X n) (hm : X.mg n = some (.ref d)) (ha : XE X a da) (hd : (n == ("__debug__" : Str)) = false := by decide) (h1 : behindInMarks .NotIn (.Name n q) = false := by rfl) : XT X (.Compare a [.NotIn] [.Name n q] pos) (dTst (dWNotIn tbl da)) := by
  obtain ⟨es, m, kd⟩ := W.1
  exact PTw (pt_cmpR (op_notIn_kd kd) ha (pe_glob (v := .ref d) hg hm rfl hd) h1) fun σ H Q h => by
    obtain ⟨Hi, ρ, M, R, ah, sl, hd, k⟩ := w_tst σ H Q h
    exact w_win (f := fun b => !b) W (fun z rr Q H h1 h2 => ⟨z, rr, rfl, rfl, h1, h2⟩) σ H _ ⟨Hi, ρ, M, R, ah, sl, hd, k⟩
/-- T[x] -/
theorem xwitem (W : WD X.K X.w d tbl) (hg : Gl X n) (hm : X.mg n = some (.ref d)) (ha : XE X a da) (hs : NoSl a := by exact fun _ _ => rfl) (hdb : (n == ("__debug__" : Str)) = false := by decide) : XE X (.Subscript (.Name n q) a pos) (dWItem tbl da) := by
  obtain ⟨es, m, kd⟩ := W.1
  refine ⟨fun pins s σ H Q I ⟨Hi, ρ, M, R, ah, sl, hd, k⟩ => ?_⟩
  refine subD_of PySem.F.slot_dict_getitem.lookup hs (thn ((pe_glob (v := .ref d) hg hm rfl hdb).run pins s σ H (fun v H1 => v = .ref d ∧ H1 = H) I ⟨rfl, rfl⟩) fun u s1 ⟨v1, H1, I1, ru, e1, e2⟩ => ?_)
  subst e1
  subst e2
  obtain rfl : u = Value.ref d := ru
  refine thn (ha.run pins s1 σ H1 (fun v H2 => ∃ Hi1 M1 x, Ext Hi M H1 Hi1 M1 H2 ∧ AbsH X.K Hi1 M1 H2 ∧ Rep X.K Hi1 x v ∧ onW tbl x fun o => (match o with | some d => R d M1 | none => False)) I1 ⟨Hi, ρ, M, _, ah, sl, hd, fun x M1 h1 Hi1 v H2 e1 a1 r1 => ⟨Hi1, M1, x, e1, a1, r1, h1⟩⟩) fun iv s2 ⟨v, H2, I2, rv, Hi1, M1, x, e1, a1, rx, h1⟩ => ?_
  refine ⟨kd_type kd I2, ?_⟩
  obtain ⟨z, o, rfl, hm, h1⟩ := on_W rx h1
  have hw := W.2 _ hm
  cases o with
  | none => exact False.elim h1
  | some dd =>
    obtain ⟨u0, hu, v0, r0, hr0⟩ := hw
    exact op_item_kd kd pins s2 σ H2 (.ref d) (.str z) (.ref d) iv Q I2 rfl rv ⟨z, u0, v0, rfl, rfl, hu, r0, k _ _ h1 Hi1 _ H2 e1 a1 (hr0 Hi1)⟩
/-- T.get(x, y) -/
theorem xwget (hu : X.A.units + 1 < cLine) {apos cpos : Pos} (W : WD X.K X.w d tbl) (hg : Gl X n) (hm : X.mg n = some (.ref d)) (ha : XE X a da) (hb : XE X b db) (m : M2 X (.Name n q) "get" apos a b cpos) (hdb : (n == ("__debug__" : Str)) = false := by decide) :
    XE X (.Call (.Attribute (.Name n q) "get" apos) [a, b] [] cpos) (dWGet tbl da db) := by
  obtain ⟨es, mm, kd⟩ := W.1
  refine ⟨fun pins s σ H Q I ⟨Hi, ρ, M, R, ah, sl, hd, k⟩ => ?_⟩
  refine wpAny_Call_method m.base m.few m.line PySem.F.plainAttrs_dict PySem.F.slot_dict_get PySem.F.type_dict_get (thn ((pe_glob (v := .ref d) hg hm rfl hdb).run pins s σ H (fun v H1 => v = .ref d ∧ H1 = H) I ⟨rfl, rfl⟩) fun u s1 ⟨v1, H1, I1, ru, e1, e2⟩ => ?_)
  subst e1
  subst e2
  obtain rfl : u = Value.ref d := ru
  have ko := I1.kIn d _ kd.at_
  refine ⟨kd_type kd I1, fun b q => by cases q; exact ⟨_, ko, rfl⟩, ?_⟩
  rw [m.trees]
  refine Calls.callWith_builtin rfl (Calls.evalArgs_plain (Calls.spliced_cons (thn (ha.run pins s1 σ H1 (fun v H2 => ∃ Hi1 M1 x, Ext Hi M H1 Hi1 M1 H2 ∧ AbsH X.K Hi1 M1 H2 ∧ Rep X.K Hi1 x v ∧ db ρ M1 fun y M2 => onW tbl x fun o => R (o.getD y) M2) I1 ⟨Hi, ρ, M, _, ah, sl, hd, fun x M1 h1 Hi1 v H2 e1 a1 r1 => ⟨Hi1, M1, x, e1, a1, r1, h1⟩⟩) fun iv s2 ⟨v, H2, I2, rv, Hi1, M1, x, e1, a1, rx, h1⟩ =>
    Calls.spliced_cons (thn (hb.run pins s2 σ H2 (fun w H3 => ∃ Hi2 M2 y, Ext Hi M H1 Hi2 M2 H3 ∧ AbsH X.K Hi2 M2 H3 ∧ Rep X.K Hi2 x v ∧ Rep X.K Hi2 y w ∧ onW tbl x fun o => R (o.getD y) M2) I2 ⟨Hi1, ρ, M1, _, a1, sl.mono e1.hi, h1, fun y M2 h2 Hi2 w H3 e2 a2 r2 => ⟨Hi2, M2, y, e1.trans e2, a2, rx.mono e2.hi, r2, h2⟩⟩) fun fv s3 ⟨w, H3, I3, rw', Hi2, M2, y, e12, a2, rx2, ry, h2⟩ => Calls.spliced_nil ?_))))
  obtain ⟨z, o, rfl, hmem, h2⟩ := on_W rx2 h2
  obtain ⟨t, rfl⟩ := rv
  have hw := W.2 _ hmem
  have mp := PySem.W.mapOf_K (prog := X.prog) (w := X.w) I3.kIn kd.at_ kd.lit
  refine call_meetsIn PySem.F.slot_dict_get (kd_type kd I3) PySem.F.entry_dict_get (PySem.F.args_dict_get_3 _ _ _) (meets_dict_get_default (strKind X.prog X.w) d (PySem.strKind_is X.prog X.w z t) kd.low fv) ⟨_, mp, ?_⟩
  cases o with
  | none =>
    rw [PySem.W.find_K kd.at_ hw]
    exact ⟨w, H3, I3.tok _, rw', k _ _ h2 Hi2 _ H3 e12 a2 ry⟩
  | some dd =>
    obtain ⟨u0, hu0, v0, r0, hr0⟩ := hw
    rw [PySem.W.find_K kd.at_ hu0]
    exact ⟨v0, H3, I3.tok _, r0, k _ _ h2 Hi2 _ H3 e12 a2 (hr0 Hi2)⟩
end
end DL
set_option maxRecDepth 100000
set_option maxHeartbeats 1000000
namespace DL
open PySem PySem.Spec PyProof.Rows L2

/-! ### a list against the empty list -/
def rNeNil (K : PySem.W.Frag) : R2 := fun x y H Q => ∃ a b xs, x = .ref a ∧ y = .ref b ∧ SqL K H a xs ∧ SqL K H b [] ∧ Q (.bl (!xs.isEmpty)) H
def rEqNil (K : PySem.W.Frag) : R2 := fun x y H Q => ∃ a b xs, x = .ref a ∧ y = .ref b ∧ SqL K H a xs ∧ SqL K H b [] ∧ Q (.bl xs.isEmpty) H
theorem op_neNil {X : Cx} (hu : X.A.units < cLine) : OpR X (compareOp .NotEq) (rNeNil X.K) := by
  intro pins s σ H x y v u Q I rx ry h
  obtain ⟨a, b, xs, rfl, rfl, ha, hb, q⟩ := h
  cases rx
  cases ry
  obtain ⟨its, r1, p1, _⟩ := I.list ha
  obtain ⟨its2, r2, p2, _⟩ := I.list hb
  cases r2
  cases r1 with
  | nil => exact PySem.SeqAt.RcNeAt.lists (e := fun _ => true) p1.isList p2.isList rfl hu (fun j h1 => absurd h1 (by simp)) _ _ _ _ ⟨.bl false, H, I, rfl, q⟩
  | cons h t => exact PySem.SeqAt.RcNeAt.lists_lengths p1.isList p2.isList (by simp) hu _ _ _ _ ⟨.bl true, H, I, rfl, q⟩
theorem op_eqNil {X : Cx} (hu : X.A.units < cLine) : OpR X (compareOp .Eq) (rEqNil X.K) := by
  intro pins s σ H x y v u Q I rx ry h
  obtain ⟨a, b, xs, rfl, rfl, ha, hb, q⟩ := h
  cases rx
  cases ry
  obtain ⟨its, r1, p1, _⟩ := I.list ha
  obtain ⟨its2, r2, p2, _⟩ := I.list hb
  cases r2
  cases r1 with
  | nil => exact PySem.SeqAt.eq_listAt (e := fun _ => true) p1.isList p2.isList rfl hu (fun j h1 => absurd h1 (by simp)) ⟨.bl true, H, I, rfl, q⟩
  | cons h t => exact PySem.SeqAt.eq_list_lengthsAt p1.isList p2.isList (by simp) hu ⟨.bl false, H, I, rfl, q⟩
def onLS (M : Mh) (x : D) (C : List D → Prop) : Prop := match asLS M x with | some ys => C ys | none => False
theorem on_LS {K : PySem.W.Frag} {Hi H : Hp} {M : Mh} {x : D} {v : V} {C : List D → Prop} (A : AbsH K Hi M H) (r : Rep K Hi x v) (h : onLS M x C) : ∃ a ys vs, v = .ref a ∧ SqL K H a vs ∧ Reps K Hi ys vs ∧ C ys := by
  unfold onLS at h
  cases e : asLS M x with
  | none => rw [e] at h; exact False.elim h
  | some ys =>
    rw [e] at h
    obtain ⟨a, vs, e1, e2, e3⟩ := asLS_ok A r e
    exact ⟨a, ys, vs, e1, e2, e3, h⟩
/-- the right side a list without items -/
def gNeNil : G2 := fun x y M Q => onLS M y fun zs => zs = [] ∧ onLS M x fun ys => Q (.bl (!ys.isEmpty)) M
def gEqNil : G2 := fun x y M Q => onLS M y fun zs => zs = [] ∧ onLS M x fun ys => Q (.bl ys.isEmpty) M
theorem empty_rep {K : PySem.W.Frag} {Hi : Hp} {ds : List D} {vs : List V} (r : Reps K Hi ds vs) : vs.isEmpty = ds.isEmpty := by cases r <;> rfl
theorem lf_neNil {K : PySem.W.Frag} : Lf2 K (rNeNil K) gNeNil := by
  intro Hi M H x y v w R Q ah r1 r2 h k
  obtain ⟨b, zs, ws, rfl, h1, s1, rfl, h⟩ := on_LS ah r2 h
  obtain ⟨a, ys, vs, rfl, h2, s2, h⟩ := on_LS ah r1 h
  cases s1
  refine ⟨a, b, vs, rfl, rfl, h2, h1, ?_⟩
  rw [empty_rep s2]
  exact k _ _ h Hi _ H (Ext.refl _ _ _) ah (.bl _)
theorem lf_eqNil {K : PySem.W.Frag} : Lf2 K (rEqNil K) gEqNil := by
  intro Hi M H x y v w R Q ah r1 r2 h k
  obtain ⟨b, zs, ws, rfl, h1, s1, rfl, h⟩ := on_LS ah r2 h
  obtain ⟨a, ys, vs, rfl, h2, s2, h⟩ := on_LS ah r1 h
  cases s1
  refine ⟨a, b, vs, rfl, rfl, h2, h1, ?_⟩
  rw [empty_rep s2]
  exact k _ _ h Hi _ H (Ext.refl _ _ _) ah (.bl _)

/-! ### == of data: trees of tuples and ints, told by a function into PyData -/
mutual
inductive Py : D → PyData → Prop
  | non : Py .non .none
  | bl (b : Bool) : Py (.bl b) (.bool b)
  | int (i : Int) : Py (.int i) (.int i)
  | str (x : Str) : Py (.str x) (.str x)
  | tup {ds : List D} {ps : List PyData} (h : PyAll ds ps) : Py (.tup ds) (.tuple ps)
  | lst {ds : List D} {ps : List PyData} (h : PyAll ds ps) : Py (.lst ds) (.list ps)
inductive PyAll : List D → List PyData → Prop
  | nil : PyAll [] []
  | cons {d : D} {p : PyData} {ds : List D} {ps : List PyData} (h : Py d p) (t : PyAll ds ps) : PyAll (d :: ds) (p :: ps)
end
mutual
theorem py_dp {K : PySem.W.Frag} {Hi H : Hp} (s : Sub Hi H) : ∀ {d : D} {p : PyData} {v : V}, Py d p → Rep K Hi d v → Dp K H v p
  | _, _, _, .non, r => by cases r; exact .non
  | _, _, _, .bl b, r => by cases r; exact .bl b
  | _, _, _, .int i, r => by cases r; exact .int i
  | _, _, _, .str i, r => by cases r; exact .str i
  | _, _, _, .tup h, r => by cases r with | tup hs rs => exact .tup (s.sqT hs) (py_dps s h rs)
  | _, _, _, .lst h, r => by cases r with | lst hs rs => exact .lst (SqL.of (s _ _ hs)) (py_dps s h rs)
theorem py_dps {K : PySem.W.Frag} {Hi H : Hp} (s : Sub Hi H) : ∀ {d : List D} {p : List PyData} {v : List V}, PyAll d p → Reps K Hi d v → DpAll K H v p
  | _, _, _, .nil, r => by cases r; exact .nil
  | _, _, _, .cons h t, r => by cases r with | cons r1 r2 => exact .cons (py_dp s h r1) (py_dps s t r2)
end
def gEqD : G2 := fun x y M Q => ∃ p q, Py x p ∧ Py y q ∧ SeqAt.shaped p = true ∧ SeqAt.shaped q = true ∧ Q (.bl (PyData.eqv p q)) M
def gNeD : G2 := fun x y M Q => ∃ p q, Py x p ∧ Py y q ∧ SeqAt.shaped p = true ∧ SeqAt.shaped q = true ∧ Q (.bl (!PyData.eqv p q)) M
theorem lf_eqD {K : PySem.W.Frag} : Lf2 K (rEqD K) gEqD := by
  intro Hi M H x y v w R Q ah r1 r2 ⟨p, q, hp, hq, s1, s2, h⟩ k
  exact ⟨p, q, py_dp ah.sub hp r1, py_dp ah.sub hq r2, s1, s2, k _ _ h Hi _ H (Ext.refl _ _ _) ah (.bl _)⟩
theorem lf_neD {K : PySem.W.Frag} : Lf2 K (rNeD K) gNeD := by
  intro Hi M H x y v w R Q ah r1 r2 ⟨p, q, hp, hq, s1, s2, h⟩ k
  exact ⟨p, q, py_dp ah.sub hp r1, py_dp ah.sub hq r2, s1, s2, k _ _ h Hi _ H (Ext.refl _ _ _) ah (.bl _)⟩

/-! ### own defs -/
abbrev DF := List D → Mh → (D → Mh → Prop) → Prop
def spD (K : PySem.W.Frag) (F : DF) : Sp := fun vs H Q _ => ∃ Hi M ds R, AbsH K Hi M H ∧ Reps K Hi ds vs ∧ F ds M R ∧ Kont K Hi M H R Q
def dCall (F : DF) (da : DA) : DE := fun ρ M Q => da ρ M fun xs M1 => F xs M1 Q
section
variable {X : Cx} {k : Nat} {f C : Addr} {fd : FuncData} {ps ks : List Str} {F : DF} {x m : Str} {p pos apos : Pos} {e o : Expr} {es : List Expr} {da : DA} {d : DE} {kws : List Keyword}
abbrev FnD (X : Cx) (k : Nat) (f : Addr) (fd : FuncData) (ps : List Str) (F : DF) : Prop := FnOk X.prog X.w X.K X.mg X.base CX0 k f fd ps (spD X.K F)
theorem xcall (G : FnD X k f fd ps F) (hr : Room k X.A) (hg : Gl X x) (hm : X.mg x = some (.ref f)) (hk : PySem.W.keepIn X.K (.ref f) = true) (hb : Binds X.K fd ps [])
    (ha : XAL X (e :: es) da) (hdb : (x == ("__debug__" : Str)) = false := by decide) (he : starEach (e :: es) X.env = (false, eval e X.env) :: starEach es X.env := by rfl) (hpl : (backTo pos (starEach es X.env)).any (·.1) = false := by rfl) :
    XE X (.Call (.Name x p) (e :: es) [] pos) (dCall F da) := PEw (pe_call G hr hg hm hk hb .nil pass0 ha.pa hdb he hpl) fun σ H Q ⟨Hi, ρ, M, R, ah, sl, hd, k⟩ => by
  refine ⟨Hi, ρ, M, _, ah, sl, hd, fun xs M1 h1 Hi1 vs H1 e1 a1 r1 => ?_⟩
  show spD X.K F (vs ++ []) H1 Q E0
  rw [List.append_nil]
  exact ⟨Hi1, M1, xs, R, a1, r1, h1, k.ext e1⟩
/-! ### keywords -/
structure XK (X : Cx) (kws : List Keyword) (d : DA) : Prop where
  run : ∀ (pos : Pos) (pins : List (Addr × Obj)) (s : Shared) (σ : L2.St) (H : Hp) (Q : List V → Hp → Prop), Inv X pins σ H s → liftA X.K d σ H Q →
    wpAny (model X.prog X.w) X.A (evalAll ((backToKw pos (keywordEach kws X.env)).map (·.2))) (fun us s' => ∃ vs H', Inv X pins σ H' s' ∧ Vals vs us ∧ vs.length = kws.length ∧ Q vs H') X.xe s
theorem xk_nil : XK X [] dNil := ⟨fun _ _ _ _ H Q I ⟨Hi, ρ, M, R, ah, sl, hd, k⟩ => wpAny_evalAll_nil ⟨[], H, I, .nil, rfl, k _ _ hd Hi [] H (Ext.refl _ _ _) ah .nil⟩⟩
theorem xk_cons {nm : Option Str} {kpos : Pos} {dr : DA} (ha : XE X e d) (hr : XK X kws dr) : XK X (⟨nm, e, kpos⟩ :: kws) (dCons d dr) := by
  refine ⟨fun pos pins s σ H Q I ⟨Hi, ρ, M, R, ah, sl, hd, k⟩ => ?_⟩
  show wpAny _ _ (evalAll ((do let v ← eval e X.env; standAt pos; pure v) :: (backToKw pos (keywordEach kws X.env)).map (·.2))) _ _ s
  refine wpAny_evalAll_cons (wpAny_bind (thn (ha.run pins s σ H (fun v H1 => ∃ Hi1 M1 x, Ext Hi M H Hi1 M1 H1 ∧ AbsH X.K Hi1 M1 H1 ∧ Rep X.K Hi1 x v ∧ dr ρ M1 fun xs M2 => R (x :: xs) M2) I ⟨Hi, ρ, M, _, ah, sl, hd, fun x M1 h1 Hi1 v H1 e1 a1 r1 => ⟨Hi1, M1, x, e1, a1, r1, h1⟩⟩) fun u s1 ⟨v, H1, I1, r1, Hi1, M1, x, e1, a1, rx, h1⟩ => wpAny_bind (wpAny_standAt (wpAny_pure ?_))))
  refine thn (hr.run pos pins s1 σ H1 (fun vs H2 => Q (v :: vs) H2) I1 ⟨Hi1, ρ, M1, _, a1, sl.mono e1.hi, h1, fun xs M2 h2 Hi2 vs H2 e2 a2 r2 => k _ _ h2 Hi2 _ H2 (e1.trans e2) a2 (.cons (rx.mono e2.hi) r2)⟩) fun us s2 ⟨vs, H2, I2, r2, l2, q2⟩ => ⟨v :: vs, H2, I2, .cons r1 r2, by rw [List.length_cons, List.length_cons, l2], q2⟩
/-- f(k = v, ..): all parameters by keywords, in their sequence -/
theorem xcallK (G : FnD X k f fd ps F) (hr : Room k X.A) (hg : Gl X x) (hm : X.mg x = some (.ref f)) (hk : PySem.W.keepIn X.K (.ref f) = true)
    (hb : ∀ (s : Shared) (ws : List Value), X.K.In s.heap → ws.length = ps.length → BindsTo s fd ⟨[], ps.zip ws⟩ (ps.zip ws)) (hkw : XK X kws da)
    (hall : (backToKw pos (keywordEach kws X.env)).all (·.1.isSome) = true := by rfl) (hks : (backToKw pos (keywordEach kws X.env)).filterMap (·.1) = ps := by rfl) (hlen : kws.length = ps.length := by rfl) (hdb : (x == ("__debug__" : Str)) = false := by decide)
    (hpl : ((backTo pos (starEach [] X.env)).any (·.1) || (backToKw pos (keywordEach kws X.env)).any (·.1.isNone)) = false := by rfl) :
    XE X (.Call (.Name x p) [] kws pos) (dCall F da) := by
  refine ⟨fun pins s σ H Q I ⟨Hi, ρ, M, R, ah, sl, hd, kk⟩ => ?_⟩
  refine wpAny_Call_Name_kw (ld_glob I hg hm ?_ hdb)
  refine PySem.W.callWith_KW0 (h₀ := X.base) I.ok.mod.kin hk hall ?_ hpl
  refine thn (hkw.run pos pins s σ H (fun vs H1 => spD X.K F vs H1 Q E0) I ⟨Hi, ρ, M, _, ah, sl, hd, fun xs M1 h1 Hi1 vs H1 e1 a1 r1 => ⟨Hi1, M1, xs, R, a1, r1, h1, kk.ext e1⟩⟩) fun ws s2 ⟨zs, H2, I2, rz, l1, q2⟩ => ⟨I2.kIn, ?_⟩
  rw [hks]
  have hl : ws.length = ps.length := by rw [← rz.length, l1, hlen]
  refine wpAny_call (codeAny_mono (G.run X.A X.stack s2 H2 ⟨[] ++ [], ps.zip ws⟩ ws zs Q E0 hr I2.env0 (hb s2 ws I2.kIn hl) rz q2) fun r s' hq => ?_)
  cases r with
  | error e => exact False.elim hq
  | ok fl =>
    cases fl with
    | ret u => exact I2.after hq
    | next => exact False.elim hq
    | brk => exact False.elim hq
    | cont => exact False.elim hq

/-! ### instances -/
def dFld (f : Str) (da : DE) : DE := fun ρ M Q => da ρ M fun x M1 => match x with
  | .ptr a => (match mins M1 a with | some (_, fs) => (match fs.lookup f with | some d => Q d M1 | none => False) | none => False)
  | _ => False
theorem flds_lookup {K : PySem.W.Frag} {Hi : Hp} (f : Str) {d : D} : ∀ {fs : List (Str × D)} {vs : List (Str × V)}, Flds K Hi fs vs → fs.lookup f = some d → ∃ v, vs.lookup f = some v ∧ Rep K Hi d v
  | _, _, .nil, h => by cases h
  | _, _, @Flds.cons _ _ g d0 v0 ds vs hr t, h => by
    rw [List.lookup_cons] at h ⊢
    cases e : f == g with
    | true => rw [e] at h; cases h; exact ⟨_, rfl, hr⟩
    | false => rw [e] at h; exact flds_lookup f t h
theorem flds_none {K : PySem.W.Frag} {Hi : Hp} (f : Str) : ∀ {fs : List (Str × D)} {vs : List (Str × V)}, Flds K Hi fs vs → fs.lookup f = none → vs.lookup f = none
  | _, _, .nil, h => rfl
  | _, _, @Flds.cons _ _ g d0 v0 ds vs hr t, h => by
    rw [List.lookup_cons] at h ⊢
    cases e : f == g with
    | true => rw [e] at h; cases h
    | false => rw [e] at h; exact flds_none f t h
theorem flds_length {K : PySem.W.Frag} {Hi : Hp} : ∀ {fs : List (Str × D)} {vs : List (Str × V)}, Flds K Hi fs vs → fs.length = vs.length
  | _, _, .nil => rfl
  | _, _, .cons _ t => by rw [List.length_cons, List.length_cons, flds_length t]
def putFD (f : Str) (v : D) : List (Str × D) → List (Str × D)
  | [] => [(f, v)]
  | (g, w) :: r => if g = f then (g, v) :: r else (g, w) :: putFD f v r
theorem flds_put {K : PySem.W.Frag} {Hi : Hp} (f : Str) {d : D} {v : V} (hv : Rep K Hi d v) : ∀ {fs : List (Str × D)} {vs : List (Str × V)}, Flds K Hi fs vs → Flds K Hi (putFD f d fs) (putF f v vs)
  | _, _, .nil => .cons hv .nil
  | _, _, @Flds.cons _ _ g d0 v0 ds vs hr t => by
    unfold putFD putF
    by_cases e : g = f
    · rw [if_pos e, if_pos e]; exact .cons hv t
    · rw [if_neg e, if_neg e]; exact .cons hr (flds_put f hv t)
def onIns (M : Mh) (C : Addr) (x : D) (P : Addr → List (Str × D) → Prop) : Prop := match x with
  | .ptr a => (match mins M a with | some (C', fs) => C' = C ∧ P a fs | none => False)
  | _ => False
theorem on_ins {K : PySem.W.Frag} {Hi H : Hp} {M : Mh} {x : D} {v : V} {C : Addr} {P : Addr → List (Str × D) → Prop} (A : AbsH K Hi M H) (r : Rep K Hi x v) (h : onIns M C x P) : ∃ a fs dx vs, x = .ptr a ∧ v = .ref a ∧ M a = some (.ins C fs) ∧ H a = some (.ins C dx vs) ∧ Flds K Hi fs vs ∧ P a fs := by
  cases r with
  | ptr a =>
    have h : (match mins M a with | some (C', fs) => C' = C ∧ P a fs | none => False) := h
    cases e : mins M a with
    | none => rw [e] at h; exact False.elim h
    | some q =>
      obtain ⟨C', fs⟩ := q
      rw [e] at h
      obtain ⟨rfl, h3⟩ := h
      obtain ⟨dx, vs, h1, h2⟩ := A.at_ins (mins_eq e)
      exact ⟨a, fs, dx, vs, rfl, rfl, mins_eq e, h1, h2, h3⟩
  | _ => exact False.elim h
def dFldC (C : Addr) (f : Str) (da : DE) : DE := fun ρ M Q => da ρ M fun x M1 => onIns M1 C x fun _ fs => (match fs.lookup f with | some d => Q d M1 | none => False)
theorem xfld (c : Cls X.K C) (n : NoAttr X.K C m) (he : XE X e d) (hb : attributeBase e m X.env (eval e X.env) = eval e X.env := by rfl) : XE X (.Attribute e m pos) (dFldC C m d) := PEw (pe_fld he hb) fun σ H Q ⟨Hi, ρ, M, R, ah, sl, hd, k⟩ => by
  refine ⟨Hi, ρ, M, _, ah, sl, hd, fun x M1 h1 Hi1 v H1 e1 a1 r1 => ?_⟩
  obtain ⟨a, fs, dx, vs, rfl, rfl, hM, hH, hF, h1⟩ := on_ins a1 r1 h1
  cases el : fs.lookup m with
  | none => rw [el] at h1; exact False.elim h1
  | some dd =>
    rw [el] at h1
    obtain ⟨u, hu, ru⟩ := flds_lookup m hF el
    exact ⟨a, C, dx, vs, u, rfl, hH, c, n, hu, k _ _ h1 Hi1 _ H1 e1 a1 ru⟩
/-- o.m(..) -/
def dMeth (C : Addr) (m : Str) (F : DF) (da : DE) (args : DA) : DE := fun ρ M Q => da ρ M fun x M1 => onIns M1 C x fun _ fs => fs.lookup m = none ∧ args ρ M1 fun ys M2 => F (x :: ys) M2 Q
theorem w_meth {K : PySem.W.Frag} (σ : L2.St) (H : Hp) (Q : VK) (h : liftE K (dMeth C m F d da) σ H Q) : tMeth C m (spD K F) [] E0 (liftE K d) (liftA K da) σ H Q := by
  obtain ⟨Hi, ρ, M, R, ah, sl, hd, k⟩ := h
  refine ⟨Hi, ρ, M, _, ah, sl, hd, fun x M1 h1 Hi1 v H1 e1 a1 r1 => ?_⟩
  obtain ⟨a, fs, dx, vs, rfl, rfl, hM, hH, hF, hn, h1⟩ := on_ins a1 r1 h1
  refine ⟨a, dx, vs, rfl, hH, flds_none m hF hn, Hi1, ρ, M1, _, a1, sl.mono e1.hi, h1, fun ys M2 h2 Hi2 ws H2 e2 a2 r2 => ?_⟩
  show spD K F (V.ref a :: (ws ++ [])) H2 Q E0
  rw [List.append_nil]
  exact ⟨Hi2, M2, _, R, a2, .cons (.ptr a) r2, h2, k.ext (e1.trans e2)⟩
theorem xmeth {pl : Sem Bool} (he : XE X o d) (c : Cls X.K C) (hm : Meth X.K C m f) (G : FnD X k f fd ps F) (hr : Room k X.A) (hb : Binds X.K fd ps []) (ha : XAL X (e :: es) da)
    (hst : starEach (e :: es) X.env = (false, eval e X.env) :: starEach es X.env := by rfl) (hpl : (backTo pos (starEach es X.env)).any (·.1) = false := by rfl)
    (ht : eval (.Call (.Attribute o m apos) (e :: es) [] pos) X.env = (do
      let ov ← eval o X.env
      standAt apos.atName
      let (f, first) ← holding [ov] (getMethod ov m pl)
      callWith pos f first (backTo pos (starEach (e :: es) X.env)) (backToKw pos (keywordEach [] X.env))) := by rfl) :
    XE X (.Call (.Attribute o m apos) (e :: es) [] pos) (dMeth C m F d da) := PEw (pe_meth (pl := pl) he c hm G hr hb .nil pass0 ha.pa hst hpl ht) w_meth
theorem xmeth0 {pl : Sem Bool} (he : XE X o d) (c : Cls X.K C) (hm : Meth X.K C m f) (G : FnD X k f fd ps F) (hr : Room k X.A) (hb : Binds X.K fd ps [])
    (ht : eval (.Call (.Attribute o m apos) [] [] pos) X.env = (do
      let ov ← eval o X.env
      standAt apos.atName
      let (f, first) ← holding [ov] (getMethod ov m pl)
      callWith pos f first (backTo pos (starEach [] X.env)) (backToKw pos (keywordEach [] X.env))) := by rfl) :
    XE X (.Call (.Attribute o m apos) [] [] pos) (dMeth C m F d dNil) := PEw (pe_meth0 (pl := pl) he c hm G hr hb .nil pass0 ht) fun σ H Q h => by
  obtain ⟨Hi, ρ, M, R, ah, sl, hd, k⟩ := h
  refine ⟨Hi, ρ, M, _, ah, sl, hd, fun x M1 h1 Hi1 v H1 e1 a1 r1 => ?_⟩
  obtain ⟨a, fs, dx, vs, rfl, rfl, hM, hH, hF, hn, h1⟩ := on_ins a1 r1 h1
  exact ⟨a, dx, vs, rfl, hH, flds_none m hF hn, Hi1, M1, _, R, a1, .cons (.ptr a) .nil, h1, k.ext e1⟩
/-- C(..) -/
def dMake (C : Addr) (F : DF) (args : DA) : DE := fun ρ M Q => args ρ M fun ys M1 => ∀ a, M1 a = none → F (.ptr a :: ys) (mup M1 a (.ins C [])) fun r M2 => r = .non ∧ Q (.ptr a) M2
theorem xmake (Mk' : Mk X.K C f) (G : FnD X k f fd ps F) (hr : Room (k + 1) X.A) (hg : Gl X x) (hm : X.mg x = some (.ref C)) (hb : Binds X.K fd ps [])
    (ha : XAL X (e :: es) da) (hdb : (x == ("__debug__" : Str)) = false := by decide) (he : starEach (e :: es) X.env = (false, eval e X.env) :: starEach es X.env := by rfl) (hpl : (backTo pos (starEach es X.env)).any (·.1) = false := by rfl) :
    XE X (.Call (.Name x p) (e :: es) [] pos) (dMake C F da) := PEw (pe_make Mk' G hr hg hm hb .nil pass0 ha.pa hdb he hpl) fun σ H Q ⟨Hi, ρ, M, R, ah, sl, hd, k⟩ => by
  refine ⟨Hi, ρ, M, _, ah, sl, hd, fun xs M1 h1 Hi1 vs H1 e1 a1 r1 a dx ha hdx hne => ?_⟩
  rw [List.append_nil]
  have ha2 : upd H1 dx (.own a) a = none := by rw [upd_ne hne.symm]; exact ha
  have A2 : AbsH X.K Hi1 M1 (upd H1 dx (.own a)) := ⟨a1.sub.trans (Sub.upd _ hdx), fun b m e => by
    obtain ⟨p1, u, p2, p3⟩ := a1.mt b m e
    exact ⟨p1, u, by rw [upd_ne (ne_of_none p2 hdx)]; exact p2, p3⟩⟩
  have E2 : Ext Hi1 M1 H1 Hi1 M1 (upd H1 dx (.own a)) := ⟨Sub.refl _, fun b o e em => ⟨by rw [upd_ne (ne_of_none e hdx)]; exact e, em, id⟩⟩
  have A3 := A2.newM ha2 (o := .ins C dx []) (m := .ins C []) (.ins .nil)
  have E3 := A2.extM ha2 (.ins C dx []) (.ins C [])
  refine ⟨Hi1, _, _, _, A3, .cons (.ptr a) r1, h1 a (a1.none_m ha), fun y M' hy Hi' v H' e4 a4 r4 => ?_⟩
  obtain ⟨rfl, hy⟩ := hy
  cases r4
  exact ⟨rfl, k _ _ hy Hi' _ H' (e1.trans (E2.trans (E3.trans e4))) a4 (.ptr a)⟩
end
end DL
set_option maxRecDepth 100000
set_option maxHeartbeats 1000000
namespace DL
open PySem PySem.Spec PyProof.Rows L2

section
variable {K : PySem.W.Frag} {Hi H : Hp} {M : Mh} {E : DEnds} {D' : Ends}
theorem KEnds.keep (k : KEnds K Hi M H E D') {nx : DV → Mh → Prop} {nx' : L2.St → Hp → Prop} (h : KontN K Hi M H nx nx') : KEnds K Hi M H { E with nx := nx } { D' with nx := nx' } := ⟨h, k.rt, k.bk, k.ct⟩
end
def dNext : DS := fun E ρ M => E.nx ρ M
def dSeq (a b : DS) : DS := fun E ρ M => a { E with nx := fun ρ' M' => b E ρ' M' } ρ M
def dRet (da : DE) : DS := fun E ρ M => da ρ M E.rt
def dRetN : DS := fun E _ M => E.rt .non M
def dDrop (da : DE) : DS := fun E ρ M => da ρ M fun _ M1 => E.nx ρ M1
def dIfS (t : DT) (a b : DS) : DS := fun E ρ M => t ρ M fun c M1 => if c = true then a E ρ M1 else b E ρ M1
section
variable {X : Cx} {st : Stmt} {rest : List Stmt} {a b : DS} {e : Expr} {d : DE} {pos : Pos}
theorem xs_nil : XSs X [] dNext := PSsw pss_nil fun D σ H ⟨Hi, ρ, M, E, ah, sl, hd, k⟩ => k.nx _ _ hd Hi σ H (Ext.refl _ _ _) ah sl
theorem xs_cons (h1 : XS X st a) (h2 : XSs X rest b) : XSs X (st :: rest) (dSeq a b) := PSsw (pss_cons h1 h2) fun D σ H ⟨Hi, ρ, M, E, ah, sl, hd, k⟩ =>
  ⟨Hi, ρ, M, _, ah, sl, hd, k.keep fun ρ' M' h Hi' σ' H' e a' s' => ⟨Hi', ρ', M', E, a', s', h, k.ext e⟩⟩
theorem xs_one (h1 : XS X st a) : XSs X [st] a := pss_one h1
theorem x_expr (he : XE X e d) (hs : swapsWith e none pos.line X.env = pure false := by rfl) : XS X (.Expr e pos) (dDrop d) := PSw (ps_expr he hs) fun D σ H ⟨Hi, ρ, M, E, ah, sl, hd, k⟩ =>
  ⟨Hi, ρ, M, _, ah, sl, hd, fun x M' h Hi' v H' e a' r => k.nx _ _ h Hi' σ H' e a' (sl.mono e.hi)⟩
theorem x_ret (he : XE X e d) : XS X (.Return (some e) pos) (dRet d) := PSw (ps_ret he) fun D σ H ⟨Hi, ρ, M, E, ah, sl, hd, k⟩ => ⟨Hi, ρ, M, _, ah, sl, hd, k.rt⟩
theorem x_retN : XS X (.Return none pos) dRetN := PSw ps_retN fun D σ H ⟨Hi, ρ, M, E, ah, sl, hd, k⟩ => k.rt _ _ hd Hi _ H (Ext.refl _ _ _) ah .non
theorem x_ifs {c : Expr} {p q : List Stmt} {t : DT} (hc : XT X c t) (ha : XSs X p a) (hb : XSs X q b) : XS X (.If c p q pos) (dIfS t a b) := PSw (ps_if hc ha hb) fun D σ H ⟨Hi, ρ, M, E, ah, sl, hd, k⟩ => by
  refine ⟨Hi, ρ, M, _, ah, sl, hd, fun c M1 h1 Hi1 H1 e1 a1 => ?_⟩
  cases c with
  | true => exact ⟨Hi1, ρ, M1, E, a1, sl.mono e1.hi, h1, k.ext e1⟩
  | false => exact ⟨Hi1, ρ, M1, E, a1, sl.mono e1.hi, h1, k.ext e1⟩
end
/-- never come to -/
def dNever : DS := fun _ _ _ => False
theorem x_never {X : Cx} {st : Stmt} : XS X st dNever := PSw ps_never fun _ _ _ ⟨_, _, _, _, _, _, hd, _⟩ => hd.elim
theorem xs_never {X : Cx} {sts : List Stmt} : XSs X sts dNever := PSsw pss_never fun _ _ _ ⟨_, _, _, _, _, _, hd, _⟩ => hd.elim

/-! ### targets -/
abbrev DG := D → DV → Mh → (DV → Mh → Prop) → Prop
abbrev DGs := List D → DV → Mh → (DV → Mh → Prop) → Prop
def liftG (K : PySem.W.Frag) (g : DG) : TG := fun v σ H Q => ∃ Hi ρ M x R, AbsH K Hi M H ∧ Sl K Hi ρ σ ∧ Rep K Hi x v ∧ g x ρ M R ∧ KontN K Hi M H R Q
def liftGs (K : PySem.W.Frag) (g : DGs) : TGs := fun v σ H Q => ∃ Hi ρ M x R, AbsH K Hi M H ∧ Sl K Hi ρ σ ∧ Reps K Hi x v ∧ g x ρ M R ∧ KontN K Hi M H R Q
abbrev XG (X : Cx) (e : Expr) (g : DG) : Prop := PG X e (liftG X.K g)
abbrev XGs (X : Cx) (e : List Expr) (g : DGs) : Prop := PGs X e (liftGs X.K g)
theorem PGw {X : Cx} {e : Expr} {t t' : TG} (h : PG X e t) (w : ∀ v σ H Q, t' v σ H Q → t v σ H Q) : PG X e t' := ⟨fun pins s σ H v u Q I r q => h.run pins s σ H v u Q I r (w _ _ _ _ q)⟩
theorem PGsw {X : Cx} {e : List Expr} {t t' : TGs} (h : PGs X e t) (w : ∀ v σ H Q, t' v σ H Q → t v σ H Q) : PGs X e t' := ⟨fun pins s σ H v u Q I r q => h.run pins s σ H v u Q I r (w _ _ _ _ q)⟩
theorem Sl.set {K : PySem.W.Frag} {Hi : Hp} {ρ : DV} {σ : L2.St} (h : Sl K Hi ρ σ) {i : Nat} {x : D} {v : V} (r : Rep K Hi x v) (hl : i < σ.length) : Sl K Hi (ρ.set i (some x)) (σ.set i (some v)) :=
  ⟨fun j d e => by
    rcases lk_set e with ⟨rfl, rfl, _⟩ | ⟨hne, e'⟩
    · exact ⟨v, by rw [List.getElem?_set_self hl], r⟩
    · obtain ⟨u, h1, h2⟩ := h.at_ j d e'
      exact ⟨u, by rw [List.getElem?_set_ne (Ne.symm hne)]; exact h1, h2⟩⟩
def dgName (i : Nat) : DG := fun x ρ M Q => Q (ρ.set i (some x)) M
def dgNil : DGs := fun xs ρ M Q => xs = [] ∧ Q ρ M
def dgCons (g : DG) (h : DGs) : DGs := fun xs ρ M Q => match xs with | x :: r => g x ρ M fun ρ1 M1 => h r ρ1 M1 Q | [] => False
def dgTup (n : Nat) (g : DGs) : DG := fun x ρ M Q => match asT x with | some xs => xs.length = n ∧ g xs ρ M Q | none => False
section
variable {X : Cx} {pos : Pos}
theorem xg_name {i : Nat} {x : Str} (hN : X.N.Nodup) (hi : X.N[i]? = some x) (hx : Loc X.env.scope x) (hf : X.fn x = true ∨ X.env.scope.names.lookup x = some .local := by first | exact .inl rfl | exact .inr rfl | assumption) : XG X (.Name x pos) (dgName i) := by
  refine ⟨fun pins s σ H v u Q I r ⟨Hi, ρ, M, d, R, ah, sl, hr, hd, k⟩ => ?_⟩
  have hl : i < σ.length := by rw [I.len]; exact (List.getElem?_eq_some_iff.mp hi).1
  exact (pg_name hN hi hx hf).run pins s σ H v u Q I r (k _ _ hd Hi _ H (Ext.refl _ _ _) ah (sl.set hr hl))
theorem xgs_nil : XGs X [] dgNil := PGsw pgs_nil fun v σ H Q ⟨Hi, ρ, M, xs, R, ah, sl, hr, hd, k⟩ => by
  obtain ⟨rfl, hd⟩ := hd
  cases hr
  exact ⟨rfl, k _ _ hd Hi σ H (Ext.refl _ _ _) ah sl⟩
theorem xgs_cons {e : Expr} {es : List Expr} {t : DG} {u : DGs} (h1 : XG X e t) (h2 : XGs X es u)
    (hs : (assignEach (e :: es) X.env).map (·.2) = assign e X.env :: (assignEach es X.env).map (·.2) := by rfl) : XGs X (e :: es) (dgCons t u) := PGsw (pgs_cons h1 h2 hs) fun v σ H Q ⟨Hi, ρ, M, xs, R, ah, sl, hr, hd, k⟩ => by
  cases hr with
  | nil => exact False.elim hd
  | cons hr t => exact ⟨_, _, rfl, Hi, ρ, M, _, _, ah, sl, hr, hd, fun ρ1 M1 h Hi1 σ1 H1 e1 a1 s1 => ⟨Hi1, ρ1, M1, _, R, a1, s1, t.mono e1.hi, h, k.ext e1⟩⟩
theorem xg_tup {es : List Expr} {kk : Nat} {g : DGs} {n : Nat} (hc : X.calm = true) (h : XGs X es g) (hn : (assignEach es X.env).length = n := by rfl) (hst : (assignEach es X.env).findIdx? (·.1) = none := by rfl) : XG X (.Tuple es kk pos) (dgTup n g) :=
  PGw (pg_tup hc h hn hst) fun v σ H Q ⟨Hi, ρ, M, x, R, ah, sl, hr, hd, k⟩ => by
    unfold dgTup at hd
    cases e : asT x with
    | none => rw [e] at hd; exact False.elim hd
    | some xs =>
      rw [e] at hd
      obtain ⟨a, vs, rfl, h1, h2⟩ := asT_ok ah hr e
      exact ⟨a, vs, rfl, h1, by rw [← h2.length]; exact hd.1, Hi, ρ, M, xs, R, ah, sl, h2, hd.2, k⟩
/-! ### stores -/
def dAsg (d : DE) (g : DG) : DS := fun E ρ M => d ρ M fun x M1 => g x ρ M1 E.nx
theorem w_asg {K : PySem.W.Frag} {d : DE} {g : DG} (D' : Ends) (σ : L2.St) (H : Hp) (h : liftS K (dAsg d g) D' σ H) : tAsg (liftE K d) (liftG K g) D' σ H := by
  obtain ⟨Hi, ρ, M, E, ah, sl, hd, k⟩ := h
  exact ⟨Hi, ρ, M, _, ah, sl, hd, fun x M' h Hi' v H' e a' r => ⟨Hi', ρ, M', x, _, a', sl.mono e.hi, r, h, k.nx.ext e⟩⟩
theorem x_set {i : Nat} {x : Str} {e : Expr} {d : DE} {pos' : Pos} (hN : X.N.Nodup) (hi : X.N[i]? = some x) (hx : Loc X.env.scope x) (he : XE X e d) (hs : swapsWith e (some (.Name x pos')) pos.line X.env = pure false := by rfl) (hf : X.fn x = true ∨ X.env.scope.names.lookup x = some .local := by first | exact .inl rfl | exact .inr rfl | assumption) :
    XS X (.Assign [.Name x pos'] e pos) (dAsg d (dgName i)) := by
  refine ⟨fun pins s σ H D I ⟨Hi, ρ, M, E, ah, sl, hd, k⟩ => ?_⟩
  have hl : i < σ.length := by rw [I.len]; exact (List.getElem?_eq_some_iff.mp hi).1
  exact (ps_set hN hi hx he hs hf).run pins s σ H D I ⟨Hi, ρ, M, _, ah, sl, hd, fun y M' h Hi' v H' e a' r => k.nx _ _ h Hi' _ H' e a' ((sl.mono e.hi).set r hl)⟩
theorem x_asg {tg e : Expr} {d : DE} {g : DG} (he : XE X e d) (hg : XG X tg g) (hs : swapsWithSole [tg] e pos.line X.env = pure false := by rfl) (hw : swappedStores [tg] e X.env = pure none := by rfl)
    (h1 : (assignEach [tg] X.env).map (·.2) = [assign tg X.env] := by rfl) : XS X (.Assign [tg] e pos) (dAsg d g) := PSw (ps_asg he hg hs hw h1) w_asg
/-- a, b = x, y -/
def dPar (i j : Nat) (da db : DE) : DS := fun E ρ M => da ρ M fun x M1 => db ρ M1 fun y M2 => E.nx ((ρ.set i (some x)).set j (some y)) M2
theorem x_par {i j : Nat} {x y : Str} {a b : Expr} {da db : DE} {px py pt : Pos} {kt k2 pt2} (hc : X.calm = true) (hN : X.N.Nodup) (hi : X.N[i]? = some x) (hj : X.N[j]? = some y) (hij : i ≠ j)
    (hx : X.env.scope.names.lookup x = some .local) (hy : X.env.scope.names.lookup y = some .local) (ha : XE X a da) (hb : XE X b db)
    (hw : swappedStores [.Tuple [.Name x px, .Name y py] kt pt] (.Tuple [a, b] k2 pt2) X.env = pure (some [x, y]))
    (hs : swapsWithSole [.Tuple [.Name x px, .Name y py] kt pt] (.Tuple [a, b] k2 pt2) pos.line X.env = pure false := by rfl)
    (s1 : starEach [a, b] X.env = (false, eval a X.env) :: starEach [b] X.env := by rfl) (s2 : starEach [b] X.env = (false, eval b X.env) :: starEach [] X.env := by rfl) :
    XS X (.Assign [.Tuple [.Name x px, .Name y py] kt pt] (.Tuple [a, b] k2 pt2) pos) (dPar i j da db) := by
  refine ⟨fun pins s σ H D I ⟨Hi, ρ, M, E, ah, sl, hd, k⟩ => ?_⟩
  have hl : i < σ.length := by rw [I.len]; exact (List.getElem?_eq_some_iff.mp hi).1
  have hl2 : j < σ.length := by rw [I.len]; exact (List.getElem?_eq_some_iff.mp hj).1
  refine (ps_par hc hN hi hj hij hx hy (pa_cons ha (pa_cons hb pa_nil s2) s1) hw hs).run pins s σ H D I ?_
  refine ⟨Hi, ρ, M, _, ah, sl, hd, fun x M1 h1 Hi1 v H1 e1 a1 r1 => ?_⟩
  refine ⟨Hi1, ρ, M1, _, a1, sl.mono e1.hi, h1, fun y M2 h2 Hi2 w H2 e2 a2 r2 => ?_⟩
  exact ⟨v, w, rfl, k.nx _ _ h2 Hi2 _ H2 (e1.trans e2) a2 (((sl.mono (e1.trans e2).hi).set (r1.mono e2.hi) hl).set r2 (by rw [List.length_set]; exact hl2))⟩
/-- o.f = e -/
def dSFld (C : Addr) (f : Str) (da dv : DE) : DS := fun E ρ M => dv ρ M fun y M1 => da ρ M1 fun x M2 => onIns M2 C x fun a fs => fs.length < 1000 ∧ E.nx ρ (mup M2 a (.ins C (putFD f y fs)))
theorem x_fld {o value : Expr} {f : Str} {C : Addr} {da dv : DE} {pos' : Pos} (c : Cls X.K C) (n : NoAttr X.K C f) (ha : XE X o da) (hv : XE X value dv) (hs : swapsWith value (some (.Attribute o f pos')) pos.line X.env = pure false := by rfl) :
    XS X (.Assign [.Attribute o f pos'] value pos) (dSFld C f da dv) := PSw (ps_fld ha hv hs) fun D σ H ⟨Hi, ρ, M, E, ah, sl, hd, k⟩ => by
  refine ⟨Hi, ρ, M, _, ah, sl, hd, fun y M1 h1 Hi1 v H1 e1 a1 r1 => ?_⟩
  refine ⟨Hi1, ρ, M1, _, a1, sl.mono e1.hi, h1, fun x M2 h2 Hi2 w H2 e2 a2 r2 => ?_⟩
  obtain ⟨a, fs, dx, vs, rfl, rfl, hM, hH, hF, hl, h2⟩ := on_ins a2 r2 h2
  refine ⟨a, C, dx, vs, rfl, hH, c, n, by rw [← flds_length hF]; exact hl, ?_⟩
  have A3 := a2.setM hM (o := .ins C dx (putF f v vs)) (.ins (flds_put f (r1.mono e2.hi) hF))
  have E3 := a2.extS hM (.ins C dx (putF f v vs)) (.ins C (putFD f y fs))
  exact k.nx _ _ h2 Hi2 σ _ (e1.trans (e2.trans E3)) A3 (sl.mono (e1.trans e2).hi)
/-- d[k] = v -/
def dSPut (dx dy dv : DE) : DS := fun E ρ M => dv ρ M fun v M1 => dx ρ M1 fun x M2 => dy ρ M2 fun y M3 => onK y fun k => match x with
  | .ptr a => (match mdic M3 a with | some ks => ks.length < sizeLine ∧ E.nx ρ (mup M3 a (.dic (putD ks k v))) | none => False)
  | _ => False
theorem x_dput {o i value : Expr} {dx dy dv : DE} {pos' : Pos} (hu : X.A.units + 1 < cLine) (ho : XE X o dx) (hi : XE X i dy) (hv : XE X value dv) (hs : swapsWith value (some (.Subscript o i pos')) pos.line X.env = pure false := by rfl) :
    XS X (.Assign [.Subscript o i pos'] value pos) (dSPut dx dy dv) := PSw (ps_dput hu ho hi hv hs) fun D σ H ⟨Hi, ρ, M, E, ah, sl, hd, k⟩ => by
  refine ⟨Hi, ρ, M, _, ah, sl, hd, fun v M1 h1 Hi1 v' H1 e1 a1 r1 => ?_⟩
  refine ⟨Hi1, ρ, M1, _, a1, sl.mono e1.hi, h1, fun x M2 h2 Hi2 x' H2 e2 a2 r2 => ?_⟩
  refine ⟨Hi2, ρ, M2, _, a2, sl.mono (e1.trans e2).hi, h2, fun y M3 h3 Hi3 y' H3 e3 a3 r3 => ?_⟩
  obtain ⟨kk, rfl, h3⟩ := on_K r3 h3
  cases r2 with
  | ptr a =>
    have h3 : (match mdic M3 a with | some ks => ks.length < sizeLine ∧ E.nx ρ (mup M3 a (.dic (putD ks kk v))) | none => False) := h3
    cases em : mdic M3 a with
    | none => rw [em] at h3; exact False.elim h3
    | some ks =>
      rw [em] at h3
      have hM := mdic_eq em
      obtain ⟨vs, hH, rk⟩ := a3.at_dic hM
      have rv := r1.mono (e2.trans e3).hi
      refine ⟨a, _, rfl, DPut.k (k := kk) hH (by rw [← rk.length]; exact h3.1), ?_⟩
      have A4 := a3.setM hM (o := .dK (putK vs kk v')) (.dic (put_rep kk rv rk))
      have E4 := a3.extS hM (.dK (putK vs kk v')) (.dic (putD ks kk v))
      exact k.nx _ _ h3.2 Hi3 σ _ (e1.trans (e2.trans (e3.trans E4))) A4 (sl.mono (e1.trans (e2.trans e3)).hi)
  | _ => exact False.elim h3
/-- xs[i] = v -/
def dgSub (dx dy : DE) : DG := fun v ρ M Q => dx ρ M fun x M1 => dy ρ M1 fun y M2 => match x, y with
  | .ptr a, .int i => (match mlst M2 a with | some xs => (match ixN xs.length i with | some j => Q ρ (mup M2 a (.lst (xs.set j v))) | none => False) | none => False)
  | _, _ => False
theorem xg_sub {o i : Expr} {dx dy : DE} (ho : XE X o dx) (hi : XE X i dy)
    (ha : ∀ v, assign (.Subscript o i pos) X.env v = (do
      let ov ← holding [v] (eval o X.env)
      let iv ← holding [v, ov] (eval i X.env)
      standAt pos
      holding [v, ov, iv] (setItem ov iv v)
      release [v, ov, iv] []) := by intro _; rfl) : XG X (.Subscript o i pos) (dgSub dx dy) := PGw (pg_sub ho hi set_list ha) fun v σ H Q ⟨Hi, ρ, M, d, R, ah, sl, hr, hd, k⟩ => by
  refine ⟨Hi, ρ, M, _, ah, sl, hd, fun x M1 h1 Hi1 x' H1 e1 a1 r1 => ?_⟩
  refine ⟨Hi1, ρ, M1, _, a1, sl.mono e1.hi, h1, fun y M2 h2 Hi2 y' H2 e2 a2 r2 => ?_⟩
  cases r1 with
  | ptr a =>
    cases r2 with
    | int i =>
      have h2 : (match mlst M2 a with | some xs => (match ixN xs.length i with | some j => R ρ (mup M2 a (.lst (xs.set j d))) | none => False) | none => False) := h2
      cases em : mlst M2 a with
      | none => rw [em] at h2; exact False.elim h2
      | some xs =>
        rw [em] at h2
        have h2 : (match ixN xs.length i with | some j => R ρ (mup M2 a (.lst (xs.set j d))) | none => False) := h2
        cases ei : ixN xs.length i with
        | none => rw [ei] at h2; exact False.elim h2
        | some j =>
          rw [ei] at h2
          have hM := mlst_eq em
          obtain ⟨vs, hH, rk⟩ := a2.at_lst hM
          have rv := hr.mono (e1.trans e2).hi
          refine ⟨a, vs, i, j, rfl, rfl, hH, by rw [← rk.length]; exact ei, ?_⟩
          have A4 := a2.setM hM (o := .lst (vs.set j v)) (.lst (rk.set j rv))
          have E4 := a2.extS hM (.lst (vs.set j v)) (.lst (xs.set j d))
          exact k _ _ h2 Hi2 σ _ (e1.trans (e2.trans E4)) A4 (sl.mono (e1.trans e2).hi)
    | _ => exact False.elim h2
  | _ => exact False.elim h2
end

/-! ### methods of lists -/
abbrev GM := D → List D → Mh → (D → Mh → Prop) → Prop
def LfM (K : PySem.W.Frag) (r : V → List V → Hp → VK → Prop) (g : GM) : Prop := ∀ Hi M H x xs v vs R Q, AbsH K Hi M H → Rep K Hi x v → Reps K Hi xs vs → g x xs M R → Kont K Hi M H R Q → r v vs H Q
def isPL (M : Mh) (x : D) : Prop := onLS M x fun _ => True
def dBM (g : GM) (da : DE) (args : DA) : DE := fun ρ M Q => da ρ M fun x M1 => isPL M1 x ∧ args ρ M1 fun xs M2 => g x xs M2 Q
theorem tyV_of {K : PySem.W.Frag} {Hi H : Hp} {M : Mh} {x : D} {v : V} (A : AbsH K Hi M H) (r : Rep K Hi x v) (h : isPL M x) : tyV K "list" v H := by
  obtain ⟨a, ys, vs, rfl, h1, _, _⟩ := on_LS A r h
  exact .inl ⟨rfl, vs, h1⟩
section
variable {X : Cx} {o e : Expr} {es : List Expr} {name : Str} {id : String} {r : V → List V → Hp → VK → Prop} {g : GM} {da : DE} {args : DA} {apos cpos : Pos}
theorem w_bm {K : PySem.W.Frag} (l : LfM K r g) (σ : L2.St) (H : Hp) (Q : VK) (h : liftE K (dBM g da args) σ H Q) : tBM K "list" r (liftE K da) (liftA K args) σ H Q := by
  obtain ⟨Hi, ρ, M, R, ah, sl, hd, k⟩ := h
  refine ⟨Hi, ρ, M, _, ah, sl, hd, fun x M1 h1 Hi1 v H1 e1 a1 r1 => ⟨tyV_of a1 r1 h1.1, ?_⟩⟩
  exact ⟨Hi1, ρ, M1, _, a1, sl.mono e1.hi, h1.2, fun xs M2 h2 Hi2 vs H2 e2 a2 r2 => l Hi2 M2 H2 x xs v vs R Q a2 (r1.mono e2.hi) r2 h2 (k.ext (e1.trans e2))⟩
theorem xbm (slot : Slot "list" name id) (hty : typeOf (.builtin id) = pure (.type "method_descriptor")) (hm : MtR X id r) (l : LfM X.K r g) (ho : XE X o da) (ha : XAL X (e :: es) args)
    (hbase : attributeBase o name X.env (eval o X.env) = eval o X.env := by rfl)
    (hfew : ((backTo cpos (starEach (e :: es) X.env)).all (fun x => !x.1) && (backToKw cpos (keywordEach [] X.env)).all (fun x => x.1.isSome)
      && decide ((e :: es).length + ([] : List Keyword).length + (if ([] : List Keyword).isEmpty then 0 else 1) < 30)) = true := by rfl)
    (hline : (apos.endLine == cpos.line) = true := by rfl) (hs : starEach (e :: es) X.env = (false, eval e X.env) :: starEach es X.env := by rfl) (hplain : (backTo cpos (starEach es X.env)).any (·.1) = false := by rfl) :
    XE X (.Call (.Attribute o name apos) (e :: es) [] cpos) (dBM g da args) := PEw (pe_bm PySem.F.plainAttrs_list slot hty hm ho ha.pa hbase hfew hline hs hplain) (w_bm l)
theorem xbm0 (slot : Slot "list" name id) (hty : typeOf (.builtin id) = pure (.type "method_descriptor")) (hm : MtR X id r) (l : LfM X.K r g) (ho : XE X o da)
    (hbase : attributeBase o name X.env (eval o X.env) = eval o X.env := by rfl) (hline : (apos.endLine == cpos.line) = true := by rfl) : XE X (.Call (.Attribute o name apos) [] [] cpos) (dBM g da dNil) :=
  PEw (pe_bm0 PySem.F.plainAttrs_list slot hty hm ho hbase hline) fun σ H Q ⟨Hi, ρ, M, R, ah, sl, hd, k⟩ =>
    ⟨Hi, ρ, M, _, ah, sl, hd, fun x M1 h1 Hi1 v H1 e1 a1 r1 => ⟨tyV_of a1 r1 h1.1, l Hi1 M1 H1 x [] v [] R Q a1 r1 .nil h1.2 (k.ext e1)⟩⟩
end
def onPL (M : Mh) (x : D) (C : Addr → List D → Prop) : Prop := match x with | .ptr a => (match mlst M a with | some xs => C a xs | none => False) | _ => False
theorem on_PL {K : PySem.W.Frag} {Hi H : Hp} {M : Mh} {x : D} {v : V} {C : Addr → List D → Prop} (A : AbsH K Hi M H) (r : Rep K Hi x v) (h : onPL M x C) : ∃ a xs vs, x = .ptr a ∧ v = .ref a ∧ M a = some (.lst xs) ∧ H a = some (.lst vs) ∧ Reps K Hi xs vs ∧ C a xs := by
  cases r with
  | ptr a =>
    have h : (match mlst M a with | some xs => C a xs | none => False) := h
    cases e : mlst M a with
    | none => rw [e] at h; exact False.elim h
    | some xs =>
      rw [e] at h
      obtain ⟨vs, h1, h2⟩ := A.at_lst (mlst_eq e)
      exact ⟨a, xs, vs, rfl, rfl, mlst_eq e, h1, h2, h⟩
  | _ => exact False.elim h
theorem kont_set {K : PySem.W.Frag} {Hi H : Hp} {M : Mh} {a : Addr} {xs ys : List D} {ws : List V} {R : D → Mh → Prop} {Q : VK} {d : D} {v : V} (A : AbsH K Hi M H) (h : M a = some (.lst xs)) (r : Reps K Hi ys ws) (rd : Rep K Hi d v) (q : R d (mup M a (.lst ys))) (k : Kont K Hi M H R Q) : Q v (upd H a (.lst ws)) :=
  k _ _ q Hi _ _ (A.extS h _ _) (A.setM h (.lst r)) rd
def gAppend : GM := fun x ys M Q => onPL M x fun a xs => match ys with | [y] => xs.length < sizeLine ∧ Q .non (mup M a (.lst (xs ++ [y]))) | _ => False
def gPop : GM := fun x ys M Q => onPL M x fun a xs => match xs[xs.length - 1]? with | some y => Q y (mup M a (.lst xs.dropLast)) | none => False
def gExtend : GM := fun x ys M Q => onPL M x fun a xs => match ys with | [y] => (match asL M y with | some zs => xs.length + zs.length ≤ sizeLine ∧ Q .non (mup M a (.lst (xs ++ zs))) | none => False) | _ => False
def gInsert : GM := fun x ys M Q => onPL M x fun a xs => match ys with | [.int i, y] => (xs.length < sizeLine ∧ 0 ≤ i ∧ i < 2 ^ 63) ∧ Q .non (mup M a (.lst (xs.take i.toNat ++ [y] ++ xs.drop i.toNat))) | _ => False
section
variable {K : PySem.W.Frag}
theorem lf_append : LfM K rAppend gAppend := by
  intro Hi M H x ys v vs R Q ah r rs h k
  obtain ⟨a, xs, ws, rfl, rfl, hM, hH, rx, h⟩ := on_PL ah r h
  match ys, rs, h with
  | [y], rs, h =>
    obtain ⟨w, rfl, ry⟩ := Reps.one rs
    exact ⟨a, ws, w, rfl, rfl, hH, by rw [← rx.length]; exact h.1, kont_set ah hM (rx.append (.cons ry .nil)) .non h.2 k⟩
  | [], _, h => exact False.elim h
  | _ :: _ :: _, _, h => exact False.elim h
theorem lf_pop : LfM K (fun x vs H Q => ∃ l xs y, x = .ref l ∧ H l = some (.lst xs) ∧ xs[xs.length - 1]? = some y ∧ Q y (upd H l (.lst xs.dropLast))) gPop := by
  intro Hi M H x ys v vs R Q ah r rs h k
  obtain ⟨a, xs, ws, rfl, rfl, hM, hH, rx, h⟩ := on_PL ah r h
  cases e : xs[xs.length - 1]? with
  | none => rw [e] at h; exact False.elim h
  | some y =>
    rw [e] at h
    obtain ⟨w, h1, h2⟩ := rx.get e
    exact ⟨a, ws, w, rfl, hH, by rw [← rx.length]; exact h1, kont_set ah hM rx.dropLast h2 h k⟩
theorem lf_extend : LfM K rExtend gExtend := by
  intro Hi M H x ys v vs R Q ah r rs h k
  obtain ⟨a, xs, ws, rfl, rfl, hM, hH, rx, h⟩ := on_PL ah r h
  match ys, rs, h with
  | [y], rs, h =>
    obtain ⟨w, rfl, ry⟩ := Reps.one rs
    have h : (match asL M y with | some zs => xs.length + zs.length ≤ sizeLine ∧ R .non (mup M a (.lst (xs ++ zs))) | none => False) := h
    cases e : asL M y with
    | none => rw [e] at h; exact False.elim h
    | some zs =>
      rw [e] at h
      obtain ⟨b, us, rfl, h1, r1⟩ := asL_ok ah ry e
      exact ⟨a, b, ws, us, rfl, rfl, hH, h1, by rw [← rx.length, ← r1.length]; exact h.1, kont_set ah hM (rx.append r1) .non h.2 k⟩
  | [], _, h => exact False.elim h
  | _ :: _ :: _, _, h => exact False.elim h
theorem lf_insert : LfM K (fun x vs H Q => ∃ (l : Addr) (xs : List V) (i : Int) (y : V), x = .ref l ∧ vs = [.int i, y] ∧ H l = some (.lst xs) ∧ xs.length < sizeLine ∧ 0 ≤ i ∧ i < 2 ^ 63 ∧ Q .non (upd H l (.lst (xs.take i.toNat ++ [y] ++ xs.drop i.toNat)))) gInsert := by
  intro Hi M H x ys v vs R Q ah r rs h k
  obtain ⟨a, xs, ws, rfl, rfl, hM, hH, rx, h⟩ := on_PL ah r h
  match ys, rs, h with
  | [.int i, y], rs, h =>
    obtain ⟨w1, w, rfl, r1, ry⟩ := Reps.two rs
    cases r1
    exact ⟨a, ws, i, w, rfl, rfl, hH, by rw [← rx.length]; exact h.1.1, h.1.2.1, h.1.2.2, kont_set ah hM (((rx.take _).append (.cons ry .nil)).append (rx.drop _)) .non h.2 k⟩
end
section
variable {X : Cx} {o e : Expr} {da db : DE} {apos cpos : Pos}
theorem xappend (ho : XE X o da) (he : XE X e db) (hs : starEach [e] X.env = (false, eval e X.env) :: starEach [] X.env := by rfl) (hbase : attributeBase o "append" X.env (eval o X.env) = eval o X.env := by rfl) (hfew : ((backTo cpos (starEach [e] X.env)).all (fun x => !x.1) && (backToKw cpos (keywordEach [] X.env)).all (fun x => x.1.isSome) && decide (([e] : List Expr).length + ([] : List Keyword).length + (if ([] : List Keyword).isEmpty then 0 else 1) < 30)) = true := by rfl) (hline : (apos.endLine == cpos.line) = true := by rfl) :
    XE X (.Call (.Attribute o "append" apos) [e] [] cpos) (dBM gAppend da (dCons db dNil)) := xbm PySem.F.slot_list_append PySem.F.type_list_append mt_append lf_append ho (xcons he xnil hs) hbase hfew hline hs (by rfl)
theorem xextend (ho : XE X o da) (he : XE X e db) (hs : starEach [e] X.env = (false, eval e X.env) :: starEach [] X.env := by rfl) (hbase : attributeBase o "extend" X.env (eval o X.env) = eval o X.env := by rfl) (hfew : ((backTo cpos (starEach [e] X.env)).all (fun x => !x.1) && (backToKw cpos (keywordEach [] X.env)).all (fun x => x.1.isSome) && decide (([e] : List Expr).length + ([] : List Keyword).length + (if ([] : List Keyword).isEmpty then 0 else 1) < 30)) = true := by rfl) (hline : (apos.endLine == cpos.line) = true := by rfl) :
    XE X (.Call (.Attribute o "extend" apos) [e] [] cpos) (dBM gExtend da (dCons db dNil)) := xbm PySem.F.slot_list_extend PySem.F.type_list_extend mt_extend lf_extend ho (xcons he xnil hs) hbase hfew hline hs (by rfl)
theorem mt_pop' : MtR X "list.pop" (fun x vs H Q => vs = [] ∧ ∃ l xs y, x = .ref l ∧ H l = some (.lst xs) ∧ xs[xs.length - 1]? = some y ∧ Q y (upd H l (.lst xs.dropLast))) := fun pins s σ H x xs v us Q I r rs h => by
  obtain ⟨rfl, l, ys, y, e1, e2, e3, q⟩ := h
  exact mt_pop pins s σ H x [] v us Q I r rs ⟨l, ys, y, e1, rfl, e2, e3, q⟩
def gPop0 : GM := fun x ys M Q => ys = [] ∧ gPop x ys M Q
theorem lf_pop0 {K : PySem.W.Frag} : LfM K (fun x vs H Q => vs = [] ∧ ∃ l xs y, x = .ref l ∧ H l = some (.lst xs) ∧ xs[xs.length - 1]? = some y ∧ Q y (upd H l (.lst xs.dropLast))) gPop0 := by
  intro Hi M H x ys v vs R Q ah r rs h k
  obtain ⟨rfl, h⟩ := h
  cases rs
  exact ⟨rfl, lf_pop Hi M H x [] v [] R Q ah r .nil h k⟩
theorem xpop (ho : XE X o da) (hbase : attributeBase o "pop" X.env (eval o X.env) = eval o X.env := by rfl) (hline : (apos.endLine == cpos.line) = true := by rfl) :
    XE X (.Call (.Attribute o "pop" apos) [] [] cpos) (dBM gPop0 da dNil) := xbm0 PySem.F.slot_list_pop PySem.F.type_list_pop mt_pop' lf_pop0 ho hbase hline
theorem xinsert {e2 : Expr} {dc : DE} (ho : XE X o da) (he : XE X e db) (he2 : XE X e2 dc) (hs : starEach [e, e2] X.env = (false, eval e X.env) :: starEach [e2] X.env := by rfl) (hs2 : starEach [e2] X.env = (false, eval e2 X.env) :: starEach [] X.env := by rfl) (hbase : attributeBase o "insert" X.env (eval o X.env) = eval o X.env := by rfl) (hfew : ((backTo cpos (starEach [e, e2] X.env)).all (fun x => !x.1) && (backToKw cpos (keywordEach [] X.env)).all (fun x => x.1.isSome) && decide (([e, e2] : List Expr).length + ([] : List Keyword).length + (if ([] : List Keyword).isEmpty then 0 else 1) < 30)) = true := by rfl) (hline : (apos.endLine == cpos.line) = true := by rfl) :
    XE X (.Call (.Attribute o "insert" apos) [e, e2] [] cpos) (dBM gInsert da (dCons db (dCons dc dNil))) := xbm PySem.F.slot_list_insert PySem.F.type_list_insert mt_insert lf_insert ho (xcons he (xcons he2 xnil hs2) hs) hbase hfew hline hs (by rw [hs2]; rfl)
end

/-! ### a list of the store is handed on as one that never changes -/
def dFrz (da : DE) : DE := fun ρ M Q => da ρ M fun x M1 => match x with
  | .ptr a => (match mlst M1 a with | some xs => Q (.lst xs) (mdel M1 a) | none => False)
  | _ => False
theorem xfrz {X : Cx} {e : Expr} {da : DE} (h : XE X e da) : XE X e (dFrz da) := PEw h fun σ H Q ⟨Hi, ρ, M, R, ah, sl, hd, k⟩ => by
  refine ⟨Hi, ρ, M, _, ah, sl, hd, fun x M1 h1 Hi1 v H1 e1 a1 r1 => ?_⟩
  cases r1 with
  | ptr a =>
    have h1 : (match mlst M1 a with | some xs => R (.lst xs) (mdel M1 a) | none => False) := h1
    cases em : mlst M1 a with
    | none => rw [em] at h1; exact False.elim h1
    | some xs =>
      rw [em] at h1
      have hM := mlst_eq em
      obtain ⟨vs, hH, rx⟩ := a1.at_lst hM
      exact k _ _ h1 _ _ H1 (e1.trans (a1.extF hM _)) (a1.frz hM hH) (.lst upd_same (rx.mono (Sub.upd _ (a1.mt _ _ hM).1)))
  | _ => exact False.elim h1
/-- the list (dict) that the name in slot i holds never changes from here on -/
def dFzS (i : Nat) (d : DS) : DS := fun E ρ M => match lk ρ i with
  | some (.ptr a) => (match M a with
    | some (.lst xs) => d E (ρ.set i (some (.lst xs))) (mdel M a)
    | some (.dic ks) => d E (ρ.set i (some (.dic ks))) (mdel M a)
    | _ => False)
  | _ => False
theorem xs_fz {X : Cx} {i : Nat} {sts : List Stmt} {d : DS} (h : XSs X sts d) : XSs X sts (dFzS i d) := PSsw h fun D σ H ⟨Hi, ρ, M, E, ah, sl, hd, k⟩ => by
  unfold dFzS at hd
  cases el : lk ρ i with
  | none => rw [el] at hd; exact False.elim hd
  | some x =>
    rw [el] at hd
    cases x with
    | ptr a =>
      have hd : (match M a with
        | some (.lst xs) => d E (ρ.set i (some (.lst xs))) (mdel M a)
        | some (.dic ks) => d E (ρ.set i (some (.dic ks))) (mdel M a)
        | _ => False) := hd
      obtain ⟨v, hv, rv⟩ := sl.at_ i _ el
      cases rv
      cases em : M a with
      | none => rw [em] at hd; exact False.elim hd
      | some o =>
        rw [em] at hd
        cases o with
        | lst xs =>
          obtain ⟨vs, hH, rx⟩ := ah.at_lst em
          have sub := Sub.upd (.lst vs) (ah.mt _ _ em).1
          refine ⟨_, _, _, E, ah.frz em hH, ⟨fun j dd e => ?_⟩, hd, k.ext (ah.extF em _)⟩
          rcases lk_set e with ⟨rfl, rfl, _⟩ | ⟨_, e'⟩
          · exact ⟨_, hv, .lst upd_same (rx.mono sub)⟩
          · obtain ⟨u, h1, h2⟩ := sl.at_ j dd e'
            exact ⟨u, h1, h2.mono sub⟩
        | dic xs =>
          obtain ⟨vs, hH, rx⟩ := ah.at_dic em
          have sub := Sub.upd (.dK vs) (ah.mt _ _ em).1
          refine ⟨_, _, _, E, ah.frzK em hH, ⟨fun j dd e => ?_⟩, hd, k.ext (ah.extF em _)⟩
          rcases lk_set e with ⟨rfl, rfl, _⟩ | ⟨_, e'⟩
          · exact ⟨_, hv, .dic upd_same (rx.mono sub)⟩
          · obtain ⟨u, h1, h2⟩ := sl.at_ j dd e'
            exact ⟨u, h1, h2.mono sub⟩
        | ins C fs => exact False.elim hd
    | _ => exact False.elim hd
/-! ### a def's body -/
def dstart (N : List Str) (ds : List D) : DV := ds.map some ++ List.replicate (N.length - ds.length) none
theorem sl_start {K : PySem.W.Frag} {Hi : Hp} {N : List Str} {ds : List D} {vs : List V} (r : Reps K Hi ds vs) : Sl K Hi (dstart N ds) (L2.start N vs) := by
  have key : ∀ (m : Nat) {ds : List D} {vs : List V} (r : Reps K Hi ds vs) (i : Nat) (d : D), lk (ds.map some ++ List.replicate m none) i = some d → ∃ v, (vs.map some ++ List.replicate m none)[i]? = some (some v) ∧ Rep K Hi d v := by
    intro m ds vs r
    induction r using Reps.rec (motive_1 := fun _ _ _ => True) (motive_3 := fun _ _ _ => True) with
    | nil =>
      intro i d h
      exfalso
      have : ∀ (m i : Nat), lk (List.replicate m none) i = none := by
        intro m
        induction m with
        | zero => intro i; rfl
        | succ m ih => intro i; cases i with
          | zero => rfl
          | succ i => exact ih i
      have h : lk (List.replicate m none) i = some d := h
      rw [this] at h
      cases h
    | cons hr t _ ih =>
      intro i d h
      cases i with
      | zero => cases h; exact ⟨_, rfl, hr⟩
      | succ i => exact ih i d h
    | _ => trivial
  refine ⟨fun i d h => ?_⟩
  unfold dstart at h
  unfold L2.start
  rw [r.length] at h
  exact key _ r i d h
theorem def_ok {P : Program} {w : World} {K : PySem.W.Frag} {mg : Str → Option Value} {base : Heap} {x qual : Str} {params : Arguments} {body : List Stmt} {scope : Scope} {dvs : List V} {kws : List (Str × V)} {f : Addr} {fd : FuncData} {N ps : List Str} {k : Nat} {F : DF} {d : DS}
    (Fd : FunD K x qual params body scope dvs kws f fd) (S : FnScope N ps scope) (len : ∀ ds M R, F ds M R → ds.length = ps.length)
    (hbody : ∀ (cdv : Value) (A : Around) (outer : List PySem.Env) (s : Shared) (H : Hp) (E : L2.XK), Room k (A.deeper (envOfC qual scope s.heap.objs.size f cdv)) → XSs (cxOf CX0 P w K mg base N qual scope f cdv A outer s H E).nox body d)
    (hpure : ∀ ds M R, F ds M R → d { nx := fun _ M' => R .non M', rt := R } (dstart N ds) M) : FnOk P w K mg base CX0 (k + 1) f fd ps (spD K F) := by
  refine Fd.ok S (fun vs H Q E h => ?_) fun cdv A outer s H vs Q E hr h => ⟨_, PSs.nox (hbody cdv A outer s H E hr), ?_⟩
  · obtain ⟨Hi, M, ds, R, ah, rs, hF, k⟩ := h
    rw [← rs.length]
    exact len _ _ _ hF
  · obtain ⟨Hi, M, ds, R, ah, rs, hF, k⟩ := h
    refine ⟨Hi, _, M, _, ah, sl_start rs, hpure ds M R hF, ⟨fun ρ' M' h Hi' σ' H' e a' s' => k _ _ h Hi' _ H' e a' .non, k, fun ρ' M' h => False.elim h, fun ρ' M' h => False.elim h⟩⟩
end DL
set_option maxRecDepth 100000
set_option maxHeartbeats 1000000
namespace DL
open PySem PySem.Spec PyProof.Rows L2

/-! ### while -/
def whileN (t : DT) (b : DS) : Nat → DS
  | 0 => fun _ _ _ => False
  | n + 1 => fun E ρ M => t ρ M fun c M1 => if c = true then b { nx := fun ρ' M' => whileN t b n E ρ' M', ct := fun ρ' M' => whileN t b n E ρ' M', bk := E.nx, rt := E.rt } ρ M1 else E.nx ρ M1
def dWhile (t : DT) (b : DS) : DS := fun E ρ M => ∃ n, whileN t b n E ρ M
section
variable {X : Cx} {pos : Pos}
theorem x_while {c : Expr} {body : List Stmt} {t : DT} {b : DS} (hp : PassesOwn (model X.prog X.w) X.A X.env X.xe) (hc : XT X c t) (hb : XSs X body b) : XS X (.While c body [] pos) (dWhile t b) := PSw (ps_while hp hc hb) fun D σ H ⟨Hi, ρ, M, E, ah, sl, ⟨n, hd⟩, k⟩ => by
  refine ⟨fun m σ' H' => ∃ Hi' ρ' M', Ext Hi M H Hi' M' H' ∧ AbsH X.K Hi' M' H' ∧ Sl X.K Hi' ρ' σ' ∧ whileN t b m E ρ' M', ⟨n, Hi, ρ, M, Ext.refl _ _ _, ah, sl, hd⟩, ?_⟩
  rintro m σ1 H1 ⟨Hi1, ρ1, M1, e1, a1, s1, h1⟩
  cases m with
  | zero => exact False.elim h1
  | succ m =>
    refine ⟨Hi1, ρ1, M1, _, a1, s1, h1, fun c M2 h2 Hi2 H2 e2 a2 => ?_⟩
    cases c with
    | false => exact k.nx _ _ h2 Hi2 σ1 H2 (e1.trans e2) a2 (s1.mono e2.hi)
    | true =>
      have hn : ∀ ρ' M', whileN t b m E ρ' M' → ∀ Hi' σ' H', Ext Hi2 M2 H2 Hi' M' H' → AbsH X.K Hi' M' H' → Sl X.K Hi' ρ' σ' → ∃ Hi' ρ' M', Ext Hi M H Hi' M' H' ∧ AbsH X.K Hi' M' H' ∧ Sl X.K Hi' ρ' σ' ∧ whileN t b m E ρ' M' :=
        fun ρ' M' h Hi' σ' H' e' a' s' => ⟨Hi', ρ', M', e1.trans (e2.trans e'), a', s', h⟩
      refine ⟨fun σ' H' => ∃ Hi' ρ' M', Ext Hi M H Hi' M' H' ∧ AbsH X.K Hi' M' H' ∧ Sl X.K Hi' ρ' σ' ∧ whileN t b m E ρ' M', fun σ' H' h => ⟨m, Nat.lt_succ_self _, h⟩, ?_⟩
      exact ⟨Hi2, ρ1, M2, _, a2, s1.mono e2.hi, h2, ⟨hn, k.rt.ext (e1.trans e2), k.nx.ext (e1.trans e2), hn⟩⟩
end

/-! ### what is walked: its items are fixed -/
structure Walk (K : PySem.W.Frag) (J : It) (Hi : Hp) (xs : List D) : Prop where
  go : ∀ i H Hi1, Sub Hi Hi1 → Sub Hi1 H → i < xs.length → J.go i H
  yld : ∀ i H Hi1 M1 x H', Sub Hi Hi1 → AbsH K Hi1 M1 H → J.yld i H x H' → ∀ d, xs[i]? = some d → ∃ Hi2, Ext Hi1 M1 H Hi2 M1 H' ∧ AbsH K Hi2 M1 H' ∧ Rep K Hi2 d x
  stop : ∀ i H Hi1, Sub Hi Hi1 → Sub Hi1 H → xs.length ≤ i → J.stop i H
abbrev DI := DV → Mh → (List D → Mh → Prop) → Prop
def liftI (K : PySem.W.Frag) (di : DI) : TI := fun σ H R => ∃ Hi ρ M Rd, AbsH K Hi M H ∧ Sl K Hi ρ σ ∧ di ρ M Rd ∧ ∀ xs M', Rd xs M' → ∀ Hi' H' J, Ext Hi M H Hi' M' H' → AbsH K Hi' M' H' → Walk K J Hi' xs → xs.length ≤ sizeLine → R J H'
abbrev XI (X : Cx) (tg iter : Expr) (di : DI) : Prop := PI X tg iter (liftI X.K di)
theorem PIw {X : Cx} {tg it : Expr} {t t' : TI} (h : PI X tg it t) (w : ∀ σ H R, t' σ H R → t σ H R) : PI X tg it t' := ⟨fun pins s σ H R I q => h.run pins s σ H R I (w _ _ _ q)⟩
/-- a list that stays (with its length) -/
def iListZ (K : PySem.W.Frag) (tl : TE) : TI := fun σ H R => tl σ H fun x H1 => ∃ a xs, x = .ref a ∧ SqL K H1 a xs ∧ (xs.length ≤ sizeLine → R (Itl K a) H1)
def iTupZ (K : PySem.W.Frag) (tl : TE) : TI := fun σ H R => tl σ H fun x H1 => ∃ a xs, x = .ref a ∧ SqT K H1 a xs ∧ (xs.length ≤ sizeLine → R (Itt K a) H1)
theorem pi_listZ {X : Cx} {tg l : Expr} {tl : TE} (hl : PE X l tl) : PI X tg l (iListZ X.K tl) := by
  refine ⟨fun pins s σ H R I h => ?_⟩
  refine thn (hl.run pins s σ H _ I h) fun v s1 ⟨x, H1, I1, r1, q1⟩ => ?_
  obtain ⟨a, xs, e, hq, q⟩ := q1
  subst e
  cases r1
  obtain ⟨its, rv, p, hz⟩ := I1.list hq
  refine wpAny_pyIter_list p.isList ?_
  refine ⟨s1.heap.objs.size, [s1.heap.objs.size], _, _, H1, rfl, I1.kept (t' := s1.toks) fun b o e => Heap.get?_push_of_some _ e, turn_list a _, ⟨_, Heap.get?_push_size _ rfl, rfl, rfl⟩, fun b hb => ?_, q hz⟩
  have e : b = s1.heap.objs.size := by simpa using hb
  subst e
  exact I1.fpOk (Nat.le_refl _) (I1.hok.fresh (Nat.le_refl _))
theorem pi_tupZ {X : Cx} {tg l : Expr} {tl : TE} (hl : PE X l tl) : PI X tg l (iTupZ X.K tl) := by
  refine ⟨fun pins s σ H R I h => ?_⟩
  refine thn (hl.run pins s σ H _ I h) fun v s1 ⟨x, H1, I1, r1, q1⟩ => ?_
  obtain ⟨a, xs, e, hq, q⟩ := q1
  subst e
  cases r1
  obtain ⟨its, rv, p, hz⟩ := I1.tuple hq
  refine wpAny_pyIter_tuple (show s1.heap.IsTuple a its.toArray from p) ?_
  refine ⟨s1.heap.objs.size, [s1.heap.objs.size], _, _, H1, rfl, I1.kept (t' := s1.toks) fun b o e => Heap.get?_push_of_some _ e, turn_tuple a _, ⟨_, Heap.get?_push_size _ rfl, rfl, rfl⟩, fun b hb => ?_, q hz⟩
  have e : b = s1.heap.objs.size := by simpa using hb
  subst e
  exact I1.fpOk (Nat.le_refl _) (I1.hok.fresh (Nat.le_refl _))
section
variable {K : PySem.W.Frag} {Hi : Hp}
theorem get_ex {xs : List D} {i : Nat} (h : i < xs.length) : ∃ d, xs[i]? = some d := ⟨_, List.getElem?_eq_getElem h⟩
theorem walk_list {a : Addr} {xs : List D} {vs : List V} (h : SqL K Hi a vs) (r : Reps K Hi xs vs) : Walk K (Itl K a) Hi xs where
  go := fun i H Hi1 s1 s2 hlt => by
    obtain ⟨d, e⟩ := get_ex hlt
    obtain ⟨v, e1, _⟩ := r.get e
    exact ⟨vs, v, (s1.trans s2).sqL h, e1⟩
  yld := fun i H Hi1 M1 x H' s1 A y d e => by
    obtain ⟨rfl, y⟩ := y
    obtain ⟨v, e1, rv⟩ := r.get e
    have := y vs ((s1.trans A.sub).sqL h)
    rw [e1] at this
    cases this
    exact ⟨Hi1, Ext.refl _ _ _, A, rv.mono s1⟩
  stop := fun i H Hi1 s1 s2 hle => ⟨vs, (s1.trans s2).sqL h, by rw [← r.length]; exact hle⟩
theorem walk_tup {a : Addr} {xs : List D} {vs : List V} (h : SqT K Hi a vs) (r : Reps K Hi xs vs) : Walk K (Itt K a) Hi xs where
  go := fun i H Hi1 s1 s2 hlt => by
    obtain ⟨d, e⟩ := get_ex hlt
    obtain ⟨v, e1, _⟩ := r.get e
    exact ⟨vs, v, (s1.trans s2).sqT h, e1⟩
  yld := fun i H Hi1 M1 x H' s1 A y d e => by
    obtain ⟨rfl, y⟩ := y
    obtain ⟨v, e1, rv⟩ := r.get e
    have := y vs ((s1.trans A.sub).sqT h)
    rw [e1] at this
    cases this
    exact ⟨Hi1, Ext.refl _ _ _, A, rv.mono s1⟩
  stop := fun i H Hi1 s1 s2 hle => ⟨vs, (s1.trans s2).sqT h, by rw [← r.length]; exact hle⟩
/-- 0, 1, .. -/
def rngD (n : Nat) : List D := (List.range n).map fun i => D.int (i : Nat)
theorem rngD_length (n : Nat) : (rngD n).length = n := by simp [rngD]
theorem rngD_get (n i : Nat) : (rngD n)[i]? = if i < n then some (.int (i : Nat)) else none := by
  unfold rngD
  rw [List.getElem?_map]
  by_cases h : i < n
  · rw [List.getElem?_range h, if_pos h]; rfl
  · rw [List.getElem?_eq_none (by simpa using h), if_neg h]; rfl
theorem walk_range {n : Nat} : Walk K (Itr 0 n) Hi (rngD n) where
  go := fun i H Hi1 s1 s2 hlt => by rw [rngD_length] at hlt; exact hlt
  yld := fun i H Hi1 M1 x H' s1 A y d e => by
    obtain ⟨rfl, rfl⟩ := y
    rw [rngD_get] at e
    split at e
    · cases e
      refine ⟨Hi1, Ext.refl _ _ _, A, ?_⟩
      rw [Int.zero_add]
      exact .int _
    · cases e
  stop := fun i H Hi1 s1 s2 hle => by rw [rngD_length] at hle; exact hle
def strD (x : Str) : List D := x.cps.toList.map fun c => D.str ⟨#[c]⟩
theorem walk_str {x : Str} : Walk K (Its x) Hi (strD x) where
  go := fun i H Hi1 s1 s2 hlt => by
    have : i < x.cps.size := by simpa [strD] using hlt
    exact this
  yld := fun i H Hi1 M1 v H' s1 A y d e => by
    obtain ⟨rfl, c, hc, rfl⟩ := y
    unfold strD at e
    rw [List.getElem?_map, Array.getElem?_toList, hc] at e
    cases e
    exact ⟨Hi1, Ext.refl _ _ _, A, .str _⟩
  stop := fun i H Hi1 s1 s2 hle => by
    have : x.cps.size ≤ i := by simpa [strD] using hle
    exact this
def enumD : Nat → List D → List D
  | _, [] => []
  | i, d :: r => .tup [.int (i : Nat), d] :: enumD (i + 1) r
theorem enumD_length : ∀ (xs : List D) (i : Nat), (enumD i xs).length = xs.length
  | [], _ => rfl
  | _ :: r, i => by unfold enumD; rw [List.length_cons, List.length_cons, enumD_length r]
theorem enumD_get : ∀ (xs : List D) (k i : Nat) (d : D), (enumD k xs)[i]? = some d → ∃ x, xs[i]? = some x ∧ d = .tup [.int ((k + i : Nat)), x]
  | [], _, _, _, h => by simp [enumD] at h
  | x :: r, k, 0, d, h => by simp [enumD] at h; exact ⟨x, rfl, by rw [← h]; simp⟩
  | x :: r, k, i + 1, d, h => by
    have h' : (enumD (k + 1) r)[i]? = some d := by simpa [enumD] using h
    obtain ⟨y, e1, e2⟩ := enumD_get r (k + 1) i d h'
    exact ⟨y, by simpa using e1, by rw [e2]; have : k + 1 + i = k + (i + 1) := by omega
                                    rw [this]⟩
theorem pair_new {M1 : Mh} {H Hi1 : Hp} {T : Addr} {x y : V} {d e : D} (A : AbsH K Hi1 M1 H) (hT : H T = none) (r1 : Rep K Hi1 d x) (r2 : Rep K Hi1 e y) :
    ∃ Hi2, Ext Hi1 M1 H Hi2 M1 (upd H T (.tup [x, y])) ∧ AbsH K Hi2 M1 (upd H T (.tup [x, y])) ∧ Rep K Hi2 (.tup [d, e]) (.ref T) :=
  ⟨_, A.extI hT _, A.newI hT _, .tup (SqT.of upd_same) (.cons (r1.mono (Sub.upd _ (A.none_i hT))) (.cons (r2.mono (Sub.upd _ (A.none_i hT))) .nil))⟩
theorem walk_enum {a : Addr} {xs : List D} {vs : List V} (h : SqL K Hi a vs) (r : Reps K Hi xs vs) : Walk K (Ite K a) Hi (enumD 0 xs) where
  go := fun i H Hi1 s1 s2 hlt => by
    rw [enumD_length] at hlt
    obtain ⟨d, e⟩ := get_ex hlt
    obtain ⟨v, e1, _⟩ := r.get e
    exact ⟨vs, v, (s1.trans s2).sqL h, e1⟩
  yld := fun i H Hi1 M1 x H' s1 A y d e => by
    obtain ⟨T, u, rfl, hT, rfl, y⟩ := y
    obtain ⟨dd, e1, rfl⟩ := enumD_get xs 0 i d e
    obtain ⟨v, e2, rv⟩ := r.get e1
    have := y vs ((s1.trans A.sub).sqL h)
    rw [e2] at this
    cases this
    rw [Nat.zero_add]
    exact pair_new A hT (.int _) (rv.mono s1)
  stop := fun i H Hi1 s1 s2 hle => by
    rw [enumD_length] at hle
    exact ⟨vs, (s1.trans s2).sqL h, by rw [← r.length]; exact hle⟩
def zipD : List D → List D → List D
  | x :: xs, y :: ys => .tup [x, y] :: zipD xs ys
  | _, _ => []
theorem zipD_length : ∀ (xs ys : List D), (zipD xs ys).length = min xs.length ys.length
  | [], ys => by simp [zipD]
  | x :: xs, [] => by simp [zipD]
  | x :: xs, y :: ys => by unfold zipD; rw [List.length_cons, List.length_cons, List.length_cons, zipD_length xs ys]; omega
theorem zipD_get : ∀ (xs ys : List D) (i : Nat) (d : D), (zipD xs ys)[i]? = some d → ∃ x y, xs[i]? = some x ∧ ys[i]? = some y ∧ d = .tup [x, y]
  | [], ys, i, d, h => by simp [zipD] at h
  | x :: xs, [], i, d, h => by simp [zipD] at h
  | x :: xs, y :: ys, 0, d, h => by simp [zipD] at h; exact ⟨x, y, rfl, rfl, h.symm⟩
  | x :: xs, y :: ys, i + 1, d, h => by
    obtain ⟨a, b, h1, h2, h3⟩ := zipD_get xs ys i d (by simpa [zipD] using h)
    exact ⟨a, b, by simpa using h1, by simpa using h2, h3⟩
theorem walk_zipT {a b : Addr} {xs ys : List D} {vs ws : List V} (h : SqT K Hi a vs) (r : Reps K Hi xs vs) (h2 : SqT K Hi b ws) (r2 : Reps K Hi ys ws) : Walk K (RZ.ItzT K a b) Hi (zipD xs ys) where
  go := fun i H Hi1 s1 s2 hlt => by
    rw [zipD_length] at hlt
    obtain ⟨d, e⟩ := get_ex (xs := xs) (i := i) (by omega)
    obtain ⟨d', e'⟩ := get_ex (xs := ys) (i := i) (by omega)
    obtain ⟨v, e1, _⟩ := r.get e
    obtain ⟨w, e2, _⟩ := r2.get e'
    exact ⟨vs, ws, v, w, (s1.trans s2).sqT h, (s1.trans s2).sqT h2, e1, e2⟩
  yld := fun i H Hi1 M1 x H' s1 A y d e => by
    obtain ⟨T, u, u', rfl, hT, rfl, y, y'⟩ := y
    obtain ⟨dd, dd', e1, e1', rfl⟩ := zipD_get xs ys i d e
    obtain ⟨v, e2, rv⟩ := r.get e1
    obtain ⟨w, e2', rw'⟩ := r2.get e1'
    have q1 := y vs ((s1.trans A.sub).sqT h)
    have q2 := y' ws ((s1.trans A.sub).sqT h2)
    rw [e2] at q1
    rw [e2'] at q2
    cases q1
    cases q2
    exact pair_new A hT (rv.mono s1) (rw'.mono s1)
  stop := fun i H Hi1 s1 s2 hle => by
    rw [zipD_length] at hle
    exact ⟨vs, ws, (s1.trans s2).sqT h, (s1.trans s2).sqT h2, by rw [← r.length, ← r2.length]; omega⟩
theorem walk_zipL {a b : Addr} {xs ys : List D} {vs ws : List V} (h : SqL K Hi a vs) (r : Reps K Hi xs vs) (h2 : SqL K Hi b ws) (r2 : Reps K Hi ys ws) : Walk K (Itz K a b) Hi (zipD xs ys) where
  go := fun i H Hi1 s1 s2 hlt => by
    rw [zipD_length] at hlt
    obtain ⟨d, e⟩ := get_ex (xs := xs) (i := i) (by omega)
    obtain ⟨d', e'⟩ := get_ex (xs := ys) (i := i) (by omega)
    obtain ⟨v, e1, _⟩ := r.get e
    obtain ⟨w, e2, _⟩ := r2.get e'
    exact ⟨vs, ws, v, w, (s1.trans s2).sqL h, (s1.trans s2).sqL h2, e1, e2⟩
  yld := fun i H Hi1 M1 x H' s1 A y d e => by
    obtain ⟨T, u, u', rfl, hT, rfl, y, y'⟩ := y
    obtain ⟨dd, dd', e1, e1', rfl⟩ := zipD_get xs ys i d e
    obtain ⟨v, e2, rv⟩ := r.get e1
    obtain ⟨w, e2', rw'⟩ := r2.get e1'
    have q1 := y vs ((s1.trans A.sub).sqL h)
    have q2 := y' ws ((s1.trans A.sub).sqL h2)
    rw [e2] at q1
    rw [e2'] at q2
    cases q1
    cases q2
    exact pair_new A hT (rv.mono s1) (rw'.mono s1)
  stop := fun i H Hi1 s1 s2 hle => by
    rw [zipD_length] at hle
    exact ⟨vs, ws, (s1.trans s2).sqL h, (s1.trans s2).sqL h2, by rw [← r.length, ← r2.length]; omega⟩
end
/-! ### the things one walks -/
def dInL (da : DE) : DI := fun ρ M Q => da ρ M fun x M1 => match x with | .lst ds => Q ds M1 | .scr is => Q (is.map D.int) M1 | _ => False
def dInT (da : DE) : DI := fun ρ M Q => da ρ M fun x M1 => match x with | .tup ds => Q ds M1 | _ => False
def dInS (da : DE) : DI := fun ρ M Q => da ρ M fun x M1 => match x with | .str z => z.length ≤ sizeLine ∧ Q (strD z) M1 | _ => False
def dInR (da : DE) : DI := fun ρ M Q => da ρ M fun x M1 => match x with | .int n => n ≤ 16777216 ∧ -(2 ^ 62) ≤ n ∧ Q (rngD n.toNat) M1 | _ => False
def dInE (da : DE) : DI := fun ρ M Q => da ρ M fun x M1 => match x with | .lst ds => ds.length ≤ sizeLine ∧ Q (enumD 0 ds) M1 | _ => False
def dInZT (da db : DE) : DI := fun ρ M Q => da ρ M fun x M1 => db ρ M1 fun y M2 => match x, y with | .tup xs, .tup ys => min xs.length ys.length ≤ sizeLine ∧ Q (zipD xs ys) M2 | _, _ => False
def dInZL (da db : DE) : DI := fun ρ M Q => da ρ M fun x M1 => db ρ M1 fun y M2 => match x, y with | .lst xs, .lst ys => min xs.length ys.length ≤ sizeLine ∧ Q (zipD xs ys) M2 | _, _ => False
section
variable {X : Cx} {tg e e2 : Expr} {da db : DE} {p pos tpos : Pos} {elts : List Expr} {kk : Nat}
theorem xi_lst (h : XE X e da) : XI X tg e (dInL da) := PIw (pi_listZ h) fun σ H R ⟨Hi, ρ, M, Rd, ah, sl, hd, k⟩ => by
  refine ⟨Hi, ρ, M, _, ah, sl, hd, fun x M1 h1 Hi1 v H1 e1 a1 r1 => ?_⟩
  cases r1 with
  | lst h t => exact ⟨_, _, rfl, SqL.of (a1.sub _ _ h), fun hz => k _ _ h1 Hi1 H1 _ e1 a1 (walk_list (SqL.of h) t) (by rw [t.length]; exact hz)⟩
  | scr h => exact ⟨_, _, rfl, a1.sub.sqL h, fun hz => k _ _ h1 Hi1 H1 _ e1 a1 (walk_list h (Reps.ints _)) (by simpa using hz)⟩
  | _ => exact False.elim h1
theorem xi_tup (h : XE X e da) : XI X tg e (dInT da) := PIw (pi_tupZ h) fun σ H R ⟨Hi, ρ, M, Rd, ah, sl, hd, k⟩ => by
  refine ⟨Hi, ρ, M, _, ah, sl, hd, fun x M1 h1 Hi1 v H1 e1 a1 r1 => ?_⟩
  cases r1 with
  | tup h t => exact ⟨_, _, rfl, a1.sub.sqT h, fun hz => k _ _ h1 Hi1 H1 _ e1 a1 (walk_tup h t) (by rw [t.length]; exact hz)⟩
  | _ => exact False.elim h1
theorem xi_str (h : XE X e da) : XI X tg e (dInS da) := PIw (pi_str h) fun σ H R ⟨Hi, ρ, M, Rd, ah, sl, hd, k⟩ => by
  refine ⟨Hi, ρ, M, _, ah, sl, hd, fun x M1 h1 Hi1 v H1 e1 a1 r1 => ?_⟩
  cases r1 with
  | str z => exact ⟨z, rfl, k _ _ h1.2 Hi1 H1 _ e1 a1 walk_str (by simpa [strD, Str.length] using h1.1)⟩
  | _ => exact False.elim h1
theorem xi_range (hg : Gl X "range") (hm : X.mg "range" = none) (h : XE X e da) (hs : starEach [e] X.env = [(false, eval e X.env)] := by rfl) (hs2 : starEach [e] X.env = (false, eval e X.env) :: starEach [] X.env := by rfl) : XI X tg (.Call (.Name "range" p) [e] [] pos) (dInR da) :=
  PIw (pi_range1 hg hm (pa_cons h pa_nil hs2) hs) fun σ H R ⟨Hi, ρ, M, Rd, ah, sl, hd, k⟩ => by
    refine ⟨Hi, ρ, M, _, ah, sl, hd, fun x M1 h1 Hi1 v H1 e1 a1 r1 => ?_⟩
    cases r1 with
    | int n =>
      obtain ⟨h2, h3, h1⟩ := h1
      exact ⟨n, rfl, h3, by omega, k _ _ h1 Hi1 H1 _ e1 a1 walk_range (by rw [rngD_length, sizeLine_eq]; omega)⟩
    | _ => exact False.elim h1
theorem xi_enum (hg : Gl X "enumerate") (hm : X.mg "enumerate" = none) (h : XE X e da) (hs : starEach [e] X.env = [(false, eval e X.env)] := by rfl) (hs2 : starEach [e] X.env = (false, eval e X.env) :: starEach [] X.env := by rfl) : XI X (.Tuple elts kk tpos) (.Call (.Name "enumerate" p) [e] [] pos) (dInE da) :=
  PIw (pi_enum hg hm (pa_cons h pa_nil hs2) hs) fun σ H R ⟨Hi, ρ, M, Rd, ah, sl, hd, k⟩ => by
    refine ⟨Hi, ρ, M, _, ah, sl, hd, fun x M1 h1 Hi1 v H1 e1 a1 r1 => ?_⟩
    cases r1 with
    | lst h t => exact ⟨_, _, rfl, SqL.of (a1.sub _ _ h), k _ _ h1.2 Hi1 H1 _ e1 a1 (walk_enum (SqL.of h) t) (by rw [enumD_length]; exact h1.1)⟩
    | _ => exact False.elim h1
theorem xi_zipT (hg : Gl X "zip") (hm : X.mg "zip" = none) (h : XE X e da) (h' : XE X e2 db) (hs : starEach [e, e2] X.env = (false, eval e X.env) :: starEach [e2] X.env := by rfl) (hs2 : starEach [e2] X.env = (false, eval e2 X.env) :: starEach [] X.env := by rfl) (hpl : (backTo pos (starEach [e2] X.env)).any (·.1) = false := by rfl) :
    XI X (.Tuple elts kk tpos) (.Call (.Name "zip" p) [e, e2] [] pos) (dInZT da db) :=
  PIw (RZ.pi_zipA hg hm (pa_cons h (pa_cons h' pa_nil hs2) hs) hs hpl) fun σ H R ⟨Hi, ρ, M, Rd, ah, sl, hd, k⟩ => by
    refine ⟨Hi, ρ, M, _, ah, sl, hd, fun x M1 h1 Hi1 v H1 e1 a1 r1 => ?_⟩
    refine ⟨Hi1, ρ, M1, _, a1, sl.mono e1.hi, h1, fun y M2 h2 Hi2 w H2 e2 a2 r2 => ?_⟩
    have r1 := r1.mono e2.hi
    cases r1 with
    | tup h t =>
      cases r2 with
      | tup h' t' => exact ⟨_, _, _, _, rfl, .inr ⟨a2.sub.sqT h, a2.sub.sqT h', k _ _ h2.2 Hi2 H2 _ (e1.trans e2) a2 (walk_zipT h t h' t') (by rw [zipD_length]; exact h2.1)⟩⟩
      | _ => exact False.elim h2
    | _ => exact False.elim h2
theorem xi_zipL (hg : Gl X "zip") (hm : X.mg "zip" = none) (h : XE X e da) (h' : XE X e2 db) (hs : starEach [e, e2] X.env = (false, eval e X.env) :: starEach [e2] X.env := by rfl) (hs2 : starEach [e2] X.env = (false, eval e2 X.env) :: starEach [] X.env := by rfl) (hpl : (backTo pos (starEach [e2] X.env)).any (·.1) = false := by rfl) :
    XI X (.Tuple elts kk tpos) (.Call (.Name "zip" p) [e, e2] [] pos) (dInZL da db) :=
  PIw (RZ.pi_zipA hg hm (pa_cons h (pa_cons h' pa_nil hs2) hs) hs hpl) fun σ H R ⟨Hi, ρ, M, Rd, ah, sl, hd, k⟩ => by
    refine ⟨Hi, ρ, M, _, ah, sl, hd, fun x M1 h1 Hi1 v H1 e1 a1 r1 => ?_⟩
    refine ⟨Hi1, ρ, M1, _, a1, sl.mono e1.hi, h1, fun y M2 h2 Hi2 w H2 e2 a2 r2 => ?_⟩
    have r1 := r1.mono e2.hi
    cases r1 with
    | lst h t =>
      cases r2 with
      | lst h' t' => exact ⟨_, _, _, _, rfl, .inl ⟨SqL.of (a2.sub _ _ h), SqL.of (a2.sub _ _ h'), k _ _ h2.2 Hi2 H2 _ (e1.trans e2) a2 (walk_zipL (SqL.of h) t (SqL.of h') t') (by rw [zipD_length]; exact h2.1)⟩⟩
      | _ => exact False.elim h2
    | _ => exact False.elim h2
end
/-! ### for -/
def forW (g : DG) (b : DS) : List D → DS
  | [] => fun E ρ M => E.nx ρ M
  | x :: xs => fun E ρ M => g x ρ M fun ρ1 M1 => b { nx := fun ρ' M' => forW g b xs E ρ' M', ct := fun ρ' M' => forW g b xs E ρ' M', bk := E.nx, rt := E.rt } ρ1 M1
def dFor (di : DI) (g : DG) (b : DS) : DS := fun E ρ M => di ρ M fun xs M1 => forW g b xs E ρ M1
theorem x_for {X : Cx} {tg iter : Expr} {body : List Stmt} {di : DI} {g : DG} {b : DS} {pos : Pos} (hp : PassesOwn (model X.prog X.w) X.A X.env X.xe) (hc : X.calm = true) (hi : XI X tg iter di) (hg : XG X tg g) (hb : XSs X body b)
    (hs : ∀ x, foldedSetIterable iter X.env x = pure x := by intro _; rfl) : XS X (.For tg iter body [] pos) (dFor di g b) := PSw (ps_for hp hc hi hg hb hs) fun D' σ H ⟨Hi, ρ, M, E, ah, sl, hd, k⟩ => by
  refine ⟨Hi, ρ, M, _, ah, sl, hd, fun xs M1 h1 Hi1 H1 J e1 a1 wk hz => ?_⟩
  refine ⟨fun i m σ' H' => m = xs.length - i ∧ i ≤ xs.length ∧ ∃ Hi' ρ' M', Ext Hi1 M1 H1 Hi' M' H' ∧ AbsH X.K Hi' M' H' ∧ Sl X.K Hi' ρ' σ' ∧ forW g b (xs.drop i) E ρ' M', ⟨xs.length, rfl, Nat.zero_le _, Hi1, ρ, M1, Ext.refl _ _ _, a1, sl.mono e1.hi, h1⟩, ?_⟩
  rintro i m σ2 H2 ⟨rfl, hi, Hi2, ρ2, M2, e2, a2, s2, h2⟩
  by_cases hlt : i < xs.length
  · refine .inr ⟨wk.go i H2 Hi2 e2.hi a2.sub hlt, fun σ' H' => i + 1 ≤ xs.length ∧ ∃ Hi' ρ' M', Ext Hi1 M1 H1 Hi' M' H' ∧ AbsH X.K Hi' M' H' ∧ Sl X.K Hi' ρ' σ' ∧ forW g b (xs.drop (i + 1)) E ρ' M', fun σ' H' h => ⟨xs.length - (i + 1), by omega, rfl, h⟩, fun x H3 y => ?_⟩
    obtain ⟨Hi3, e3, a3, r3⟩ := wk.yld i H2 Hi2 M2 x H3 e2.hi a2 y xs[i] (List.getElem?_eq_getElem hlt)
    rw [List.drop_eq_getElem_cons hlt] at h2
    refine ⟨Hi3, ρ2, M2, xs[i], _, a3, s2.mono e3.hi, r3, h2, fun ρ4 M4 h4 Hi4 σ4 H4 e4 a4 s4 => ?_⟩
    have e24 := e2.trans (e3.trans e4)
    have hn : ∀ ρ' M', forW g b (xs.drop (i + 1)) E ρ' M' → ∀ Hi' σ' H', Ext Hi4 M4 H4 Hi' M' H' → AbsH X.K Hi' M' H' → Sl X.K Hi' ρ' σ' → i + 1 ≤ xs.length ∧ ∃ Hi' ρ' M', Ext Hi1 M1 H1 Hi' M' H' ∧ AbsH X.K Hi' M' H' ∧ Sl X.K Hi' ρ' σ' ∧ forW g b (xs.drop (i + 1)) E ρ' M' :=
      fun ρ' M' h Hi' σ' H' e' a' s' => ⟨hlt, Hi', ρ', M', e24.trans e', a', s', h⟩
    exact ⟨Hi4, ρ4, M4, _, a4, s4, h4, ⟨hn, k.rt.ext (e1.trans e24), k.nx.ext (e1.trans e24), hn⟩⟩
  · have ei : i = xs.length := by omega
    subst ei
    rw [List.drop_length] at h2
    exact .inl ⟨wk.stop _ H2 Hi2 e2.hi a2.sub (Nat.le_refl _), k.nx _ _ h2 Hi2 σ2 H2 (e1.trans e2) a2 s2⟩
end DL
set_option maxRecDepth 100000
set_option maxHeartbeats 1000000
namespace DL
open PySem PySem.Spec PyProof.Rows L2

def dwipe (ρ : DV) : List Nat → DV
  | [] => ρ
  | v :: vs => (dwipe ρ vs).set v none
theorem lk_none : ∀ {ρ : DV} {i j : Nat} {d : D}, lk (ρ.set i none) j = some d → j ≠ i ∧ lk ρ j = some d
  | [], _, _, _, h => by simp [lk] at h
  | y :: r, 0, 0, d, h => by simp [lk] at h
  | y :: r, 0, j + 1, d, h => ⟨Nat.succ_ne_zero _, by simpa [lk] using h⟩
  | y :: r, i + 1, 0, d, h => ⟨(Nat.succ_ne_zero _).symm, by simpa [lk] using h⟩
  | y :: r, i + 1, j + 1, d, h => by
    have h' : lk (r.set i none) j = some d := by simpa [lk] using h
    obtain ⟨a, b⟩ := lk_none h'
    exact ⟨fun e => a (Nat.succ.inj e), by simpa [lk] using b⟩
theorem lk_dwipe {ρ : DV} {j : Nat} {d : D} : ∀ {vs : List Nat}, lk (dwipe ρ vs) j = some d → j ∉ vs ∧ lk ρ j = some d
  | [], h => ⟨by simp, h⟩
  | v :: vs, h => by
    obtain ⟨a, b⟩ := lk_none h
    obtain ⟨c, e⟩ := lk_dwipe b
    exact ⟨by simp [a, c], e⟩
theorem Sl.wipe {K : PySem.W.Frag} {Hi : Hp} {ρ : DV} {σ : L2.St} (h : Sl K Hi ρ σ) (vs : List Nat) : Sl K Hi (dwipe ρ vs) (L2.wipe σ vs) :=
  ⟨fun j d e => by
    obtain ⟨a, b⟩ := lk_dwipe e
    obtain ⟨v, h1, h2⟩ := h.at_ j d b
    exact ⟨v, by rw [wipe_out a]; exact h1, h2⟩⟩
theorem wipe_comm {σ : L2.St} {i : Nat} {x : Option V} : ∀ {vs : List Nat}, i ∉ vs → L2.wipe (σ.set i x) vs = (L2.wipe σ vs).set i x
  | [], _ => rfl
  | v :: vs, h => by
    simp only [List.mem_cons, not_or] at h
    show (L2.wipe (σ.set i x) vs).set v none = ((L2.wipe σ vs).set v none).set i x
    rw [wipe_comm h.2, List.set_comm _ _ h.1]
theorem wipe_set {σ : L2.St} {i : Nat} {x : Option V} : ∀ {vs : List Nat}, i ∈ vs → L2.wipe (σ.set i x) vs = L2.wipe σ vs
  | v :: vs, h => by
    show (L2.wipe (σ.set i x) vs).set v none = (L2.wipe σ vs).set v none
    by_cases hi : i ∈ vs
    · rw [wipe_set hi]
    · have e : i = v := by
        rcases List.mem_cons.mp h with e | e
        · exact e
        · exact absurd e hi
      subst e
      rw [wipe_comm hi, List.set_set]

theorem wipe_at {σ : L2.St} {u : Nat} : ∀ {vs : List Nat}, u ∈ vs → (L2.wipe σ vs).set u none = L2.wipe σ vs
  | v :: vs, h => by
    show ((L2.wipe σ vs).set v none).set u none = (L2.wipe σ vs).set v none
    by_cases e : u = v
    · subst e; rw [List.set_set]
    · rw [List.set_comm _ _ (Ne.symm e), wipe_at ((List.mem_cons.mp h).resolve_left e)]
theorem wipe_sub {σ : L2.St} {vs : List Nat} : ∀ {us : List Nat}, (∀ u ∈ us, u ∈ vs) → L2.wipe (L2.wipe σ vs) us = L2.wipe σ vs
  | [], _ => rfl
  | u :: us, h => by
    show (L2.wipe (L2.wipe σ vs) us).set u none = _
    rw [wipe_sub fun x hx => h x (List.mem_cons_of_mem _ hx), wipe_at (h u List.mem_cons_self)]
theorem wipe_wipe {σ : L2.St} {vs : List Nat} : L2.wipe (L2.wipe σ vs) vs = L2.wipe σ vs := wipe_sub fun _ h => h
/-! ### targets of a comprehension -/
def liftGc (K : PySem.W.Frag) (vs : List Nat) (g : DG) : TG := fun v σ H Q => ∃ Hi ρ M x R, AbsH K Hi M H ∧ Sl K Hi ρ σ ∧ Rep K Hi x v ∧ g x ρ M R ∧ ∀ ρ' M', R ρ' M' → ∀ Hi' σ' H', Ext Hi M H Hi' M' H' → AbsH K Hi' M' H' → Sl K Hi' ρ' σ' → L2.wipe σ' vs = L2.wipe σ vs → Q σ' H'
def liftGsc (K : PySem.W.Frag) (vs : List Nat) (g : DGs) : TGs := fun v σ H Q => ∃ Hi ρ M x R, AbsH K Hi M H ∧ Sl K Hi ρ σ ∧ Reps K Hi x v ∧ g x ρ M R ∧ ∀ ρ' M', R ρ' M' → ∀ Hi' σ' H', Ext Hi M H Hi' M' H' → AbsH K Hi' M' H' → Sl K Hi' ρ' σ' → L2.wipe σ' vs = L2.wipe σ vs → Q σ' H'
abbrev XGc (X : Cx) (vs : List Nat) (e : Expr) (g : DG) : Prop := PG X e (liftGc X.K vs g)
abbrev XGsc (X : Cx) (vs : List Nat) (e : List Expr) (g : DGs) : Prop := PGs X e (liftGsc X.K vs g)
section
variable {X : Cx} {pos : Pos} {vs : List Nat}
theorem xgc_name {i : Nat} {x : Str} (hv : i ∈ vs) (hN : X.N.Nodup) (hi : X.N[i]? = some x) (hx : Loc X.env.scope x) (hf : X.fn x = true ∨ X.env.scope.names.lookup x = some .local := by first | exact .inl rfl | exact .inr rfl | assumption) : XGc X vs (.Name x pos) (dgName i) := by
  refine ⟨fun pins s σ H v u Q I r ⟨Hi, ρ, M, d, R, ah, sl, hr, hd, k⟩ => ?_⟩
  have hl : i < σ.length := by rw [I.len]; exact (List.getElem?_eq_some_iff.mp hi).1
  exact (pg_name hN hi hx hf).run pins s σ H v u Q I r (k _ _ hd Hi _ H (Ext.refl _ _ _) ah (sl.set hr hl) (wipe_set hv))
theorem xgsc_nil : XGsc X vs [] dgNil := PGsw pgs_nil fun v σ H Q ⟨Hi, ρ, M, xs, R, ah, sl, hr, hd, k⟩ => by
  obtain ⟨rfl, hd⟩ := hd
  cases hr
  exact ⟨rfl, k _ _ hd Hi σ H (Ext.refl _ _ _) ah sl rfl⟩
theorem xgsc_cons {e : Expr} {es : List Expr} {t : DG} {u : DGs} (h1 : XGc X vs e t) (h2 : XGsc X vs es u)
    (hs : (assignEach (e :: es) X.env).map (·.2) = assign e X.env :: (assignEach es X.env).map (·.2) := by rfl) : XGsc X vs (e :: es) (dgCons t u) := PGsw (pgs_cons h1 h2 hs) fun v σ H Q ⟨Hi, ρ, M, xs, R, ah, sl, hr, hd, k⟩ => by
  cases hr with
  | nil => exact False.elim hd
  | cons hr t => exact ⟨_, _, rfl, Hi, ρ, M, _, _, ah, sl, hr, hd, fun ρ1 M1 h Hi1 σ1 H1 e1 a1 s1 w1 => ⟨Hi1, ρ1, M1, _, R, a1, s1, t.mono e1.hi, h, fun ρ' M' h' Hi' σ' H' e' a' s' w' => k _ _ h' Hi' σ' H' (e1.trans e') a' s' (w'.trans w1)⟩⟩
theorem xgc_tup {es : List Expr} {kk : Nat} {g : DGs} {n : Nat} (hc : X.calm = true) (h : XGsc X vs es g) (hn : (assignEach es X.env).length = n := by rfl) (hst : (assignEach es X.env).findIdx? (·.1) = none := by rfl) : XGc X vs (.Tuple es kk pos) (dgTup n g) :=
  PGw (pg_tup hc h hn hst) fun v σ H Q ⟨Hi, ρ, M, x, R, ah, sl, hr, hd, k⟩ => by
    unfold dgTup at hd
    cases e : asT x with
    | none => rw [e] at hd; exact False.elim hd
    | some xs =>
      rw [e] at hd
      obtain ⟨a, vs, rfl, h1, h2⟩ := asT_ok ah hr e
      exact ⟨a, vs, rfl, h1, by rw [← h2.length]; exact hd.1, Hi, ρ, M, xs, R, ah, sl, h2, hd.2, k⟩
end
abbrev XTs (X : Cx) (ifs : List Expr) (t : DT) : Prop := PTs X ifs (liftT X.K t)
def dYes : DT := fun _ M Q => Q true M
theorem PTsw {X : Cx} {ifs : List Expr} {t t' : TT} (h : PTs X ifs t) (w : ∀ σ H Q, t' σ H Q → t σ H Q) : PTs X ifs t' := ⟨fun pins s σ H Q I q => h.run pins s σ H Q I (w _ _ _ q)⟩
theorem xts_nil {X : Cx} : XTs X [] dYes := PTsw pts_nil fun σ H Q ⟨Hi, ρ, M, R, ah, sl, hd, k⟩ => k _ _ hd Hi H (Ext.refl _ _ _) ah
theorem xts_one {X : Cx} {c : Expr} {t : DT} (h : XT X c t) : XTs X [c] t := pts_one h
/-! ### list comprehensions -/
def lcW (g : DG) (t : DT) (d : DE) (ρ0 : DV) : List D → List D → Mh → (List D → Mh → Prop) → Prop
  | [], acc, M, Q => Q acc M
  | x :: xs, acc, M, Q => g x ρ0 M fun ρ1 M1 => t ρ1 M1 fun b M2 => if b = true then d ρ1 M2 fun y M3 => lcW g t d ρ0 xs (acc ++ [y]) M3 Q else lcW g t d ρ0 xs acc M2 Q
def dLc (mk : MkL) (di : DI) (g : DG) (t : DT) (d : DE) (vs : List Nat) : DE := fun ρ M Q => di ρ M fun xs M1 => lcW g t d (dwipe ρ vs) xs [] M1 fun ys M2 => mk ys M2 Q
/-! ### an object under way, of no one's store -/
section
variable {K : PySem.W.Frag}
theorem hide_in {Hi Hx : Hp} {M : Mh} {A : Addr} (o : HO) (a : AbsH K Hi M Hx) (hx : Hx A = none) : AbsH K Hi M (upd Hx A o) :=
  ⟨a.sub.trans (Sub.upd _ hx), fun b m e => by
    obtain ⟨p1, u, p2, p3⟩ := a.mt b m e
    exact ⟨p1, u, by rw [upd_ne (ne_of_none p2 hx)]; exact p2, p3⟩⟩
theorem hide_out {Hi Hx Hi' H' : Hp} {M M' : Mh} {A : Addr} {o : HO} (a : AbsH K Hi M Hx) (hx : Hx A = none) (e : Ext Hi M (upd Hx A o) Hi' M' H') (a' : AbsH K Hi' M' H') :
    ∃ Hy, Ext Hi M Hx Hi' M' Hy ∧ AbsH K Hi' M' Hy ∧ Hy A = none ∧ H' = upd Hy A o := by
  obtain ⟨q1, q2, q3⟩ := e.fr A o upd_same (a.none_m hx)
  have q3 := q3 (a.none_i hx)
  refine ⟨fun b => if b = A then none else H' b, ⟨e.hi, fun b ob h hm => ?_⟩, ⟨fun b ob h => ?_, fun b m h => ?_⟩, if_pos rfl, ?_⟩
  · have hb := ne_of_none h hx
    obtain ⟨z1, z2, z3⟩ := e.fr b ob (by rw [upd_ne hb]; exact h) hm
    exact ⟨by rw [if_neg hb]; exact z1, z2, z3⟩
  · have hb := ne_of_none h q3
    rw [if_neg hb]
    exact a'.sub b ob h
  · have hb := ne_m h q2
    obtain ⟨z1, u, z2, z3⟩ := a'.mt b m h
    exact ⟨z1, u, by rw [if_neg hb]; exact z2, z3⟩
  · funext b
    by_cases hb : b = A
    · subst hb; rw [upd_same]; exact q1
    · rw [upd_ne hb, if_neg hb]
end
theorem lcW_nil {g : DG} {t : DT} {d : DE} {ρ0 : DV} {acc : List D} {M : Mh} {Q : List D → Mh → Prop} : lcW g t d ρ0 [] acc M Q = Q acc M := rfl
theorem w_lc {K : PySem.W.Frag} {mk : MkL} (hm : NewL mk) {di : DI} {g : DG} {t : DT} {d : DE} {vs : List Nat} (σ : L2.St) (H : Hp) (Q : VK) (h : liftE K (dLc mk di g t d vs) σ H Q) : tLc (liftI K di) (liftGc K vs g) (liftT K t) (liftE K d) vs σ H Q := by
  obtain ⟨Hi, ρ, M, R, ah, sl, hd, k⟩ := h
  refine ⟨Hi, ρ, M, _, ah, sl, hd, fun xs M1 h1 Hi1 H1 J e1 a1 wk hz A hA => ?_⟩
  have sw := (sl.mono e1.hi).wipe vs
  refine ⟨fun i m H' => m = xs.length - i ∧ i ≤ xs.length ∧ ∃ Hi' M' acc ws Hx, Ext Hi1 M1 H1 Hi' M' Hx ∧ AbsH K Hi' M' Hx ∧ Hx A = none ∧ H' = upd Hx A (.lst ws) ∧ Reps K Hi' acc ws ∧ acc.length ≤ i ∧ lcW g t d (dwipe ρ vs) (xs.drop i) acc M' fun ys M2 => mk ys M2 R,
    ⟨xs.length, rfl, Nat.zero_le _, Hi1, M1, [], [], H1, Ext.refl _ _ _, a1, hA, rfl, .nil, Nat.le_refl _, h1⟩, ?_⟩
  rintro i m H' ⟨rfl, hi, Hi2, M2, acc, ws, Hx, e2, a2, hx, rfl, rw', hl, h2⟩
  have aL := hide_in (.lst ws) a2 hx
  by_cases hlt : i < xs.length
  · refine .inr ⟨wk.go i _ Hi2 e2.hi aL.sub hlt, fun H' => i + 1 ≤ xs.length ∧ ∃ Hi' M' acc ws Hx, Ext Hi1 M1 H1 Hi' M' Hx ∧ AbsH K Hi' M' Hx ∧ Hx A = none ∧ H' = upd Hx A (.lst ws) ∧ Reps K Hi' acc ws ∧ acc.length ≤ i + 1 ∧ lcW g t d (dwipe ρ vs) (xs.drop (i + 1)) acc M' fun ys M2 => mk ys M2 R,
      fun H' h => ⟨xs.length - (i + 1), by omega, rfl, h⟩, fun x H3 y => ?_⟩
    obtain ⟨Hi3, e3, a3, r3⟩ := wk.yld i _ Hi2 M2 x H3 e2.hi aL y xs[i] (List.getElem?_eq_getElem hlt)
    rw [List.drop_eq_getElem_cons hlt] at h2
    refine ⟨Hi3, dwipe ρ vs, M2, xs[i], _, a3, sw.mono (e2.trans (hide_out a2 hx e3 a3).choose_spec.1).hi, r3, h2, fun ρ4 M4 h4 Hi4 σ4 H4 e4 a4 s4 w4 => ⟨?_, ?_⟩⟩
    · rw [w4, wipe_wipe]
    refine ⟨Hi4, ρ4, M4, _, a4, s4, h4, fun b M5 h5 Hi5 H5 e5 a5 => ?_⟩
    cases b with
    | false =>
      simp only [Bool.false_eq_true, if_false] at h5 ⊢
      obtain ⟨Hy, f1, f2, f3, f4⟩ := hide_out a2 hx (e3.trans (e4.trans e5)) a5
      exact ⟨hlt, Hi5, M5, acc, ws, Hy, e2.trans f1, f2, f3, f4, rw'.mono f1.hi, by omega, h5⟩
    | true =>
      simp only [if_true] at h5 ⊢
      refine ⟨Hi5, ρ4, M5, _, a5, s4.mono e5.hi, h5, fun z M6 h6 Hi6 v H6 e6 a6 r6 => ?_⟩
      obtain ⟨Hy, f1, f2, f3, f4⟩ := hide_out a2 hx (e3.trans (e4.trans (e5.trans e6))) a6
      refine ⟨ws, by rw [f4, upd_same], by rw [← rw'.length]; omega, hlt, Hi6, M6, acc ++ [z], ws ++ [v], Hy, e2.trans f1, f2, f3, by rw [f4, upd_upd], (rw'.mono f1.hi).append (.cons r6 .nil), by simp; omega, h6⟩
  · have ei : i = xs.length := by omega
    subst ei
    rw [List.drop_length] at h2
    exact .inl ⟨wk.stop _ _ Hi2 e2.hi aL.sub (Nat.le_refl _), hm K Hi2 M2 Hx acc ws A R Q a2 hx rw' h2 (k.ext (e1.trans e2))⟩
abbrev BlkX (X : Cx) (scope : Scope) (P : Cx → Prop) : Prop := ∀ (s : Shared) (H : Hp) (C : Addr) (cl : List (Str × Addr)) (fp : List Addr), P (X.blk s H scope (compEnvC scope cl C X.env) fp)
section
variable {X : Cx} {elt tg iter kx vx : Expr} {ifs : List Expr} {scope : Scope} {own : List (Str × Nat)} {vs : List Nat} {pos spos : Pos} {di : DI} {g : DG} {t : DT} {d dk dv : DE} {mk : MkL}
theorem x_lc (hm : NewL mk) (hc : X.calm = true) (hN : X.N.Nodup) (ok : BlkOk X.N X.env.scope scope own) (hv : own.map (·.2) = vs) (hi : XI X tg iter di)
    (hg : BlkX X scope fun Y => XGc Y vs tg g) (ht : BlkX X scope fun Y => XTs Y ifs t) (he : BlkX X scope fun Y => XE Y elt d) (hs : ∀ x, foldedSetIterable iter X.env x = pure x := by intro _; rfl) :
    XE X (.ListComp elt [⟨tg, iter, ifs, 0⟩] scope pos) (dLc mk di g t d vs) := by
  subst hv
  exact PEw (pe_lc hc hN hi ok hg ht he hs) fun σ H Q h => w_lc hm σ H Q h
/-- name = [..] on one line -/
theorem x_setLc {i : Nat} {y : Str} {py : Pos} (hm : NewL mk) (hc : X.calm = true) (hN : X.N.Nodup) (hy : X.N[i]? = some y) (hyl : X.env.scope.names.lookup y = some .local)
    (hsw : swapsWith (.ListComp elt [⟨tg, iter, ifs, 0⟩] scope pos) (some (.Name y py)) spos.line X.env = pure true) (ok : BlkOk X.N X.env.scope scope own) (hv : own.map (·.2) = vs) (hi : XI X tg iter di)
    (hg : BlkX X scope fun Y => XGc Y vs tg g) (ht : BlkX X scope fun Y => XTs Y ifs t) (he : BlkX X scope fun Y => XE Y elt d) (hs : ∀ x, foldedSetIterable iter X.env x = pure x := by intro _; rfl) :
    XS X (.Assign [.Name y py] (.ListComp elt [⟨tg, iter, ifs, 0⟩] scope pos) spos) (dAsg (dLc mk di g t d vs) (dgName i)) := by
  subst hv
  refine ⟨fun pins s σ H D I h => ?_⟩
  have hl : i < σ.length := by rw [I.len]; exact (List.getElem?_eq_some_iff.mp hy).1
  refine (ps_setLc (wi := liftI X.K di) (g := liftGc X.K (own.map (·.2)) g) (tt := liftT X.K t) (te := liftE X.K d) hc hN hy hyl hsw hi ok hg ht he hs).run pins s σ H D I ?_
  obtain ⟨Hi, ρ, M, E, ah, sl, hd, k⟩ := h
  exact w_lc hm σ H _ ⟨Hi, ρ, M, _, ah, sl, hd, fun y M' h Hi' v H' e a' r => k.nx _ _ h Hi' _ H' e a' ((sl.mono e.hi).set r hl)⟩

/-! ### dict comprehensions -/
abbrev MkD := List (Key × D) → Mh → (D → Mh → Prop) → Prop
def mkDF : MkD := fun xs M Q => Q (.dic xs) M
def mkDP : MkD := fun xs M Q => ∀ a, M a = none → Q (.ptr a) (mup M a (.dic xs))
def NewD (mk : MkD) : Prop := ∀ (K : PySem.W.Frag) (Hi : Hp) (M : Mh) (H : Hp) (xs : List (Key × D)) (vs : List (Key × V)) (p : Addr) (R : D → Mh → Prop) (Q : VK), AbsH K Hi M H → H p = none → RepK K Hi xs vs → mk xs M R → Kont K Hi M H R Q → Q (.ref p) (upd H p (.dK vs))
theorem newDF : NewD mkDF := fun K Hi M H xs vs p R Q A hp r h k => k _ _ h _ _ _ (A.extI hp _) (A.newI hp _) (.dic upd_same (r.mono (Sub.upd _ (A.none_i hp))))
theorem newDP : NewD mkDP := fun K Hi M H xs vs p R Q A hp r h k => k _ _ (h p (A.none_m hp)) _ _ _ (A.extM hp _ _) (A.newM hp (.dic r)) (.ptr p)
def dcW (g : DG) (t : DT) (dk dv : DE) (ρ0 : DV) : List D → List (Key × D) → Mh → (List (Key × D) → Mh → Prop) → Prop
  | [], acc, M, Q => Q acc M
  | x :: xs, acc, M, Q => g x ρ0 M fun ρ1 M1 => t ρ1 M1 fun b M2 => if b = true then dk ρ1 M2 fun y M3 => onK y fun k => dv ρ1 M3 fun z M4 => dcW g t dk dv ρ0 xs (putD acc k z) M4 Q else dcW g t dk dv ρ0 xs acc M2 Q
def dDc (mk : MkD) (di : DI) (g : DG) (t : DT) (dk dv : DE) (vs : List Nat) : DE := fun ρ M Q => di ρ M fun xs M1 => dcW g t dk dv (dwipe ρ vs) xs [] M1 fun ys M2 => mk ys M2 Q
theorem putD_length (k : Key) (v : D) (ks : List (Key × D)) : (putD ks k v).length ≤ ks.length + 1 := by
  unfold putD
  split <;> simp
theorem w_dc {K : PySem.W.Frag} {mk : MkD} (hm : NewD mk) {di : DI} {g : DG} {t : DT} {dk dv : DE} {vs : List Nat} (σ : L2.St) (H : Hp) (Q : VK) (h : liftE K (dDc mk di g t dk dv vs) σ H Q) : tDc (liftI K di) (liftGc K vs g) (liftT K t) (liftE K dk) (liftE K dv) vs σ H Q := by
  obtain ⟨Hi, ρ, M, R, ah, sl, hd, k⟩ := h
  refine ⟨Hi, ρ, M, _, ah, sl, hd, fun xs M1 h1 Hi1 H1 J e1 a1 wk hz A hA => ?_⟩
  have sw := (sl.mono e1.hi).wipe vs
  refine ⟨fun i m H' => m = xs.length - i ∧ i ≤ xs.length ∧ ∃ Hi' M' acc ws Hx, Ext Hi1 M1 H1 Hi' M' Hx ∧ AbsH K Hi' M' Hx ∧ Hx A = none ∧ H' = upd Hx A (.dK ws) ∧ RepK K Hi' acc ws ∧ acc.length ≤ i ∧ dcW g t dk dv (dwipe ρ vs) (xs.drop i) acc M' fun ys M2 => mk ys M2 R,
    ⟨xs.length, rfl, Nat.zero_le _, Hi1, M1, [], [], H1, Ext.refl _ _ _, a1, hA, rfl, .nil, Nat.le_refl _, h1⟩, ?_⟩
  rintro i m H' ⟨rfl, hi, Hi2, M2, acc, ws, Hx, e2, a2, hx, rfl, rw', hl, h2⟩
  have aL := hide_in (.dK ws) a2 hx
  by_cases hlt : i < xs.length
  · refine .inr ⟨wk.go i _ Hi2 e2.hi aL.sub hlt, fun H' => i + 1 ≤ xs.length ∧ ∃ Hi' M' acc ws Hx, Ext Hi1 M1 H1 Hi' M' Hx ∧ AbsH K Hi' M' Hx ∧ Hx A = none ∧ H' = upd Hx A (.dK ws) ∧ RepK K Hi' acc ws ∧ acc.length ≤ i + 1 ∧ dcW g t dk dv (dwipe ρ vs) (xs.drop (i + 1)) acc M' fun ys M2 => mk ys M2 R,
      fun H' h => ⟨xs.length - (i + 1), by omega, rfl, h⟩, fun x H3 y => ?_⟩
    obtain ⟨Hi3, e3, a3, r3⟩ := wk.yld i _ Hi2 M2 x H3 e2.hi aL y xs[i] (List.getElem?_eq_getElem hlt)
    rw [List.drop_eq_getElem_cons hlt] at h2
    refine ⟨Hi3, dwipe ρ vs, M2, xs[i], _, a3, sw.mono (e2.trans (hide_out a2 hx e3 a3).choose_spec.1).hi, r3, h2, fun ρ4 M4 h4 Hi4 σ4 H4 e4 a4 s4 w4 => ⟨?_, ?_⟩⟩
    · rw [w4, wipe_wipe]
    refine ⟨Hi4, ρ4, M4, _, a4, s4, h4, fun b M5 h5 Hi5 H5 e5 a5 => ?_⟩
    cases b with
    | false =>
      simp only [Bool.false_eq_true, if_false] at h5 ⊢
      obtain ⟨Hy, f1, f2, f3, f4⟩ := hide_out a2 hx (e3.trans (e4.trans e5)) a5
      exact ⟨hlt, Hi5, M5, acc, ws, Hy, e2.trans f1, f2, f3, f4, rw'.mono f1.hi, by omega, h5⟩
    | true =>
      simp only [if_true] at h5 ⊢
      refine ⟨Hi5, ρ4, M5, _, a5, s4.mono e5.hi, h5, fun z M6 h6 Hi6 v H6 e6 a6 r6 => ?_⟩
      obtain ⟨kk, rfl, h6⟩ := on_K r6 h6
      refine ⟨Hi6, ρ4, M6, _, a6, s4.mono (e5.trans e6).hi, h6, fun z2 M7 h7 Hi7 v2 H7 e7 a7 r7 => ?_⟩
      obtain ⟨Hy, f1, f2, f3, f4⟩ := hide_out a2 hx (e3.trans (e4.trans (e5.trans (e6.trans e7)))) a7
      have hp := putD_length kk z2 acc
      refine ⟨ws, kk, rfl, by rw [f4, upd_same], by rw [← rw'.length]; omega, hlt, Hi7, M7, putD acc kk z2, putK ws kk v2, Hy, e2.trans f1, f2, f3, by rw [f4, upd_upd], put_rep kk r7 (rw'.mono f1.hi), by omega, h7⟩
  · have ei : i = xs.length := by omega
    subst ei
    rw [List.drop_length] at h2
    exact .inl ⟨wk.stop _ _ Hi2 e2.hi aL.sub (Nat.le_refl _), hm K Hi2 M2 Hx acc ws A R Q a2 hx rw' h2 (k.ext (e1.trans e2))⟩
theorem x_dc {mk : MkD} (hm : NewD mk) (hc : X.calm = true) (hN : X.N.Nodup) (ok : BlkOk X.N X.env.scope scope own) (hv : own.map (·.2) = vs) (hi : XI X tg iter di)
    (hg : BlkX X scope fun Y => XGc Y vs tg g) (ht : BlkX X scope fun Y => XTs Y ifs t) (hk : BlkX X scope fun Y => XE Y kx dk) (he : BlkX X scope fun Y => XE Y vx dv) (hs : ∀ x, foldedSetIterable iter X.env x = pure x := by intro _; rfl) :
    XE X (.DictComp kx vx [⟨tg, iter, ifs, 0⟩] scope pos) (dDc mk di g t dk dv vs) := by
  subst hv
  exact PEw (pe_dc hc hN hi ok hg ht hk he hs) fun σ H Q h => w_dc hm σ H Q h
/-- name = {..} on one line -/
theorem p_setDc {i : Nat} {y : Str} {py : Pos} {wi : TI} {gg : TG} {tt : TT} {tk tv : TE} (hc : X.calm = true) (hN : X.N.Nodup) (hy : X.N[i]? = some y) (hyl : X.env.scope.names.lookup y = some .local)
    (hsw : swapsWith (.DictComp kx vx [⟨tg, iter, ifs, 0⟩] scope pos) (some (.Name y py)) spos.line X.env = pure true) (hi : PI X tg iter wi) (ok : BlkOk X.N X.env.scope scope own)
    (hg : BlkX X scope fun Y => PG Y tg gg) (ht : BlkX X scope fun Y => PTs Y ifs tt) (hk : BlkX X scope fun Y => PE Y kx tk) (hv : BlkX X scope fun Y => PE Y vx tv) (hs : ∀ x, foldedSetIterable iter X.env x = pure x) :
    PS X (.Assign [.Name y py] (.DictComp kx vx [⟨tg, iter, ifs, 0⟩] scope pos) spos) (tAsg (tDc wi gg tt tk tv (own.map (·.2))) (gName i)) := by
  refine ⟨fun pins s σ H D I hh => ?_⟩
  rw [exec_Assign_Name_used _ _ _ _ hsw]
  refine wpAny_bind (wpAny_standAt (wpAny_bind ?_))
  show wpAny _ X.A (do let _ ← comprehension (.DictComp kx vx [⟨tg, iter, ifs, 0⟩] scope pos) scope X.env (firstIterPos [⟨tg, iter, ifs, 0⟩] pos) newDict false (eval iter X.env) (some (assign (.Name y py) X.env))) _ _ s
  have h2 : tDc wi gg tt tk tv (own.map (·.2)) σ H (fun x H1 => gName i x σ H1 D.nx) := hh
  refine wpAny_bind (thn (dc_core (Qf := fun _ s' => SP X pins D .next s') hc hN I hi ok hg ht hk hv hs h2 fun L C s1 m H1 I1 q hn f => ?_) fun _ s1 hq => wpAny_pure (wpAny_pure hq))
  show wpAny _ _ (assign (.Name y py) X.env (.ref L)) _ _ _
  refine wpAny_assign_Name (store_ok2 (v := V.ref L) I1 hN hy (.inl hyl) rfl (fun s2 I2 ⟨a, sb, ha⟩ => ?_) (.inr hyl))
  obtain ⟨g0, g1, g2, g3, g4, g5⟩ := f
  have hne : C ≠ a := by
    rcases ha with z | z
    · rw [z]; exact g1
    · exact fun e => g4 y a z e.symm
  refine ⟨m, hn.sameBut sb hne, fun h3 sb3 => ⟨_, H1, I2.turned (t' := s2.toks) (fun b o hb e => (sb3.2 b hb).trans e) g0 g1 g3 g4 g5, q⟩⟩
theorem w_true {gs : List Comprehension} {py : Pos} {y : Str} {l : Nat} {env : Env} (hk : env.scope.kind = .function) (hy : env.scope.names.lookup y = some .local) (hl : (py.line == pos.line) = true)
    (ha : (scope.names.any fun (n, k) => n == y && (k == .local || k == .cell)) = false) : swapsWith (.DictComp kx vx gs scope pos) (some (.Name y py)) l env = pure true := by
  have ky : env.kindOf y = some .local := hy
  have hb : env.blockKind = .function := by unfold Env.blockKind; rw [hk]; rfl
  unfold swapsWith
  simp only [hb, ky, ha, Expr.pos, hl]
  rfl
theorem x_setDc {i : Nat} {y : Str} {py : Pos} {mk : MkD} (hm : NewD mk) (hc : X.calm = true) (hN : X.N.Nodup) (hy : X.N[i]? = some y) (hyl : X.env.scope.names.lookup y = some .local)
    (hsw : swapsWith (.DictComp kx vx [⟨tg, iter, ifs, 0⟩] scope pos) (some (.Name y py)) spos.line X.env = pure true) (ok : BlkOk X.N X.env.scope scope own) (hv : own.map (·.2) = vs) (hi : XI X tg iter di)
    (hg : BlkX X scope fun Y => XGc Y vs tg g) (ht : BlkX X scope fun Y => XTs Y ifs t) (hk : BlkX X scope fun Y => XE Y kx dk) (he : BlkX X scope fun Y => XE Y vx dv) (hs : ∀ x, foldedSetIterable iter X.env x = pure x := by intro _; rfl) :
    XS X (.Assign [.Name y py] (.DictComp kx vx [⟨tg, iter, ifs, 0⟩] scope pos) spos) (dAsg (dDc mk di g t dk dv vs) (dgName i)) := by
  subst hv
  refine ⟨fun pins s σ H D I h => ?_⟩
  have hl : i < σ.length := by rw [I.len]; exact (List.getElem?_eq_some_iff.mp hy).1
  refine (p_setDc (wi := liftI X.K di) (gg := liftGc X.K (own.map (·.2)) g) (tt := liftT X.K t) (tk := liftE X.K dk) (tv := liftE X.K dv) hc hN hy hyl hsw hi ok hg ht hk he hs).run pins s σ H D I ?_
  obtain ⟨Hi, ρ, M, E, ah, sl, hd, k⟩ := h
  exact w_dc hm σ H _ ⟨Hi, ρ, M, _, ah, sl, hd, fun y M' h Hi' v H' e a' r => k.nx _ _ h Hi' _ H' e a' ((sl.mono e.hi).set r hl)⟩
end
end DL
set_option maxRecDepth 100000
set_option maxHeartbeats 1000000
namespace DL
open PySem PySem.Spec PyProof.Rows L2

/-! ### products of any size -/
abbrev gMulX : G2 := gI CMulX fun i j => i * j

/-! ### a, b, c = x, y, z -/
def dPar3 (i j l : Nat) (da db dc : DE) : DS := fun E ρ M => da ρ M fun x M1 => db ρ M1 fun y M2 => dc ρ M2 fun z M3 => E.nx (((ρ.set i (some x)).set j (some y)).set l (some z)) M3
section
variable {X : Cx} {pos : Pos}
theorem x_par3 {i j l : Nat} {x y z : Str} {a b c : Expr} {da db dc : DE} {px py pz pt : Pos} {kt k2 pt2} (hc : X.calm = true) (hN : X.N.Nodup) (hi : X.N[i]? = some x) (hj : X.N[j]? = some y) (hl : X.N[l]? = some z) (hij : i ≠ j) (hil : i ≠ l) (hjl : j ≠ l)
    (hx : X.env.scope.names.lookup x = some .local) (hy : X.env.scope.names.lookup y = some .local) (hz : X.env.scope.names.lookup z = some .local) (ha : XE X a da) (hb : XE X b db) (hcc : XE X c dc)
    (hw : swappedStores [.Tuple [.Name x px, .Name y py, .Name z pz] kt pt] (.Tuple [a, b, c] k2 pt2) X.env = pure (some [x, y, z]))
    (hs : swapsWithSole [.Tuple [.Name x px, .Name y py, .Name z pz] kt pt] (.Tuple [a, b, c] k2 pt2) pos.line X.env = pure false := by rfl)
    (s1 : starEach [a, b, c] X.env = (false, eval a X.env) :: starEach [b, c] X.env := by rfl) (s2 : starEach [b, c] X.env = (false, eval b X.env) :: starEach [c] X.env := by rfl) (s3 : starEach [c] X.env = (false, eval c X.env) :: starEach [] X.env := by rfl) :
    XS X (.Assign [.Tuple [.Name x px, .Name y py, .Name z pz] kt pt] (.Tuple [a, b, c] k2 pt2) pos) (dPar3 i j l da db dc) := by
  refine ⟨fun pins s σ H D I ⟨Hi, ρ, M, E, ah, sl, hd, k⟩ => ?_⟩
  have l1 : i < σ.length := by rw [I.len]; exact (List.getElem?_eq_some_iff.mp hi).1
  have l2 : j < σ.length := by rw [I.len]; exact (List.getElem?_eq_some_iff.mp hj).1
  have l3 : l < σ.length := by rw [I.len]; exact (List.getElem?_eq_some_iff.mp hl).1
  refine (ps_par3 hc hN hi hj hl hij hil hjl hx hy hz (pa_cons ha (pa_cons hb (pa_cons hcc pa_nil s3) s2) s1) hw hs).run pins s σ H D I ?_
  refine ⟨Hi, ρ, M, _, ah, sl, hd, fun x M1 h1 Hi1 v H1 e1 a1 r1 => ?_⟩
  refine ⟨Hi1, ρ, M1, _, a1, sl.mono e1.hi, h1, fun y M2 h2 Hi2 w H2 e2 a2 r2 => ?_⟩
  refine ⟨Hi2, ρ, M2, _, a2, sl.mono (e1.trans e2).hi, h2, fun z M3 h3 Hi3 u H3 e3 a3 r3 => ?_⟩
  exact ⟨v, w, u, rfl, k.nx _ _ h3 Hi3 _ H3 (e1.trans (e2.trans e3)) a3 ((((sl.mono (e1.trans (e2.trans e3)).hi).set (r1.mono (e2.trans e3).hi) l1).set (r2.mono e3.hi) (by rw [List.length_set]; exact l2)).set r3 (by rw [List.length_set, List.length_set]; exact l3))⟩

/-! ### o.f as a target -/
def dgFld (C : Addr) (f : Str) (da : DE) : DG := fun v ρ M Q => da ρ M fun x M1 => onIns M1 C x fun a fs => fs.length < 1000 ∧ Q ρ (mup M1 a (.ins C (putFD f v fs)))
theorem xg_fld {o : Expr} {f : Str} {C : Addr} {da : DE} (c : Cls X.K C) (n : NoAttr X.K C f) (ho : XE X o da) : XG X (.Attribute o f pos) (dgFld C f da) := by
  refine ⟨fun pins s σ H v u Q I r ⟨Hi, ρ, M, d, R, ah, sl, hr, hd, k⟩ => ?_⟩
  rw [PySem.assign_Attribute]
  refine wpAny_bind (wpAny_holding (thn (ho.run pins s σ H (fun x' H1 => ∃ a dx vs, x' = .ref a ∧ H1 a = some (.ins C dx vs) ∧ vs.length < 1000 ∧ Q σ (upd H1 a (.ins C dx (putF f v vs)))) I ⟨Hi, ρ, M, _, ah, sl, hd, fun x M1 h1 Hi1 x' H1 e1 a1 r1 => ?_⟩) fun ov s1 ⟨x', H1, I1, rx, a, dx, vs, ex, ea, hl, q⟩ => ?_))
  · obtain ⟨a, fs, dx, vs, rfl, rfl, hM, hH, hF, hl, h1⟩ := on_ins a1 r1 h1
    refine ⟨a, dx, vs, rfl, hH, by rw [← flds_length hF]; exact hl, ?_⟩
    have A3 := a1.setM hM (o := .ins C dx (putF f v vs)) (.ins (flds_put f (hr.mono e1.hi) hF))
    have E3 := a1.extS hM (.ins C dx (putF f v vs)) (.ins C (putFD f d fs))
    exact k _ _ h1 Hi1 σ _ (e1.trans E3) A3 (sl.mono e1.hi)
  · subst ex
    obtain rfl : ov = Value.ref a := rx
    refine wpAny_bind (wpAny_standAt (wpAny_bind (wpAny_holding (setattr_ok I1 ea c n hl r fun s2 I2 => ?_))))
    exact wpAny_release ⟨σ, _, I2, q⟩

/-! ### {k: v}, {} -/
def dNewD (mk : MkD) : DE := fun _ M Q => mk [] M Q
theorem xdnew {mk : MkD} (hm : NewD mk) : XE X (.Dict [] [] pos) (dNewD mk) := PEw pe_dnewK fun σ H Q ⟨Hi, ρ, M, R, ah, sl, hd, k⟩ p hp => hm X.K Hi M H [] [] p R Q ah hp .nil hd k
def dDisp1 (mk : MkD) (dk dv : DE) : DE := fun ρ M Q => dk ρ M fun x M1 => dv ρ M1 fun y M2 => onK x fun k => mk [(k, y)] M2 Q
theorem xdisp1 {mk : MkD} {a b : Expr} {dk dv : DE} (hm : NewD mk) (ha : XE X a dk) (hb : XE X b dv) : XE X (.Dict [some a] [b] pos) (dDisp1 mk dk dv) := PEw (pe_disp (pps_cons ha hb pps_nil) rfl rfl (by simp) (Nat.le_of_ble_eq_true rfl)) fun σ H Q ⟨Hi, ρ, M, R, ah, sl, hd, k⟩ p hp => by
  have A0 := hide_in (.dK []) ah hp
  refine ⟨Hi, ρ, M, _, A0, sl, hd, fun x M1 h1 Hi1 v H1 e1 a1 r1 => ?_⟩
  refine ⟨Hi1, ρ, M1, _, a1, sl.mono e1.hi, h1, fun y M2 h2 Hi2 w H2 e2 a2 r2 => ?_⟩
  obtain ⟨kk, rfl, h2⟩ := on_K (r1.mono e2.hi) h2
  obtain ⟨Hy, f1, f2, f3, rfl⟩ := hide_out ah hp (e1.trans e2) a2
  refine ⟨upd_same, [(kk, w)], rfl, by show 1 ≤ 15; decide, ?_⟩
  rw [upd_upd]
  exact hm X.K Hi2 M2 Hy [(kk, y)] _ p R Q f2 f3 (.cons r2 .nil) h2 (k.ext f1)

/-! ### list(range(n)), tuple(range(n)) -/
theorem rg_reps {K : PySem.W.Frag} {Hi : Hp} (n : Int) : Reps K Hi (rngD n.toNat) (rgV 0 n) := by
  have h : ∀ l : List Nat, Reps K Hi (l.map fun i => D.int (i : Nat)) (l.map fun i => V.int (0 + (i : Nat))) := fun l => by
    induction l with
    | nil => exact .nil
    | cons i r ih => exact .cons (show Rep K Hi (.int (i : Nat)) (.int (0 + (i : Nat))) by rw [Int.zero_add]; exact .int _) ih
  have := h (List.range n.toNat)
  unfold rngD rgV
  rw [Int.sub_zero]
  exact this
def dLstRg (mk : MkL) (da : DE) : DE := fun ρ M Q => da ρ M fun x M1 => match x with | .int n => (0 ≤ n ∧ n ≤ 16777216) ∧ mk (rngD n.toNat) M1 Q | _ => False
def dTupRg (da : DE) : DE := fun ρ M Q => da ρ M fun x M1 => match x with | .int n => (0 ≤ n ∧ n ≤ 16777216) ∧ Q (.tup (rngD n.toNat)) M1 | _ => False
theorem xlistRg {mk : MkL} {e : Expr} {da : DE} {p p2 pos2 : Pos} (hm : NewL mk) (hc : X.calm = true) (hg : Gl X "list") (hn : X.mg "list" = none) (hg2 : Gl X "range") (hn2 : X.mg "range" = none) (ha : XE X e da) (na : starEach [e] X.env = (false, eval e X.env) :: starEach [] X.env := by rfl)
    (na2 : starEach [.Call (.Name "range" p2) [e] [] pos2] X.env = (false, eval (.Call (.Name "range" p2) [e] [] pos2) X.env) :: starEach [] X.env := by rfl) : XE X (.Call (.Name "list" p) [.Call (.Name "range" p2) [e] [] pos2] [] pos) (dLstRg mk da) :=
  PEw (pe_listRg hc hg hn (prg_1 hg2 hn2 ha na) na2) fun σ H Q ⟨Hi, ρ, M, R, ah, sl, hd, k⟩ => by
    refine ⟨Hi, ρ, M, _, ah, sl, hd, fun x M1 h1 Hi1 v H1 e1 a1 r1 => ?_⟩
    cases r1 with
    | int n =>
      obtain ⟨⟨h2, h3⟩, h1⟩ := h1
      exact ⟨n, rfl, .of_le (by omega) h3 (by omega) h2, fun q hq => hm X.K Hi1 M1 H1 _ _ q R Q a1 hq (rg_reps n) h1 (k.ext e1)⟩
    | _ => exact False.elim h1
theorem xtupRg {e : Expr} {da : DE} {p p2 pos2 : Pos} (hc : X.calm = true) (hg : Gl X "tuple") (hn : X.mg "tuple" = none) (hg2 : Gl X "range") (hn2 : X.mg "range" = none) (ha : XE X e da) (na : starEach [e] X.env = (false, eval e X.env) :: starEach [] X.env := by rfl)
    (na2 : starEach [.Call (.Name "range" p2) [e] [] pos2] X.env = (false, eval (.Call (.Name "range" p2) [e] [] pos2) X.env) :: starEach [] X.env := by rfl) : XE X (.Call (.Name "tuple" p) [.Call (.Name "range" p2) [e] [] pos2] [] pos) (dTupRg da) :=
  PEw (pe_tupRg hc hg hn (prg_1 hg2 hn2 ha na) na2) fun σ H Q ⟨Hi, ρ, M, R, ah, sl, hd, k⟩ => by
    refine ⟨Hi, ρ, M, _, ah, sl, hd, fun x M1 h1 Hi1 v H1 e1 a1 r1 => ?_⟩
    cases r1 with
    | int n =>
      obtain ⟨⟨h2, h3⟩, h1⟩ := h1
      exact ⟨n, rfl, .of_le (by omega) h3 (by omega) h2, fun q hq => new_tup a1 hq (rg_reps n) h1 (k.ext e1)⟩
    | _ => exact False.elim h1

/-! ### len(set(t)), t a tuple or list of no text -/
def dLenSet (da : DE) : DE := fun ρ M Q => da ρ M fun x M1 => match asQ M1 x with | some [] => Q (.int 0) M1 | _ => False
theorem xlenSet {a : Expr} {da : DE} {p p2 q : Pos} (hc : X.calm = true) (hg : Gl X "len") (hn : X.mg "len" = none) (hg2 : Gl X "set") (hn2 : X.mg "set" = none) (ha : XE X a da) (na : starEach [a] X.env = (false, eval a X.env) :: starEach [] X.env := by rfl) :
    XE X (.Call (.Name "len" p) [.Call (.Name "set" p2) [a] [] q] [] pos) (dLenSet da) := PEw (pe_lenSet hc hg hn hg2 hn2 ha na) fun σ H Q ⟨Hi, ρ, M, R, ah, sl, hd, k⟩ => by
  refine ⟨Hi, ρ, M, _, ah, sl, hd, fun x M1 h1 Hi1 v H1 e1 a1 r1 => ?_⟩
  cases e : asQ M1 x with
  | none => rw [e] at h1; exact False.elim h1
  | some ys =>
    rw [e] at h1
    cases ys with
    | cons y r => exact False.elim h1
    | nil =>
      obtain ⟨a, vs, rfl, h2, r2⟩ := asQ_ok a1 r1 e
      cases r2
      exact ⟨a, [], rfl, h2, by simp, k _ _ h1 Hi1 _ H1 e1 a1 (.int _)⟩

/-! ### what is walked: a list or a tuple that stays -/
def iSeqZ (K : PySem.W.Frag) (tl : TE) : TI := fun σ H R => tl σ H fun x H1 => ∃ a xs, x = .ref a ∧ ((SqL K H1 a xs ∧ (xs.length ≤ sizeLine → R (Itl K a) H1)) ∨ (SqT K H1 a xs ∧ (xs.length ≤ sizeLine → R (Itt K a) H1)))
theorem pi_seqZ {X : Cx} {tg l : Expr} {tl : TE} (hl : PE X l tl) : PI X tg l (iSeqZ X.K tl) := by
  refine ⟨fun pins s σ H R I h => ?_⟩
  refine thn (hl.run pins s σ H _ I h) fun v s1 ⟨x, H1, I1, r1, q1⟩ => ?_
  obtain ⟨a, xs, e, ⟨hq, q⟩ | ⟨hq, q⟩⟩ := q1
  all_goals
    subst e
    cases r1
  · obtain ⟨its, rv, p, hz⟩ := I1.list hq
    refine wpAny_pyIter_list p.isList ?_
    refine ⟨s1.heap.objs.size, [s1.heap.objs.size], _, _, H1, rfl, I1.kept (t' := s1.toks) fun b o e => Heap.get?_push_of_some _ e, turn_list a _, ⟨_, Heap.get?_push_size _ rfl, rfl, rfl⟩, fun b hb => ?_, q hz⟩
    have e : b = s1.heap.objs.size := by simpa using hb
    subst e
    exact I1.fpOk (Nat.le_refl _) (I1.hok.fresh (Nat.le_refl _))
  · obtain ⟨its, rv, p, hz⟩ := I1.tuple hq
    refine wpAny_pyIter_tuple (show s1.heap.IsTuple a its.toArray from p) ?_
    refine ⟨s1.heap.objs.size, [s1.heap.objs.size], _, _, H1, rfl, I1.kept (t' := s1.toks) fun b o e => Heap.get?_push_of_some _ e, turn_tuple a _, ⟨_, Heap.get?_push_size _ rfl, rfl, rfl⟩, fun b hb => ?_, q hz⟩
    have e : b = s1.heap.objs.size := by simpa using hb
    subst e
    exact I1.fpOk (Nat.le_refl _) (I1.hok.fresh (Nat.le_refl _))
def dInQ (da : DE) : DI := fun ρ M Q => da ρ M fun x M1 => match x with | .lst ds => Q ds M1 | .scr is => Q (is.map D.int) M1 | .tup ds => Q ds M1 | _ => False
theorem xi_seq {tg e : Expr} {da : DE} (h : XE X e da) : XI X tg e (dInQ da) := PIw (pi_seqZ h) fun σ H R ⟨Hi, ρ, M, Rd, ah, sl, hd, k⟩ => by
  refine ⟨Hi, ρ, M, _, ah, sl, hd, fun x M1 h1 Hi1 v H1 e1 a1 r1 => ?_⟩
  cases r1 with
  | lst h t => exact ⟨_, _, rfl, .inl ⟨SqL.of (a1.sub _ _ h), fun hz => k _ _ h1 Hi1 H1 _ e1 a1 (walk_list (SqL.of h) t) (by rw [t.length]; exact hz)⟩⟩
  | scr h => exact ⟨_, _, rfl, .inl ⟨a1.sub.sqL h, fun hz => k _ _ h1 Hi1 H1 _ e1 a1 (walk_list h (Reps.ints _)) (by simpa using hz)⟩⟩
  | tup h t => exact ⟨_, _, rfl, .inr ⟨a1.sub.sqT h, fun hz => k _ _ h1 Hi1 H1 _ e1 a1 (walk_tup h t) (by rw [t.length]; exact hz)⟩⟩
  | _ => exact False.elim h1
end
end DL
set_option maxRecDepth 100000
set_option maxHeartbeats 1000000
namespace HT
open PySem PySem.Spec PyProof.Rows L2
section
variable {prog : Program} {w : World} {A : Around} {E : Value → Shared → Prop} {s : Shared}
theorem adjust_rev (n : Nat) : Builtin.Slice.sliceAdjust none none (-1) (n : Int) = ((n : Int) - 1, -1) := rfl
theorem places_rev (n : Nat) : Builtin.Slice.slicePlaces ((n : Int) - 1) (-1) (-1) = n := by
  unfold Builtin.Slice.slicePlaces
  have h1 : ¬ ((-1 : Int) > 0) := by omega
  have h2 : -(-1 : Int) = 1 := rfl
  simp only [h1, if_false, h2, Int.ediv_one]
  split <;> omega
theorem sliceApplied_rev {sl : Addr} {vl vu vs : Value} {n : Nat} {Q : Int × Int × Nat → Shared → Prop} (hs : s.heap.IsSliceOf sl vl vu vs) (pl : IsPart vl none) (pu : IsPart vu none) (ps : IsPart vs (some (-1)))
    (h : Q ((n : Int) - 1, -1, n) s) : wpAny (model prog w) A (Builtin.Slice.sliceApplied (.ref sl) (pure (n : Int))) Q E s := by
  obtain ⟨os, hos, hcs, hds⟩ := id hs
  unfold Builtin.Slice.sliceApplied Builtin.Slice.sliceFields
  refine wpAny_bind (wpAny_bind (wpAny_field hos hds (x := vl) rfl (wpAny_bind (wpAny_field hos hds (x := vu) rfl (wpAny_bind (wpAny_field hos hds (x := vs) rfl (wpAny_pure ?_)))))))
  refine wpAny_bind (slicePart_ ps ?_)
  show wpAny _ _ (if ((-1 : Int) == 0) = true then _ else _) _ _ s
  rw [if_neg (by decide)]
  refine wpAny_bind (slicePart_ pl (wpAny_bind (slicePart_ pu (wpAny_bind (wpAny_pure ?_)))))
  show wpAny _ _ (match Builtin.Slice.sliceAdjust none none (-1) (n : Int) with | (lo, hi) => pure (lo, (-1 : Int), Builtin.Slice.slicePlaces lo hi (-1))) _ _ s
  rw [adjust_rev n]
  show wpAny _ _ (pure ((n : Int) - 1, (-1 : Int), Builtin.Slice.slicePlaces ((n : Int) - 1) (-1) (-1))) _ _ s
  rw [places_rev]
  exact wpAny_pure h
theorem fm_congr {α β : Type} {f g : α → Option β} : ∀ {l : List α}, (∀ x ∈ l, f x = g x) → l.filterMap f = l.filterMap g
  | [], _ => rfl
  | a :: r, h => by
    rw [List.filterMap_cons, List.filterMap_cons, h a List.mem_cons_self, fm_congr fun x hx => h x (List.mem_cons_of_mem _ hx)]
theorem pick_rev (xs : Array Value) : ((List.range xs.size).filterMap fun (m : Nat) => xs[((xs.size : Int) - 1 + (m : Int) * (-1)).toNat]?) = xs.toList.reverse := by
  have h : ∀ m ∈ List.range xs.size, xs[((xs.size : Int) - 1 + (m : Int) * (-1)).toNat]? = xs.toList.reverse[m]? := by
    intro m hm
    have hm : m < xs.size := List.mem_range.mp hm
    rw [List.getElem?_reverse (by rw [Array.length_toList]; exact hm), Array.length_toList, Array.getElem?_toList]
    congr 1
    omega
  have e : ∀ l : List Value, (List.range l.length).filterMap (fun m => l[m]?) = l := by
    intro l
    induction l with
    | nil => rfl
    | cons a r ih =>
      rw [List.length_cons, List.range_succ_eq_map, List.filterMap_cons]
      simp only [List.getElem?_cons_zero, List.filterMap_map]
      congr 1
  have := e xs.toList.reverse
  rw [List.length_reverse, Array.length_toList] at this
  exact (fm_congr h).trans this
theorem getItem_tuple_rev {t sl : Addr} {items : Array Value} {vl vu vs : Value} {Q : Value → Shared → Prop} (ht : IsTup s.heap t items) (hs : s.heap.IsSliceOf sl vl vu vs) (pl : IsPart vl none) (pu : IsPart vu none) (ps : IsPart vs (some (-1)))
    (h : Q (.ref s.heap.objs.size) { s with heap := s.heap.push { cls := .type "tuple", data := .seq items.toList.reverse.toArray } })
    (hsz : items.size ≤ sizeLine) : wpAny (model prog w) A (getItem (.ref t) (.ref sl)) Q E s := by
  have htake : sizeOk (.seq items.toList.reverse.toArray) := by
    show items.toList.reverse.toArray.size ≤ sizeLine
    rw [List.size_toArray, List.length_reverse, Array.length_toList]
    exact hsz
  obtain ⟨os, hos, hcs, hds⟩ := id hs
  have hTs : s.TypeIs (.ref sl) "slice" := ⟨os, hos, hcs⟩
  unfold getItem
  try with_reducible refine wpAny_holding ?_
  first | refine wpAny_bind (wpAny_pure ?_) | skip
  refine wpAny_bind (wpAny_sequenceKey ht.typeIs (by decide) ?_)
  refine wpAny_bind (wpAny_callSpecial?_slot (name := Str.ofString "__getitem__") ht.typeIs PyProof.Rows.slot_tuple_getitem
    (wpAny_call_entry PyProof.Rows.slot_tuple_getitem ht.typeIs entry_tuple_getitem ?_ (args_tuple_getitem _ _)))
  show wpAny _ _ (Builtin.Tuple.tupleItemsOf (.ref t) >>= _) _ _ s
  refine wpAny_bind (tupleItemsOf_ ht ?_)
  refine wpAny_bind (wpAny_typeOf hTs ?_)
  rw [if_pos (by decide)]
  refine wpAny_bind (sliceApplied_rev hs pl pu ps ?_)
  have hno : ¬ ((((items.size : Int) - 1) == 0 && (-1 : Int) == 1 && items.size == items.size) = true) := by
    intro q
    rw [Bool.and_eq_true, Bool.and_eq_true] at q
    exact absurd q.1.2 (by decide)
  show wpAny _ _ (if ((((items.size : Int) - 1) == 0 && (-1 : Int) == 1 && items.size == items.size) = true) then _ else _) _ _ s
  rw [if_neg hno, pick_rev]
  first
    | exact wpAny_bind (m := Builtin.Tuple.tupleExact _) (wpAny_newObj_type (wpAny_pure ⟨_, rfl, wpAny_pure h⟩) htake)
    | exact wpAny_bind (m := Builtin.Tuple.tupleExact _) (wpAny_newObj_type (wpAny_bind (wpAny_pure (wpAny_pure ⟨_, rfl, wpAny_pure h⟩))) htake)
    | exact wpAny_bind (wpAny_bind (m := Builtin.Tuple.tupleExact _) (wpAny_newObj_type (wpAny_pure (wpAny_pure ⟨_, rfl, wpAny_pure h⟩)) htake))
    | exact wpAny_bind (wpAny_bind (m := Builtin.Tuple.tupleExact _) (wpAny_newObj_type (wpAny_pure ⟨_, rfl, wpAny_pure h⟩) htake))
end
end HT
namespace DL
open PySem PySem.Spec PyProof.Rows L2
section
variable {X : Cx} {e : Expr} {da : DE} {pos : Pos}
def tRevT (K : PySem.W.Frag) (te : TE) : TE := fun σ H Q => te σ H fun x H1 => ∃ a xs, x = .ref a ∧ SqT K H1 a xs ∧ ∀ p, H1 p = none → Q (.ref p) (upd H1 p (.tup xs.reverse))
theorem pe_revT {te : TE} {k : Nat} {p1 p2 p3 : Pos} (he : PE X e te) : PE X (.Subscript e (.Slice none none (some (.UnaryOp .USub (.Constant (.int 1) k p1) p2)) p3) pos) (tRevT X.K te) := by
  refine ⟨fun pins s σ H Q I h => ?_⟩
  refine Subscript_ (thn (he.run pins s σ H _ I h) fun v s1 ⟨x, H1, I1, r1, q1⟩ => ?_)
  obtain ⟨a, xs, ex, hx, q⟩ := q1
  subst ex
  cases r1
  have hst : PO X (some (.UnaryOp .USub (.Constant (.int 1) k p1) p2)) (tPart (tUn (rU fun i => .int (-i)) (tC (.int 1)))) := po_some (pe_un un_neg pe_int)
  refine wpAny_Slice (thn (po_none.run pins s1 σ H1 (fun o H2 => o = none ∧ H2 = H1) I1 ⟨rfl, rfl⟩) fun vl s2 ⟨l, H2, I2, pl, el, e2⟩ => ?_)
  subst el e2
  refine thn (po_none.run pins s2 σ H2 (fun o H3 => o = none ∧ H3 = H2) I2 ⟨rfl, rfl⟩) fun vu s3 ⟨u, H3, I3, pu, eu, e3⟩ => ?_
  subst eu e3
  refine thn (hst.run pins s3 σ H3 (fun o H4 => o = some (-1) ∧ H4 = H3) I3 ⟨1, rfl, -1, rfl, rfl, rfl⟩) fun vs s4 ⟨o, H4, I4, ps, eo, e4⟩ => ?_
  subst eo e4
  have I5 : Inv X pins σ H4 { s4 with heap := s4.heap.push { cls := .type "slice", data := .fields #[vl, vu, vs] } } := I4.kept (t' := s4.toks) fun b ob q => Heap.get?_push_of_some _ q
  obtain ⟨its, r, ht, hz⟩ := I5.tuple hx
  have hlen := r.length
  show wpAny (model X.prog X.w) X.A (subscriptTail e (.Slice none none (some (.UnaryOp .USub (.Constant (.int 1) k p1) p2)) p3) (.ref a) (.ref s4.heap.objs.size)) (EP X pins σ Q) X.xe { s4 with heap := s4.heap.push { cls := .type "slice", data := .fields #[vl, vu, vs] } }
  refine tail_any (ops := [.ref a, .ref s4.heap.objs.size]) ht.typeIs (PyProof.Rows.slot_tuple_getitem.lookup) ?_ (by with_unfolding_all rfl)
  refine HT.getItem_tuple_rev ht (Heap.IsSliceOf.new _ vl vu vs) pl pu ps ?_ (by rw [List.size_toArray]; omega)
  refine ⟨.ref _, _, I5.laid (t' := s4.toks) (o := .tup xs.reverse) (fun b ob q => Heap.get?_push_of_some _ q) (Nat.le_refl _) ?_, rfl, q _ (I5.hok.fresh (Nat.le_refl _))⟩
  exact ⟨by rw [List.length_reverse]; exact hz, _, r.reverse, IsTup.new _ _⟩
def dRevT (da : DE) : DE := fun ρ M Q => da ρ M fun x M1 => match asT x with | some xs => Q (.tup xs.reverse) M1 | none => False
theorem xrevT {k : Nat} {p1 p2 p3 : Pos} (he : XE X e da) : XE X (.Subscript e (.Slice none none (some (.UnaryOp .USub (.Constant (.int 1) k p1) p2)) p3) pos) (dRevT da) := PEw (pe_revT he) fun σ H Q ⟨Hi, ρ, M, R, ah, sl, hd, k⟩ => by
  refine ⟨Hi, ρ, M, _, ah, sl, hd, fun x M1 h1 Hi1 v H1 e1 a1 r1 => ?_⟩
  cases e : asT x with
  | none => rw [e] at h1; exact False.elim h1
  | some xs =>
    rw [e] at h1
    obtain ⟨a, vs, rfl, h2, r2⟩ := asT_ok a1 r1 e
    exact ⟨a, vs, rfl, h2, fun p hp => new_tup a1 hp r2.reverse h1 (k.ext e1)⟩
end
end DL
set_option maxRecDepth 100000
set_option maxHeartbeats 1000000
namespace DL
open PySem PySem.Spec PyProof.Rows L2
section
variable {prog : Program} {w : World} {A : Around} {E : Value → Shared → Prop} {s : Shared}
/-- one entry is laid into a dict -/
theorem put_ok {a : Addr} {acc : List (Key × Value)} {k : Key} {key v : Value} {Q : Unit → Shared → Prop} (hk : (mixKind prog w).is k key = true) (hm : s.heap.DictOf (mixKind prog w) a acc) (hz : acc.length ≤ sizeLine)
    (hQ : ∀ h', h'.DictOf (mixKind prog w) a (stored acc k v) → Heap.SameBut a s.heap h' → Q () { s with heap := h' }) : wpAny (model prog w) A (dictPut a ((mixKind prog w).hash k) key v) Q E s := by
  obtain ⟨ob, ents, epo, g1, g2, g3, g4, g5, g6⟩ := hm
  have esz : ents.size ≤ sizeLine := by
    have q := g5.length
    rw [Array.length_toList] at q
    omega
  unfold dictPut
  refine wpAny_bind (wpAny_dictFind_of hk g1 g3 g4 ?_)
  have same : (ents.findIdx? fun e => (mixKind prog w).is k e.key) = acc.findIdx? fun kv => decide (kv.1 = k) := by
    rw [← g5.findIdx k]
    cases ents
    simp
  cases hi : ents.findIdx? fun e => (mixKind prog w).is k e.key with
  | some i =>
    refine wpAny_updateDict g1 g3 (hQ _ ⟨_, _, epo, Heap.get?_update_self _ g1 (Obj.isFreed_of_dict (Obj.data_mapDict g3 _)), g2.mapDict _, Obj.data_mapDict g3 _, g4.modify _ _, ?_, ?_⟩ (Heap.SameBut.update ..))
    · rw [stored, if_pos (any_of_findIdx_some (same ▸ hi))]
      have hl : (ents.toList.findIdx? fun e => (mixKind prog w).is k e.key) = some i := by
        rw [← hi]
        cases ents
        simp
      have := g5.modify g6 hl v
      rw [Array.toList_modify]
      exact this
    · rw [stored, if_pos (any_of_findIdx_some (same ▸ hi)), keys_map_store]
      exact g6
  | none =>
    have fresh : k ∉ acc.map (·.1) := not_mem_of_findIdx_none (same ▸ hi)
    have nany : ¬ (acc.any fun kv => decide (kv.1 = k)) = true := by
      rw [List.any_eq_true]
      rintro ⟨kv, h1, h2⟩
      exact fresh (List.mem_map.mpr ⟨kv, h1, of_decide_eq_true h2⟩)
    refine wpAny_updateDictKeys (hz := esz) g1 g3 (hQ _ ⟨_, _, epo + 1, Heap.get?_update_self _ g1 (Obj.isFreed_of_dict (Obj.data_mapDictKeys g3 _)), g2.mapDictKeys _, Obj.data_mapDictKeys g3 _, g4.push hk _, ?_, ?_⟩ (Heap.SameBut.update ..))
    · rw [stored, if_neg nany]
      have := g5.append hk ((mixKind prog w).hash k) v
      rw [Array.toList_push]
      exact this
    · rw [stored, if_neg nany, List.map_append, List.nodup_append]
      refine ⟨g6, by simp, fun x hx y hy e => ?_⟩
      have : y = k := by simpa using hy
      rw [e, this] at hx
      exact fresh hx
theorem key_notref {k : Key} {key : Value} (h : (mixKind prog w).is k key = true) : ∀ b, key ≠ .ref b := by
  rcases keyIs_shape h with ⟨i, t, _, rfl⟩ | ⟨x, t, _, rfl⟩ <;> intro b e <;> cases e
theorem merge_ok {a o : Addr} {acc more : List (Key × Value)} {Q : Unit → Shared → Prop} (hao : a ≠ o) (hoS : (o == sysModules) = false) (ha : s.heap.DictOf (mixKind prog w) a acc) (ho : s.heap.DictOf (mixKind prog w) o more) (hz : acc.length + more.length ≤ sizeLine)
    (hQ : ∀ h', h'.DictOf (mixKind prog w) a (merged acc more) → Heap.SameBut a s.heap h' → Q () { s with heap := h' }) : wpAny (model prog w) A (mergeMapping a (.ref o) false) Q E s := by
  obtain ⟨oa, ea, na, a1, a2, a3, a4, a5, a6⟩ := id ha
  obtain ⟨oo, eo, no, o1, o2, o3, o4, o5, o6⟩ := id ho
  have hlen : more.length = eo.size := by rw [← o5.length, Array.length_toList]
  have loop : wpAny (model prog w) A (do
      let es ← dictEntries o
      let size := es.size
      let epoch ← dictEpoch o
      forIn (List.range size) PUnit.unit fun i _ => (do
        let es' ← dictEntries o
        match es'[i]? with
        | some e => do
          holding [e.key, e.val] (dictPut a e.hash e.key e.val)
          let ep ← dictEpoch o
          if (ep != epoch) = true then do
            (unsupported "dict.changed-during-merge" : Sem PUnit)
            pure (ForInStep.yield PUnit.unit)
          else pure (ForInStep.yield PUnit.unit)
        | _ => do
          (unsupported "dict.changed-during-merge" : Sem PUnit)
          pure (ForInStep.yield PUnit.unit) : Sem (ForInStep PUnit))
      pure ()) Q E s := by
    refine wpAny_bind (wpAny_dictEntries o1 o3 ?_)
    refine wpAny_bind (wpAny_dictEpoch o1 o3 ?_)
    refine wpAny_bind (wpAny_forIn_list _ (fun rest _ s' => ∃ h' i, s' = { s with heap := h' } ∧ rest = List.range' i (eo.size - i) ∧ i ≤ eo.size ∧ h'.DictOf (mixKind prog w) a (merged acc (more.take i)) ∧ h'.get? o = some oo ∧ Heap.SameBut a s.heap h') _ ?_ ?_ _ _
      ⟨s.heap, 0, rfl, by simp [List.range_eq_range'], Nat.zero_le _, by simpa [merged] using ha, o1, Heap.SameBut.refl _ _⟩)
    · rintro x rest b s' ⟨h1, i, rfl, hr, hi, hd1, ho1, hs1⟩
      have hlt : i < eo.size := by
        rcases Nat.lt_or_ge i eo.size with q | q
        · exact q
        · rw [Nat.sub_eq_zero_of_le q] at hr
          cases hr
      have hsub : eo.size - i = (eo.size - (i + 1)) + 1 := by omega
      rw [hsub, List.range'_succ] at hr
      injection hr with e1 e2
      subst e1
      refine wpAny_bind (wpAny_dictEntries ho1 o3 ?_)
      rw [Array.getElem?_eq_getElem hlt]
      obtain ⟨⟨k, v⟩, hkv⟩ : ∃ kv, more[x]? = some kv := ⟨more[x]'(by rw [hlen]; exact hlt), List.getElem?_eq_getElem _⟩
      obtain ⟨q1, q2⟩ := o5.get? (e := eo[x]) (by simp [hlt]) hkv
      obtain ⟨k2, q3, q4⟩ := o4 eo[x] (Array.getElem_mem hlt)
      obtain rfl : k2 = k := (mixKind prog w).inj _ _ _ q3 q1
      show wpAny _ _ (holding [eo[x].key, eo[x].val] (dictPut a eo[x].hash eo[x].key eo[x].val) >>= _) _ _ _
      rw [q4, q2]
      have hm : (merged acc (more.take x)).length ≤ sizeLine := by
        have z1 := merged_length_le acc (more.take x)
        have z2 : (more.take x).length ≤ more.length := by rw [List.length_take]; omega
        omega
      refine wpAny_bind (wpAny_holding (put_ok (s := { s with heap := h1 }) q1 hd1 hm fun h2 hd2 hs2 => ?_))
      have ho2 : h2.get? o = some oo := (hs2.2 o (Ne.symm hao)).trans ho1
      refine wpAny_bind (wpAny_dictEpoch ho2 o3 ?_)
      rw [if_neg (by simp)]
      exact wpAny_pure ⟨h2, x + 1, rfl, e2, hlt, by rw [merged_take_succ acc more x (k2, v) hkv]; exact hd2, ho2, hs1.trans hs2⟩
    · rintro b s' ⟨h1, i, rfl, hr, hi, hd1, ho1, hs1⟩
      have hin : i = eo.size := by
        rcases Nat.lt_or_ge i eo.size with q | q
        · have hsub : eo.size - i = (eo.size - (i + 1)) + 1 := by omega
          rw [hsub, List.range'_succ] at hr
          cases hr
        · omega
      have hall : more.take i = more := List.take_of_length_le (by omega)
      rw [hall] at hd1
      exact wpAny_pure (hQ h1 hd1 hs1)
  have jp : wpAny (model prog w) A (do
      let es0 ← dictEntries a
      if es0.isEmpty = true then do
        let es ← dictEntries o
        forIn es PUnit.unit fun e _ => (match e.key with
          | Value.ref _ => do
            let q ← specialOf e.key "__eq__"
            if (q != some (Value.builtin "object.__eq__")) = true then
              if (es.filter (·.hash == e.hash)).size > 1 then do
                (unsupported "dict.merge-into-an-empty-dict:keys-of-equal-hash" : Sem PUnit)
                pure (ForInStep.yield PUnit.unit)
              else pure (ForInStep.yield PUnit.unit)
            else pure (ForInStep.yield PUnit.unit)
          | _ => pure (ForInStep.yield PUnit.unit) : Sem (ForInStep PUnit))
        let es ← dictEntries o
        let size := es.size
        let epoch ← dictEpoch o
        forIn (List.range size) PUnit.unit fun i _ => (do
          let es' ← dictEntries o
          match es'[i]? with
          | some e => do
            holding [e.key, e.val] (dictPut a e.hash e.key e.val)
            let ep ← dictEpoch o
            if (ep != epoch) = true then do
              (unsupported "dict.changed-during-merge" : Sem PUnit)
              pure (ForInStep.yield PUnit.unit)
            else pure (ForInStep.yield PUnit.unit)
          | _ => do
            (unsupported "dict.changed-during-merge" : Sem PUnit)
            pure (ForInStep.yield PUnit.unit) : Sem (ForInStep PUnit))
        pure ()
      else do
        let es ← dictEntries o
        let size := es.size
        let epoch ← dictEpoch o
        forIn (List.range size) PUnit.unit fun i _ => (do
          let es' ← dictEntries o
          match es'[i]? with
          | some e => do
            holding [e.key, e.val] (dictPut a e.hash e.key e.val)
            let ep ← dictEpoch o
            if (ep != epoch) = true then do
              (unsupported "dict.changed-during-merge" : Sem PUnit)
              pure (ForInStep.yield PUnit.unit)
            else pure (ForInStep.yield PUnit.unit)
          | _ => do
            (unsupported "dict.changed-during-merge" : Sem PUnit)
            pure (ForInStep.yield PUnit.unit) : Sem (ForInStep PUnit))
        pure ()) Q E s := by
    refine wpAny_bind (wpAny_dictEntries a1 a3 ?_)
    split
    · refine wpAny_bind (wpAny_dictEntries o1 o3 ?_)
      rw [← Array.forIn_toList]
      refine wpAny_bind (wpAny_forIn_list _ (fun rest _ s' => s' = s ∧ ∀ e ∈ rest, e ∈ eo) _ ?_ ?_ _ _ ⟨rfl, fun e he => Array.mem_def.mpr he⟩)
      · rintro x rest b s' ⟨rfl, hr⟩
        obtain ⟨k, q3, q4⟩ := o4 x (hr x List.mem_cons_self)
        have nr := key_notref q3
        split
        · rename_i b e
          exact absurd e (nr b)
        · exact wpAny_pure ⟨rfl, fun e he => hr e (List.mem_cons_of_mem _ he)⟩
      · rintro b s' ⟨rfl, _⟩
        exact loop
    · exact loop
  unfold mergeMapping
  refine wpAny_bind (wpAny_bind (wpAny_typeOf ho.typeIs (wpAny_of_eq isSubtype_dict_dict ?_)))
  rw [if_pos rfl]
  refine wpAny_bind (wpAny_specialOf ho.typeIs F.slot_dict_iter.lookup (wpAny_bind (wpAny_pure ?_)))
  simp only [beq_self_eq_true]
  rw [if_neg (by rw [hoS]; exact Bool.false_ne_true)]
  exact jp
end
end DL
set_option maxRecDepth 100000
set_option maxHeartbeats 1000000
namespace DL
open PySem PySem.Spec PyProof.Rows L2
def mrgD (ks : List (Key × D)) (more : List (Key × D)) : List (Key × D) := more.foldl (fun acc p => putD acc p.1 p.2) ks
theorem mrg_rep {K : PySem.W.Frag} {Hi : Hp} : ∀ (ks' : List (Key × D)) {vs' : List (Key × V)} {ks : List (Key × D)} {vs : List (Key × V)}, RepK K Hi ks' vs' → RepK K Hi ks vs → RepK K Hi (mrgD ks ks') (mergeK vs vs')
  | [], _, _, _, .nil, r => r
  | (j, _) :: t', (_, v) :: ws, _, _, .cons h t, r => mrg_rep t' (vs' := ws) t (put_rep j h r)
section
variable {X : Cx} {pins : List (Addr × Obj)} {σ : L2.St} {H : Hp} {s : Shared} {E : Value → Shared → Prop}
/-- the merge of a tracked dict into another one -/
theorem inv_merge {p a : Addr} {vs ws : List (Key × V)} {Q : Unit → Shared → Prop} (I : Inv X pins σ H s) (hp : H p = some (.dK vs)) (ha : H a = some (.dK ws)) (hne : p ≠ a) (hz : vs.length + ws.length ≤ sizeLine)
    (k : ∀ s', Inv X pins σ (upd H p (.dK (mergeK vs ws))) s' → Q () s') : wpAny (model X.prog X.w) X.A (mergeMapping p (.ref a) false) Q E s := by
  obtain ⟨z1, d1, xs, r1, q1⟩ := dk_of I.hok hp
  obtain ⟨z2, d2, ys, r2, q2⟩ := dk_of I.hok ha
  have hl : xs.length + ys.length ≤ sizeLine := by rw [← r1.length, ← r2.length]; exact hz
  refine merge_ok hne d2 q1 q2 hl fun h' q3 sb => k _ ?_
  have he : ∃ q, h'.get? p = some q := let ⟨q, _, _, hq, _⟩ := q3; ⟨q, hq⟩
  have hm : (mergeK vs ws).length ≤ sizeLine := Nat.le_trans (length_mergeK ws vs) hz
  exact d_write I (by rw [hp]; exact True.intro) sb he (dk_new hm d1 (KV.merge r2 r1) q3)
/-- the same into an empty one: a copy -/
theorem inv_copy {p a : Addr} {ws : List (Key × V)} {Q : Unit → Shared → Prop} (I : Inv X pins σ H s) (hp : H p = some (.dK [])) (ha : H a = some (.dK ws)) (hne : p ≠ a)
    (k : ∀ s', Inv X pins σ (upd H p (.dK ws)) s' → Q () s') : wpAny (model X.prog X.w) X.A (mergeMapping p (.ref a) false) Q E s := by
  obtain ⟨z1, d1, xs, r1, q1⟩ := dk_of I.hok hp
  obtain ⟨z2, d2, ys, r2, q2⟩ := dk_of I.hok ha
  cases r1
  refine merge_ok hne d2 q1 q2 (by rw [← r2.length]; simpa using z2) fun h' q3 sb => k _ ?_
  have nd : (ys.map (·.1)).Nodup := let ⟨_, _, _, _, _, _, _, _, hn⟩ := q2; hn
  rw [merged_nil_of_nodup ys nd] at q3
  have he : ∃ q, h'.get? p = some q := let ⟨q, _, _, hq, _⟩ := q3; ⟨q, hq⟩
  exact d_write I (by rw [hp]; exact True.intro) sb he (dk_new z2 d1 r2 q3)
/-- a new empty dict -/
theorem inv_new {Q : Addr → Shared → Prop} (I : Inv X pins σ H s) (k : ∀ p s', H p = none → Inv X pins σ (upd H p (.dK [])) s' → Q p s') : wpAny (model X.prog X.w) X.A (alloc { cls := .type "dict", data := .dict #[] }) Q E s :=
  wpAny_alloc (k _ _ (I.hok.fresh (Nat.le_refl _)) (I.laid (a := s.heap.objs.size) (o := .dK []) (t' := s.toks) (fun _ _ q => Heap.get?_push_of_some _ q) (Nat.le_refl _) (dk_empty s.heap I.big)))
end
section
variable {X : Cx} {pos : Pos} {m k v n : Expr} {dm dn dk dv : DE}
def dMrg1 (dm dk dv : DE) : DE := fun ρ M Q => dm ρ M fun m M1 => onD M1 m fun ks => dk ρ M1 fun x M2 => dv ρ M2 fun y M3 => onK x fun k => ks.length < sizeLine ∧ Q (.dic (putD ks k y)) M3
def dMrg2 (dm dn : DE) : DE := fun ρ M Q => dm ρ M fun m M1 => onD M1 m fun ks => dn ρ M1 fun n M2 => onD M2 n fun ks' => ks.length + ks'.length ≤ sizeLine ∧ Q (.dic (mrgD ks ks')) M2
theorem xmrg2 (hm : XE X m dm) (hn : XE X n dn) : XE X (.Dict [none, none] [m, n] pos) (dMrg2 dm dn) := by
  refine ⟨fun pins s σ H Q I ⟨Hi, ρ, M, R, ah, sl, hd, kk⟩ => ?_⟩
  rw [arm_eval_Dict]
  refine wpAny_bind (wpAny_standAt ?_)
  show wpAny _ _ (dictDisplay [(none, do let x ← eval m X.env; standAt pos; pure x), (none, do let x ← eval n X.env; standAt pos; pure x)]) _ _ _
  unfold dictDisplay
  simp only [List.forIn_cons, List.forIn_nil, List.isEmpty_nil, if_true, pure_bind, bind_assoc, List.nil_append, List.length_singleton]
  refine wpAny_bind (inv_new I fun p s1 hp I1 => ?_)
  have A0 := hide_in (.dK []) ah hp
  refine wpAny_bind (wpAny_holding (wpAny_bind (thn (hm.run pins s1 σ _ (fun v' H1 => ∃ Hi1 M1 a ks vs Hy, v' = .ref a ∧ Ext Hi M H Hi1 M1 Hy ∧ AbsH X.K Hi1 M1 Hy ∧ Hy p = none ∧ H1 = upd Hy p (.dK []) ∧ Hy a = some (.dK vs) ∧ RepK X.K Hi1 ks vs ∧ dn ρ M1 fun n M2 => onD M2 n fun ks' => ks.length + ks'.length ≤ sizeLine ∧ R (.dic (mrgD ks ks')) M2) I1
    ⟨Hi, ρ, M, _, A0, sl, hd, fun x M1 h1 Hi1 v' H1 e1 a1 r1 => ?_⟩) fun u1 s2 ⟨v', H1, I2, ru, Hi1, M1, a, ks, vs, Hy, ev, e1, a1, hyp, eH, hya, rk, h1⟩ => ?_)))
  · obtain ⟨Hy, f1, f2, f3, rfl⟩ := hide_out ah hp e1 a1
    obtain ⟨ks, a, vs, rfl, hv, rk, h1⟩ := on_D f2 r1 h1
    exact ⟨Hi1, M1, a, ks, vs, Hy, rfl, f1, f2, f3, rfl, hv, rk, h1⟩
  subst ev eH
  obtain rfl : u1 = Value.ref a := ru
  have hpa : a ≠ p := ne_of_none hya hyp
  refine wpAny_bind (wpAny_standAt (wpAny_pure ?_))
  refine wpAny_bind (wpAny_onRaise (wpAny_tryCatch (wpAny_onRaise (wpAny_holding (inv_copy I2 upd_same (by rw [upd_ne hpa]; exact hya) hpa.symm fun s3 I3 => ?_)))))
  rw [upd_upd] at I3
  have A3 := hide_in (.dK vs) a1 hyp
  refine wpAny_bind (wpAny_holding (wpAny_bind (thn (hn.run pins s3 σ _ (fun v' H1 => ∃ Hi2 M2 b ks' ws Hz, v' = .ref b ∧ Ext Hi1 M1 Hy Hi2 M2 Hz ∧ AbsH X.K Hi2 M2 Hz ∧ Hz p = none ∧ H1 = upd Hz p (.dK vs) ∧ Hz b = some (.dK ws) ∧ RepK X.K Hi2 ks' ws ∧ ks.length + ks'.length ≤ sizeLine ∧ R (.dic (mrgD ks ks')) M2) I3
    ⟨Hi1, ρ, M1, _, A3, sl.mono e1.hi, h1, fun x M2 h2 Hi2 v' H1 e2 a2 r2 => ?_⟩) fun u2 s4 ⟨v', H1, I4, ru2, Hi2, M2, b, ks', ws, Hz, ev, e2, a2, hzp, eH, hzb, rk2, hlen, h2⟩ => ?_)))
  · obtain ⟨Hz, f1, f2, f3, rfl⟩ := hide_out a1 hyp e2 a2
    obtain ⟨ks', b, ws, rfl, hv, rk', h2⟩ := on_D f2 r2 h2
    exact ⟨Hi2, M2, b, ks', ws, Hz, rfl, f1, f2, f3, rfl, hv, rk', h2.1, h2.2⟩
  subst ev eH
  obtain rfl : u2 = Value.ref b := ru2
  have hpb : b ≠ p := ne_of_none hzb hzp
  refine wpAny_bind (wpAny_standAt (wpAny_pure ?_))
  refine wpAny_bind (wpAny_onRaise (wpAny_tryCatch (wpAny_onRaise (wpAny_holding (inv_merge I4 upd_same (by rw [upd_ne hpb]; exact hzb) hpb.symm (by rw [← rk.length, ← rk2.length]; exact hlen) fun s5 I5 => ?_)))))
  rw [upd_upd] at I5
  exact wpAny_pure ⟨.ref p, _, I5, rfl, kk _ _ h2 _ _ _ ((e1.trans e2).trans (a2.extI hzp _)) (a2.newI hzp _) (.dic upd_same ((mrg_rep _ rk2 (rk.mono e2.hi)).mono (Sub.upd _ (a2.none_i hzp))))⟩
theorem xmrg1 (hm : XE X m dm) (hk : XE X k dk) (hv : XE X v dv) : XE X (.Dict [none, some k] [m, v] pos) (dMrg1 dm dk dv) := by
  refine ⟨fun pins s σ H Q I ⟨Hi, ρ, M, R, ah, sl, hd, kk⟩ => ?_⟩
  rw [arm_eval_Dict]
  refine wpAny_bind (wpAny_standAt ?_)
  show wpAny _ _ (dictDisplay [(none, do let x ← eval m X.env; standAt pos; pure x), (some (eval k X.env), do let x ← eval v X.env; standAt pos; pure x)]) _ _ _
  unfold dictDisplay
  simp only [List.forIn_cons, List.forIn_nil, List.isEmpty_nil, if_true, pure_bind, bind_assoc, List.nil_append, List.length_singleton]
  refine wpAny_bind (inv_new I fun p s1 hp I1 => ?_)
  have A0 := hide_in (.dK []) ah hp
  refine wpAny_bind (wpAny_holding (wpAny_bind (thn (hm.run pins s1 σ _ (fun v' H1 => ∃ Hi1 M1 a ks vs Hy, v' = .ref a ∧ Ext Hi M H Hi1 M1 Hy ∧ AbsH X.K Hi1 M1 Hy ∧ Hy p = none ∧ H1 = upd Hy p (.dK []) ∧ Hy a = some (.dK vs) ∧ RepK X.K Hi1 ks vs ∧ dk ρ M1 fun x M2 => dv ρ M2 fun y M3 => onK x fun k => ks.length < sizeLine ∧ R (.dic (putD ks k y)) M3) I1
    ⟨Hi, ρ, M, _, A0, sl, hd, fun x M1 h1 Hi1 v' H1 e1 a1 r1 => ?_⟩) fun u1 s2 ⟨v', H1, I2, ru, Hi1, M1, a, ks, vs, Hy, ev, e1, a1, hyp, eH, hya, rk, h1⟩ => ?_)))
  · obtain ⟨Hy, f1, f2, f3, rfl⟩ := hide_out ah hp e1 a1
    obtain ⟨ks, a, vs, rfl, hv, rk, h1⟩ := on_D f2 r1 h1
    exact ⟨Hi1, M1, a, ks, vs, Hy, rfl, f1, f2, f3, rfl, hv, rk, h1⟩
  subst ev eH
  obtain rfl : u1 = Value.ref a := ru
  have hpa : a ≠ p := ne_of_none hya hyp
  refine wpAny_bind (wpAny_standAt (wpAny_pure ?_))
  refine wpAny_bind (wpAny_onRaise (wpAny_tryCatch (wpAny_onRaise (wpAny_holding (inv_copy I2 upd_same (by rw [upd_ne hpa]; exact hya) hpa.symm fun s3 I3 => ?_)))))
  rw [upd_upd] at I3
  have A3 := hide_in (.dK vs) a1 hyp
  rw [if_neg (by decide)]
  refine wpAny_bind (wpAny_pure ?_)
  show wpAny _ _ ((do
      let sub ← holding [Value.ref p] (subDict [(eval k X.env, do let x ← eval v X.env; standAt pos; pure x)])
      (holding [Value.ref p, Value.ref sub] (mergeMapping p (Value.ref sub) false)).onRaise _
      pure (some p)) >>= _) _ _ _
  refine wpAny_bind (wpAny_bind (wpAny_holding ?_))
  unfold subDict
  refine wpAny_bind (inv_new I3 fun p2 s4 hp2 I4 => ?_)
  have A4 := hide_in (.dK []) A3 hp2
  refine wpAny_bind (wpAny_holding ?_)
  rw [if_pos (show ([(eval k X.env, do let x ← eval v X.env; standAt pos; pure x)] : List (Sem Value × Sem Value)).length ≤ 15 from Nat.le_of_ble_eq_true rfl)]
  refine wpAny_bind (evalPairs_cons (thn (hk.run pins s4 σ _ (fun x' H1 => ∃ Hi2 M2 x Hz, Ext Hi1 M1 (upd Hy p (.dK vs)) Hi2 M2 Hz ∧ AbsH X.K Hi2 M2 Hz ∧ Hz p2 = none ∧ H1 = upd Hz p2 (.dK []) ∧ Rep X.K Hi2 x x' ∧ dv ρ M2 fun y M3 => onK x fun k => ks.length < sizeLine ∧ R (.dic (putD ks k y)) M3) I4
    ⟨Hi1, ρ, M1, _, A4, sl.mono e1.hi, h1, fun x M2 h2 Hi2 x' H1 e2 a2 r2 => ?_⟩) fun u2 s5 ⟨x', H1, I5, ru2, Hi2, M2, x, Hz, e2, a2, hz2, eH, rx, h2⟩ => ?_))
  · obtain ⟨Hz, f1, f2, f3, rfl⟩ := hide_out A3 hp2 e2 a2
    exact ⟨Hi2, M2, x, Hz, f1, f2, f3, rfl, r2, h2⟩
  subst eH
  have A5 := hide_in (.dK []) a2 hz2
  refine wpAny_bind (thn (hv.run pins s5 σ _ (fun y' H1 => ∃ Hi3 M3 kk' y Hw, x' = kV kk' ∧ Ext Hi2 M2 Hz Hi3 M3 Hw ∧ AbsH X.K Hi3 M3 Hw ∧ Hw p2 = none ∧ H1 = upd Hw p2 (.dK []) ∧ Rep X.K Hi3 y y' ∧ ks.length < sizeLine ∧ R (.dic (putD ks kk' y)) M3) I5
    ⟨Hi2, ρ, M2, _, A5, sl.mono (e1.hi.trans e2.hi), h2, fun y M3 h3 Hi3 y' H1 e3 a3 r3 => ?_⟩) fun u3 s6 ⟨y', H1, I6, ru3, Hi3, M3, kk', y, Hw, ex, e3, a3, hw2, eH, ry, hlen, h3⟩ => wpAny_bind (wpAny_standAt (wpAny_pure ?_)))
  · obtain ⟨Hw, f1, f2, f3, rfl⟩ := hide_out a2 hz2 e3 a3
    obtain ⟨kk', rfl, h3⟩ := on_K (rx.mono f1.hi) h3
    exact ⟨Hi3, M3, kk', y, Hw, rfl, f1, f2, f3, rfl, r3, h3.1, h3.2⟩
  subst ex eH
  obtain ⟨Hq, f1, f2, f3, rfl⟩ := hide_out a1 hyp (e2.trans e3) a3
  have hne : p2 ≠ p := fun e => by
    subst e
    rw [upd_same] at hp2
    cases hp2
  have hq2 : Hq p2 = none := by rw [upd_ne hne] at hw2; exact hw2
  refine evalPairs_nil (wpAny_holding ?_)
  simp only [List.forIn_cons, List.forIn_nil, bind_assoc, pure_bind]
  refine wpAny_bind (d_dictSet I6 upd_same (by rw [sizeLine_eq]; decide) ru2 ru3 fun s7 I7 => wpAny_pure (wpAny_pure ?_))
  rw [upd_upd] at I7
  refine wpAny_bind (wpAny_onRaise (wpAny_holding (inv_merge (p := p) (a := p2) (vs := vs) (ws := putK [] kk' y') I7 (by rw [upd_ne hne.symm, upd_same]) upd_same hne.symm ?_ fun s8 I8 => wpAny_pure (wpAny_pure ?_))))
  · rw [← rk.length]
    have : (putK ([] : List (Key × V)) kk' y').length = 1 := rfl
    omega
  · have eH : upd (upd (upd Hq p (.dK vs)) p2 (.dK (putK [] kk' y'))) p (.dK (mergeK vs (putK [] kk' y'))) = upd (upd Hq p2 (.dK (putK [] kk' y'))) p (.dK (putK vs kk' y')) := by
      funext b
      by_cases h1 : b = p
      · subst h1; rw [upd_same, upd_same]; rfl
      · rw [upd_ne h1, upd_ne h1]
        by_cases h2 : b = p2
        · subst h2; rw [upd_same, upd_same]
        · rw [upd_ne h2, upd_ne h2, upd_ne h1]
    rw [eH] at I8
    have B1 := hide_in (.dK (putK [] kk' y')) f2 hq2
    have hq1 : upd Hq p2 (.dK (putK [] kk' y')) p = none := by rw [upd_ne hne.symm]; exact f3
    have E1 : Ext Hi3 M3 Hq Hi3 M3 (upd Hq p2 (.dK (putK [] kk' y'))) := ⟨Sub.refl _, fun b o e em => ⟨by rw [upd_ne (ne_of_none e hq2)]; exact e, em, id⟩⟩
    exact ⟨.ref p, _, I8, rfl, kk _ _ h3 _ _ _ (e1.trans (f1.trans (E1.trans (B1.extI hq1 _)))) (B1.newI hq1 _) (.dic upd_same ((put_rep kk' ry (rk.mono f1.hi)).mono (Sub.upd _ (B1.none_i hq1))))⟩
end
end DL
set_option maxRecDepth 100000
set_option maxHeartbeats 1000000
namespace DL
open PySem PySem.Spec PyProof.Rows L2
def ltT (i j : Str) : Bool := decide (i.cps.toList < j.cps.toList)
def leT (i j : Str) : Bool := !decide (j.cps.toList < i.cps.toList)
section
variable {X : Cx} {e : Expr} {da : DE} {pos : Pos}
def dNeg (da : DE) : DE := fun ρ M Q => da ρ M fun x M1 => match x with | .int i => Q (.int (-i)) M1 | _ => False
theorem xneg (h : XE X e da) : XE X (.UnaryOp .USub e pos) (dNeg da) := PEw (pe_un un_neg h) fun σ H Q ⟨Hi, ρ, M, R, ah, sl, hd, k⟩ => by
  refine ⟨Hi, ρ, M, _, ah, sl, hd, fun x M1 h1 Hi1 v H1 e1 a1 r1 => ?_⟩
  cases r1 with
  | int i => exact ⟨i, rfl, k _ _ h1 Hi1 _ H1 e1 a1 (.int _)⟩
  | _ => exact False.elim h1
/-- C(..).m() -/
theorem xmeth0r {k : Nat} {f C : Addr} {fd : FuncData} {ps : List Str} {F : DF} {m : Str} {id : Str} {p p1 apos : Pos} {es : List Expr} {kws : List Keyword} {d : DE} (he : XE X (.Call (.Name id p) es kws p1) d) (c : Cls X.K C) (hm : Meth X.K C m f) (G : FnD X k f fd ps F) (hr : Room k X.A) (hb : Binds X.K fd ps [])
    (h1 : attributeBase (.Call (.Name id p) es kws p1) m X.env (eval (.Call (.Name id p) es kws p1) X.env) = eval (.Call (.Name id p) es kws p1) X.env := by rfl) (hl : (apos.endLine == pos.line) = true := by rfl) :
    XE X (.Call (.Attribute (.Call (.Name id p) es kws p1) m apos) [] [] pos) (dMeth C m F d dNil) :=
  xmeth0 (pl := do return (← importBound (.Call (.Name id p) es kws p1) X.env).getD true) he c hm G hr hb (mcall_of h1 fun ov => by
    have e1 : methodCallForm (([] : List Expr).length + ([] : List Keyword).length) (backTo pos (starEach [] X.env)) (backToKw pos (keywordEach [] X.env)) = true := rfl
    unfold methodCall
    rw [e1]
    unfold methodCallPos calleeOf
    rw [hl]
    rfl)
/-- what a def's own store left over is forgotten -/
def keepM (M M' : Mh) : Mh := fun a => if (M a).isSome then M' a else none
theorem keep_abs {K : PySem.W.Frag} {Hi H : Hp} {M M' : Mh} (a : AbsH K Hi M' H) : AbsH K Hi (keepM M M') H :=
  ⟨a.sub, fun b m e => by
    unfold keepM at e
    split at e
    · exact a.mt b m e
    · cases e⟩
theorem keep_ext {Hi Hi' H H' : Hp} {M M' : Mh} (e : Ext Hi M H Hi' M' H') : Ext Hi M H Hi' (keepM M M') H' :=
  ⟨e.hi, fun b o h hm => by
    obtain ⟨h1, h2, h3⟩ := e.fr b o h hm
    refine ⟨h1, ?_, h3⟩
    unfold keepM
    rw [hm]
    rfl⟩
theorem keep_self {M : Mh} : keepM M M = M := by
  funext a
  unfold keepM
  cases h : M a <;> rfl
theorem Kont.keep' {K : PySem.W.Frag} {Hi H : Hp} {M : Mh} {R : D → Mh → Prop} {Q : VK} (k : Kont K Hi M H R Q) : Kont K Hi M H (fun x M' => R x (keepM M M')) Q :=
  fun x M' r Hi' v H' e a p => k x _ r Hi' v H' (keep_ext e) (keep_abs a) p
/-- a def whose own store is forgotten at its end -/
theorem def_okK {P : Program} {w : World} {K : PySem.W.Frag} {mg : Str → Option Value} {base : Heap} {x qual : Str} {params : Arguments} {body : List Stmt} {scope : Scope} {dvs : List V} {kws : List (Str × V)} {f : Addr} {fd : FuncData} {N ps : List Str} {k : Nat} {F : DF} {d : DS}
    (Fd : FunD K x qual params body scope dvs kws f fd) (S : FnScope N ps scope) (len : ∀ ds M R, F ds M R → ds.length = ps.length)
    (hbody : ∀ (cdv : Value) (A : Around) (outer : List PySem.Env) (s : Shared) (H : Hp) (E : L2.XK), Room k (A.deeper (envOfC qual scope s.heap.objs.size f cdv)) → XSs (cxOf CX0 P w K mg base N qual scope f cdv A outer s H E).nox body d)
    (hpure : ∀ ds M R, F ds M R → d { nx := fun _ M' => R .non (keepM M M'), rt := fun x M' => R x (keepM M M') } (dstart N ds) M) : FnOk P w K mg base CX0 (k + 1) f fd ps (spD K F) := by
  refine ⟨fun vs H Q E ⟨Hi, M, ds, R, ah, rs, hF, kk⟩ => by rw [← rs.length]; exact len _ _ _ hF, fun A outer s H args us vs Q E hr e0 hb hv ⟨Hi, M, ds, R, ah, rs, hF, kk⟩ => ?_⟩
  exact (def_ok (F := fun ds M R => ds.length = ps.length ∧ d { nx := fun _ M' => R .non M', rt := R } (dstart N ds) M) Fd S (fun _ _ _ h => h.1) hbody fun _ _ _ h => h.2).run A outer s H args us vs Q E hr e0 hb hv ⟨Hi, M, ds, fun x M' => R x (keepM M M'), ah, rs, ⟨len _ _ _ hF, hpure ds M R hF⟩, kk.keep'⟩
end
end DL
set_option maxRecDepth 100000
set_option maxHeartbeats 1000000
namespace DL
open PySem PySem.Spec PyProof.Rows L2

section
variable {ρ : DV} {M : Mh} {Q : D → Mh → Prop} {QT : Bool → Mh → Prop} {QA : List D → Mh → Prop} {E : DEnds} {N : DV → Mh → Prop}
@[simp] theorem s_lk0 {x : Option D} {r : DV} : lk (x :: r) 0 = x := id rfl
@[simp] theorem s_lkS {x : Option D} {r : DV} {n : Nat} : lk (x :: r) (n + 1) = lk r n := id rfl
theorem s_var {i : Nat} {d : D} (h : lk ρ i = some d) : dVar i ρ M Q = Q d M := by unfold dVar; rw [h]
@[simp] theorem s_var0 {d : D} {r : DV} : dVar 0 (some d :: r) M Q = Q d M := id rfl
@[simp] theorem s_varS {x : Option D} {n : Nat} {r : DV} : dVar (n + 1) (x :: r) M Q = dVar n r M Q := id rfl
@[simp] theorem s_C {d : D} : dC d ρ M Q = Q d M := id rfl
@[simp] theorem s_op {g : G2} {a b : DE} : dOp g a b ρ M Q = a ρ M fun x M1 => b ρ M1 fun y M2 => g x y M2 Q := id rfl
@[simp] theorem s_tst {a : DE} : dTst a ρ M QT = a ρ M fun x M1 => match x with | .bl b => QT b M1 | _ => False := id rfl
@[simp] theorem s_nil : dNil ρ M QA = QA [] M := id rfl
@[simp] theorem s_cons {a : DE} {r : DA} : dCons a r ρ M QA = a ρ M fun x M1 => r ρ M1 fun xs M2 => QA (x :: xs) M2 := id rfl
@[simp] theorem s_tup {a : DA} : dTup a ρ M Q = a ρ M fun xs M1 => Q (.tup xs) M1 := id rfl
@[simp] theorem s_lst {mk : MkL} {a : DA} : dLst mk a ρ M Q = a ρ M fun xs M1 => mk xs M1 Q := id rfl
@[simp] theorem s_mkF {xs : List D} : mkF xs M Q = Q (.lst xs) M := id rfl
@[simp] theorem s_mkP {xs : List D} : mkP xs M Q = ∀ a, M a = none → Q (.ptr a) (mup M a (.lst xs)) := id rfl
@[simp] theorem s_mkDF {xs : List (Key × D)} : mkDF xs M Q = Q (.dic xs) M := id rfl
@[simp] theorem s_mkDP {xs : List (Key × D)} : mkDP xs M Q = ∀ a, M a = none → Q (.ptr a) (mup M a (.dic xs)) := id rfl
@[simp] theorem s_cb {g : GC} {a : DA} : dCB g a ρ M Q = a ρ M fun xs M1 => g xs M1 Q := id rfl
@[simp] theorem s_and {t u : DT} : dAnd t u ρ M QT = t ρ M fun c M1 => if c = true then u ρ M1 QT else QT false M1 := id rfl
@[simp] theorem s_or {t u : DT} : dOr t u ρ M QT = t ρ M fun c M1 => if c = true then QT true M1 else u ρ M1 QT := id rfl
@[simp] theorem s_not {t : DT} : dNot t ρ M QT = t ρ M fun c M1 => QT (!c) M1 := id rfl
@[simp] theorem s_andV {a b : DE} : dAndV a b ρ M Q = a ρ M fun x M1 => onBl x fun c => if c = true then b ρ M1 Q else Q (.bl false) M1 := id rfl
@[simp] theorem s_orV {a b : DE} : dOrV a b ρ M Q = a ρ M fun x M1 => onBl x fun c => if c = true then Q (.bl true) M1 else b ρ M1 Q := id rfl
@[simp] theorem s_notV {a : DE} : dNotV a ρ M Q = a ρ M fun x M1 => onBl x fun c => Q (.bl (!c)) M1 := id rfl
@[simp] theorem s_if {t : DT} {a b : DE} : dIf t a b ρ M Q = t ρ M fun c M1 => if c = true then a ρ M1 Q else b ρ M1 Q := id rfl
@[simp] theorem s_onBl {b : Bool} {C : Bool → Prop} : onBl (.bl b) C = C b := id rfl
@[simp] theorem s_chain {g g' : G2} {a b c : DE} : dChain g g' a b c ρ M Q = a ρ M fun x M1 => b ρ M1 fun y M2 => g x y M2 fun z M3 => onBl z fun c' => if c' = true then c ρ M3 fun w M4 => g' y w M4 Q else Q (.bl false) M3 := id rfl
@[simp] theorem s_call {F : DF} {a : DA} : dCall F a ρ M Q = a ρ M fun xs M1 => F xs M1 Q := id rfl
@[simp] theorem s_next : dNext E ρ M = E.nx ρ M := id rfl
@[simp] theorem s_seq {a b : DS} : dSeq a b E ρ M = a { E with nx := fun ρ' M' => b E ρ' M' } ρ M := id rfl
@[simp] theorem s_ret {a : DE} : dRet a E ρ M = a ρ M E.rt := id rfl
@[simp] theorem s_retN : dRetN E ρ M = E.rt .non M := id rfl
@[simp] theorem s_drop {a : DE} : dDrop a E ρ M = a ρ M fun _ M1 => E.nx ρ M1 := id rfl
@[simp] theorem s_ifs {t : DT} {a b : DS} : dIfS t a b E ρ M = t ρ M fun c M1 => if c = true then a E ρ M1 else b E ρ M1 := id rfl
@[simp] theorem s_gname {i : Nat} {x : D} : dgName i x ρ M N = N (ρ.set i (some x)) M := id rfl
@[simp] theorem s_gnil : dgNil [] ρ M N = N ρ M := by simp [dgNil]
@[simp] theorem s_gcons {g : DG} {h : DGs} {x : D} {r : List D} : dgCons g h (x :: r) ρ M N = g x ρ M fun ρ1 M1 => h r ρ1 M1 N := id rfl
@[simp] theorem s_gtup {n : Nat} {g : DGs} {xs : List D} : dgTup n g (.tup xs) ρ M N = (xs.length = n ∧ g xs ρ M N) := id rfl
@[simp] theorem s_asg {d : DE} {g : DG} : dAsg d g E ρ M = d ρ M fun x M1 => g x ρ M1 E.nx := id rfl
@[simp] theorem s_par {i j : Nat} {a b : DE} : dPar i j a b E ρ M = a ρ M fun x M1 => b ρ M1 fun y M2 => E.nx ((ρ.set i (some x)).set j (some y)) M2 := id rfl
@[simp] theorem s_par3 {i j l : Nat} {a b c : DE} : dPar3 i j l a b c E ρ M = a ρ M fun x M1 => b ρ M1 fun y M2 => c ρ M2 fun z M3 => E.nx (((ρ.set i (some x)).set j (some y)).set l (some z)) M3 := id rfl
@[simp] theorem s_lc {mk : MkL} {di : DI} {g : DG} {t : DT} {d : DE} {vs : List Nat} : dLc mk di g t d vs ρ M Q = di ρ M fun xs M1 => lcW g t d (dwipe ρ vs) xs [] M1 fun ys M2 => mk ys M2 Q := id rfl
@[simp] theorem s_dc {mk : MkD} {di : DI} {g : DG} {t : DT} {dk dv : DE} {vs : List Nat} : dDc mk di g t dk dv vs ρ M Q = di ρ M fun xs M1 => dcW g t dk dv (dwipe ρ vs) xs [] M1 fun ys M2 => mk ys M2 Q := id rfl
@[simp] theorem s_wipe0 : dwipe ρ [] = ρ := id rfl
@[simp] theorem s_wipeS {v : Nat} {vs : List Nat} : dwipe ρ (v :: vs) = (dwipe ρ vs).set v none := id rfl
@[simp] theorem s_lcW0 {g : DG} {t : DT} {d : DE} {acc : List D} : lcW g t d ρ [] acc M QA = QA acc M := id rfl
@[simp] theorem s_dcW0 {g : DG} {t : DT} {dk dv : DE} {acc : List (Key × D)} {Qd : List (Key × D) → Mh → Prop} : dcW g t dk dv ρ [] acc M Qd = Qd acc M := id rfl
@[simp] theorem s_yes : dYes ρ M QT = QT true M := id rfl
@[simp] theorem s_forD {di : DI} {g : DG} {b : DS} : dFor di g b E ρ M = di ρ M fun xs M1 => forW g b xs E ρ M1 := id rfl
@[simp] theorem s_for0 {g : DG} {b : DS} : forW g b [] E ρ M = E.nx ρ M := id rfl
@[simp] theorem s_inR {a : DE} : dInR a ρ M QA = a ρ M fun x M1 => match x with | .int n => n ≤ 16777216 ∧ -(2 ^ 62) ≤ n ∧ QA (rngD n.toNat) M1 | _ => False := id rfl
@[simp] theorem s_inQ {a : DE} : dInQ a ρ M QA = a ρ M fun x M1 => match x with | .lst ds => QA ds M1 | .scr is => QA (is.map D.int) M1 | .tup ds => QA ds M1 | _ => False := id rfl
@[simp] theorem s_inE {a : DE} : dInE a ρ M QA = a ρ M fun x M1 => match x with | .lst ds => ds.length ≤ sizeLine ∧ QA (enumD 0 ds) M1 | _ => False := id rfl
@[simp] theorem s_inS {a : DE} : dInS a ρ M QA = a ρ M fun x M1 => match x with | .str z => z.length ≤ sizeLine ∧ QA (strD z) M1 | _ => False := id rfl
@[simp] theorem s_inZT {a b : DE} : dInZT a b ρ M QA = a ρ M fun x M1 => b ρ M1 fun y M2 => match x, y with | .tup xs, .tup ys => min xs.length ys.length ≤ sizeLine ∧ QA (zipD xs ys) M2 | _, _ => False := id rfl
@[simp] theorem s_isT {T : Tn} {a : DE} : dIsT T a ρ M Q = a ρ M fun x M1 => match isT M1 T x with | some b => Q (.bl b) M1 | none => False := id rfl
@[simp] theorem s_frz {a : DE} : dFrz a ρ M Q = a ρ M fun x M1 => match x with | .ptr p => (match mlst M1 p with | some xs => Q (.lst xs) (mdel M1 p) | none => False) | _ => False := id rfl
@[simp] theorem s_bm {g : GM} {a : DE} {r : DA} : dBM g a r ρ M Q = a ρ M fun x M1 => isPL M1 x ∧ r ρ M1 fun xs M2 => g x xs M2 Q := id rfl
@[simp] theorem s_wget {tb : List (Str × Option D)} {a b : DE} : dWGet tb a b ρ M Q = a ρ M fun x M1 => b ρ M1 fun y M2 => onW tb x fun o => Q (o.getD y) M2 := id rfl
@[simp] theorem s_witem {tb : List (Str × Option D)} {a : DE} : dWItem tb a ρ M Q = a ρ M fun x M1 => onW tb x fun o => (match o with | some d => Q d M1 | none => False) := id rfl
@[simp] theorem s_win {tb : List (Str × Option D)} {a : DE} : dWIn tb a ρ M Q = a ρ M fun x M1 => onW tb x fun o => Q (.bl o.isSome) M1 := id rfl
@[simp] theorem s_wnotin {tb : List (Str × Option D)} {a : DE} : dWNotIn tb a ρ M Q = a ρ M fun x M1 => onW tb x fun o => Q (.bl (!o.isSome)) M1 := id rfl
@[simp] theorem s_neg {a : DE} : dNeg a ρ M Q = a ρ M fun x M1 => match x with | .int i => Q (.int (-i)) M1 | _ => False := id rfl
@[simp] theorem s_newD {mk : MkD} : dNewD mk ρ M Q = mk [] M Q := id rfl
@[simp] theorem s_disp1 {mk : MkD} {a b : DE} : dDisp1 mk a b ρ M Q = a ρ M fun x M1 => b ρ M1 fun y M2 => onK x fun k => mk [(k, y)] M2 Q := id rfl
@[simp] theorem s_din {a b : DE} : dDIn a b ρ M Q = a ρ M fun y M1 => b ρ M1 fun x M2 => onK y fun k => onD M2 x fun ks => Q (.bl (hasK ks k)) M2 := id rfl
@[simp] theorem s_dnotin {a b : DE} : dDNotIn a b ρ M Q = a ρ M fun y M1 => b ρ M1 fun x M2 => onK y fun k => onD M2 x fun ks => Q (.bl (!hasK ks k)) M2 := id rfl
@[simp] theorem s_mrg1 {a b c : DE} : dMrg1 a b c ρ M Q = a ρ M fun m M1 => onD M1 m fun ks => b ρ M1 fun x M2 => c ρ M2 fun y M3 => onK x fun k => ks.length < sizeLine ∧ Q (.dic (putD ks k y)) M3 := id rfl
@[simp] theorem s_mrg2 {a b : DE} : dMrg2 a b ρ M Q = a ρ M fun m M1 => onD M1 m fun ks => b ρ M1 fun n M2 => onD M2 n fun ks' => ks.length + ks'.length ≤ sizeLine ∧ Q (.dic (mrgD ks ks')) M2 := id rfl
@[simp] theorem s_sput {x y v : DE} : dSPut x y v E ρ M = v ρ M fun v M1 => x ρ M1 fun x M2 => y ρ M2 fun y M3 => onK y fun k => match x with
  | .ptr a => (match mdic M3 a with | some ks => ks.length < sizeLine ∧ E.nx ρ (mup M3 a (.dic (putD ks k v))) | none => False)
  | _ => False := id rfl
@[simp] theorem s_gsub {x y : DE} {v : D} : dgSub x y v ρ M N = x ρ M fun x M1 => y ρ M1 fun y M2 => match x, y with
  | .ptr a, .int i => (match mlst M2 a with | some xs => (match ixN xs.length i with | some j => N ρ (mup M2 a (.lst (xs.set j v))) | none => False) | none => False)
  | _, _ => False := id rfl
@[simp] theorem s_lstRg {mk : MkL} {a : DE} : dLstRg mk a ρ M Q = a ρ M fun x M1 => match x with | .int n => (0 ≤ n ∧ n ≤ 16777216) ∧ mk (rngD n.toNat) M1 Q | _ => False := id rfl
@[simp] theorem s_tupRg {a : DE} : dTupRg a ρ M Q = a ρ M fun x M1 => match x with | .int n => (0 ≤ n ∧ n ≤ 16777216) ∧ Q (.tup (rngD n.toNat)) M1 | _ => False := id rfl
@[simp] theorem s_lenSet {a : DE} : dLenSet a ρ M Q = a ρ M fun x M1 => match asQ M1 x with | some [] => Q (.int 0) M1 | _ => False := id rfl
@[simp] theorem s_revL {mk : MkL} {a : DE} : dRevL mk a ρ M Q = a ρ M fun x M1 => match asLS M1 x with | some xs => mk xs.reverse M1 Q | none => False := id rfl
@[simp] theorem s_revT {a : DE} : dRevT a ρ M Q = a ρ M fun x M1 => match asT x with | some xs => Q (.tup xs.reverse) M1 | none => False := id rfl
@[simp] theorem s_sl {g : GS} {a : DE} {l h : DO} : dSl g a l h ρ M Q = a ρ M fun x M1 => l ρ M1 fun l M2 => h ρ M2 fun u M3 => g x l u M3 Q := id rfl
@[simp] theorem s_dno {QO : Option Int → Mh → Prop} : dNo ρ M QO = QO none M := id rfl
@[simp] theorem s_part {a : DE} {QO : Option Int → Mh → Prop} : dPart a ρ M QO = a ρ M fun x M1 => match x with | .int i => QO (some i) M1 | _ => False := id rfl
@[simp] theorem s_fldC {C : Addr} {f : Str} {a : DE} : dFldC C f a ρ M Q = a ρ M fun x M1 => onIns M1 C x fun _ fs => (match fs.lookup f with | some d => Q d M1 | none => False) := id rfl
@[simp] theorem s_meth {C : Addr} {m : Str} {F : DF} {a : DE} {r : DA} : dMeth C m F a r ρ M Q = a ρ M fun x M1 => onIns M1 C x fun _ fs => fs.lookup m = none ∧ r ρ M1 fun ys M2 => F (x :: ys) M2 Q := id rfl
@[simp] theorem s_make {C : Addr} {F : DF} {r : DA} : dMake C F r ρ M Q = r ρ M fun ys M1 => ∀ a, M1 a = none → F (.ptr a :: ys) (mup M1 a (.ins C [])) fun r M2 => r = .non ∧ Q (.ptr a) M2 := id rfl
@[simp] theorem s_sfld {C : Addr} {f : Str} {a v : DE} : dSFld C f a v E ρ M = v ρ M fun y M1 => a ρ M1 fun x M2 => onIns M2 C x fun a fs => fs.length < 1000 ∧ E.nx ρ (mup M2 a (.ins C (putFD f y fs))) := id rfl
@[simp] theorem s_gfld {C : Addr} {f : Str} {a : DE} {v : D} : dgFld C f a v ρ M N = a ρ M fun x M1 => onIns M1 C x fun a fs => fs.length < 1000 ∧ N ρ (mup M1 a (.ins C (putFD f v fs))) := id rfl
@[simp] theorem s_onK (k : Int) {C : Key → Prop} : onK (.int k) C = C (.inl k) := id rfl
@[simp] theorem s_asT {xs : List D} : asT (.tup xs) = some xs := id rfl
@[simp] theorem s_keep : keepM M M = M := keep_self

/-! ### operations on given kinds -/
@[simp] theorem g_I {C : Int → Int → Prop} {f : Int → Int → Int} {i j : Int} : gI C f (.int i) (.int j) M Q = (C i j ∧ Q (.int (f i j)) M) := id rfl
@[simp] theorem g_I0 {f : Int → Int → Int} {i j : Int} : gI0 f (.int i) (.int j) M Q = Q (.int (f i j)) M := id rfl
@[simp] theorem g_B0 {f : Int → Int → Bool} {i j : Int} : gB0 f (.int i) (.int j) M Q = Q (.bl (f i j)) M := id rfl
@[simp] theorem g_eqI {i j : Int} : gEq (.int i) (.int j) M Q = Q (.bl (decide (i = j))) M := by simp [gEq, scalD, eqS]
@[simp] theorem g_eqS {i j : Str} : gEq (.str i) (.str j) M Q = Q (.bl (decide (i = j))) M := by simp [gEq, scalD, eqS]
@[simp] theorem g_neI {i j : Int} : gNe (.int i) (.int j) M Q = Q (.bl (!decide (i = j))) M := by simp [gNe, scalD, eqS]
@[simp] theorem g_neB {i j : Bool} : gNe (.bl i) (.bl j) M Q = Q (.bl (!decide (i = j))) M := by simp [gNe, scalD, eqS]
@[simp] theorem g_neS {i j : Str} : gNe (.str i) (.str j) M Q = Q (.bl (!decide (i = j))) M := by simp [gNe, scalD, eqS]
@[simp] theorem g_isN {x : D} : gIsN x .non M Q = Q (.bl (match x with | .non => true | _ => false)) M := id rfl
@[simp] theorem g_notN {x : D} : gNotN x .non M Q = Q (.bl (match x with | .non => false | _ => true)) M := id rfl
@[simp] theorem g_isB {a b : Bool} : gIsB (.bl a) (.bl b) M Q = Q (.bl (decide (a = b))) M := id rfl
@[simp] theorem g_notB {a b : Bool} : gNotB (.bl a) (.bl b) M Q = Q (.bl (!decide (a = b))) M := id rfl
@[simp] theorem g_strS {f : Str → Str → Bool} {i j : Str} : gStr f (.str i) (.str j) M Q = Q (.bl (f i j)) M := id rfl
@[simp] theorem g_neNilL {xs : List D} : gNeNil (.lst xs) (.lst []) M Q = Q (.bl (!xs.isEmpty)) M := by simp [gNeNil, onLS, asLS]
@[simp] theorem g_eqNilL {xs : List D} : gEqNil (.lst xs) (.lst []) M Q = Q (.bl xs.isEmpty) M := by simp [gEqNil, onLS, asLS]
theorem g_neNilP {a : Addr} {xs : List D} (h : M a = some (.lst xs)) : gNeNil (.ptr a) (.lst []) M Q = Q (.bl (!xs.isEmpty)) M := by simp [gNeNil, onLS, asLS, mlst, h]
end
end DL
namespace DL
open PySem PySem.Spec PyProof.Rows L2
section
variable {ρ0 : DV} {M : Mh} {Q : D → Mh → Prop} {QL : List D → Mh → Prop}
@[simp] theorem s_lcWS {g : DG} {t : DT} {d : DE} {x : D} {xs acc : List D} : lcW g t d ρ0 (x :: xs) acc M QL = g x ρ0 M fun ρ1 M1 => t ρ1 M1 fun b M2 => if b = true then d ρ1 M2 fun y M3 => lcW g t d ρ0 xs (acc ++ [y]) M3 QL else lcW g t d ρ0 xs acc M2 QL := id rfl
theorem lcW_opt {g : DG} {t : DT} {d : DE} (f : D → Option D) : ∀ (xs acc : List D), (∀ x ∈ xs, ∀ ys acc' (Q' : List D → Mh → Prop), lcW g t d ρ0 ys (acc' ++ (f x).toList) M Q' → lcW g t d ρ0 (x :: ys) acc' M Q') → QL (acc ++ xs.filterMap f) M → lcW g t d ρ0 xs acc M QL
  | [], acc, _, h => by simpa using h
  | x :: xs, acc, hs, h => hs x List.mem_cons_self xs acc QL (lcW_opt f xs _ (fun y hy => hs y (List.mem_cons_of_mem _ hy)) (by
      have e : acc ++ (x :: xs).filterMap f = acc ++ (f x).toList ++ xs.filterMap f := by
        rw [List.filterMap_cons]
        cases f x <;> simp
      rw [← e]; exact h))
theorem lcW_map {g : DG} {t : DT} {d : DE} (f : D → D) (xs acc : List D) (hs : ∀ x ∈ xs, ∀ ys acc' (Q' : List D → Mh → Prop), lcW g t d ρ0 ys (acc' ++ [f x]) M Q' → lcW g t d ρ0 (x :: ys) acc' M Q') (h : QL (acc ++ xs.map f) M) : lcW g t d ρ0 xs acc M QL :=
  lcW_opt (fun x => some (f x)) xs acc hs (by rw [List.filterMap_eq_map']; exact h)
theorem g_all {α : Type} {p : α → Bool} {xs : List α} : gAll [.lst (xs.map fun x => D.bl (p x))] M Q = Q (.bl (xs.all p)) M := by
  have e : (xs.map fun x => D.bl (p x)) = (xs.map p).map D.bl := by rw [List.map_map]; rfl
  unfold gAll oneLS asLS onB
  simp only [e, bls_map]
  simp [List.all_map, Function.comp_def]
@[simp] theorem s_lenL {xs : List D} : gLen [.lst xs] M Q = Q (.int (xs.length : Nat)) M := id rfl
@[simp] theorem s_lenT {xs : List D} : gLen [.tup xs] M Q = Q (.int (xs.length : Nat)) M := id rfl
@[simp] theorem s_lenD {xs : List (Key × D)} : gLen [.dic xs] M Q = Q (.int (xs.length : Nat)) M := id rfl
@[simp] theorem s_lenS {is : List Int} : gLen [.scr is] M Q = Q (.int (is.length : Nat)) M := by simp [gLen, lenD, asQ]
theorem s_lenP {a : Addr} {xs : List D} (h : M a = some (.lst xs)) : gLen [.ptr a] M Q = Q (.int (xs.length : Nat)) M := by simp [gLen, lenD, asQ, mlst, h]
theorem s_lenPD {a : Addr} {xs : List (Key × D)} (h : M a = some (.dic xs)) : gLen [.ptr a] M Q = Q (.int (xs.length : Nat)) M := by simp [gLen, lenD, asQ, asK, mlst, mdic, h]
@[simp] theorem s_lenStr {z : Str} : gLen [.str z] M Q = (z.length ≤ sizeLine ∧ Q (.int (z.length : Nat)) M) := id rfl
theorem atI_nat {α : Type} (xs : List α) (n : Nat) : atI xs (n : Int) = xs[n]? := by
  unfold atI ixN
  by_cases h : n < xs.length
  · simp [h]
  · simp [h]
theorem ix_nat {x : D} {xs : List D} {n : Nat} {d : D} (h : asQ M x = some xs) (hd : xs[n]? = some d) : gIx x (.int (n : Nat)) M Q = Q d M := by
  unfold gIx
  rw [h]
  simp only [atI_nat, hd]
@[simp] theorem ixT0 {x : D} {r : List D} : gIx (.tup (x :: r)) (.int 0) M Q = Q x M := ix_nat (n := 0) rfl rfl
@[simp] theorem ixT1 {x y : D} {r : List D} : gIx (.tup (x :: y :: r)) (.int 1) M Q = Q y M := ix_nat (n := 1) rfl rfl
@[simp] theorem ixT2 {x y z : D} {r : List D} : gIx (.tup (x :: y :: z :: r)) (.int 2) M Q = Q z M := ix_nat (n := 2) rfl rfl
@[simp] theorem ixT3 {x y z u : D} {r : List D} : gIx (.tup (x :: y :: z :: u :: r)) (.int 3) M Q = Q u M := ix_nat (n := 3) rfl rfl
@[simp] theorem ixT4 {x y z u v : D} {r : List D} : gIx (.tup (x :: y :: z :: u :: v :: r)) (.int 4) M Q = Q v M := ix_nat (n := 4) rfl rfl
@[simp] theorem ixT5 {x y z u v w : D} {r : List D} : gIx (.tup (x :: y :: z :: u :: v :: w :: r)) (.int 5) M Q = Q w M := ix_nat (n := 5) rfl rfl
theorem ix_tup {xs : List D} {n : Nat} {d : D} (hd : xs[n]? = some d) : gIx (.tup xs) (.int (n : Nat)) M Q = Q d M := ix_nat rfl hd
theorem ix_lst {xs : List D} {n : Nat} {d : D} (hd : xs[n]? = some d) : gIx (.lst xs) (.int (n : Nat)) M Q = Q d M := ix_nat rfl hd
theorem ix_ptr {a : Addr} {xs : List D} {n : Nat} {d : D} (h : M a = some (.lst xs)) (hd : xs[n]? = some d) : gIx (.ptr a) (.int (n : Nat)) M Q = Q d M := ix_nat (by simp [asQ, mlst, h]) hd
theorem cut_1 {xs : List D} : cutD xs (some 1) none = xs.drop 1 := by
  unfold cutD
  cases xs with
  | nil => rfl
  | cons x r =>
    have e : HT.sIx (x :: r).length 0 (some 1) = 1 := by
      show (if (1 : Int) < 0 then ((1 : Int) + ((x :: r).length : Nat)).toNat else min (1 : Int).toNat (x :: r).length) = 1
      rw [if_neg (by decide), List.length_cons]
      show min 1 (r.length + 1) = 1
      omega
    rw [e]
    simp [HT.sIx]
theorem zip_ints : ∀ (is js : List Int), zipD (is.map D.int) (js.map D.int) = (is.zip js).map fun p => D.tup [.int p.1, .int p.2]
  | [], _ => by simp [zipD]
  | i :: is, [] => by simp [zipD]
  | i :: is, j :: js => by simp [zipD, zip_ints is js]
end
end DL
namespace DL
open PySem PySem.Spec PyProof.Rows L2
section
variable {ρ ρ' : DV} {M : Mh} {E : DEnds}
end
end DL
namespace DL
open PySem PySem.Spec PyProof.Rows L2
section
variable {M : Mh} {Q : D → Mh → Prop} {a : Addr} {xs : List D} {ks : List (Key × D)}
@[simp] theorem m_lst : mlst (mup M a (.lst xs)) a = some xs := by simp [mlst]
@[simp] theorem m_dic : mdic (mup M a (.dic ks)) a = some ks := by simp [mdic]
@[simp] theorem p_isPL : isPL (mup M a (.lst xs)) (.ptr a) = True := by simp [isPL, onLS, asLS]
theorem isPL_at (h : M a = some (.lst xs)) : isPL M (.ptr a) = True := by simp [isPL, onLS, asLS, mlst, h]
theorem append_at {y : D} (h : M a = some (.lst xs)) : gAppend (.ptr a) [y] M Q = (xs.length < sizeLine ∧ Q .non (mup M a (.lst (xs ++ [y])))) := by simp [gAppend, onPL, mlst, h]
theorem extend_at {y : D} {zs : List D} (h : M a = some (.lst xs)) (hy : asL M y = some zs) : gExtend (.ptr a) [y] M Q = (xs.length + zs.length ≤ sizeLine ∧ Q .non (mup M a (.lst (xs ++ zs)))) := by simp [gExtend, onPL, mlst, h, hy]
theorem pop_at {y : D} (h : M a = some (.lst (xs ++ [y]))) : gPop0 (.ptr a) [] M Q = Q y (mup M a (.lst xs)) := by simp [gPop0, gPop, onPL, mlst, h]
@[simp] theorem append_mup {y : D} : gAppend (.ptr a) [y] (mup M a (.lst xs)) Q = (xs.length < sizeLine ∧ Q .non (mup M a (.lst (xs ++ [y])))) := by rw [append_at mup_same, mup_mup]
@[simp] theorem extend_mup {zs : List D} : gExtend (.ptr a) [.lst zs] (mup M a (.lst xs)) Q = (xs.length + zs.length ≤ sizeLine ∧ Q .non (mup M a (.lst (xs ++ zs)))) := by rw [extend_at mup_same rfl, mup_mup]
theorem frz_at (h : M a = some (.lst xs)) : (match mlst M a with | some xs => Q (.lst xs) (mdel M a) | none => False) = Q (.lst xs) (mdel M a) := by simp [mlst, h]
theorem mdel_new (h : M a = none) : mdel (mup M a (.lst xs)) a = M := mdel_mup h
/-- a store whose own part is as it was -/
theorem keep_of {M M' : Mh} (h : ∀ a o, M a = some o → M' a = some o) : keepM M M' = M := by
  funext b
  unfold keepM
  cases e : M b with
  | none => rfl
  | some o => exact h b o e
@[simp] theorem g_list {zs : List D} {mk : MkL} : gList mk [.tup zs] M Q = mk zs M Q := id rfl
@[simp] theorem g_listL {zs : List D} {mk : MkL} : gList mk [.lst zs] M Q = mk zs M Q := id rfl
@[simp] theorem g_tupL {zs : List D} : gTuple [.lst zs] M Q = Q (.tup zs) M := id rfl
@[simp] theorem g_tupT {zs : List D} : gTuple [.tup zs] M Q = Q (.tup zs) M := id rfl
end
end DL
set_option maxRecDepth 100000
set_option maxHeartbeats 0
namespace K70
open PySem PySem.Spec PyProof.Rows L2
def top (i : Nat) : Stmt := PySem.Challenge.pw_linearmix_k70_reach.main.body.getD i (.Pass ⟨0, 0, 0, 0⟩)
abbrev s_inner_cs : Stmt := top 3
abbrev s_all_cs : Stmt := top 4
abbrev s_asked_in : Stmt := top 6
abbrev s_row_body : Stmt := top 7
abbrev s_bodies_asked : Stmt := top 8
abbrev s_reach_in : Stmt := top 9
abbrev s_is_closed_reach : Stmt := top 10
abbrev s_is_whole : Stmt := top 15
abbrev s_is_count : Stmt := top 16
abbrev s_is_core_text : Stmt := top 29
abbrev s_is_row : Stmt := top 30
abbrev s_is_text_row : Stmt := top 31
abbrev s_is_number_row : Stmt := top 32
abbrev s_is_ascending : Stmt := top 33
abbrev s_is_body : Stmt := top 34
abbrev s_is_entry : Stmt := top 35
abbrev s_is_start : Stmt := top 36
abbrev s_are_sends : Stmt := top 37
abbrev s_is_table : Stmt := top 38
abbrev s_is_single : Stmt := top 39
abbrev s_has_form : Stmt := top 40
abbrev s_fits_alone : Stmt := top 41
abbrev s_BodyLook_init : Stmt := inClass (top 42) 0
abbrev s_BodyLook_is_right : Stmt := inClass (top 42) 1
abbrev s_BodyLook_seen_in : Stmt := inClass (top 42) 2
abbrev s_BodyLook_binds : Stmt := inClass (top 42) 3
abbrev s_BodyLook_fits : Stmt := inClass (top 42) 4
abbrev s_core_is_right : Stmt := top 43
abbrev s_need_core : Stmt := top 44
abbrev s_reach : Stmt := top 46
abbrev s_reach_holds : Stmt := top 47
abbrev s__law_feed : Stmt := top 49
abbrev s__law_draw : Stmt := top 50
abbrev s__law_one : Stmt := top 51
abbrev s__law_ask : Stmt := top 52
abbrev s__law_graph : Stmt := top 53
abbrev s__law_flat : Stmt := top 54
abbrev s__law_closure : Stmt := top 55
abbrev s__law_only : Stmt := top 56
abbrev s__law_asked : Stmt := top 57
abbrev s__law_c : Stmt := top 58
abbrev s__law_core : Stmt := top 59
abbrev s__law_drawn : Stmt := top 60
abbrev s__law_others : Stmt := top 61
abbrev s__law_right : Stmt := top 62
abbrev s_law : Stmt := top 63
def d_inner_cs : He.DefD := ⟨("inner_cs", none), "inner_cs", "inner_cs", defArgs s_inner_cs, defBody s_inner_cs, defScope s_inner_cs, [], []⟩
def d_all_cs : He.DefD := ⟨("all_cs", none), "all_cs", "all_cs", defArgs s_all_cs, defBody s_all_cs, defScope s_all_cs, [], []⟩
def d_asked_in : He.DefD := ⟨("asked_in", none), "asked_in", "asked_in", defArgs s_asked_in, defBody s_asked_in, defScope s_asked_in, [], []⟩
def d_row_body : He.DefD := ⟨("row_body", none), "row_body", "row_body", defArgs s_row_body, defBody s_row_body, defScope s_row_body, [], []⟩
def d_bodies_asked : He.DefD := ⟨("bodies_asked", none), "bodies_asked", "bodies_asked", defArgs s_bodies_asked, defBody s_bodies_asked, defScope s_bodies_asked, [], []⟩
def d_reach_in : He.DefD := ⟨("reach_in", none), "reach_in", "reach_in", defArgs s_reach_in, defBody s_reach_in, defScope s_reach_in, [], []⟩
def d_is_closed_reach : He.DefD := ⟨("is_closed_reach", none), "is_closed_reach", "is_closed_reach", defArgs s_is_closed_reach, defBody s_is_closed_reach, defScope s_is_closed_reach, [], []⟩
def d_is_whole : He.DefD := ⟨("is_whole", none), "is_whole", "is_whole", defArgs s_is_whole, defBody s_is_whole, defScope s_is_whole, [], []⟩
def d_is_count : He.DefD := ⟨("is_count", none), "is_count", "is_count", defArgs s_is_count, defBody s_is_count, defScope s_is_count, [], []⟩
def d_is_core_text : He.DefD := ⟨("is_core_text", none), "is_core_text", "is_core_text", defArgs s_is_core_text, defBody s_is_core_text, defScope s_is_core_text, [], []⟩
def d_is_row : He.DefD := ⟨("is_row", none), "is_row", "is_row", defArgs s_is_row, defBody s_is_row, defScope s_is_row, [], []⟩
def d_is_text_row : He.DefD := ⟨("is_text_row", none), "is_text_row", "is_text_row", defArgs s_is_text_row, defBody s_is_text_row, defScope s_is_text_row, [], []⟩
def d_is_number_row : He.DefD := ⟨("is_number_row", none), "is_number_row", "is_number_row", defArgs s_is_number_row, defBody s_is_number_row, defScope s_is_number_row, [], []⟩
def d_is_ascending : He.DefD := ⟨("is_ascending", none), "is_ascending", "is_ascending", defArgs s_is_ascending, defBody s_is_ascending, defScope s_is_ascending, [], []⟩
def d_is_body : He.DefD := ⟨("is_body", none), "is_body", "is_body", defArgs s_is_body, defBody s_is_body, defScope s_is_body, [], []⟩
def d_is_entry : He.DefD := ⟨("is_entry", none), "is_entry", "is_entry", defArgs s_is_entry, defBody s_is_entry, defScope s_is_entry, [], []⟩
def d_is_start : He.DefD := ⟨("is_start", none), "is_start", "is_start", defArgs s_is_start, defBody s_is_start, defScope s_is_start, [], []⟩
def d_are_sends : He.DefD := ⟨("are_sends", none), "are_sends", "are_sends", defArgs s_are_sends, defBody s_are_sends, defScope s_are_sends, [], []⟩
def d_is_table : He.DefD := ⟨("is_table", none), "is_table", "is_table", defArgs s_is_table, defBody s_is_table, defScope s_is_table, [], []⟩
def d_is_single : He.DefD := ⟨("is_single", none), "is_single", "is_single", defArgs s_is_single, defBody s_is_single, defScope s_is_single, [], []⟩
def d_has_form : He.DefD := ⟨("has_form", none), "has_form", "has_form", defArgs s_has_form, defBody s_has_form, defScope s_has_form, [], []⟩
def d_fits_alone : He.DefD := ⟨("fits_alone", none), "fits_alone", "fits_alone", defArgs s_fits_alone, defBody s_fits_alone, defScope s_fits_alone, [], []⟩
def d_BodyLook_init : He.DefD := ⟨("BodyLook", some "__init__"), "__init__", "BodyLook.__init__", defArgs s_BodyLook_init, defBody s_BodyLook_init, defScope s_BodyLook_init, [], []⟩
def d_BodyLook_is_right : He.DefD := ⟨("BodyLook", some "is_right"), "is_right", "BodyLook.is_right", defArgs s_BodyLook_is_right, defBody s_BodyLook_is_right, defScope s_BodyLook_is_right, [], []⟩
def d_BodyLook_seen_in : He.DefD := ⟨("BodyLook", some "seen_in"), "seen_in", "BodyLook.seen_in", defArgs s_BodyLook_seen_in, defBody s_BodyLook_seen_in, defScope s_BodyLook_seen_in, [], []⟩
def d_BodyLook_binds : He.DefD := ⟨("BodyLook", some "binds"), "binds", "BodyLook.binds", defArgs s_BodyLook_binds, defBody s_BodyLook_binds, defScope s_BodyLook_binds, [], []⟩
def d_BodyLook_fits : He.DefD := ⟨("BodyLook", some "fits"), "fits", "BodyLook.fits", defArgs s_BodyLook_fits, defBody s_BodyLook_fits, defScope s_BodyLook_fits, [], []⟩
def d_core_is_right : He.DefD := ⟨("core_is_right", none), "core_is_right", "core_is_right", defArgs s_core_is_right, defBody s_core_is_right, defScope s_core_is_right, [], []⟩
def d_need_core : He.DefD := ⟨("need_core", none), "need_core", "need_core", defArgs s_need_core, defBody s_need_core, defScope s_need_core, [], []⟩
def d_reach : He.DefD := ⟨("reach", none), "reach", "reach", defArgs s_reach, defBody s_reach, defScope s_reach, [], []⟩
def d_reach_holds : He.DefD := ⟨("reach_holds", none), "reach_holds", "reach_holds", defArgs s_reach_holds, defBody s_reach_holds, defScope s_reach_holds, [], []⟩
def d__law_feed : He.DefD := ⟨("_law_feed", none), "_law_feed", "_law_feed", defArgs s__law_feed, defBody s__law_feed, defScope s__law_feed, [], []⟩
def d__law_draw : He.DefD := ⟨("_law_draw", none), "_law_draw", "_law_draw", defArgs s__law_draw, defBody s__law_draw, defScope s__law_draw, [], []⟩
def d__law_one : He.DefD := ⟨("_law_one", none), "_law_one", "_law_one", defArgs s__law_one, defBody s__law_one, defScope s__law_one, [], []⟩
def d__law_ask : He.DefD := ⟨("_law_ask", none), "_law_ask", "_law_ask", defArgs s__law_ask, defBody s__law_ask, defScope s__law_ask, [], []⟩
def d__law_graph : He.DefD := ⟨("_law_graph", none), "_law_graph", "_law_graph", defArgs s__law_graph, defBody s__law_graph, defScope s__law_graph, [], []⟩
def d__law_flat : He.DefD := ⟨("_law_flat", none), "_law_flat", "_law_flat", defArgs s__law_flat, defBody s__law_flat, defScope s__law_flat, [], []⟩
def d__law_closure : He.DefD := ⟨("_law_closure", none), "_law_closure", "_law_closure", defArgs s__law_closure, defBody s__law_closure, defScope s__law_closure, [], []⟩
def d__law_only : He.DefD := ⟨("_law_only", none), "_law_only", "_law_only", defArgs s__law_only, defBody s__law_only, defScope s__law_only, [], []⟩
def d__law_asked : He.DefD := ⟨("_law_asked", none), "_law_asked", "_law_asked", defArgs s__law_asked, defBody s__law_asked, defScope s__law_asked, [], []⟩
def d__law_c : He.DefD := ⟨("_law_c", none), "_law_c", "_law_c", defArgs s__law_c, defBody s__law_c, defScope s__law_c, [], []⟩
def d__law_core : He.DefD := ⟨("_law_core", none), "_law_core", "_law_core", defArgs s__law_core, defBody s__law_core, defScope s__law_core, [], []⟩
def d__law_drawn : He.DefD := ⟨("_law_drawn", none), "_law_drawn", "_law_drawn", defArgs s__law_drawn, defBody s__law_drawn, defScope s__law_drawn, [], []⟩
def d__law_others : He.DefD := ⟨("_law_others", none), "_law_others", "_law_others", defArgs s__law_others, defBody s__law_others, defScope s__law_others, [], []⟩
def d__law_right : He.DefD := ⟨("_law_right", none), "_law_right", "_law_right", defArgs s__law_right, defBody s__law_right, defScope s__law_right, [], []⟩
def d_law : He.DefD := ⟨("law", none), "law", "law", defArgs s_law, defBody s_law, defScope s_law, [], []⟩
def fn : List He.DefD := [d_inner_cs, d_all_cs, d_asked_in, d_row_body, d_bodies_asked, d_reach_in, d_is_closed_reach, d_is_whole, d_is_count, d_is_core_text, d_is_row, d_is_text_row, d_is_number_row, d_is_ascending, d_is_body, d_is_entry, d_is_start, d_are_sends, d_is_table, d_is_single, d_has_form, d_fits_alone, d_BodyLook_init, d_BodyLook_is_right, d_BodyLook_seen_in, d_BodyLook_binds, d_BodyLook_fits, d_core_is_right, d_need_core, d_reach, d_reach_holds, d__law_feed, d__law_draw, d__law_one, d__law_ask, d__law_graph, d__law_flat, d__law_closure, d__law_only, d__law_asked, d__law_c, d__law_core, d__law_drawn, d__law_others, d__law_right, d_law]
def fa : List He.Fa := [.glo "PLACES", .glo "ROWS", .glo "inner_cs", .glo "all_cs", .glo "asked_in", .glo "row_body", .glo "bodies_asked", .glo "reach_in", .glo "is_closed_reach", .glo "MixError", .glo "BadCore", .glo "is_whole", .glo "is_count", .int "MOST_TABLES" 60, .int "MOST_SINGLES" 60, .int "MOST_BODIES" 600, .int "MOST_LOCALS" 400, .int "MOST_WITHIN" 240, .int "MOST_SIGNS" 80, .glo "SIZES", .glo "OPS", .glo "STOPS", .glo "CLOSED", .glo "ALONE", .glo "is_core_text", .glo "is_row", .glo "is_text_row", .glo "is_number_row", .glo "is_ascending", .glo "is_body", .glo "is_entry", .glo "is_start", .glo "are_sends", .glo "is_table", .glo "is_single", .glo "has_form", .glo "fits_alone", .glo "BodyLook", .cls "BodyLook", .mkr "BodyLook", .meth "BodyLook" "is_right", .meth "BodyLook" "seen_in", .meth "BodyLook" "binds", .meth "BodyLook" "fits", .noat "BodyLook" "bodies", .noat "BodyLook" "bound", .noat "BodyLook" "c", .noat "BodyLook" "further", .noat "BodyLook" "params", .noat "BodyLook" "singles", .noat "BodyLook" "tables", .glo "core_is_right", .glo "need_core", .glo "reach", .glo "reach_holds", .glo "_law_feed", .glo "_law_draw", .glo "_law_one", .glo "_law_ask", .glo "_law_graph", .glo "_law_flat", .glo "_law_closure", .glo "_law_only", .glo "_law_asked", .glo "_law_c", .glo "_law_core", .glo "_law_drawn", .glo "_law_others", .glo "_law_right", .glo "law", .free "len", .free "isinstance", .free "tuple", .free "list", .free "str", .free "int", .free "bool", .free "all", .free "zip", .free "set", .free "enumerate", .free "range", .free "sorted", .free "sum", .free "max", .free "min"]
def ts : List He.Tab := [(fun K => He.ga K "PLACES", ["slot", "fill", "send", "late", "now", "once", "first", "fun", "apply", "if", "let", "among", "show", "then", "op", "stop"]), (fun K => He.ga K "ROWS", ["send", "direct", "make", "apply"]), (fun K => He.ga K "SIZES", ["int", "text", "truth", "unit", "local", "slot", "fill", "send", "direct", "make", "single", "late", "now", "once", "first", "fun", "apply", "if", "let", "among", "show", "then", "op", "stop"]), (fun K => He.ga K "OPS", ["+", "-", "*", "<", "=", "join"]), (fun K => He.ga K "STOPS", ["stop", "unmatched"]), (fun K => He.ga K "CLOSED", ["late", "once", "fun"]), (fun K => He.ga K "ALONE", ["int", "text", "truth", "slot", "send", "once", "op", "stop"])]
/-- the value of a top's dict at a text, if it is an object -/
def dicAt (x k : Str) (K : PySem.W.Frag) : Addr := match PySem.W.nsIn K (He.ga K x) k with
  | some (some (.ref a)) => a
  | _ => 0
/-- that value is a tuple of these -/
def tupIn (K : PySem.W.Frag) (x k : Str) (vs : List He.Dv) : Bool := He.eqO (PySem.W.nsIn K (He.ga K x) k) (some (some (.ref (dicAt x k K)))) && (match K.lookup (dicAt x k K) with
  | some ⟨.type c, _, .seq its _, _⟩ => decide (c = "tuple") && (decide (its.size ≤ sizeLine) && He.relAll (vs.map (He.Dv.v K)) its.toList)
  | _ => false)
/-- none of these is a key -/
def noIn (K : PySem.W.Frag) (x : Str) (ks : List Str) : Bool := ks.all fun k => He.eqO (PySem.W.nsIn K (He.ga K x) k) (some none)
def exs (K : PySem.W.Frag) : List Bool := [tupIn K "PLACES" "slot" [.int 1],
  tupIn K "PLACES" "fill" [.int 2, .int 3],
  tupIn K "PLACES" "send" [.int 1],
  tupIn K "PLACES" "late" [.int 1],
  tupIn K "PLACES" "now" [.int 1],
  tupIn K "PLACES" "once" [.int 2],
  tupIn K "PLACES" "first" [.int 1],
  tupIn K "PLACES" "fun" [.int 2],
  tupIn K "PLACES" "apply" [.int 1],
  tupIn K "PLACES" "if" [.int 1, .int 2, .int 3],
  tupIn K "PLACES" "let" [.int 2, .int 3],
  tupIn K "PLACES" "among" [.int 1],
  tupIn K "PLACES" "show" [.int 1],
  tupIn K "PLACES" "then" [.int 1, .int 2],
  tupIn K "PLACES" "op" [.int 2, .int 3],
  tupIn K "PLACES" "stop" [.int 2],
  He.valsB K (He.ga K "ROWS") [("send", .int 3), ("direct", .int 2), ("make", .int 2), ("apply", .int 2)],
  He.valsB K (He.ga K "SIZES") [("int", .int 2), ("text", .int 2), ("truth", .int 2), ("unit", .int 1), ("local", .int 2), ("slot", .int 3), ("fill", .int 4), ("send", .int 4), ("direct", .int 3), ("make", .int 3), ("single", .int 2), ("late", .int 2), ("now", .int 2), ("once", .int 3), ("first", .int 2), ("fun", .int 3), ("apply", .int 3), ("if", .int 4), ("let", .int 4), ("among", .int 3), ("show", .int 2), ("then", .int 3), ("op", .int 4), ("stop", .int 3)],
  He.valsB K (He.ga K "OPS") [("+", .bl true), ("-", .bl true), ("*", .bl true), ("<", .bl true), ("=", .bl true), ("join", .bl true)],
  He.valsB K (He.ga K "STOPS") [("stop", .bl true), ("unmatched", .bl true)],
  He.valsB K (He.ga K "CLOSED") [("late", .bl true), ("once", .bl true), ("fun", .bl true)],
  He.valsB K (He.ga K "ALONE") [("int", .bl true), ("text", .bl true), ("truth", .bl true), ("slot", .bl true), ("send", .bl true), ("once", .bl true), ("op", .bl true), ("stop", .bl true)],
  noIn K "PLACES" ["unit", "int", "text", "truth", "local", "direct", "make", "single"],
  noIn K "ROWS" ["unit", "int", "text", "truth", "local", "slot", "fill", "single", "late", "now", "once", "first", "fun", "if", "let", "among", "show", "then", "op", "stop"],
  noIn K "CLOSED" ["unit", "int", "text", "truth", "local", "slot", "fill", "send", "direct", "make", "single", "now", "first", "apply", "if", "let", "among", "show", "then", "op", "stop"],
  noIn K "ALONE" ["unit", "local", "fill", "direct", "make", "single", "late", "now", "first", "fun", "apply", "if", "let", "among", "show", "then"]]
def ex (K : PySem.W.Frag) : Bool := (exs K).all id
abbrev R : PySem.W.OpenRow := PySem.W.OpenLaw.row PySem.Challenge.rw_linearmix_k70_reach
abbrev hk : PySem.W.Hook := He.hookX 5 fa fn ts [] ex
def ob (s : PySem.W.SharedT) : He.AlX := He.obsX 5 fa fn ts [] ex (HandSHeadRun.getT s)
theorem ob_eq (s : PySem.W.SharedT) : ob s = hk.obs s.abs := He.obsX_eq (HandSHeadRun.getT_eq s)
def loose0 : List Str := ["PLACES", "ROWS", "inner_cs", "all_cs", "asked_in", "row_body", "bodies_asked", "reach_in", "is_closed_reach", "MixError", "BadCore", "is_whole", "is_count", "MOST_TABLES", "MOST_SINGLES", "MOST_BODIES", "MOST_LOCALS", "MOST_WITHIN", "MOST_SIGNS", "SIZES", "OPS", "STOPS", "CLOSED", "ALONE", "is_core_text", "is_row", "is_text_row", "is_number_row", "is_ascending", "is_body"]
def loose1 : List Str := ["is_entry", "is_start", "are_sends", "is_table", "is_single", "has_form", "fits_alone", "BodyLook", "core_is_right", "need_core", "reach", "reach_holds", "_law_feed", "_law_draw", "_law_one", "_law_ask", "_law_graph", "_law_flat", "_law_closure", "_law_only", "_law_asked", "_law_c", "_law_core", "_law_drawn", "_law_others", "_law_right"]
def loose : List Str := loose0 ++ loose1
abbrev lawAt : Nat := 63
theorem run_f (w : World) : HandSHeadRun.RunEq R (PySem.W.view R.prog [lawAt]) hk ob 8000 loose (w.withFollow "special-get-raises" false) := by
  intro os
  kernel_rfl
theorem run_t (w : World) : HandSHeadRun.RunEq R (PySem.W.view R.prog [lawAt]) hk ob 8000 loose (w.withFollow "special-get-raises" true) := by
  intro os
  kernel_rfl
theorem run (w : World) : HandSHeadRun.RunEq R (PySem.W.view R.prog [lawAt]) hk ob 8000 loose w := PySem.W.byRow2 "special-get-raises" run_f run_t w
end K70
set_option maxRecDepth 100000
set_option maxHeartbeats 1000000
namespace K70
open PySem PySem.Spec PyProof.Rows L2 DL
def tb_PLACES : List (Str × Option D) := [("slot", some (.tup [.int 1])), ("fill", some (.tup [.int 2, .int 3])), ("send", some (.tup [.int 1])), ("late", some (.tup [.int 1])), ("now", some (.tup [.int 1])), ("once", some (.tup [.int 2])), ("first", some (.tup [.int 1])), ("fun", some (.tup [.int 2])), ("apply", some (.tup [.int 1])), ("if", some (.tup [.int 1, .int 2, .int 3])), ("let", some (.tup [.int 2, .int 3])), ("among", some (.tup [.int 1])), ("show", some (.tup [.int 1])), ("then", some (.tup [.int 1, .int 2])), ("op", some (.tup [.int 2, .int 3])), ("stop", some (.tup [.int 2])), ("unit", none), ("int", none), ("text", none), ("truth", none), ("local", none), ("direct", none), ("make", none), ("single", none)]
def tb_ROWS : List (Str × Option D) := [("send", some (.int 3)), ("direct", some (.int 2)), ("make", some (.int 2)), ("apply", some (.int 2)), ("unit", none), ("int", none), ("text", none), ("truth", none), ("local", none), ("slot", none), ("fill", none), ("single", none), ("late", none), ("now", none), ("once", none), ("first", none), ("fun", none), ("if", none), ("let", none), ("among", none), ("show", none), ("then", none), ("op", none), ("stop", none)]
def tb_SIZES : List (Str × Option D) := [("int", some (.int 2)), ("text", some (.int 2)), ("truth", some (.int 2)), ("unit", some (.int 1)), ("local", some (.int 2)), ("slot", some (.int 3)), ("fill", some (.int 4)), ("send", some (.int 4)), ("direct", some (.int 3)), ("make", some (.int 3)), ("single", some (.int 2)), ("late", some (.int 2)), ("now", some (.int 2)), ("once", some (.int 3)), ("first", some (.int 2)), ("fun", some (.int 3)), ("apply", some (.int 3)), ("if", some (.int 4)), ("let", some (.int 4)), ("among", some (.int 3)), ("show", some (.int 2)), ("then", some (.int 3)), ("op", some (.int 4)), ("stop", some (.int 3))]
def tb_OPS : List (Str × Option D) := [("+", some (.bl true)), ("-", some (.bl true)), ("*", some (.bl true)), ("<", some (.bl true)), ("=", some (.bl true)), ("join", some (.bl true))]
def tb_STOPS : List (Str × Option D) := [("stop", some (.bl true)), ("unmatched", some (.bl true))]
def tb_CLOSED : List (Str × Option D) := [("late", some (.bl true)), ("once", some (.bl true)), ("fun", some (.bl true)), ("unit", none), ("int", none), ("text", none), ("truth", none), ("local", none), ("slot", none), ("fill", none), ("send", none), ("direct", none), ("make", none), ("single", none), ("now", none), ("first", none), ("apply", none), ("if", none), ("let", none), ("among", none), ("show", none), ("then", none), ("op", none), ("stop", none)]
def tb_ALONE : List (Str × Option D) := [("int", some (.bl true)), ("text", some (.bl true)), ("truth", some (.bl true)), ("slot", some (.bl true)), ("send", some (.bl true)), ("once", some (.bl true)), ("op", some (.bl true)), ("stop", some (.bl true)), ("unit", none), ("local", none), ("fill", none), ("direct", none), ("make", none), ("single", none), ("late", none), ("now", none), ("first", none), ("fun", none), ("apply", none), ("if", none), ("let", none), ("among", none), ("show", none), ("then", none)]
def N_inner_cs : List Str := ["c", "found", "place"]
def rd_inner_cs : DS := dSeq (dAsg (dLc mkP (dInQ (dWGet tb_PLACES (dOp gIx (dVar 0) (dC (.int 0))) (dTup dNil))) (dgName 2) dYes (dOp gIx (dVar 0) (dVar 2)) [2]) (dgName 1)) (dSeq (dIfS (dTst (dWIn tb_ROWS (dOp gIx (dVar 0) (dC (.int 0))))) (dDrop (dBM gExtend (dVar 1) (dCons (dCB (gList mkF) (dCons (dOp gIx (dVar 0) (dWItem tb_ROWS (dOp gIx (dVar 0) (dC (.int 0))))) dNil)) dNil))) dNext) (dRet (dFrz (dVar 1))))
def F_inner_cs : DF := fun ds M R => ds.length = 1 ∧ rd_inner_cs { nx := fun _ M' => R .non (keepM M M'), rt := fun x M' => R x (keepM M M') } (dstart N_inner_cs ds) M
def N_row_body : List Str := ["table", "selector", "row"]
def rd_row_body : DS := dSeq (dFor (dInQ (dOp gIx (dVar 0) (dC (.int 4)))) (dgName 2) (dIfS (dTst (dOp gEq (dOp gIx (dVar 2) (dC (.int 0))) (dVar 1))) (dRet (dOp gIx (dVar 2) (dC (.int 1)))) dNext)) (dRet (dC .non))
def F_row_body : DF := fun ds M R => ds.length = 2 ∧ rd_row_body { nx := fun _ M' => R .non (keepM M M'), rt := fun x M' => R x (keepM M M') } (dstart N_row_body ds) M
def N_is_whole : List Str := ["thing"]
def rd_is_whole : DS := dRet (dAndV (dIsT .int (dVar 0)) (dNotV (dIsT .bool (dVar 0))))
def F_is_whole : DF := fun ds M R => ds.length = 1 ∧ rd_is_whole { nx := fun _ M' => R .non (keepM M M'), rt := fun x M' => R x (keepM M M') } (dstart N_is_whole ds) M
def N_is_core_text : List Str := ["thing", "least", "sign"]
def rd_is_core_text : DS := dSeq (dIfS (dOr (dNot (dTst (dIsT .str (dVar 0)))) (dOr (dTst (dOp gLt (dCB gLen (dCons (dVar 0) dNil)) (dVar 1))) (dTst (dOp gGt (dCB gLen (dCons (dVar 0) dNil)) (dC (.int 80)))))) (dRet (dC (.bl false))) dNext) (dRet (dCB gAll (dCons (dLc mkF (dInS (dVar 0)) (dgName 2) dYes (dChain (gStr leT) (gStr leT) (dC (.str " ")) (dVar 2) (dC (.str "~"))) [2]) dNil)))
def F_is_core_text : DF := fun ds M R => ds.length = 2 ∧ rd_is_core_text { nx := fun _ M' => R .non (keepM M M'), rt := fun x M' => R x (keepM M M') } (dstart N_is_core_text ds) M
def N_is_row : List Str := ["thing", "most"]
def rd_is_row : DS := dRet (dAndV (dIsT .tuple (dVar 0)) (dOp gLe (dCB gLen (dCons (dVar 0) dNil)) (dVar 1)))
def F_is_row : DF := fun ds M R => ds.length = 2 ∧ rd_is_row { nx := fun _ M' => R .non (keepM M M'), rt := fun x M' => R x (keepM M M') } (dstart N_is_row ds) M
def N_has_form : List Str := ["thing"]
def rd_has_form : DS := dSeq (dIfS (dOr (dNot (dTst (dIsT .tuple (dVar 0)))) (dOr (dTst (dOp gEq (dCB gLen (dCons (dVar 0) dNil)) (dC (.int 0)))) (dOr (dNot (dTst (dIsT .str (dOp gIx (dVar 0) (dC (.int 0)))))) (dTst (dWNotIn tb_SIZES (dOp gIx (dVar 0) (dC (.int 0)))))))) (dRet (dC (.bl false))) dNext) (dSeq (dIfS (dTst (dOp gNe (dCB gLen (dCons (dVar 0) dNil)) (dWItem tb_SIZES (dOp gIx (dVar 0) (dC (.int 0)))))) (dRet (dC (.bl false))) dNext) (dRet (dOrV (dWNotIn tb_ROWS (dOp gIx (dVar 0) (dC (.int 0)))) (dIsT .tuple (dOp gIx (dVar 0) (dWItem tb_ROWS (dOp gIx (dVar 0) (dC (.int 0)))))))))
def F_has_form : DF := fun ds M R => ds.length = 1 ∧ rd_has_form { nx := fun _ M' => R .non (keepM M M'), rt := fun x M' => R x (keepM M M') } (dstart N_has_form ds) M
def N_BodyLook_init : List Str := ["self", "core", "number"]
def rd_BodyLook_init (C : Addr) : DS := dSeq (dSFld C "tables" (dVar 0) (dOp gIx (dVar 1) (dC (.int 0)))) (dSeq (dSFld C "bodies" (dVar 0) (dOp gIx (dVar 1) (dC (.int 1)))) (dSeq (dSFld C "singles" (dVar 0) (dOp gIx (dVar 1) (dC (.int 2)))) (dSeq (dAsg (dOp gIx (dOp gIx (dVar 1) (dC (.int 1))) (dVar 2)) (dgTup 3 (dgCons (dgFld C "params" (dVar 0)) (dgCons (dgFld C "further" (dVar 0)) (dgCons (dgFld C "c" (dVar 0)) dgNil))))) (dSFld C "bound" (dVar 0) (dNewD mkDP)))))
def F_BodyLook_init (C : Addr) : DF := fun ds M R => ds.length = 3 ∧ rd_BodyLook_init C { nx := fun _ M' => R .non M', rt := R } (dstart N_BodyLook_init ds) M
def N_BodyLook_seen_in : List Str := ["self", "c", "at", "seen", "params", "number"]
def rd_BodyLook_seen_in : DS := dSeq (dIfS (dAnd (dTst (dOp gEq (dOp gIx (dVar 1) (dC (.int 0))) (dC (.str "let")))) (dTst (dOp gEq (dVar 2) (dC (.int 1))))) (dRet (dMrg1 (dVar 3) (dOp gIx (dVar 1) (dC (.int 1))) (dC (.bl true)))) dNext) (dSeq (dIfS (dTst (dOp gEq (dOp gIx (dVar 1) (dC (.int 0))) (dC (.str "fun")))) (dSeq (dAsg (dDc mkDF (dInQ (dOp gIx (dVar 1) (dC (.int 1)))) (dgName 5) dYes (dVar 5) (dC (.bl true)) [5]) (dgName 4)) (dRet (dMrg2 (dVar 3) (dVar 4)))) dNext) (dRet (dVar 3)))
def F_BodyLook_seen_in : DF := fun ds M R => ds.length = 4 ∧ rd_BodyLook_seen_in { nx := fun _ M' => R .non (keepM M M'), rt := fun x M' => R x (keepM M M') } (dstart N_BodyLook_seen_in ds) M
def N__law_feed : List Str := ["_law_script", "_law_k", "_law_cell"]
def rd__law_feed : DS := dSeq (dAsg (dOp gAdd (dOp gMulX (dC (.int 977)) (dVar 1)) (dCB gSum (dCons (dSl (gSlL mkF) (dVar 0) dNo (dPart (dC (.int 1)))) dNil))) (dgName 2)) (dSeq (dIfS (dTst (dOp gLt (dVar 1) (dCB gLen (dCons (dVar 0) dNil)))) (dAsg (dOp gIx (dVar 0) (dVar 1)) (dgName 2)) dNext) (dRet (dLst mkP (dCons (dCB (gII fun i j => if j > i then j else i) (dCons (dC (.int 0)) (dCons (dOp gSub (dVar 2) (dOp gPow (dC (.int 10)) (dC (.int 18)))) dNil))) (dCons (dOp gMod (dCB gInt (dCons (dOp gAdd (dOp gMulX (dVar 2) (dC (.int 19))) (dOp gMulX (dC (.int 7)) (dVar 1))) dNil)) (dOp gAdd (dOp gPow (dC (.int 10)) (dC (.int 39))) (dC (.int 23)))) (dCons (dC (.int 0)) dNil))))))
def F__law_feed : DF := fun ds M R => ds.length = 2 ∧ rd__law_feed { nx := fun _ M' => R .non M', rt := R } (dstart N__law_feed ds) M
def N__law_draw : List Str := ["_law_feed_here", "_law_many", "_law_rest", "_law_got", "_law_stir"]
def rd__law_draw : DS := dSeq (dIfS (dTst (dOp gGt (dOp gIx (dVar 0) (dC (.int 0))) (dC (.int 0)))) (dSeq (dAsg (dOp gFdiv (dOp gIx (dVar 0) (dC (.int 0))) (dVar 1)) (dgName 2)) (dSeq (dAsg (dOp gSub (dOp gIx (dVar 0) (dC (.int 0))) (dOp gMulX (dVar 2) (dVar 1))) (dgName 3)) (dSeq (dAsg (dVar 2) (dgSub (dVar 0) (dC (.int 0)))) (dRet (dVar 3))))) dNext) (dSeq (dAsg (dOp gAdd (dOp gIx (dVar 0) (dC (.int 2))) (dC (.int 1))) (dgSub (dVar 0) (dC (.int 2)))) (dSeq (dAsg (dOp gAdd (dOp gIx (dVar 0) (dC (.int 1))) (dOp gMulX (dC (.int 6700417)) (dOp gIx (dVar 0) (dC (.int 2))))) (dgName 4)) (dSeq (dAsg (dOp gMod (dCB gInt (dCons (dOp gAdd (dOp gMulX (dOp gMulX (dVar 4) (dVar 4)) (dVar 4)) (dOp gMulX (dC (.int 15485863)) (dOp gIx (dVar 0) (dC (.int 2))))) dNil)) (dOp gAdd (dOp gPow (dC (.int 10)) (dC (.int 43))) (dC (.int 57)))) (dgName 4)) (dSeq (dAsg (dOp gMod (dCB gInt (dCons (dOp gAdd (dOp gMulX (dVar 4) (dVar 4)) (dC (.int 32452843))) dNil)) (dOp gAdd (dOp gPow (dC (.int 10)) (dC (.int 38))) (dC (.int 133)))) (dgName 4)) (dRet (dOp gMod (dCB gInt (dCons (dOp gFdiv (dVar 4) (dOp gPow (dC (.int 10)) (dC (.int 9)))) dNil)) (dVar 1)))))))
def F__law_draw : DF := fun ds M R => ds.length = 2 ∧ rd__law_draw { nx := fun _ M' => R .non (keepM M M'), rt := fun x M' => R x (keepM M M') } (dstart N__law_draw ds) M
def N__law_flat : List Str := ["_law_asks", "_law_got", "_law_left", "_law_ask_here", "_law_inner"]
def rd__law_flat : DS := dSeq (dPar 1 2 (dLst mkP dNil) (dCB (gList mkP) (dCons (dVar 0) dNil))) (dSeq (dWhile (dTst (dOp gNeNil (dVar 2) (dLst mkF dNil))) (dSeq (dAsg (dBM gPop0 (dVar 2) dNil) (dgName 3)) (dSeq (dDrop (dBM gAppend (dVar 1) (dCons (dVar 3) dNil))) (dDrop (dBM gExtend (dVar 2) (dCons (dLc mkF (dInQ (dOp gIx (dVar 3) (dC (.int 2)))) (dgName 4) (dTst (dOp gNotN (dVar 4) (dC .non))) (dVar 4) [4]) dNil)))))) (dRet (dFrz (dVar 1))))
def F__law_flat : DF := fun ds M R => ds.length = 1 ∧ rd__law_flat { nx := fun _ M' => R .non (keepM M M'), rt := fun x M' => R x (keepM M M') } (dstart N__law_flat ds) M
def N__law_only : List Str := ["_law_graph_here", "_law_least", "_law_selector", "_law_count", "_law_found", "_law_at", "_law_word", "_law_body"]
def rd__law_only : DS := dNever
def F__law_only : DF := fun ds M R => ds.length = 4 ∧ rd__law_only { nx := fun _ M' => R .non (keepM M M'), rt := fun x M' => R x (keepM M M') } (dstart N__law_only ds) M
def N__law_others : List Str := ["_law_graph_here", "_law_bodies", "_law_tables", "_law_row", "_law_at"]
def rd__law_others : DS := dSeq (dAsg (dLst mkP (dCons (dC .non) (dCons (dTup dNil) (dCons (dTup (dCons (dVar 1) dNil)) (dCons (dTup (dCons (dCB (gList mkF) (dCons (dVar 1) dNil)) (dCons (dVar 2) dNil))) (dCons (dTup (dCons (dVar 1) (dCons (dCB (gList mkF) (dCons (dVar 2) dNil)) dNil))) (dCons (dLst mkF (dCons (dVar 1) (dCons (dVar 2) dNil))) (dCons (dTup (dCons (dVar 1) (dCons (dVar 2) (dCons (dTup dNil) dNil)))) (dCons (dTup (dCons (dOp gCatT (dVar 1) (dSl gSlT (dVar 1) (dPart (dNeg (dC (.int 1)))) dNo)) (dCons (dVar 2) dNil))) (dCons (dTup (dCons (dOp gCatT (dVar 1) (dTup (dCons (dCB gLen (dCons (dOp gIx (dVar 0) (dC (.int 0))) dNil)) dNil))) (dCons (dVar 2) dNil))) (dCons (dTup (dCons (dVar 1) (dCons (dOp gCatT (dVar 2) (dTup (dCons (dCB gLen (dCons (dOp gIx (dVar 0) (dC (.int 2))) dNil)) dNil))) dNil))) (dCons (dTup (dCons (dOp gCatT (dTup (dCons (dNeg (dC (.int 1))) dNil)) (dVar 1)) (dCons (dVar 2) dNil))) (dCons (dTup (dCons (dOp gCatT (dTup (dCons (dC (.bl true)) dNil)) (dVar 1)) (dCons (dVar 2) dNil))) (dCons (dIf (dTst (dOp gNeD (dVar 2) (dVar 1))) (dTup (dCons (dVar 2) (dCons (dVar 1) dNil))) (dC (.int 0))) (dCons (dTup (dCons (dVar 1) (dCons (dOp gCatT (dVar 2) (dTup (dCons (dC (.str "0")) dNil))) dNil))) dNil))))))))))))))) (dgName 3)) (dSeq (dIfS (dTst (dOp gGt (dCB gLen (dCons (dVar 1) dNil)) (dC (.int 1)))) (dDrop (dBM gAppend (dVar 3) (dCons (dTup (dCons (dRevT (dVar 1)) (dCons (dVar 2) dNil))) dNil))) dNext) (dSeq (dIfS (dTst (dOp gGt (dCB gLen (dCons (dVar 2) dNil)) (dC (.int 1)))) (dDrop (dBM gAppend (dVar 3) (dCons (dTup (dCons (dVar 1) (dCons (dRevT (dVar 2)) dNil))) dNil))) dNext) (dSeq (dFor (dInR (dCB gLen (dCons (dVar 1) dNil))) (dgName 4) (dDrop (dBM gAppend (dVar 3) (dCons (dTup (dCons (dOp gCatT (dSl gSlT (dVar 1) dNo (dPart (dVar 4))) (dSl gSlT (dVar 1) (dPart (dOp gAdd (dVar 4) (dC (.int 1)))) dNo)) (dCons (dVar 2) dNil))) dNil)))) (dSeq (dFor (dInR (dCB gLen (dCons (dVar 2) dNil))) (dgName 4) (dDrop (dBM gAppend (dVar 3) (dCons (dTup (dCons (dVar 1) (dCons (dOp gCatT (dSl gSlT (dVar 2) dNo (dPart (dVar 4))) (dSl gSlT (dVar 2) (dPart (dOp gAdd (dVar 4) (dC (.int 1)))) dNo)) dNil))) dNil)))) (dRet (dFrz (dVar 3)))))))
def F__law_others : DF := fun ds M R => ds.length = 3 ∧ rd__law_others { nx := fun _ M' => R .non (keepM M M'), rt := fun x M' => R x (keepM M M') } (dstart N__law_others ds) M
def N_all_cs : List Str := ["c", "found", "left", "one"]
def rd_all_cs : DS := dSeq (dAsg (dLst mkP dNil) (dgName 1)) (dSeq (dAsg (dLst mkP (dCons (dVar 0) dNil)) (dgName 2)) (dSeq (dWhile (dTst (dOp gNeNil (dVar 2) (dLst mkF dNil))) (dSeq (dAsg (dBM gPop0 (dVar 2) dNil) (dgName 3)) (dSeq (dDrop (dBM gAppend (dVar 1) (dCons (dVar 3) dNil))) (dDrop (dBM gExtend (dVar 2) (dCons (dCall F_inner_cs (dCons (dVar 3) dNil)) dNil)))))) (dRet (dFrz (dVar 1)))))
def F_all_cs : DF := fun ds M R => ds.length = 1 ∧ rd_all_cs { nx := fun _ M' => R .non (keepM M M'), rt := fun x M' => R x (keepM M M') } (dstart N_all_cs ds) M
def N_bodies_asked : List Str := ["core", "asked", "made", "makes", "calls", "singles", "selectors", "found", "number", "selector", "rows", "row"]
def rd_bodies_asked : DS := dSeq (dAsg (dVar 1) (dgTup 4 (dgCons (dgName 3) (dgCons (dgName 4) (dgCons (dgName 5) (dgCons (dgName 6) dgNil)))))) (dSeq (dAsg (dOp (gCatL mkP) (dOp (gCatL mkF) (dLc mkF (dInQ (dVar 3)) (dgName 8) dYes (dOp gIx (dOp gIx (dOp gIx (dVar 0) (dC (.int 0))) (dVar 8)) (dC (.int 5))) [8]) (dCB (gList mkF) (dCons (dVar 4) dNil))) (dLc mkF (dInQ (dVar 5)) (dgName 8) dYes (dOp gIx (dOp gIx (dOp gIx (dVar 0) (dC (.int 2))) (dVar 8)) (dC (.int 0))) [8])) (dgName 7)) (dSeq (dFor (dInQ (dVar 6)) (dgName 9) (dSeq (dAsg (dLc mkF (dInQ (dVar 2)) (dgName 8) dYes (dCall F_row_body (dCons (dOp gIx (dOp gIx (dVar 0) (dC (.int 0))) (dVar 8)) (dCons (dVar 9) dNil))) [8]) (dgName 10)) (dDrop (dBM gExtend (dVar 7) (dCons (dLc mkF (dInQ (dVar 10)) (dgName 11) (dTst (dOp gNotN (dVar 11) (dC .non))) (dVar 11) [11]) dNil))))) (dRet (dFrz (dVar 7)))))
def F_bodies_asked : DF := fun ds M R => ds.length = 3 ∧ rd_bodies_asked { nx := fun _ M' => R .non (keepM M M'), rt := fun x M' => R x (keepM M M') } (dstart N_bodies_asked ds) M
def N_is_count : List Str := ["thing", "most"]
def rd_is_count : DS := dRet (dAndV (dCall F_is_whole (dCons (dVar 0) dNil)) (dChain gLe gLe (dC (.int 0)) (dVar 0) (dVar 1)))
def F_is_count : DF := fun ds M R => ds.length = 2 ∧ rd_is_count { nx := fun _ M' => R .non (keepM M M'), rt := fun x M' => R x (keepM M M') } (dstart N_is_count ds) M
def N_is_text_row : List Str := ["thing", "one"]
def rd_is_text_row : DS := dRet (dAndV (dIsT .tuple (dVar 0)) (dCB gAll (dCons (dLc mkF (dInQ (dVar 0)) (dgName 1) dYes (dCall F_is_core_text (dCons (dVar 1) (dCons (dC (.int 1)) dNil))) [1]) dNil)))
def F_is_text_row : DF := fun ds M R => ds.length = 1 ∧ rd_is_text_row { nx := fun _ M' => R .non (keepM M M'), rt := fun x M' => R x (keepM M M') } (dstart N_is_text_row ds) M
def N_fits_alone : List Str := ["c", "word"]
def rd_fits_alone : DS := dSeq (dAsg (dOp gIx (dVar 0) (dC (.int 0))) (dgName 1)) (dSeq (dIfS (dTst (dOp gEq (dVar 1) (dC (.str "int")))) (dRet (dCall F_is_whole (dCons (dOp gIx (dVar 0) (dC (.int 1))) dNil))) dNext) (dSeq (dIfS (dTst (dOp gEq (dVar 1) (dC (.str "truth")))) (dRet (dIsT .bool (dOp gIx (dVar 0) (dC (.int 1))))) dNext) (dSeq (dIfS (dTst (dOp gEq (dVar 1) (dC (.str "slot")))) (dRet (dAndV (dCall F_is_whole (dCons (dOp gIx (dVar 0) (dC (.int 2))) dNil)) (dOp gGe (dOp gIx (dVar 0) (dC (.int 2))) (dC (.int 0))))) dNext) (dSeq (dIfS (dTst (dOp gEq (dVar 1) (dC (.str "op")))) (dRet (dAndV (dIsT .str (dOp gIx (dVar 0) (dC (.int 1)))) (dWIn tb_OPS (dOp gIx (dVar 0) (dC (.int 1)))))) dNext) (dSeq (dIfS (dTst (dOp gEq (dVar 1) (dC (.str "stop")))) (dRet (dAndV (dIsT .str (dOp gIx (dVar 0) (dC (.int 1)))) (dWIn tb_STOPS (dOp gIx (dVar 0) (dC (.int 1)))))) dNext) (dSeq (dIfS (dTst (dOp gEq (dVar 1) (dC (.str "send")))) (dRet (dCall F_is_core_text (dCons (dOp gIx (dVar 0) (dC (.int 2))) (dCons (dC (.int 1)) dNil)))) dNext) (dRet (dCall F_is_core_text (dCons (dOp gIx (dVar 0) (dC (.int 1))) (dCons (dIf (dTst (dOp gEq (dVar 1) (dC (.str "text")))) (dC (.int 0)) (dC (.int 1))) dNil))))))))))
def F_fits_alone : DF := fun ds M R => ds.length = 1 ∧ rd_fits_alone { nx := fun _ M' => R .non (keepM M M'), rt := fun x M' => R x (keepM M M') } (dstart N_fits_alone ds) M
def N__law_one : List Str := ["_law_feed_here", "_law_things"]
def rd__law_one : DS := dRet (dOp gIx (dVar 1) (dCall F__law_draw (dCons (dVar 0) (dCons (dCB gLen (dCons (dVar 1) dNil)) dNil))))
def F__law_one : DF := fun ds M R => ds.length = 2 ∧ rd__law_one { nx := fun _ M' => R .non (keepM M M'), rt := fun x M' => R x (keepM M M') } (dstart N__law_one ds) M
def N__law_closure : List Str := ["_law_graph_here", "_law_begun", "_law_made", "_law_params", "_law_asks", "_law_tables", "_law_singles", "_law_main", "_law_bodies", "_law_rows", "_law_at", "_law_flat_here", "_law_row", "_law_turn", "_law_ask_here", "_law_number", "_law_sends", "_law_begin", "_law_word", "_law_body"]
def rd__law_closure : DS := dSeq (dAsg (dVar 0) (dgTup 5 (dgCons (dgName 3) (dgCons (dgName 4) (dgCons (dgName 5) (dgCons (dgName 6) (dgCons (dgName 7) dgNil))))))) (dSeq (dAsg (dTup (dCons (dLc mkP (dInR (dCB gLen (dCons (dVar 3) dNil))) (dgName 10) dYes (dOp (gInI false) (dVar 10) (dVar 1)) [10]) (dCons (dLc mkP (dInR (dCB gLen (dCons (dVar 5) dNil))) (dgName 10) dYes (dOp (gInI false) (dVar 10) (dVar 2)) [10]) dNil))) (dgTup 2 (dgCons (dgName 8) (dgCons (dgName 9) dgNil)))) (dSeq (dAsg (dLc mkF (dInQ (dVar 4)) (dgName 12) dYes (dCall F__law_flat (dCons (dVar 12) dNil)) [12]) (dgName 11)) (dSeq (dFor (dInR (dOp gAdd (dOp gAdd (dCB gLen (dCons (dVar 3) dNil)) (dCB gLen (dCons (dVar 5) dNil))) (dC (.int 1)))) (dgName 13) (dFor (dInR (dCB gLen (dCons (dVar 3) dNil))) (dgName 10) (dFor (dInQ (dIf (dTst (dOp gIx (dVar 8) (dVar 10))) (dOp gIx (dVar 11) (dVar 10)) (dLst mkF dNil))) (dgName 14) (dIfS (dTst (dOp gEq (dOp gIx (dVar 14) (dC (.int 0))) (dC (.str "direct")))) (dAsg (dC (.bl true)) (dgSub (dVar 8) (dOp gIx (dVar 14) (dC (.int 1))))) (dIfS (dTst (dOp gEq (dOp gIx (dVar 14) (dC (.int 0))) (dC (.str "single")))) (dAsg (dC (.bl true)) (dgSub (dVar 8) (dOp gIx (dVar 6) (dOp gIx (dVar 14) (dC (.int 1)))))) (dIfS (dTst (dOp gEq (dOp gIx (dVar 14) (dC (.int 0))) (dC (.str "make")))) (dSeq (dAsg (dC (.bl true)) (dgSub (dVar 9) (dOp gIx (dVar 14) (dC (.int 1))))) (dAsg (dC (.bl true)) (dgSub (dVar 8) (dOp gIx (dOp gIx (dVar 5) (dOp gIx (dVar 14) (dC (.int 1)))) (dC (.int 1)))))) (dFor (dInE (dVar 5)) (dgTup 2 (dgCons (dgName 15) (dgCons (dgTup 2 (dgCons (dgName 16) (dgCons (dgName 17) dgNil))) dgNil))) (dFor (dInQ (dIf (dTst (dOp gIx (dVar 9) (dVar 15))) (dVar 16) (dLst mkF dNil))) (dgTup 2 (dgCons (dgName 18) (dgCons (dgName 19) dgNil))) (dIfS (dTst (dOp gEq (dVar 18) (dOp gIx (dVar 14) (dC (.int 1))))) (dAsg (dC (.bl true)) (dgSub (dVar 8) (dVar 19))) dNext))))))))) (dRet (dTup (dCons (dCB gTuple (dCons (dLc mkF (dInR (dCB gLen (dCons (dVar 3) dNil))) (dgName 10) (dTst (dOp gIx (dVar 8) (dVar 10))) (dVar 10) [10]) dNil)) (dCons (dCB gTuple (dCons (dLc mkF (dInR (dCB gLen (dCons (dVar 5) dNil))) (dgName 10) (dTst (dOp gIx (dVar 9) (dVar 10))) (dVar 10) [10]) dNil)) dNil)))))))
def F__law_closure : DF := fun ds M R => ds.length = 3 ∧ rd__law_closure { nx := fun _ M' => R .non (keepM M M'), rt := fun x M' => R x (keepM M M') } (dstart N__law_closure ds) M
def N__law_asked : List Str := ["_law_ask_here", "_law_graph_here", "_law_names", "_law_least", "_law_cs", "_law_inner", "_law_number"]
def F__law_asked : Nat → DF
  | 0 => fun _ _ _ => False
  | n + 1 => fun ds M R => ds.length = 4 ∧ (dSeq (dAsg (dCB gTuple (dCons (dLc mkF (dInQ (dOp gIx (dVar 0) (dC (.int 2)))) (dgName 5) dYes (dIf (dTst (dOp gIsN (dVar 5) (dC .non))) (dTup (dCons (dC (.str "unit")) dNil)) (dCall (F__law_asked n) (dCons (dVar 5) (dCons (dVar 1) (dCons (dVar 2) (dCons (dVar 3) dNil)))))) [5]) dNil)) (dgName 4)) (dSeq (dIfS (dTst (dOp gEq (dOp gIx (dVar 0) (dC (.int 0))) (dC (.str "direct")))) (dRet (dTup (dCons (dC (.str "direct")) (dCons (dOp gIx (dOp gIx (dVar 2) (dC (.int 0))) (dOp gIx (dVar 0) (dC (.int 1)))) (dCons (dVar 4) dNil))))) dNext) (dSeq (dIfS (dTst (dOp gEq (dOp gIx (dVar 0) (dC (.int 0))) (dC (.str "make")))) (dRet (dTup (dCons (dC (.str "make")) (dCons (dOp gIx (dOp gIx (dVar 2) (dC (.int 1))) (dOp gIx (dVar 0) (dC (.int 1)))) (dCons (dVar 4) dNil))))) dNext) (dSeq (dIfS (dTst (dOp gEq (dOp gIx (dVar 0) (dC (.int 0))) (dC (.str "single")))) (dRet (dTup (dCons (dC (.str "single")) (dCons (dOp gIx (dOp gIx (dVar 2) (dC (.int 2))) (dOp gIx (dVar 0) (dC (.int 1)))) dNil)))) dNext) (dSeq (dAsg (dIf (dTst (dOp gIsN (dVar 3) (dC .non))) (dC .non) (dCall F__law_only (dCons (dVar 1) (dCons (dVar 3) (dCons (dOp gIx (dVar 0) (dC (.int 1))) (dCons (dCB gLen (dCons (dVar 4) dNil)) dNil)))))) (dgName 6)) (dRet (dIf (dTst (dOp gIsN (dVar 6) (dC .non))) (dTup (dCons (dC (.str "send")) (dCons (dOp gIx (dVar 4) (dC (.int 0))) (dCons (dOp gIx (dVar 0) (dC (.int 1))) (dCons (dSl gSlT (dVar 4) (dPart (dC (.int 1))) dNo) dNil))))) (dTup (dCons (dC (.str "direct")) (dCons (dOp gIx (dOp gIx (dVar 2) (dC (.int 0))) (dVar 6)) (dCons (dVar 4) dNil)))))))))) : DS) { nx := fun _ M' => R .non (keepM M M'), rt := fun x M' => R x (keepM M M') } (dstart N__law_asked ds) M
def N__law_drawn : List Str := ["_law_feed_here", "_law_whole", "_law_least", "_law_at"]
def rd__law_drawn : DS := dRet (dCB gTuple (dCons (dLc mkF (dInR (dVar 1)) (dgName 3) (dOr (dTst (dOp (gInI false) (dVar 3) (dVar 2))) (dTst (dOp gEq (dCall F__law_draw (dCons (dVar 0) (dCons (dC (.int 3)) dNil))) (dC (.int 0))))) (dVar 3) [3]) dNil))
def F__law_drawn : DF := fun ds M R => ds.length = 3 ∧ rd__law_drawn { nx := fun _ M' => R .non (keepM M M'), rt := fun x M' => R x (keepM M M') } (dstart N__law_drawn ds) M
def N_asked_in : List Str := ["c", "makes", "calls", "singles", "selectors", "one"]
def rd_asked_in : DS := dSeq (dAsg (dTup (dCons (dLst mkP dNil) (dCons (dLst mkP dNil) (dCons (dLst mkP dNil) (dCons (dLst mkP dNil) dNil))))) (dgTup 4 (dgCons (dgName 1) (dgCons (dgName 2) (dgCons (dgName 3) (dgCons (dgName 4) dgNil)))))) (dSeq (dFor (dInQ (dCall F_all_cs (dCons (dVar 0) dNil))) (dgName 5) (dIfS (dTst (dOp gEq (dOp gIx (dVar 5) (dC (.int 0))) (dC (.str "make")))) (dDrop (dBM gAppend (dVar 1) (dCons (dOp gIx (dVar 5) (dC (.int 1))) dNil))) (dIfS (dTst (dOp gEq (dOp gIx (dVar 5) (dC (.int 0))) (dC (.str "direct")))) (dDrop (dBM gAppend (dVar 2) (dCons (dOp gIx (dVar 5) (dC (.int 1))) dNil))) (dIfS (dTst (dOp gEq (dOp gIx (dVar 5) (dC (.int 0))) (dC (.str "single")))) (dDrop (dBM gAppend (dVar 3) (dCons (dOp gIx (dVar 5) (dC (.int 1))) dNil))) (dIfS (dTst (dOp gEq (dOp gIx (dVar 5) (dC (.int 0))) (dC (.str "send")))) (dDrop (dBM gAppend (dVar 4) (dCons (dOp gIx (dVar 5) (dC (.int 2))) dNil))) dNext))))) (dRet (dTup (dCons (dFrz (dVar 1)) (dCons (dFrz (dVar 2)) (dCons (dFrz (dVar 3)) (dCons (dFrz (dVar 4)) dNil)))))))
def F_asked_in : DF := fun ds M R => ds.length = 1 ∧ rd_asked_in { nx := fun _ M' => R .non (keepM M M'), rt := fun x M' => R x (keepM M M') } (dstart N_asked_in ds) M
def N_is_number_row : List Str := ["thing", "most", "one"]
def rd_is_number_row : DS := dRet (dAndV (dIsT .tuple (dVar 0)) (dCB gAll (dCons (dLc mkF (dInQ (dVar 0)) (dgName 2) dYes (dCall F_is_count (dCons (dVar 2) (dCons (dVar 1) dNil))) [2]) dNil)))
def F_is_number_row : DF := fun ds M R => ds.length = 2 ∧ rd_is_number_row { nx := fun _ M' => R .non (keepM M M'), rt := fun x M' => R x (keepM M M') } (dstart N_is_number_row ds) M
def N_is_body : List Str := ["thing"]
def rd_is_body : DS := dSeq (dIfS (dOr (dNot (dTst (dIsT .tuple (dVar 0)))) (dTst (dOp gNe (dCB gLen (dCons (dVar 0) dNil)) (dC (.int 3))))) (dRet (dC (.bl false))) dNext) (dRet (dAndV (dCall F_is_count (dCons (dOp gIx (dVar 0) (dC (.int 0))) (dCons (dC (.int 400)) dNil))) (dCall F_is_count (dCons (dOp gIx (dVar 0) (dC (.int 1))) (dCons (dOp gSub (dC (.int 400)) (dOp gIx (dVar 0) (dC (.int 0)))) dNil)))))
def F_is_body : DF := fun ds M R => ds.length = 1 ∧ rd_is_body { nx := fun _ M' => R .non (keepM M M'), rt := fun x M' => R x (keepM M M') } (dstart N_is_body ds) M
def N_is_entry : List Str := ["thing", "bodies"]
def rd_is_entry : DS := dRet (dAndV (dCall F_is_count (dCons (dVar 0) (dCons (dOp gSub (dCB gLen (dCons (dVar 1) dNil)) (dC (.int 1))) dNil))) (dOp gGt (dOp gIx (dOp gIx (dVar 1) (dVar 0)) (dC (.int 0))) (dC (.int 0))))
def F_is_entry : DF := fun ds M R => ds.length = 2 ∧ rd_is_entry { nx := fun _ M' => R .non (keepM M M'), rt := fun x M' => R x (keepM M M') } (dstart N_is_entry ds) M
def N_is_start : List Str := ["thing", "bodies"]
def rd_is_start : DS := dRet (dAndV (dCall F_is_count (dCons (dVar 0) (dCons (dOp gSub (dCB gLen (dCons (dVar 1) dNil)) (dC (.int 1))) dNil))) (dOp gEq (dOp gIx (dOp gIx (dVar 1) (dVar 0)) (dC (.int 0))) (dC (.int 0))))
def F_is_start : DF := fun ds M R => ds.length = 2 ∧ rd_is_start { nx := fun _ M' => R .non (keepM M M'), rt := fun x M' => R x (keepM M M') } (dstart N_is_start ds) M
def N_BodyLook_binds : List Str := ["self", "numbers", "number"]
def rd_BodyLook_binds (C : Addr) : DS := dSeq (dFor (dInQ (dVar 1)) (dgName 2) (dSeq (dIfS (dOr (dNot (dTst (dCall F_is_count (dCons (dVar 2) (dCons (dOp gSub (dOp gAdd (dFldC C "params" (dVar 0)) (dFldC C "further" (dVar 0))) (dC (.int 1))) dNil))))) (dOr (dTst (dOp gLt (dVar 2) (dFldC C "params" (dVar 0)))) (dTst (dDIn (dVar 2) (dFldC C "bound" (dVar 0)))))) (dRet (dC (.bl false))) dNext) (dSPut (dFldC C "bound" (dVar 0)) (dVar 2) (dC (.bl true))))) (dRet (dC (.bl true)))
def F_BodyLook_binds (C : Addr) : DF := fun ds M R => ds.length = 2 ∧ rd_BodyLook_binds C { nx := fun _ M' => R .non (keepM M M'), rt := fun x M' => R x (keepM M M') } (dstart N_BodyLook_binds ds) M
def N__law_ask : List Str := ["_law_feed_here", "_law_know", "_law_deep", "_law_params", "_law_tables", "_law_singles", "_law_way", "_law_number", "_law_count", "_law_word", "_law_inner", "_law_turn", "_law_table"]
def F__law_ask : Nat → DF
  | 0 => fun _ _ _ => False
  | n + 1 => fun ds M R => ds.length = 3 ∧ (dSeq (dAsg (dVar 1) (dgTup 3 (dgCons (dgName 3) (dgCons (dgName 4) (dgCons (dgName 5) dgNil))))) (dSeq (dPar3 6 7 8 (dCall F__law_draw (dCons (dVar 0) (dCons (dC (.int 5)) dNil))) (dC (.int 0)) (dC (.int 0))) (dSeq (dAsg (dC (.str "direct")) (dgName 9)) (dSeq (dIfS (dAnd (dTst (dOp gEq (dVar 6) (dC (.int 1)))) (dTst (dOp gNeNil (dVar 4) (dLst mkF dNil)))) (dSeq (dPar 9 7 (dC (.str "make")) (dCall F__law_draw (dCons (dVar 0) (dCons (dCB gLen (dCons (dVar 4) dNil)) dNil)))) (dAsg (dOp gSub (dOp gIx (dVar 3) (dOp gIx (dOp gIx (dVar 4) (dVar 7)) (dC (.int 1)))) (dC (.int 1))) (dgName 8))) (dIfS (dAnd (dTst (dOp gEq (dVar 6) (dC (.int 2)))) (dTst (dOp gNeNil (dVar 5) (dLst mkF dNil)))) (dPar 9 7 (dC (.str "single")) (dCall F__law_draw (dCons (dVar 0) (dCons (dCB gLen (dCons (dVar 5) dNil)) dNil)))) (dIfS (dTst (dOp gGt (dVar 6) (dC (.int 2)))) (dPar3 9 7 8 (dC (.str "send")) (dCall F__law_one (dCons (dVar 0) (dCons (dLst mkF (dCons (dC (.str "a")) (dCons (dC (.str "b b")) (dCons (dC (.str "c")) (dCons (dC (.str "d")) dNil))))) dNil))) (dOp gAdd (dC (.int 1)) (dCall F__law_draw (dCons (dVar 0) (dCons (dC (.int 3)) dNil))))) (dSeq (dAsg (dCall F__law_draw (dCons (dVar 0) (dCons (dCB gLen (dCons (dVar 3) dNil)) dNil))) (dgName 7)) (dAsg (dOp gIx (dVar 3) (dVar 7)) (dgName 8)))))) (dSeq (dAsg (dLc mkP (dInR (dVar 8)) (dgName 11) dYes (dIf (dAnd (dTst (dOp gGt (dVar 2) (dC (.int 0)))) (dTst (dOp gEq (dCall F__law_draw (dCons (dVar 0) (dCons (dC (.int 3)) dNil))) (dC (.int 0))))) (dCall (F__law_ask n) (dCons (dVar 0) (dCons (dVar 1) (dCons (dOp gSub (dVar 2) (dC (.int 1))) dNil)))) (dC .non)) [11]) (dgName 10)) (dSeq (dIfS (dAnd (dTst (dOp gEq (dVar 9) (dC (.str "send")))) (dAnd (dTst (dOp gNeNil (dVar 4) (dLst mkF dNil))) (dAnd (dTst (dOp gIsN (dOp gIx (dVar 10) (dC (.int 0))) (dC .non))) (dTst (dOp gGt (dCall F__law_draw (dCons (dVar 0) (dCons (dC (.int 3)) dNil))) (dC (.int 0))))))) (dSeq (dAsg (dCall F__law_draw (dCons (dVar 0) (dCons (dCB gLen (dCons (dVar 4) dNil)) dNil))) (dgName 12)) (dAsg (dTup (dCons (dC (.str "make")) (dCons (dVar 12) (dCons (dOp (gRep mkF) (dLst mkF (dCons (dC .non) dNil)) (dOp gSub (dOp gIx (dVar 3) (dOp gIx (dOp gIx (dVar 4) (dVar 12)) (dC (.int 1)))) (dC (.int 1)))) dNil)))) (dgSub (dVar 10) (dC (.int 0))))) dNext) (dRet (dTup (dCons (dVar 9) (dCons (dVar 7) (dCons (dFrz (dVar 10)) dNil)))))))))) : DS) { nx := fun _ M' => R .non (keepM M M'), rt := fun x M' => R x (keepM M M') } (dstart N__law_ask ds) M
def N__law_c : List Str := ["_law_feed_here", "_law_cs", "_law_first", "_law_names", "_law_c_here", "_law_number", "_law_unit", "_law_among", "_law_at", "_law_one_here", "_law_way", "_law_truth", "_law_tables", "_law_held"]
def rd__law_c : DS := dSeq (dPar3 4 5 6 (dTup (dCons (dC (.str "unit")) dNil)) (dVar 2) (dTup (dCons (dC (.str "unit")) dNil))) (dSeq (dAsg (dLc mkF (dInR (dCB gLen (dCons (dOp gIx (dVar 3) (dC (.int 1))) dNil))) (dgName 8) (dTst (dOp gEq (dCall F__law_draw (dCons (dVar 0) (dCons (dC (.int 2)) dNil))) (dC (.int 0)))) (dVar 8) [8]) (dgName 7)) (dSeq (dFor (dInQ (dRevL mkF (dVar 1))) (dgName 9) (dSeq (dPar 10 11 (dCall F__law_draw (dCons (dVar 0) (dCons (dC (.int 16)) dNil))) (dTup (dCons (dC (.str "truth")) (dCons (dOp gEq (dCall F__law_draw (dCons (dVar 0) (dCons (dC (.int 2)) dNil))) (dC (.int 0))) dNil)))) (dSeq (dAsg (dCB gTuple (dCons (dLc mkF (dInQ (dVar 7)) (dgName 8) (dTst (dOp gGe (dOp gIx (dOp gIx (dVar 3) (dC (.int 1))) (dVar 8)) (dC (.int 0)))) (dOp gIx (dOp gIx (dVar 3) (dC (.int 1))) (dVar 8)) [8]) dNil)) (dgName 12)) (dIfS (dTst (dOp gLt (dVar 10) (dC (.int 3)))) (dAsg (dOp gIx (dLst mkF (dCons (dTup (dCons (dC (.str "then")) (dCons (dVar 9) (dCons (dVar 4) dNil)))) (dCons (dTup (dCons (dC (.str "then")) (dCons (dTup (dCons (dC (.str "show")) (dCons (dTup (dCons (dC (.str "among")) (dCons (dVar 9) (dCons (dVar 12) dNil)))) dNil))) (dCons (dVar 4) dNil)))) (dCons (dTup (dCons (dC (.str "if")) (dCons (dVar 11) (dCons (dVar 9) (dCons (dVar 4) dNil))))) dNil)))) (dVar 10)) (dgName 4)) (dIfS (dTst (dOp gLt (dVar 10) (dC (.int 6)))) (dAsg (dTup (dCons (dC (.str "then")) (dCons (dOp gIx (dLst mkF (dCons (dTup (dCons (dC (.str "late")) (dCons (dTup (dCons (dC (.str "show")) (dCons (dVar 9) dNil))) dNil))) (dCons (dTup (dCons (dC (.str "once")) (dCons (dC (.str "o")) (dCons (dTup (dCons (dC (.str "show")) (dCons (dVar 9) dNil))) dNil)))) (dCons (dTup (dCons (dC (.str "now")) (dCons (dTup (dCons (dC (.str "late")) (dCons (dVar 9) dNil))) dNil))) dNil)))) (dOp gSub (dVar 10) (dC (.int 3)))) (dCons (dVar 4) dNil)))) (dgName 4)) (dIfS (dTst (dOp gEq (dVar 10) (dC (.int 6)))) (dSeq (dAsg (dTup (dCons (dC (.str "let")) (dCons (dVar 5) (dCons (dTup (dCons (dC (.str "fun")) (dCons (dTup (dCons (dOp gAdd (dVar 5) (dC (.int 1))) dNil)) (dCons (dVar 9) dNil)))) (dCons (dVar 4) dNil))))) (dgName 4)) (dAsg (dOp gAdd (dVar 5) (dC (.int 2))) (dgName 5))) (dIfS (dTst (dOp gEq (dVar 10) (dC (.int 7)))) (dSeq (dAsg (dTup (dCons (dC (.str "apply")) (dCons (dTup (dCons (dC (.str "fun")) (dCons (dTup (dCons (dVar 5) dNil)) (dCons (dTup (dCons (dC (.str "then")) (dCons (dVar 9) (dCons (dVar 4) dNil)))) dNil)))) (dCons (dTup (dCons (dVar 6) dNil)) dNil)))) (dgName 4)) (dAsg (dOp gAdd (dVar 5) (dC (.int 1))) (dgName 5))) (dIfS (dTst (dOp gEq (dVar 10) (dC (.int 8)))) (dAsg (dTup (dCons (dC (.str "then")) (dCons (dTup (dCons (dC (.str "first")) (dCons (dTup (dCons (dC (.str "once")) (dCons (dC (.str "f")) (dCons (dVar 9) dNil)))) dNil))) (dCons (dVar 4) dNil)))) (dgName 4)) (dIfS (dTst (dOp gLt (dVar 10) (dC (.int 11)))) (dAsg (dIf (dTst (dOp gEq (dVar 10) (dC (.int 9)))) (dTup (dCons (dC (.str "if")) (dCons (dTup (dCons (dC (.str "truth")) (dCons (dC (.bl true)) dNil))) (dCons (dVar 4) (dCons (dTup (dCons (dC (.str "stop")) (dCons (dC (.str "stop")) (dCons (dVar 9) dNil)))) dNil))))) (dTup (dCons (dC (.str "then")) (dCons (dTup (dCons (dC (.str "late")) (dCons (dTup (dCons (dC (.str "send")) (dCons (dVar 9) (dCons (dC (.str "zz")) (dCons (dTup (dCons (dVar 4) dNil)) dNil))))) dNil))) (dCons (dVar 6) dNil))))) (dgName 4)) (dIfS (dTst (dOp gLt (dVar 10) (dC (.int 14)))) (dSeq (dAsg (dOp gIx (dLst mkF (dCons (dTup (dCons (dC (.str "op")) (dCons (dC (.str "=")) (dCons (dVar 9) (dCons (dVar 9) dNil))))) (dCons (dTup (dCons (dC (.str "slot")) (dCons (dVar 9) (dCons (dC (.int 0)) dNil)))) (dCons (dTup (dCons (dC (.str "apply")) (dCons (dVar 9) (dCons (dTup (dCons (dVar 6) (dCons (dVar 9) dNil))) dNil)))) dNil)))) (dOp gSub (dVar 10) (dC (.int 11)))) (dgName 13)) (dAsg (dTup (dCons (dC (.str "then")) (dCons (dIf (dTst (dOp gIx (dVar 11) (dC (.int 1)))) (dTup (dCons (dC (.str "late")) (dCons (dVar 13) dNil))) (dVar 13)) (dCons (dVar 4) dNil)))) (dgName 4))) (dIfS (dTst (dOp gEq (dVar 10) (dC (.int 14)))) (dAsg (dIf (dTst (dOp gIx (dVar 11) (dC (.int 1)))) (dTup (dCons (dC (.str "if")) (dCons (dTup (dCons (dC (.str "among")) (dCons (dVar 9) (dCons (dVar 12) dNil)))) (dCons (dVar 6) (dCons (dVar 4) dNil))))) (dTup (dCons (dC (.str "if")) (dCons (dTup (dCons (dC (.str "among")) (dCons (dVar 9) (dCons (dVar 12) dNil)))) (dCons (dVar 4) (dCons (dVar 6) dNil)))))) (dgName 4)) (dSeq (dAsg (dTup (dCons (dC (.str "let")) (dCons (dVar 5) (dCons (dVar 9) (dCons (dVar 4) dNil))))) (dgName 4)) (dAsg (dOp gAdd (dVar 5) (dC (.int 1))) (dgName 5)))))))))))))) (dSeq (dIfS (dAnd (dTst (dOp gGt (dVar 2) (dC (.int 0)))) (dTst (dOp gEq (dCall F__law_draw (dCons (dVar 0) (dCons (dC (.int 3)) dNil))) (dC (.int 0))))) (dAsg (dTup (dCons (dC (.str "fill")) (dCons (dC (.int 0)) (dCons (dCall F__law_one (dCons (dVar 0) (dCons (dOp (gCatL mkF) (dLst mkF (dCons (dVar 6) dNil)) (dCB (gList mkF) (dCons (dVar 1) dNil))) dNil))) (dCons (dVar 4) dNil))))) (dgName 4)) dNext) (dRet (dTup (dCons (dVar 4) (dCons (dOp gSub (dVar 5) (dVar 2)) dNil)))))))
def F__law_c : DF := fun ds M R => ds.length = 4 ∧ rd__law_c { nx := fun _ M' => R .non (keepM M M'), rt := fun x M' => R x (keepM M M') } (dstart N__law_c ds) M
def N_reach_in : List Str := ["core", "asked", "body", "bodies", "tables", "count", "number", "made", "other"]
def rd_reach_in : DS := dSeq (dAsg (dLc mkF (dInQ (dOp gIx (dVar 0) (dC (.int 1)))) (dgName 2) dYes (dCall F_asked_in (dCons (dOp gIx (dVar 2) (dC (.int 2))) dNil)) [2]) (dgName 1)) (dSeq (dPar 3 4 (dDisp1 mkDP (dOp gIx (dVar 0) (dC (.int 3))) (dC (.bl true))) (dNewD mkDP)) (dSeq (dAsg (dNeg (dC (.int 1))) (dgName 5)) (dSeq (dWhile (dTst (dOp gNe (dVar 5) (dOp gAdd (dCB gLen (dCons (dVar 3) dNil)) (dCB gLen (dCons (dVar 4) dNil))))) (dSeq (dAsg (dOp gAdd (dCB gLen (dCons (dVar 3) dNil)) (dCB gLen (dCons (dVar 4) dNil))) (dgName 5)) (dFor (dInQ (dCB (gListK mkF) (dCons (dVar 3) dNil))) (dgName 6) (dSeq (dFor (dInQ (dOp gIx (dOp gIx (dVar 1) (dVar 6)) (dC (.int 0)))) (dgName 7) (dSPut (dVar 4) (dVar 7) (dC (.bl true)))) (dFor (dInQ (dCall F_bodies_asked (dCons (dVar 0) (dCons (dOp gIx (dVar 1) (dVar 6)) (dCons (dCB (gListK mkF) (dCons (dVar 4) dNil)) dNil))))) (dgName 8) (dSPut (dVar 3) (dVar 8) (dC (.bl true)))))))) (dRet (dTup (dCons (dCB (gSorted mkF) (dCons (dCB (gListK mkF) (dCons (dVar 3) dNil)) dNil)) (dCons (dCB (gSorted mkF) (dCons (dCB (gListK mkF) (dCons (dVar 4) dNil)) dNil)) dNil)))))))
def F_reach_in : DF := fun ds M R => ds.length = 1 ∧ rd_reach_in { nx := fun _ M' => R .non (keepM M M'), rt := fun x M' => R x (keepM M M') } (dstart N_reach_in ds) M
def N_is_closed_reach : List Str := ["core", "bodies", "tables", "number", "asked", "made", "other"]
def rd_is_closed_reach : DS := dSeq (dFor (dInQ (dVar 1)) (dgName 3) (dSeq (dAsg (dCall F_asked_in (dCons (dOp gIx (dOp gIx (dOp gIx (dVar 0) (dC (.int 1))) (dVar 3)) (dC (.int 2))) dNil)) (dgName 4)) (dSeq (dIfS (dNot (dTst (dCB gAll (dCons (dLc mkF (dInQ (dOp gIx (dVar 4) (dC (.int 0)))) (dgName 5) dYes (dOp (gInI false) (dVar 5) (dVar 2)) [5]) dNil)))) (dRet (dC (.bl false))) dNext) (dIfS (dNot (dTst (dCB gAll (dCons (dLc mkF (dInQ (dCall F_bodies_asked (dCons (dVar 0) (dCons (dVar 4) (dCons (dVar 2) dNil))))) (dgName 6) dYes (dOp (gInI false) (dVar 6) (dVar 1)) [6]) dNil)))) (dRet (dC (.bl false))) dNext)))) (dRet (dC (.bl true)))
def F_is_closed_reach : DF := fun ds M R => ds.length = 3 ∧ rd_is_closed_reach { nx := fun _ M' => R .non (keepM M M'), rt := fun x M' => R x (keepM M M') } (dstart N_is_closed_reach ds) M
def N_is_ascending : List Str := ["thing", "most", "one", "other"]
def rd_is_ascending : DS := dRet (dAndV (dCall F_is_number_row (dCons (dVar 0) (dCons (dVar 1) dNil))) (dCB gAll (dCons (dLc mkF (dInZT (dVar 0) (dSl gSlT (dVar 0) (dPart (dC (.int 1))) dNo)) (dgTup 2 (dgCons (dgName 2) (dgCons (dgName 3) dgNil))) dYes (dOp gLt (dVar 2) (dVar 3)) [2, 3]) dNil)))
def F_is_ascending : DF := fun ds M R => ds.length = 2 ∧ rd_is_ascending { nx := fun _ M' => R .non (keepM M M'), rt := fun x M' => R x (keepM M M') } (dstart N_is_ascending ds) M
def N_are_sends : List Str := ["thing", "bodies", "row", "one", "other"]
def rd_are_sends : DS := dSeq (dIfS (dNot (dTst (dIsT .tuple (dVar 0)))) (dRet (dC (.bl false))) dNext) (dSeq (dFor (dInQ (dVar 0)) (dgName 2) (dIfS (dOr (dNot (dTst (dIsT .tuple (dVar 2)))) (dOr (dTst (dOp gNe (dCB gLen (dCons (dVar 2) dNil)) (dC (.int 2)))) (dOr (dNot (dTst (dCall F_is_core_text (dCons (dOp gIx (dVar 2) (dC (.int 0))) (dCons (dC (.int 1)) dNil))))) (dNot (dTst (dCall F_is_entry (dCons (dOp gIx (dVar 2) (dC (.int 1))) (dCons (dVar 1) dNil)))))))) (dRet (dC (.bl false))) dNext)) (dRet (dCB gAll (dCons (dLc mkF (dInZT (dVar 0) (dSl gSlT (dVar 0) (dPart (dC (.int 1))) dNo)) (dgTup 2 (dgCons (dgName 3) (dgCons (dgName 4) dgNil))) dYes (dOp (gStr ltT) (dOp gIx (dVar 3) (dC (.int 0))) (dOp gIx (dVar 4) (dC (.int 0)))) [3, 4]) dNil))))
def F_are_sends : DF := fun ds M R => ds.length = 2 ∧ rd_are_sends { nx := fun _ M' => R .non (keepM M M'), rt := fun x M' => R x (keepM M M') } (dstart N_are_sends ds) M
def N_is_single : List Str := ["thing", "bodies"]
def rd_is_single : DS := dSeq (dIfS (dOr (dNot (dTst (dIsT .tuple (dVar 0)))) (dTst (dOp gNe (dCB gLen (dCons (dVar 0) dNil)) (dC (.int 2))))) (dRet (dC (.bl false))) dNext) (dRet (dAndV (dCall F_is_start (dCons (dOp gIx (dVar 0) (dC (.int 0))) (dCons (dVar 1) dNil))) (dCall F_is_core_text (dCons (dOp gIx (dVar 0) (dC (.int 1))) (dCons (dC (.int 1)) dNil)))))
def F_is_single : DF := fun ds M R => ds.length = 2 ∧ rd_is_single { nx := fun _ M' => R .non (keepM M M'), rt := fun x M' => R x (keepM M M') } (dstart N_is_single ds) M
def N_is_table : List Str := ["thing", "bodies", "name", "told", "further", "slots", "rows", "begin"]
def rd_is_table : DS := dSeq (dIfS (dOr (dNot (dTst (dIsT .tuple (dVar 0)))) (dTst (dOp gNe (dCB gLen (dCons (dVar 0) dNil)) (dC (.int 6))))) (dRet (dC (.bl false))) dNext) (dSeq (dAsg (dVar 0) (dgTup 6 (dgCons (dgName 2) (dgCons (dgName 3) (dgCons (dgName 4) (dgCons (dgName 5) (dgCons (dgName 6) (dgCons (dgName 7) dgNil)))))))) (dSeq (dIfS (dOr (dNot (dTst (dCall F_is_core_text (dCons (dVar 2) (dCons (dC (.int 1)) dNil))))) (dOr (dNot (dTst (dCall F_is_text_row (dCons (dVar 4) dNil)))) (dNot (dTst (dCall F_is_text_row (dCons (dVar 5) dNil)))))) (dRet (dC (.bl false))) dNext) (dSeq (dIfS (dOr (dTst (dOp gNe (dLenSet (dVar 5)) (dCB gLen (dCons (dVar 5) dNil)))) (dAnd (dTst (dOp gNotN (dVar 3) (dC .non))) (dNot (dTst (dCall F_is_number_row (dCons (dVar 3) (dCons (dOp gSub (dCB gLen (dCons (dVar 5) dNil)) (dC (.int 1))) dNil))))))) (dRet (dC (.bl false))) dNext) (dRet (dAndV (dCall F_are_sends (dCons (dVar 6) (dCons (dVar 1) dNil))) (dCall F_is_entry (dCons (dVar 7) (dCons (dVar 1) dNil))))))))
def F_is_table : DF := fun ds M R => ds.length = 2 ∧ rd_is_table { nx := fun _ M' => R .non (keepM M M'), rt := fun x M' => R x (keepM M M') } (dstart N_is_table ds) M
def N_BodyLook_fits : List Str := ["self", "c", "seen", "may_fill", "word"]
def rd_BodyLook_fits (C : Addr) : DS := dSeq (dAsg (dOp gIx (dVar 1) (dC (.int 0))) (dgName 4)) (dSeq (dIfS (dTst (dWIn tb_ALONE (dVar 4))) (dRet (dCall F_fits_alone (dCons (dVar 1) dNil))) dNext) (dSeq (dIfS (dTst (dOp gEq (dVar 4) (dC (.str "local")))) (dRet (dAndV (dCall F_is_whole (dCons (dOp gIx (dVar 1) (dC (.int 1))) dNil)) (dDIn (dOp gIx (dVar 1) (dC (.int 1))) (dVar 2)))) dNext) (dSeq (dIfS (dTst (dOp gEq (dVar 4) (dC (.str "fill")))) (dRet (dAndV (dVar 3) (dAndV (dOp gGt (dFldC C "params" (dVar 0)) (dC (.int 0))) (dAndV (dCall F_is_whole (dCons (dOp gIx (dVar 1) (dC (.int 1))) dNil)) (dOp gGe (dOp gIx (dVar 1) (dC (.int 1))) (dC (.int 0))))))) dNext) (dSeq (dIfS (dTst (dOp gEq (dVar 4) (dC (.str "let")))) (dRet (dMeth C "binds" (F_BodyLook_binds C) (dVar 0) (dCons (dTup (dCons (dOp gIx (dVar 1) (dC (.int 1))) dNil)) dNil))) dNext) (dSeq (dIfS (dTst (dOp gEq (dVar 4) (dC (.str "fun")))) (dRet (dAndV (dIsT .tuple (dOp gIx (dVar 1) (dC (.int 1)))) (dMeth C "binds" (F_BodyLook_binds C) (dVar 0) (dCons (dOp gIx (dVar 1) (dC (.int 1))) dNil)))) dNext) (dSeq (dIfS (dTst (dOp gEq (dVar 4) (dC (.str "among")))) (dRet (dCall F_is_ascending (dCons (dOp gIx (dVar 1) (dC (.int 2))) (dCons (dOp gSub (dCB gLen (dCons (dFldC C "tables" (dVar 0)) dNil)) (dC (.int 1))) dNil)))) dNext) (dSeq (dIfS (dTst (dOp gEq (dVar 4) (dC (.str "direct")))) (dRet (dAndV (dCall F_is_count (dCons (dOp gIx (dVar 1) (dC (.int 1))) (dCons (dOp gSub (dCB gLen (dCons (dFldC C "bodies" (dVar 0)) dNil)) (dC (.int 1))) dNil))) (dOp gEq (dCB gLen (dCons (dOp gIx (dVar 1) (dC (.int 2))) dNil)) (dOp gIx (dOp gIx (dFldC C "bodies" (dVar 0)) (dOp gIx (dVar 1) (dC (.int 1)))) (dC (.int 0)))))) dNext) (dSeq (dIfS (dTst (dOp gEq (dVar 4) (dC (.str "make")))) (dRet (dAndV (dCall F_is_count (dCons (dOp gIx (dVar 1) (dC (.int 1))) (dCons (dOp gSub (dCB gLen (dCons (dFldC C "tables" (dVar 0)) dNil)) (dC (.int 1))) dNil))) (dOp gEq (dOp gAdd (dCB gLen (dCons (dOp gIx (dVar 1) (dC (.int 2))) dNil)) (dC (.int 1))) (dOp gIx (dOp gIx (dFldC C "bodies" (dVar 0)) (dOp gIx (dOp gIx (dFldC C "tables" (dVar 0)) (dOp gIx (dVar 1) (dC (.int 1)))) (dC (.int 5)))) (dC (.int 0)))))) dNext) (dRet (dOrV (dOp gNe (dVar 4) (dC (.str "single"))) (dCall F_is_count (dCons (dOp gIx (dVar 1) (dC (.int 1))) (dCons (dOp gSub (dCB gLen (dCons (dFldC C "singles" (dVar 0)) dNil)) (dC (.int 1))) dNil)))))))))))))
def F_BodyLook_fits (C : Addr) : DF := fun ds M R => ds.length = 4 ∧ rd_BodyLook_fits C { nx := fun _ M' => R .non (keepM M M'), rt := fun x M' => R x (keepM M M') } (dstart N_BodyLook_fits ds) M
def N_BodyLook_is_right : List Str := ["self", "left", "number", "c", "within", "seen", "may_fill", "inner", "at", "one"]
def rd_BodyLook_is_right (C : Addr) : DS := dSeq (dAsg (dLst mkP (dCons (dTup (dCons (dFldC C "c" (dVar 0)) (dCons (dC (.int 1)) (dCons (dDc mkDF (dInR (dFldC C "params" (dVar 0))) (dgName 2) dYes (dVar 2) (dC (.bl true)) [2]) (dCons (dC (.bl true)) dNil))))) dNil)) (dgName 1)) (dSeq (dWhile (dTst (dOp gNeNil (dVar 1) (dLst mkF dNil))) (dSeq (dAsg (dBM gPop0 (dVar 1) dNil) (dgTup 4 (dgCons (dgName 3) (dgCons (dgName 4) (dgCons (dgName 5) (dgCons (dgName 6) dgNil)))))) (dSeq (dIfS (dOr (dTst (dOp gGt (dVar 4) (dC (.int 240)))) (dOr (dNot (dTst (dCall F_has_form (dCons (dVar 3) dNil)))) (dNot (dTst (dMeth C "fits" (F_BodyLook_fits C) (dVar 0) (dCons (dVar 3) (dCons (dVar 5) (dCons (dVar 6) dNil)))))))) (dRet (dC (.bl false))) dNext) (dSeq (dAsg (dAndV (dVar 6) (dWNotIn tb_CLOSED (dOp gIx (dVar 3) (dC (.int 0))))) (dgName 6)) (dSeq (dAsg (dCall F_inner_cs (dCons (dVar 3) dNil)) (dgName 7)) (dFor (dInE (dVar 7)) (dgTup 2 (dgCons (dgName 8) (dgCons (dgName 9) dgNil))) (dDrop (dBM gAppend (dVar 1) (dCons (dTup (dCons (dVar 9) (dCons (dOp gAdd (dVar 4) (dC (.int 1))) (dCons (dMeth C "seen_in" (F_BodyLook_seen_in) (dVar 0) (dCons (dVar 3) (dCons (dVar 8) (dCons (dVar 5) dNil)))) (dCons (dVar 6) dNil))))) dNil))))))))) (dRet (dOp gEq (dCB gLen (dCons (dFldC C "bound" (dVar 0)) dNil)) (dFldC C "further" (dVar 0)))))
def F_BodyLook_is_right (C : Addr) : DF := fun ds M R => ds.length = 1 ∧ rd_BodyLook_is_right C { nx := fun _ M' => R .non (keepM M M'), rt := fun x M' => R x (keepM M M') } (dstart N_BodyLook_is_right ds) M
def N_core_is_right : List Str := ["thing", "tables", "bodies", "singles", "main", "body", "table", "single", "number"]
def rd_core_is_right (C : Addr) : DS := dSeq (dIfS (dOr (dNot (dTst (dIsT .tuple (dVar 0)))) (dTst (dOp gNe (dCB gLen (dCons (dVar 0) dNil)) (dC (.int 4))))) (dRet (dC (.bl false))) dNext) (dSeq (dAsg (dVar 0) (dgTup 4 (dgCons (dgName 1) (dgCons (dgName 2) (dgCons (dgName 3) (dgCons (dgName 4) dgNil)))))) (dSeq (dIfS (dOr (dNot (dTst (dCall F_is_row (dCons (dVar 1) (dCons (dC (.int 60)) dNil))))) (dOr (dNot (dTst (dCall F_is_row (dCons (dVar 2) (dCons (dC (.int 600)) dNil))))) (dNot (dTst (dCall F_is_row (dCons (dVar 3) (dCons (dC (.int 60)) dNil))))))) (dRet (dC (.bl false))) dNext) (dSeq (dIfS (dOr (dNot (dTst (dCB gAll (dCons (dLc mkF (dInQ (dVar 2)) (dgName 5) dYes (dCall F_is_body (dCons (dVar 5) dNil)) [5]) dNil)))) (dNot (dTst (dCB gAll (dCons (dLc mkF (dInQ (dVar 1)) (dgName 6) dYes (dCall F_is_table (dCons (dVar 6) (dCons (dVar 2) dNil))) [6]) dNil))))) (dRet (dC (.bl false))) dNext) (dSeq (dIfS (dOr (dNot (dTst (dCB gAll (dCons (dLc mkF (dInQ (dVar 3)) (dgName 7) dYes (dCall F_is_single (dCons (dVar 7) (dCons (dVar 2) dNil))) [7]) dNil)))) (dNot (dTst (dCall F_is_start (dCons (dVar 4) (dCons (dVar 2) dNil)))))) (dRet (dC (.bl false))) dNext) (dRet (dCB gAll (dCons (dLc mkF (dInR (dCB gLen (dCons (dVar 2) dNil))) (dgName 8) dYes (dMeth C "is_right" (F_BodyLook_is_right C) (dMake C (F_BodyLook_init C) (dCons (dVar 0) (dCons (dVar 8) dNil))) dNil) [8]) dNil)))))))
def F_core_is_right (C : Addr) : DF := fun ds M R => ds.length = 1 ∧ rd_core_is_right C { nx := fun _ M' => R .non (keepM M M'), rt := fun x M' => R x (keepM M M') } (dstart N_core_is_right ds) M
def N__law_core : List Str := ["_law_feed_here", "_law_graph_here", "_law_params", "_law_asks", "_law_tables", "_law_singles", "_law_main", "_law_names", "_law_bodies", "_law_at", "_law_c_here", "_law_further", "_law_ask_here", "_law_rows", "_law_sends", "_law_begin"]
def rd__law_core : DS := dSeq (dAsg (dVar 1) (dgTup 5 (dgCons (dgName 2) (dgCons (dgName 3) (dgCons (dgName 4) (dgCons (dgName 5) (dgCons (dgName 6) dgNil))))))) (dSeq (dAsg (dLst mkF (dCons (dLstRg mkF (dCB gLen (dCons (dVar 2) dNil))) (dCons (dLstRg mkF (dCB gLen (dCons (dVar 4) dNil))) (dCons (dLstRg mkF (dCB gLen (dCons (dVar 5) dNil))) dNil)))) (dgName 7)) (dSeq (dAsg (dLst mkP dNil) (dgName 8)) (dSeq (dFor (dInR (dCB gLen (dCons (dVar 2) dNil))) (dgName 9) (dSeq (dAsg (dCall F__law_c (dCons (dVar 0) (dCons (dLc mkF (dInQ (dOp gIx (dVar 3) (dVar 9))) (dgName 12) dYes (dCall (F__law_asked 4) (dCons (dVar 12) (dCons (dVar 1) (dCons (dVar 7) (dCons (dC .non) dNil))))) [12]) (dCons (dOp gIx (dVar 2) (dVar 9)) (dCons (dVar 7) dNil))))) (dgTup 2 (dgCons (dgName 10) (dgCons (dgName 11) dgNil)))) (dDrop (dBM gAppend (dVar 8) (dCons (dTup (dCons (dOp gIx (dVar 2) (dVar 9)) (dCons (dVar 11) (dCons (dVar 10) dNil)))) dNil))))) (dSeq (dAsg (dLc mkF (dInQ (dVar 4)) (dgTup 2 (dgCons (dgName 14) (dgCons (dgName 15) dgNil))) dYes (dTup (dCons (dC (.str "T")) (dCons (dC .non) (dCons (dTup dNil) (dCons (dTup dNil) (dCons (dCB gTuple (dCons (dVar 14) dNil)) (dCons (dVar 15) dNil))))))) [14, 15]) (dgName 13)) (dRet (dTup (dCons (dCB gTuple (dCons (dVar 13) dNil)) (dCons (dCB gTuple (dCons (dVar 8) dNil)) (dCons (dCB gTuple (dCons (dLc mkF (dInQ (dVar 5)) (dgName 9) dYes (dTup (dCons (dVar 9) (dCons (dC (.str "s")) dNil))) [9]) dNil)) (dCons (dVar 6) dNil))))))))))
def F__law_core : DF := fun ds M R => ds.length = 2 ∧ rd__law_core { nx := fun _ M' => R .non (keepM M M'), rt := fun x M' => R x (keepM M M') } (dstart N__law_core ds) M
def N_need_core : List Str := ["thing"]
def rd_need_core (C : Addr) : DS := dIfS (dNot (dTst (dCall (F_core_is_right C) (dCons (dVar 0) dNil)))) dNever dNext
def F_need_core (C : Addr) : DF := fun ds M R => ds.length = 1 ∧ rd_need_core C { nx := fun _ M' => R .non (keepM M M'), rt := fun x M' => R x (keepM M M') } (dstart N_need_core ds) M
def N__law_graph : List Str := ["_law_feed_here", "_law_many", "_law_params", "_law_turn", "_law_entries", "_law_starts", "_law_at", "_law_count", "_law_tables", "_law_begin", "_law_rows", "_law_word", "_law_alike", "_law_row", "_law_singles", "_law_asks"]
def rd__law_graph : DS := dSeq (dAsg (dOp gAdd (dC (.int 1)) (dCall F__law_draw (dCons (dVar 0) (dCons (dC (.int 9)) dNil)))) (dgName 1)) (dSeq (dAsg (dLc mkP (dInR (dVar 1)) (dgName 3) dYes (dCall F__law_one (dCons (dVar 0) (dCons (dLst mkF (dCons (dC (.int 0)) (dCons (dC (.int 1)) (dCons (dC (.int 1)) (dCons (dC (.int 2)) dNil))))) dNil))) [3]) (dgName 2)) (dSeq (dDrop (dBM gInsert (dVar 2) (dCons (dCall F__law_draw (dCons (dVar 0) (dCons (dOp gAdd (dVar 1) (dC (.int 1))) dNil))) (dCons (dC (.int 0)) dNil)))) (dFzS 2 (dSeq (dAsg (dTup (dCons (dLc mkF (dInE (dVar 2)) (dgTup 2 (dgCons (dgName 6) (dgCons (dgName 7) dgNil))) (dTst (dOp gGt (dVar 7) (dC (.int 0)))) (dVar 6) [6, 7]) (dCons (dLc mkF (dInE (dVar 2)) (dgTup 2 (dgCons (dgName 6) (dgCons (dgName 7) dgNil))) (dTst (dOp gEq (dVar 7) (dC (.int 0)))) (dVar 6) [6, 7]) dNil))) (dgTup 2 (dgCons (dgName 4) (dgCons (dgName 5) dgNil)))) (dSeq (dAsg (dLst mkP dNil) (dgName 8)) (dSeq (dFor (dInR (dIf (dTst (dOp gNeNil (dVar 4) (dLst mkF dNil))) (dCall F__law_draw (dCons (dVar 0) (dCons (dC (.int 5)) dNil))) (dC (.int 0)))) (dgName 3) (dSeq (dAsg (dCall F__law_one (dCons (dVar 0) (dCons (dVar 4) dNil))) (dgName 9)) (dSeq (dAsg (dLc mkF (dInQ (dLst mkF (dCons (dC (.str "a")) (dCons (dC (.str "b b")) (dCons (dC (.str "c")) (dCons (dC (.str "d")) dNil)))))) (dgName 11) (dTst (dOp gGt (dCall F__law_draw (dCons (dVar 0) (dCons (dC (.int 3)) dNil))) (dC (.int 0)))) (dTup (dCons (dVar 11) (dCons (dCall F__law_one (dCons (dVar 0) (dCons (dVar 4) dNil))) dNil))) [11]) (dgName 10)) (dDrop (dBM gAppend (dVar 8) (dCons (dTup (dCons (dVar 10) (dCons (dVar 9) dNil))) dNil)))))) (dFzS 8 (dSeq (dAsg (dIf (dTst (dOp gNeNil (dVar 4) (dLst mkF dNil))) (dCall F__law_one (dCons (dVar 0) (dCons (dVar 4) dNil))) (dC (.int 0))) (dgName 12)) (dSeq (dIfS (dTst (dOp gEq (dCall F__law_draw (dCons (dVar 0) (dCons (dC (.int 2)) dNil))) (dC (.int 0)))) (dAsg (dLc mkF (dInQ (dVar 8)) (dgTup 2 (dgCons (dgName 10) (dgCons (dgName 9) dgNil))) dYes (dTup (dCons (dOp (gCatL mkF) (dLst mkF (dCons (dTup (dCons (dC (.str "a")) (dCons (dVar 12) dNil))) dNil)) (dLc mkF (dInQ (dVar 10)) (dgName 13) (dTst (dOp gNe (dOp gIx (dVar 13) (dC (.int 0))) (dC (.str "a")))) (dVar 13) [13])) (dCons (dVar 9) dNil))) [10, 9]) (dgName 8)) dNext) (dSeq (dAsg (dLc mkF (dInR (dCall F__law_draw (dCons (dVar 0) (dCons (dC (.int 4)) dNil)))) (dgName 3) dYes (dCall F__law_one (dCons (dVar 0) (dCons (dVar 5) dNil))) [3]) (dgName 14)) (dSeq (dAsg (dLst mkP dNil) (dgName 15)) (dSeq (dFor (dInR (dOp gAdd (dVar 1) (dC (.int 1)))) (dgName 6) (dDrop (dBM gAppend (dVar 15) (dCons (dLc mkF (dInR (dCall F__law_draw (dCons (dVar 0) (dCons (dC (.int 5)) dNil)))) (dgName 3) dYes (dCall (F__law_ask 4) (dCons (dVar 0) (dCons (dTup (dCons (dVar 2) (dCons (dVar 8) (dCons (dVar 14) dNil)))) (dCons (dC (.int 2)) dNil)))) [3]) dNil)))) (dRet (dTup (dCons (dVar 2) (dCons (dFrz (dVar 15)) (dCons (dVar 8) (dCons (dVar 14) (dCons (dCall F__law_one (dCons (dVar 0) (dCons (dVar 5) dNil))) dNil)))))))))))))))))))
def F__law_graph : DF := fun ds M R => ds.length = 1 ∧ rd__law_graph { nx := fun _ M' => R .non (keepM M M'), rt := fun x M' => R x (keepM M M') } (dstart N__law_graph ds) M
def N_reach : List Str := ["core", "bodies", "tables"]
def rd_reach (C : Addr) : DS := dSeq (dDrop (dCall (F_need_core C) (dCons (dVar 0) dNil))) (dSeq (dAsg (dCall F_reach_in (dCons (dVar 0) dNil)) (dgTup 2 (dgCons (dgName 1) (dgCons (dgName 2) dgNil)))) (dRet (dTup (dCons (dCB gTuple (dCons (dVar 1) dNil)) (dCons (dCB gTuple (dCons (dVar 2) dNil)) dNil)))))
def F_reach (C : Addr) : DF := fun ds M R => ds.length = 1 ∧ rd_reach C { nx := fun _ M' => R .non (keepM M M'), rt := fun x M' => R x (keepM M M') } (dstart N_reach ds) M
def N_reach_holds : List Str := ["core", "thing"]
def rd_reach_holds (C : Addr) : DS := dSeq (dDrop (dCall (F_need_core C) (dCons (dVar 0) dNil))) (dSeq (dIfS (dOr (dNot (dTst (dIsT .tuple (dVar 1)))) (dTst (dOp gNe (dCB gLen (dCons (dVar 1) dNil)) (dC (.int 2))))) (dRet (dC (.bl false))) dNext) (dSeq (dIfS (dOr (dNot (dTst (dCall F_is_ascending (dCons (dOp gIx (dVar 1) (dC (.int 0))) (dCons (dOp gSub (dCB gLen (dCons (dOp gIx (dVar 0) (dC (.int 1))) dNil)) (dC (.int 1))) dNil))))) (dNot (dTst (dCall F_is_ascending (dCons (dOp gIx (dVar 1) (dC (.int 1))) (dCons (dOp gSub (dCB gLen (dCons (dOp gIx (dVar 0) (dC (.int 0))) dNil)) (dC (.int 1))) dNil)))))) (dRet (dC (.bl false))) dNext) (dRet (dAndV (dOp (gInI false) (dOp gIx (dVar 0) (dC (.int 3))) (dOp gIx (dVar 1) (dC (.int 0)))) (dCall F_is_closed_reach (dCons (dVar 0) (dCons (dOp gIx (dVar 1) (dC (.int 0))) (dCons (dOp gIx (dVar 1) (dC (.int 1))) dNil))))))))
def F_reach_holds (C : Addr) : DF := fun ds M R => ds.length = 2 ∧ rd_reach_holds C { nx := fun _ M' => R .non (keepM M M'), rt := fun x M' => R x (keepM M M') } (dstart N_reach_holds ds) M
def N__law_right : List Str := ["_law_feed_here", "_law_graph_here", "_law_core_here", "_law_main", "_law_due", "_law_many", "_law_tables", "_law_whole", "_law_wrong", "_law_turn", "_law_begun", "_law_made", "_law_is_closed", "_law_found"]
def rd__law_right (C : Addr) : DS := dSeq (dAsg (dCall F__law_graph (dCons (dVar 0) dNil)) (dgName 1)) (dSeq (dPar 2 3 (dCall F__law_core (dCons (dVar 0) (dCons (dVar 1) dNil))) (dOp gIx (dVar 1) (dC (.int 4)))) (dSeq (dAsg (dCall F__law_closure (dCons (dVar 1) (dCons (dLst mkF (dCons (dVar 3) dNil)) (dCons (dLst mkF dNil) dNil)))) (dgName 4)) (dSeq (dIfS (dOr (dTst (dOp gNeD (dCall (F_reach C) (dCons (dVar 2) dNil)) (dVar 4))) (dNot (dTst (dIsT .tuple (dCall (F_reach C) (dCons (dVar 2) dNil)))))) (dRet (dC (.bl false))) dNext) (dSeq (dPar 5 6 (dCB gLen (dCons (dOp gIx (dVar 1) (dC (.int 0))) dNil)) (dCB gLen (dCons (dOp gIx (dVar 1) (dC (.int 2))) dNil))) (dSeq (dAsg (dTup (dCons (dTupRg (dVar 5)) (dCons (dTupRg (dVar 6)) dNil))) (dgName 7)) (dSeq (dIfS (dOr (dTst (dOp gNotB (dCall (F_reach_holds C) (dCons (dVar 2) (dCons (dVar 4) dNil))) (dC (.bl true)))) (dTst (dOp gNotB (dCall (F_reach_holds C) (dCons (dVar 2) (dCons (dVar 7) dNil))) (dC (.bl true))))) (dRet (dC (.bl false))) dNext) (dSeq (dFor (dInQ (dCall F__law_others (dCons (dVar 1) (dCons (dOp gIx (dVar 4) (dC (.int 0))) (dCons (dOp gIx (dVar 4) (dC (.int 1))) dNil))))) (dgName 8) (dIfS (dTst (dOp gNotB (dCall (F_reach_holds C) (dCons (dVar 2) (dCons (dVar 8) dNil))) (dC (.bl false)))) (dRet (dC (.bl false))) dNext)) (dSeq (dFor (dInR (dC (.int 4))) (dgName 9) (dSeq (dPar 10 11 (dCall F__law_drawn (dCons (dVar 0) (dCons (dVar 5) (dCons (dOp gIx (dVar 4) (dC (.int 0))) dNil)))) (dCall F__law_drawn (dCons (dVar 0) (dCons (dVar 6) (dCons (dOp gIx (dVar 4) (dC (.int 1))) dNil))))) (dSeq (dAsg (dOp gEqD (dCall F__law_closure (dCons (dVar 1) (dCons (dVar 10) (dCons (dVar 11) dNil)))) (dTup (dCons (dVar 10) (dCons (dVar 11) dNil)))) (dgName 12)) (dSeq (dAsg (dCall (F_reach_holds C) (dCons (dVar 2) (dCons (dTup (dCons (dVar 10) (dCons (dVar 11) dNil))) dNil))) (dgName 13)) (dSeq (dIfS (dOr (dNot (dTst (dIsT .bool (dVar 13)))) (dTst (dOp gNe (dVar 13) (dVar 12)))) (dRet (dC (.bl false))) dNext) (dIfS (dTst (dOp gNotB (dCall (F_reach_holds C) (dCons (dVar 2) (dCons (dCall F__law_closure (dCons (dVar 1) (dCons (dVar 10) (dCons (dVar 11) dNil)))) dNil))) (dC (.bl true)))) (dRet (dC (.bl false))) dNext)))))) (dRet (dOp gEqD (dCall (F_reach C) (dCons (dVar 2) dNil)) (dVar 4)))))))))))
def F__law_right (C : Addr) : DF := fun ds M R => ds.length = 1 ∧ rd__law_right C { nx := fun _ M' => R .non (keepM M M'), rt := fun x M' => R x (keepM M M') } (dstart N__law_right ds) M
def N_law : List Str := ["_law_script", "_law_k"]
def rd_law (C : Addr) : DS := dSeq (dFor (dInR (dCB (gII fun i j => if j > i then j else i) (dCons (dC (.int 1)) (dCons (dCB (gII fun i j => if j < i then j else i) (dCons (dCB gLen (dCons (dVar 0) dNil)) (dCons (dC (.int 2)) dNil))) dNil)))) (dgName 1) (dIfS (dNot (dTst (dCall (F__law_right C) (dCons (dCall F__law_feed (dCons (dVar 0) (dCons (dVar 1) dNil))) dNil)))) (dRet (dC (.bl false))) dNext)) (dRet (dC (.bl true)))
def F_law (C : Addr) : DF := fun ds M R => ds.length = 1 ∧ rd_law C { nx := fun _ M' => R .non (keepM M M'), rt := fun x M' => R x (keepM M M') } (dstart N_law ds) M
end K70
set_option maxRecDepth 100000
set_option maxHeartbeats 1000000
namespace K70
open PySem PySem.Spec PyProof.Rows L2 DL
structure DefF (K : PySem.W.Frag) (mg : Str → Option Value) (x : Str) (st : Stmt) (ps : List Str) where
  f : Addr
  fd : FuncData
  F : FunD K x x (defArgs st) (defBody st) (defScope st) [] [] f fd
  g : mg x = some (.ref f)
  b : Binds K fd ps []
  kb : ∀ (s : Shared) (ws : List Value), K.In s.heap → ws.length = ps.length → BindsTo s fd ⟨[], ps.zip ws⟩ (ps.zip ws)
structure MetF (K : PySem.W.Frag) (C : Addr) (cls x : Str) (qual : Str) (st : Stmt) (ps : List Str) where
  f : Addr
  fd : FuncData
  F : FunD K x qual (defArgs st) (defBody st) (defScope st) [] [] f fd
  m : Meth K C x f
  b : Binds K fd ps []
structure IniF (K : PySem.W.Frag) (x : Str) (qual : Str) (st : Stmt) (ps : List Str) where
  f : Addr
  fd : FuncData
  F : FunD K x qual (defArgs st) (defBody st) (defScope st) [] [] f fd
  b : Binds K fd ps []
theorem never_ok {P : Program} {w : World} {K : PySem.W.Frag} {mg : Str → Option Value} {base : Heap} {k : Nat} {f : Addr} {fd : FuncData} {ps : List Str} : FnOk P w K mg base CX0 k f fd ps (spD K fun _ _ _ => False) :=
  ⟨fun _ _ _ _ ⟨_, _, _, _, _, _, h, _⟩ => h.elim, fun A outer s H args us vs Q E hr e0 b v ⟨_, _, _, _, _, _, h, _⟩ => h.elim⟩
theorem un {k : Nat} {A : Around} (r : Room k A) : A.units + 1 < cLine := by have := r.units; omega
structure Phi (K : PySem.W.Frag) (mg : Str → Option Value) (w : World) where
  inner_cs : DefF K mg "inner_cs" s_inner_cs ["c"]
  all_cs : DefF K mg "all_cs" s_all_cs ["c"]
  asked_in : DefF K mg "asked_in" s_asked_in ["c"]
  row_body : DefF K mg "row_body" s_row_body ["table", "selector"]
  bodies_asked : DefF K mg "bodies_asked" s_bodies_asked ["core", "asked", "made"]
  reach_in : DefF K mg "reach_in" s_reach_in ["core"]
  is_closed_reach : DefF K mg "is_closed_reach" s_is_closed_reach ["core", "bodies", "tables"]
  is_whole : DefF K mg "is_whole" s_is_whole ["thing"]
  is_count : DefF K mg "is_count" s_is_count ["thing", "most"]
  is_core_text : DefF K mg "is_core_text" s_is_core_text ["thing", "least"]
  is_row : DefF K mg "is_row" s_is_row ["thing", "most"]
  is_text_row : DefF K mg "is_text_row" s_is_text_row ["thing"]
  is_number_row : DefF K mg "is_number_row" s_is_number_row ["thing", "most"]
  is_ascending : DefF K mg "is_ascending" s_is_ascending ["thing", "most"]
  is_body : DefF K mg "is_body" s_is_body ["thing"]
  is_entry : DefF K mg "is_entry" s_is_entry ["thing", "bodies"]
  is_start : DefF K mg "is_start" s_is_start ["thing", "bodies"]
  are_sends : DefF K mg "are_sends" s_are_sends ["thing", "bodies"]
  is_table : DefF K mg "is_table" s_is_table ["thing", "bodies"]
  is_single : DefF K mg "is_single" s_is_single ["thing", "bodies"]
  has_form : DefF K mg "has_form" s_has_form ["thing"]
  fits_alone : DefF K mg "fits_alone" s_fits_alone ["c"]
  core_is_right : DefF K mg "core_is_right" s_core_is_right ["thing"]
  need_core : DefF K mg "need_core" s_need_core ["thing"]
  reach : DefF K mg "reach" s_reach ["core"]
  reach_holds : DefF K mg "reach_holds" s_reach_holds ["core", "thing"]
  _law_feed : DefF K mg "_law_feed" s__law_feed ["_law_script", "_law_k"]
  _law_draw : DefF K mg "_law_draw" s__law_draw ["_law_feed_here", "_law_many"]
  _law_one : DefF K mg "_law_one" s__law_one ["_law_feed_here", "_law_things"]
  _law_ask : DefF K mg "_law_ask" s__law_ask ["_law_feed_here", "_law_know", "_law_deep"]
  _law_graph : DefF K mg "_law_graph" s__law_graph ["_law_feed_here"]
  _law_flat : DefF K mg "_law_flat" s__law_flat ["_law_asks"]
  _law_closure : DefF K mg "_law_closure" s__law_closure ["_law_graph_here", "_law_begun", "_law_made"]
  _law_only : DefF K mg "_law_only" s__law_only ["_law_graph_here", "_law_least", "_law_selector", "_law_count"]
  _law_asked : DefF K mg "_law_asked" s__law_asked ["_law_ask_here", "_law_graph_here", "_law_names", "_law_least"]
  _law_c : DefF K mg "_law_c" s__law_c ["_law_feed_here", "_law_cs", "_law_first", "_law_names"]
  _law_core : DefF K mg "_law_core" s__law_core ["_law_feed_here", "_law_graph_here"]
  _law_drawn : DefF K mg "_law_drawn" s__law_drawn ["_law_feed_here", "_law_whole", "_law_least"]
  _law_others : DefF K mg "_law_others" s__law_others ["_law_graph_here", "_law_bodies", "_law_tables"]
  _law_right : DefF K mg "_law_right" s__law_right ["_law_feed_here"]
  law : DefF K mg "law" s_law ["_law_script"]
  C : Addr
  g_BodyLook : mg "BodyLook" = some (.ref C)
  cls : Cls K C
  BodyLook_init : IniF K "__init__" "BodyLook.__init__" s_BodyLook_init ["self", "core", "number"]
  BodyLook_is_right : MetF K C "BodyLook" "is_right" "BodyLook.is_right" s_BodyLook_is_right ["self"]
  BodyLook_seen_in : MetF K C "BodyLook" "seen_in" "BodyLook.seen_in" s_BodyLook_seen_in ["self", "c", "at", "seen"]
  BodyLook_binds : MetF K C "BodyLook" "binds" "BodyLook.binds" s_BodyLook_binds ["self", "numbers"]
  BodyLook_fits : MetF K C "BodyLook" "fits" "BodyLook.fits" s_BodyLook_fits ["self", "c", "seen", "may_fill"]
  mkr : Mk K C BodyLook_init.f
  na_bodies : NoAttr K C "bodies"
  na_bound : NoAttr K C "bound"
  na_c : NoAttr K C "c"
  na_further : NoAttr K C "further"
  na_params : NoAttr K C "params"
  na_singles : NoAttr K C "singles"
  na_tables : NoAttr K C "tables"
  n_all : mg "all" = none
  n_bool : mg "bool" = none
  n_enumerate : mg "enumerate" = none
  n_int : mg "int" = none
  n_isinstance : mg "isinstance" = none
  n_len : mg "len" = none
  n_list : mg "list" = none
  n_max : mg "max" = none
  n_min : mg "min" = none
  n_range : mg "range" = none
  n_set : mg "set" = none
  n_sorted : mg "sorted" = none
  n_str : mg "str" = none
  n_sum : mg "sum" = none
  n_tuple : mg "tuple" = none
  n_zip : mg "zip" = none
  t_MOST_BODIES : Tok
  i_MOST_BODIES : mg "MOST_BODIES" = some (.int 600 t_MOST_BODIES)
  t_MOST_LOCALS : Tok
  i_MOST_LOCALS : mg "MOST_LOCALS" = some (.int 400 t_MOST_LOCALS)
  t_MOST_SIGNS : Tok
  i_MOST_SIGNS : mg "MOST_SIGNS" = some (.int 80 t_MOST_SIGNS)
  t_MOST_SINGLES : Tok
  i_MOST_SINGLES : mg "MOST_SINGLES" = some (.int 60 t_MOST_SINGLES)
  t_MOST_TABLES : Tok
  i_MOST_TABLES : mg "MOST_TABLES" = some (.int 60 t_MOST_TABLES)
  t_MOST_WITHIN : Tok
  i_MOST_WITHIN : mg "MOST_WITHIN" = some (.int 240 t_MOST_WITHIN)
  d_PLACES : Addr
  g_PLACES : mg "PLACES" = some (.ref d_PLACES)
  W_PLACES : WD K w d_PLACES tb_PLACES
  d_ROWS : Addr
  g_ROWS : mg "ROWS" = some (.ref d_ROWS)
  W_ROWS : WD K w d_ROWS tb_ROWS
  d_SIZES : Addr
  g_SIZES : mg "SIZES" = some (.ref d_SIZES)
  W_SIZES : WD K w d_SIZES tb_SIZES
  d_OPS : Addr
  g_OPS : mg "OPS" = some (.ref d_OPS)
  W_OPS : WD K w d_OPS tb_OPS
  d_STOPS : Addr
  g_STOPS : mg "STOPS" = some (.ref d_STOPS)
  W_STOPS : WD K w d_STOPS tb_STOPS
  d_CLOSED : Addr
  g_CLOSED : mg "CLOSED" = some (.ref d_CLOSED)
  W_CLOSED : WD K w d_CLOSED tb_CLOSED
  d_ALONE : Addr
  g_ALONE : mg "ALONE" = some (.ref d_ALONE)
  W_ALONE : WD K w d_ALONE tb_ALONE
end K70
set_option maxRecDepth 100000
set_option maxHeartbeats 1000000
namespace K70
open PySem PySem.Spec PyProof.Rows L2 DL
section
variable {P : Program} {w : World} {K : PySem.W.Frag} {mg : Str → Option Value} {base : Heap}
theorem sc_inner_cs : FnScope N_inner_cs ["c"] (defScope s_inner_cs) := ⟨rfl, rfl, rfl, by decide +kernel, rfl, by decide +kernel, by decide +kernel⟩
theorem ok_inner_cs (Φ : Phi K mg w) : FnOk P w K mg base CX0 1 Φ.inner_cs.f Φ.inner_cs.fd ["c"] (spD K (F_inner_cs)) :=
  def_okK (d := rd_inner_cs) Φ.inner_cs.F sc_inner_cs (fun _ _ _ h => h.1) (fun cdv A outer s H E hr => xs_cons (x_setLc newP rfl sc_inner_cs.nd rfl rfl (sw_true rfl rfl (by decide) (by decide +kernel)) (blkOk_by (own := [("place", 2)]) (by kernel_rfl)) rfl (xi_seq (xwget (un hr) Φ.W_PLACES (by rfl) Φ.g_PLACES (xix (xv 0) xint) (xtup xnil) (by first | exact ⟨rfl, rfl, rfl, rfl⟩ | constructor <;> rfl))) (fun _ _ _ _ _ => xgc_name (by decide) sc_inner_cs.nd rfl (by first | exact .inl rfl | exact .inr rfl)) (fun _ _ _ _ _ => xts_nil) (fun _ _ _ _ _ => xix (xv 0) (xv 2))) (xs_cons (x_ifs (xtwin Φ.W_ROWS (by rfl) Φ.g_ROWS (xix (xv 0) xint)) (xs_one (x_expr (xextend (xv 1) (xcallTy call_list_of (lf_list newF) (by rfl) Φ.n_list (by decide +kernel) (xcons (xix (xv 0) (xwitem Φ.W_ROWS (by rfl) Φ.g_ROWS (xix (xv 0) xint))) xnil))))) xs_nil) (xs_one (x_ret (xfrz (xv 1)))))) (fun _ _ _ h => h.2)
theorem sc_row_body : FnScope N_row_body ["table", "selector"] (defScope s_row_body) := ⟨rfl, rfl, rfl, by decide +kernel, rfl, by decide +kernel, by decide +kernel⟩
theorem ok_row_body (Φ : Phi K mg w) : FnOk P w K mg base CX0 1 Φ.row_body.f Φ.row_body.fd ["table", "selector"] (spD K (F_row_body)) :=
  def_okK (d := rd_row_body) Φ.row_body.F sc_row_body (fun _ _ _ h => h.1) (fun cdv A outer s H E hr => xs_cons (x_for PassesOwn.never rfl (xi_seq (xix (xv 0) xint)) (xg_name sc_row_body.nd rfl (by first | exact .inl rfl | exact .inr rfl)) (xs_one (x_ifs (xtcmp op_eq lf_eq (xix (xv 2) xint) (xv 1)) (xs_one (x_ret (xix (xv 2) xint))) xs_nil))) (xs_one (x_ret xnon))) (fun _ _ _ h => h.2)
theorem sc_is_whole : FnScope N_is_whole ["thing"] (defScope s_is_whole) := ⟨rfl, rfl, rfl, by decide +kernel, rfl, by decide +kernel, by decide +kernel⟩
theorem ok_is_whole (Φ : Phi K mg w) : FnOk P w K mg base CX0 1 Φ.is_whole.f Φ.is_whole.fd ["thing"] (spD K (F_is_whole)) :=
  def_okK (d := rd_is_whole) Φ.is_whole.F sc_is_whole (fun _ _ _ h => h.1) (fun cdv A outer s H E hr => xs_one (x_ret (x_and (xisT .int (by rfl) Φ.n_isinstance (by rfl) Φ.n_int (by decide +kernel) (xv 0)) (x_one (x_not (xisT .bool (by rfl) Φ.n_isinstance (by rfl) Φ.n_bool (by decide +kernel) (xv 0))))))) (fun _ _ _ h => h.2)
theorem sc_is_core_text : FnScope N_is_core_text ["thing", "least"] (defScope s_is_core_text) := ⟨rfl, rfl, rfl, by decide +kernel, rfl, by decide +kernel, by decide +kernel⟩
theorem ok_is_core_text (Φ : Phi K mg w) : FnOk P w K mg base CX0 1 Φ.is_core_text.f Φ.is_core_text.fd ["thing", "least"] (spD K (F_is_core_text)) :=
  def_okK (d := rd_is_core_text) Φ.is_core_text.F sc_is_core_text (fun _ _ _ h => h.1) (fun cdv A outer s H E hr => xs_cons (x_ifs ((xw_or (xt_not (xtv (xisT .str (by rfl) Φ.n_isinstance (by rfl) Φ.n_str (by decide +kernel) (xv 0)))) (xw_or (xtcmp op_lt lf_B0 (xcallB cr_lenA lf_len (by rfl) Φ.n_len (by decide +kernel) (xcons (xv 0) xnil)) (xv 1)) (xw_or1 (xtcmp op_gt lf_B0 (xcallB cr_lenA lf_len (by rfl) Φ.n_len (by decide +kernel) (xcons (xv 0) xnil)) (xglobI (by rfl) Φ.i_MOST_SIGNS))))).pt) (xs_one (x_ret xbl)) xs_nil) (xs_one (x_ret (xcallB (cr_all rfl) lf_all (by rfl) Φ.n_all (by decide +kernel) (xcons (x_lc newF rfl sc_is_core_text.nd (blkOk_by (own := [("sign", 2)]) (by kernel_rfl)) rfl (xi_str (xv 0)) (fun _ _ _ _ _ => xgc_name (by decide) sc_is_core_text.nd rfl (by first | exact .inl rfl | exact .inr rfl)) (fun _ _ _ _ _ => xts_nil) (fun _ _ _ _ _ => xchain op_le_str lf_str op_le_str lf_str xstr (xv 2) xstr)) xnil))))) (fun _ _ _ h => h.2)
theorem sc_is_row : FnScope N_is_row ["thing", "most"] (defScope s_is_row) := ⟨rfl, rfl, rfl, by decide +kernel, rfl, by decide +kernel, by decide +kernel⟩
theorem ok_is_row (Φ : Phi K mg w) : FnOk P w K mg base CX0 1 Φ.is_row.f Φ.is_row.fd ["thing", "most"] (spD K (F_is_row)) :=
  def_okK (d := rd_is_row) Φ.is_row.F sc_is_row (fun _ _ _ h => h.1) (fun cdv A outer s H E hr => xs_one (x_ret (x_and (xisT .tuple (by rfl) Φ.n_isinstance (by rfl) Φ.n_tuple (by decide +kernel) (xv 0)) (x_one (xcmp op_le lf_B0 (xcallB cr_lenA lf_len (by rfl) Φ.n_len (by decide +kernel) (xcons (xv 0) xnil)) (xv 1)))))) (fun _ _ _ h => h.2)
theorem sc_has_form : FnScope N_has_form ["thing"] (defScope s_has_form) := ⟨rfl, rfl, rfl, by decide +kernel, rfl, by decide +kernel, by decide +kernel⟩
theorem ok_has_form (Φ : Phi K mg w) : FnOk P w K mg base CX0 1 Φ.has_form.f Φ.has_form.fd ["thing"] (spD K (F_has_form)) :=
  def_okK (d := rd_has_form) Φ.has_form.F sc_has_form (fun _ _ _ h => h.1) (fun cdv A outer s H E hr => xs_cons (x_ifs ((xw_or (xt_not (xtv (xisT .tuple (by rfl) Φ.n_isinstance (by rfl) Φ.n_tuple (by decide +kernel) (xv 0)))) (xw_or (xtcmp op_eq lf_eq (xcallB cr_lenA lf_len (by rfl) Φ.n_len (by decide +kernel) (xcons (xv 0) xnil)) xint) (xw_or (xt_not (xtv (xisT .str (by rfl) Φ.n_isinstance (by rfl) Φ.n_str (by decide +kernel) (xix (xv 0) xint)))) (xw_or1 (xtwnotin Φ.W_SIZES (by rfl) Φ.g_SIZES (xix (xv 0) xint)))))).pt) (xs_one (x_ret xbl)) xs_nil) (xs_cons (x_ifs (xtcmp op_ne lf_ne (xcallB cr_lenA lf_len (by rfl) Φ.n_len (by decide +kernel) (xcons (xv 0) xnil)) (xwitem Φ.W_SIZES (by rfl) Φ.g_SIZES (xix (xv 0) xint))) (xs_one (x_ret xbl)) xs_nil) (xs_one (x_ret (x_or (xwnotin Φ.W_ROWS (by rfl) Φ.g_ROWS (xix (xv 0) xint)) (x_one (xisT .tuple (by rfl) Φ.n_isinstance (by rfl) Φ.n_tuple (by decide +kernel) (xix (xv 0) (xwitem Φ.W_ROWS (by rfl) Φ.g_ROWS (xix (xv 0) xint)))))))))) (fun _ _ _ h => h.2)
theorem sc_BodyLook_init : FnScope N_BodyLook_init ["self", "core", "number"] (defScope s_BodyLook_init) := ⟨rfl, rfl, rfl, by decide +kernel, rfl, by decide +kernel, by decide +kernel⟩
theorem ok_BodyLook_init (Φ : Phi K mg w) : FnOk P w K mg base CX0 1 Φ.BodyLook_init.f Φ.BodyLook_init.fd ["self", "core", "number"] (spD K (F_BodyLook_init Φ.C)) :=
  def_ok (d := rd_BodyLook_init Φ.C) Φ.BodyLook_init.F sc_BodyLook_init (fun _ _ _ h => h.1) (fun cdv A outer s H E hr => xs_cons (x_fld Φ.cls Φ.na_tables (xv 0) (xix (xv 1) xint)) (xs_cons (x_fld Φ.cls Φ.na_bodies (xv 0) (xix (xv 1) xint)) (xs_cons (x_fld Φ.cls Φ.na_singles (xv 0) (xix (xv 1) xint)) (xs_cons (x_asg (xix (xix (xv 1) xint) (xv 2)) (xg_tup rfl (xgs_cons (xg_fld Φ.cls Φ.na_params (xv 0)) (xgs_cons (xg_fld Φ.cls Φ.na_further (xv 0)) (xgs_cons (xg_fld Φ.cls Φ.na_c (xv 0)) xgs_nil))))) (xs_one (x_fld Φ.cls Φ.na_bound (xv 0) (xdnew newDP))))))) (fun _ _ _ h => h.2)
theorem sc_BodyLook_seen_in : FnScope N_BodyLook_seen_in ["self", "c", "at", "seen"] (defScope s_BodyLook_seen_in) := ⟨rfl, rfl, rfl, by decide +kernel, rfl, by decide +kernel, by decide +kernel⟩
theorem ok_BodyLook_seen_in (Φ : Phi K mg w) : FnOk P w K mg base CX0 1 Φ.BodyLook_seen_in.f Φ.BodyLook_seen_in.fd ["self", "c", "at", "seen"] (spD K (F_BodyLook_seen_in)) :=
  def_okK (d := rd_BodyLook_seen_in) Φ.BodyLook_seen_in.F sc_BodyLook_seen_in (fun _ _ _ h => h.1) (fun cdv A outer s H E hr => xs_cons (x_ifs ((xw_and (xtcmp op_eq lf_eq (xix (xv 1) xint) xstr) (xw_and1 (xtcmp op_eq lf_eq (xv 2) xint))).pt) (xs_one (x_ret (xmrg1 (xv 3) (xix (xv 1) xint) xbl))) xs_nil) (xs_cons (x_ifs (xtcmp op_eq lf_eq (xix (xv 1) xint) xstr) (xs_cons (x_setDc newDF rfl sc_BodyLook_seen_in.nd rfl rfl (w_true rfl rfl (by decide) (by decide +kernel)) (blkOk_by (own := [("number", 5)]) (by kernel_rfl)) rfl (xi_seq (xix (xv 1) xint)) (fun _ _ _ _ _ => xgc_name (by decide) sc_BodyLook_seen_in.nd rfl (by first | exact .inl rfl | exact .inr rfl)) (fun _ _ _ _ _ => xts_nil) (fun _ _ _ _ _ => xv 5) (fun _ _ _ _ _ => xbl)) (xs_one (x_ret (xmrg2 (xv 3) (xv 4))))) xs_nil) (xs_one (x_ret (xv 3))))) (fun _ _ _ h => h.2)
theorem sc__law_feed : FnScope N__law_feed ["_law_script", "_law_k"] (defScope s__law_feed) := ⟨rfl, rfl, rfl, by decide +kernel, rfl, by decide +kernel, by decide +kernel⟩
theorem ok__law_feed (Φ : Phi K mg w) : FnOk P w K mg base CX0 1 Φ._law_feed.f Φ._law_feed.fd ["_law_script", "_law_k"] (spD K (F__law_feed)) :=
  def_ok (d := rd__law_feed) Φ._law_feed.F sc__law_feed (fun _ _ _ h => h.1) (fun cdv A outer s H E hr => xs_cons (x_set sc__law_feed.nd rfl (by first | exact .inl rfl | exact .inr rfl) (xop op_add lf_I0 (xop op_mulX lf_I xint (xv 1)) (xcallB (cr_sum rfl) lf_sum (by rfl) Φ.n_sum (by decide +kernel) (xcons (xslL newF (xv 0) xo_none (xo_some xint)) xnil)))) (xs_cons (x_ifs (xtcmp op_lt lf_B0 (xv 1) (xcallB cr_lenA lf_len (by rfl) Φ.n_len (by decide +kernel) (xcons (xv 0) xnil))) (xs_one (x_set sc__law_feed.nd rfl (by first | exact .inl rfl | exact .inr rfl) (xix (xv 0) (xv 1)))) xs_nil) (xs_one (x_ret (xlst newP (xcons (xcallB (call_max2 rfl) lf_max (by rfl) Φ.n_max (by decide +kernel) (xcons xint (xcons (xop op_sub lf_I0 (xv 2) (xop op_pow lf_I xint xint)) xnil))) (xcons (xop op_mod lf_I (xcallTy call_int1 lf_int (by rfl) Φ.n_int (by decide +kernel) (xcons (xop op_add lf_I0 (xop op_mulX lf_I (xv 2) xint) (xop op_mulX lf_I xint (xv 1))) xnil)) (xop op_add lf_I0 (xop op_pow lf_I xint xint) xint)) (xcons xint xnil)))))))) (fun _ _ _ h => h.2)
theorem sc__law_draw : FnScope N__law_draw ["_law_feed_here", "_law_many"] (defScope s__law_draw) := ⟨rfl, rfl, rfl, by decide +kernel, rfl, by decide +kernel, by decide +kernel⟩
theorem ok__law_draw (Φ : Phi K mg w) : FnOk P w K mg base CX0 1 Φ._law_draw.f Φ._law_draw.fd ["_law_feed_here", "_law_many"] (spD K (F__law_draw)) :=
  def_okK (d := rd__law_draw) Φ._law_draw.F sc__law_draw (fun _ _ _ h => h.1) (fun cdv A outer s H E hr => xs_cons (x_ifs (xtcmp op_gt lf_B0 (xix (xv 0) xint) xint) (xs_cons (x_set sc__law_draw.nd rfl (by first | exact .inl rfl | exact .inr rfl) (xop op_fdiv lf_I (xix (xv 0) xint) (xv 1))) (xs_cons (x_set sc__law_draw.nd rfl (by first | exact .inl rfl | exact .inr rfl) (xop op_sub lf_I0 (xix (xv 0) xint) (xop op_mulX lf_I (xv 2) (xv 1)))) (xs_cons (x_asg (xv 2) (xg_sub (xv 0) xint)) (xs_one (x_ret (xv 3)))))) xs_nil) (xs_cons (x_asg (xop op_add lf_I0 (xix (xv 0) xint) xint) (xg_sub (xv 0) xint)) (xs_cons (x_set sc__law_draw.nd rfl (by first | exact .inl rfl | exact .inr rfl) (xop op_add lf_I0 (xix (xv 0) xint) (xop op_mulX lf_I xint (xix (xv 0) xint)))) (xs_cons (x_set sc__law_draw.nd rfl (by first | exact .inl rfl | exact .inr rfl) (xop op_mod lf_I (xcallTy call_int1 lf_int (by rfl) Φ.n_int (by decide +kernel) (xcons (xop op_add lf_I0 (xop op_mulX lf_I (xop op_mulX lf_I (xv 4) (xv 4)) (xv 4)) (xop op_mulX lf_I xint (xix (xv 0) xint))) xnil)) (xop op_add lf_I0 (xop op_pow lf_I xint xint) xint))) (xs_cons (x_set sc__law_draw.nd rfl (by first | exact .inl rfl | exact .inr rfl) (xop op_mod lf_I (xcallTy call_int1 lf_int (by rfl) Φ.n_int (by decide +kernel) (xcons (xop op_add lf_I0 (xop op_mulX lf_I (xv 4) (xv 4)) xint) xnil)) (xop op_add lf_I0 (xop op_pow lf_I xint xint) xint))) (xs_one (x_ret (xop op_mod lf_I (xcallTy call_int1 lf_int (by rfl) Φ.n_int (by decide +kernel) (xcons (xop op_fdiv lf_I (xv 4) (xop op_pow lf_I xint xint)) xnil)) (xv 1))))))))) (fun _ _ _ h => h.2)
theorem sc__law_flat : FnScope N__law_flat ["_law_asks"] (defScope s__law_flat) := ⟨rfl, rfl, rfl, by decide +kernel, rfl, by decide +kernel, by decide +kernel⟩
theorem ok__law_flat (Φ : Phi K mg w) : FnOk P w K mg base CX0 1 Φ._law_flat.f Φ._law_flat.fd ["_law_asks"] (spD K (F__law_flat)) :=
  def_okK (d := rd__law_flat) Φ._law_flat.F sc__law_flat (fun _ _ _ h => h.1) (fun cdv A outer s H E hr => xs_cons (x_par rfl sc__law_flat.nd rfl rfl (by decide) rfl rfl (xlst newP xnil) (xcallTy call_list_of (lf_list newP) (by rfl) Φ.n_list (by decide +kernel) (xcons (xv 0) xnil)) (by rfl)) (xs_cons (x_while PassesOwn.never (xtcmp (op_neNil hr.units0) lf_neNil (xv 2) (xlst newF xnil)) (xs_cons (x_set sc__law_flat.nd rfl (by first | exact .inl rfl | exact .inr rfl) (xpop (xv 2) )) (xs_cons (x_expr (xappend (xv 1) (xv 3))) (xs_one (x_expr (xextend (xv 2) (x_lc newF rfl sc__law_flat.nd (blkOk_by (own := [("_law_inner", 4)]) (by kernel_rfl)) rfl (xi_seq (xix (xv 3) xint)) (fun _ _ _ _ _ => xgc_name (by decide) sc__law_flat.nd rfl (by first | exact .inl rfl | exact .inr rfl)) (fun _ _ _ _ _ => xts_one (xtcmp op_notN lf_notN (xv 4) xnon)) (fun _ _ _ _ _ => xv 4)))))))) (xs_one (x_ret (xfrz (xv 1)))))) (fun _ _ _ h => h.2)
theorem sc__law_only : FnScope N__law_only ["_law_graph_here", "_law_least", "_law_selector", "_law_count"] (defScope s__law_only) := ⟨rfl, rfl, rfl, by decide +kernel, rfl, by decide +kernel, by decide +kernel⟩
theorem ok__law_only (Φ : Phi K mg w) : FnOk P w K mg base CX0 1 Φ._law_only.f Φ._law_only.fd ["_law_graph_here", "_law_least", "_law_selector", "_law_count"] (spD K (F__law_only)) :=
  def_okK (d := rd__law_only) Φ._law_only.F sc__law_only (fun _ _ _ h => h.1) (fun cdv A outer s H E hr => xs_never) (fun _ _ _ h => h.2)
end
end K70
set_option maxRecDepth 100000
set_option maxHeartbeats 1000000
namespace K70
open PySem PySem.Spec PyProof.Rows L2 DL
section
variable {P : Program} {w : World} {K : PySem.W.Frag} {mg : Str → Option Value} {base : Heap}
theorem sc__law_others : FnScope N__law_others ["_law_graph_here", "_law_bodies", "_law_tables"] (defScope s__law_others) := ⟨rfl, rfl, rfl, by decide +kernel, rfl, by decide +kernel, by decide +kernel⟩
theorem ok__law_others (Φ : Phi K mg w) : FnOk P w K mg base CX0 1 Φ._law_others.f Φ._law_others.fd ["_law_graph_here", "_law_bodies", "_law_tables"] (spD K (F__law_others)) :=
  def_okK (d := rd__law_others) Φ._law_others.F sc__law_others (fun _ _ _ h => h.1) (fun cdv A outer s H E hr => xs_cons (x_set sc__law_others.nd rfl (by first | exact .inl rfl | exact .inr rfl) (xlst newP (xcons xnon (xcons (xtup xnil) (xcons (xtup (xcons (xv 1) xnil)) (xcons (xtup (xcons (xcallTy call_list_of (lf_list newF) (by rfl) Φ.n_list (by decide +kernel) (xcons (xv 1) xnil)) (xcons (xv 2) xnil))) (xcons (xtup (xcons (xv 1) (xcons (xcallTy call_list_of (lf_list newF) (by rfl) Φ.n_list (by decide +kernel) (xcons (xv 2) xnil)) xnil))) (xcons (xlst newF (xcons (xv 1) (xcons (xv 2) xnil))) (xcons (xtup (xcons (xv 1) (xcons (xv 2) (xcons (xtup xnil) xnil)))) (xcons (xtup (xcons (xop op_catA lf_catT (xv 1) (xslT (xv 1) (xo_some (xneg xint)) xo_none)) (xcons (xv 2) xnil))) (xcons (xtup (xcons (xop op_catA lf_catT (xv 1) (xtup (xcons (xcallB cr_lenA lf_len (by rfl) Φ.n_len (by decide +kernel) (xcons (xix (xv 0) xint) xnil)) xnil))) (xcons (xv 2) xnil))) (xcons (xtup (xcons (xv 1) (xcons (xop op_catA lf_catT (xv 2) (xtup (xcons (xcallB cr_lenA lf_len (by rfl) Φ.n_len (by decide +kernel) (xcons (xix (xv 0) xint) xnil)) xnil))) xnil))) (xcons (xtup (xcons (xop op_catA lf_catT (xtup (xcons (xneg xint) xnil)) (xv 1)) (xcons (xv 2) xnil))) (xcons (xtup (xcons (xop op_catA lf_catT (xtup (xcons xbl xnil)) (xv 1)) (xcons (xv 2) xnil))) (xcons (x_if (xtcmp (op_neD hr.units) lf_neD (xv 2) (xv 1)) (xtup (xcons (xv 2) (xcons (xv 1) xnil))) xint) (xcons (xtup (xcons (xv 1) (xcons (xop op_catA lf_catT (xv 2) (xtup (xcons xstr xnil))) xnil))) xnil)))))))))))))))) (xs_cons (x_ifs (xtcmp op_gt lf_B0 (xcallB cr_lenA lf_len (by rfl) Φ.n_len (by decide +kernel) (xcons (xv 1) xnil)) xint) (xs_one (x_expr (xappend (xv 3) (xtup (xcons (xrevT (xv 1)) (xcons (xv 2) xnil)))))) xs_nil) (xs_cons (x_ifs (xtcmp op_gt lf_B0 (xcallB cr_lenA lf_len (by rfl) Φ.n_len (by decide +kernel) (xcons (xv 2) xnil)) xint) (xs_one (x_expr (xappend (xv 3) (xtup (xcons (xv 1) (xcons (xrevT (xv 2)) xnil)))))) xs_nil) (xs_cons (x_for PassesOwn.never rfl (xi_range (by rfl) Φ.n_range (xcallB cr_lenA lf_len (by rfl) Φ.n_len (by decide +kernel) (xcons (xv 1) xnil))) (xg_name sc__law_others.nd rfl (by first | exact .inl rfl | exact .inr rfl)) (xs_one (x_expr (xappend (xv 3) (xtup (xcons (xop op_catA lf_catT (xslT (xv 1) xo_none (xo_some (xv 4))) (xslT (xv 1) (xo_some (xop op_add lf_I0 (xv 4) xint)) xo_none)) (xcons (xv 2) xnil))))))) (xs_cons (x_for PassesOwn.never rfl (xi_range (by rfl) Φ.n_range (xcallB cr_lenA lf_len (by rfl) Φ.n_len (by decide +kernel) (xcons (xv 2) xnil))) (xg_name sc__law_others.nd rfl (by first | exact .inl rfl | exact .inr rfl)) (xs_one (x_expr (xappend (xv 3) (xtup (xcons (xv 1) (xcons (xop op_catA lf_catT (xslT (xv 2) xo_none (xo_some (xv 4))) (xslT (xv 2) (xo_some (xop op_add lf_I0 (xv 4) xint)) xo_none)) xnil))))))) (xs_one (x_ret (xfrz (xv 3))))))))) (fun _ _ _ h => h.2)
theorem sc_all_cs : FnScope N_all_cs ["c"] (defScope s_all_cs) := ⟨rfl, rfl, rfl, by decide +kernel, rfl, by decide +kernel, by decide +kernel⟩
theorem ok_all_cs (Φ : Phi K mg w) : FnOk P w K mg base CX0 2 Φ.all_cs.f Φ.all_cs.fd ["c"] (spD K (F_all_cs)) :=
  def_okK (d := rd_all_cs) Φ.all_cs.F sc_all_cs (fun _ _ _ h => h.1) (fun cdv A outer s H E hr => xs_cons (x_set sc_all_cs.nd rfl (by first | exact .inl rfl | exact .inr rfl) (xlst newP xnil)) (xs_cons (x_set sc_all_cs.nd rfl (by first | exact .inl rfl | exact .inr rfl) (xlst newP (xcons (xv 0) xnil))) (xs_cons (x_while PassesOwn.never (xtcmp (op_neNil hr.units0) lf_neNil (xv 2) (xlst newF xnil)) (xs_cons (x_set sc_all_cs.nd rfl (by first | exact .inl rfl | exact .inr rfl) (xpop (xv 2) )) (xs_cons (x_expr (xappend (xv 1) (xv 3))) (xs_one (x_expr (xextend (xv 2) (xcall (ok_inner_cs Φ) (hr.mono (by omega)) (by rfl) Φ.inner_cs.g Φ.inner_cs.F.kp Φ.inner_cs.b (xcons (xv 3) xnil)))))))) (xs_one (x_ret (xfrz (xv 1))))))) (fun _ _ _ h => h.2)
theorem sc_bodies_asked : FnScope N_bodies_asked ["core", "asked", "made"] (defScope s_bodies_asked) := ⟨rfl, rfl, rfl, by decide +kernel, rfl, by decide +kernel, by decide +kernel⟩
theorem ok_bodies_asked (Φ : Phi K mg w) : FnOk P w K mg base CX0 2 Φ.bodies_asked.f Φ.bodies_asked.fd ["core", "asked", "made"] (spD K (F_bodies_asked)) :=
  def_okK (d := rd_bodies_asked) Φ.bodies_asked.F sc_bodies_asked (fun _ _ _ h => h.1) (fun cdv A outer s H E hr => xs_cons (x_asg (xv 1) (xg_tup rfl (xgs_cons (xg_name sc_bodies_asked.nd rfl (by first | exact .inl rfl | exact .inr rfl)) (xgs_cons (xg_name sc_bodies_asked.nd rfl (by first | exact .inl rfl | exact .inr rfl)) (xgs_cons (xg_name sc_bodies_asked.nd rfl (by first | exact .inl rfl | exact .inr rfl)) (xgs_cons (xg_name sc_bodies_asked.nd rfl (by first | exact .inl rfl | exact .inr rfl)) xgs_nil)))))) (xs_cons (x_set sc_bodies_asked.nd rfl (by first | exact .inl rfl | exact .inr rfl) (xop op_cat (lf_catL newP) (xop op_cat (lf_catL newF) (x_lc newF rfl sc_bodies_asked.nd (blkOk_by (own := [("number", 8)]) (by kernel_rfl)) rfl (xi_seq (xv 3)) (fun _ _ _ _ _ => xgc_name (by decide) sc_bodies_asked.nd rfl (by first | exact .inl rfl | exact .inr rfl)) (fun _ _ _ _ _ => xts_nil) (fun _ _ _ _ _ => xix (xix (xix (xv 0) xint) (xv 8)) xint)) (xcallTy call_list_of (lf_list newF) (by rfl) Φ.n_list (by decide +kernel) (xcons (xv 4) xnil))) (x_lc newF rfl sc_bodies_asked.nd (blkOk_by (own := [("number", 8)]) (by kernel_rfl)) rfl (xi_seq (xv 5)) (fun _ _ _ _ _ => xgc_name (by decide) sc_bodies_asked.nd rfl (by first | exact .inl rfl | exact .inr rfl)) (fun _ _ _ _ _ => xts_nil) (fun _ _ _ _ _ => xix (xix (xix (xv 0) xint) (xv 8)) xint)))) (xs_cons (x_for PassesOwn.never rfl (xi_seq (xv 6)) (xg_name sc_bodies_asked.nd rfl (by first | exact .inl rfl | exact .inr rfl)) (xs_cons (x_setLc newF rfl sc_bodies_asked.nd rfl rfl (sw_true rfl rfl (by decide) (by decide +kernel)) (blkOk_by (own := [("number", 8)]) (by kernel_rfl)) rfl (xi_seq (xv 2)) (fun _ _ _ _ _ => xgc_name (by decide) sc_bodies_asked.nd rfl (by first | exact .inl rfl | exact .inr rfl)) (fun _ _ _ _ _ => xts_nil) (fun _ _ _ _ _ => xcall (ok_row_body Φ) (hr.mono (by omega)) (by rfl) Φ.row_body.g Φ.row_body.F.kp Φ.row_body.b (xcons (xix (xix (xv 0) xint) (xv 8)) (xcons (xv 9) xnil)))) (xs_one (x_expr (xextend (xv 7) (x_lc newF rfl sc_bodies_asked.nd (blkOk_by (own := [("row", 11)]) (by kernel_rfl)) rfl (xi_seq (xv 10)) (fun _ _ _ _ _ => xgc_name (by decide) sc_bodies_asked.nd rfl (by first | exact .inl rfl | exact .inr rfl)) (fun _ _ _ _ _ => xts_one (xtcmp op_notN lf_notN (xv 11) xnon)) (fun _ _ _ _ _ => xv 11))))))) (xs_one (x_ret (xfrz (xv 7))))))) (fun _ _ _ h => h.2)
theorem sc_is_count : FnScope N_is_count ["thing", "most"] (defScope s_is_count) := ⟨rfl, rfl, rfl, by decide +kernel, rfl, by decide +kernel, by decide +kernel⟩
theorem ok_is_count (Φ : Phi K mg w) : FnOk P w K mg base CX0 2 Φ.is_count.f Φ.is_count.fd ["thing", "most"] (spD K (F_is_count)) :=
  def_okK (d := rd_is_count) Φ.is_count.F sc_is_count (fun _ _ _ h => h.1) (fun cdv A outer s H E hr => xs_one (x_ret (x_and (xcall (ok_is_whole Φ) (hr.mono (by omega)) (by rfl) Φ.is_whole.g Φ.is_whole.F.kp Φ.is_whole.b (xcons (xv 0) xnil)) (x_one (xchain op_le lf_B0 op_le lf_B0 xint (xv 0) (xv 1)))))) (fun _ _ _ h => h.2)
theorem sc_is_text_row : FnScope N_is_text_row ["thing"] (defScope s_is_text_row) := ⟨rfl, rfl, rfl, by decide +kernel, rfl, by decide +kernel, by decide +kernel⟩
theorem ok_is_text_row (Φ : Phi K mg w) : FnOk P w K mg base CX0 2 Φ.is_text_row.f Φ.is_text_row.fd ["thing"] (spD K (F_is_text_row)) :=
  def_okK (d := rd_is_text_row) Φ.is_text_row.F sc_is_text_row (fun _ _ _ h => h.1) (fun cdv A outer s H E hr => xs_one (x_ret (x_and (xisT .tuple (by rfl) Φ.n_isinstance (by rfl) Φ.n_tuple (by decide +kernel) (xv 0)) (x_one (xcallB (cr_all rfl) lf_all (by rfl) Φ.n_all (by decide +kernel) (xcons (x_lc newF rfl sc_is_text_row.nd (blkOk_by (own := [("one", 1)]) (by kernel_rfl)) rfl (xi_seq (xv 0)) (fun _ _ _ _ _ => xgc_name (by decide) sc_is_text_row.nd rfl (by first | exact .inl rfl | exact .inr rfl)) (fun _ _ _ _ _ => xts_nil) (fun _ _ _ _ _ => xcall (ok_is_core_text Φ) (hr.mono (by omega)) (by rfl) Φ.is_core_text.g Φ.is_core_text.F.kp Φ.is_core_text.b (xcons (xv 1) (xcons xint xnil)))) xnil)))))) (fun _ _ _ h => h.2)
theorem sc_fits_alone : FnScope N_fits_alone ["c"] (defScope s_fits_alone) := ⟨rfl, rfl, rfl, by decide +kernel, rfl, by decide +kernel, by decide +kernel⟩
theorem ok_fits_alone (Φ : Phi K mg w) : FnOk P w K mg base CX0 2 Φ.fits_alone.f Φ.fits_alone.fd ["c"] (spD K (F_fits_alone)) :=
  def_okK (d := rd_fits_alone) Φ.fits_alone.F sc_fits_alone (fun _ _ _ h => h.1) (fun cdv A outer s H E hr => xs_cons (x_set sc_fits_alone.nd rfl (by first | exact .inl rfl | exact .inr rfl) (xix (xv 0) xint)) (xs_cons (x_ifs (xtcmp op_eq lf_eq (xv 1) xstr) (xs_one (x_ret (xcall (ok_is_whole Φ) (hr.mono (by omega)) (by rfl) Φ.is_whole.g Φ.is_whole.F.kp Φ.is_whole.b (xcons (xix (xv 0) xint) xnil)))) xs_nil) (xs_cons (x_ifs (xtcmp op_eq lf_eq (xv 1) xstr) (xs_one (x_ret (xisT .bool (by rfl) Φ.n_isinstance (by rfl) Φ.n_bool (by decide +kernel) (xix (xv 0) xint)))) xs_nil) (xs_cons (x_ifs (xtcmp op_eq lf_eq (xv 1) xstr) (xs_one (x_ret (x_and (xcall (ok_is_whole Φ) (hr.mono (by omega)) (by rfl) Φ.is_whole.g Φ.is_whole.F.kp Φ.is_whole.b (xcons (xix (xv 0) xint) xnil)) (x_one (xcmp op_ge lf_B0 (xix (xv 0) xint) xint))))) xs_nil) (xs_cons (x_ifs (xtcmp op_eq lf_eq (xv 1) xstr) (xs_one (x_ret (x_and (xisT .str (by rfl) Φ.n_isinstance (by rfl) Φ.n_str (by decide +kernel) (xix (xv 0) xint)) (x_one (xwin Φ.W_OPS (by rfl) Φ.g_OPS (xix (xv 0) xint)))))) xs_nil) (xs_cons (x_ifs (xtcmp op_eq lf_eq (xv 1) xstr) (xs_one (x_ret (x_and (xisT .str (by rfl) Φ.n_isinstance (by rfl) Φ.n_str (by decide +kernel) (xix (xv 0) xint)) (x_one (xwin Φ.W_STOPS (by rfl) Φ.g_STOPS (xix (xv 0) xint)))))) xs_nil) (xs_cons (x_ifs (xtcmp op_eq lf_eq (xv 1) xstr) (xs_one (x_ret (xcall (ok_is_core_text Φ) (hr.mono (by omega)) (by rfl) Φ.is_core_text.g Φ.is_core_text.F.kp Φ.is_core_text.b (xcons (xix (xv 0) xint) (xcons xint xnil))))) xs_nil) (xs_one (x_ret (xcall (ok_is_core_text Φ) (hr.mono (by omega)) (by rfl) Φ.is_core_text.g Φ.is_core_text.F.kp Φ.is_core_text.b (xcons (xix (xv 0) xint) (xcons (x_if (xtcmp op_eq lf_eq (xv 1) xstr) xint xint) xnil)))))))))))) (fun _ _ _ h => h.2)
theorem sc__law_one : FnScope N__law_one ["_law_feed_here", "_law_things"] (defScope s__law_one) := ⟨rfl, rfl, rfl, by decide +kernel, rfl, by decide +kernel, by decide +kernel⟩
theorem ok__law_one (Φ : Phi K mg w) : FnOk P w K mg base CX0 2 Φ._law_one.f Φ._law_one.fd ["_law_feed_here", "_law_things"] (spD K (F__law_one)) :=
  def_okK (d := rd__law_one) Φ._law_one.F sc__law_one (fun _ _ _ h => h.1) (fun cdv A outer s H E hr => xs_one (x_ret (xix (xv 1) (xcall (ok__law_draw Φ) (hr.mono (by omega)) (by rfl) Φ._law_draw.g Φ._law_draw.F.kp Φ._law_draw.b (xcons (xv 0) (xcons (xcallB cr_lenA lf_len (by rfl) Φ.n_len (by decide +kernel) (xcons (xv 1) xnil)) xnil)))))) (fun _ _ _ h => h.2)
theorem sc__law_closure : FnScope N__law_closure ["_law_graph_here", "_law_begun", "_law_made"] (defScope s__law_closure) := ⟨rfl, rfl, rfl, by decide +kernel, rfl, by decide +kernel, by decide +kernel⟩
theorem ok__law_closure (Φ : Phi K mg w) : FnOk P w K mg base CX0 2 Φ._law_closure.f Φ._law_closure.fd ["_law_graph_here", "_law_begun", "_law_made"] (spD K (F__law_closure)) :=
  def_okK (d := rd__law_closure) Φ._law_closure.F sc__law_closure (fun _ _ _ h => h.1) (fun cdv A outer s H E hr => xs_cons (x_asg (xv 0) (xg_tup rfl (xgs_cons (xg_name sc__law_closure.nd rfl (by first | exact .inl rfl | exact .inr rfl)) (xgs_cons (xg_name sc__law_closure.nd rfl (by first | exact .inl rfl | exact .inr rfl)) (xgs_cons (xg_name sc__law_closure.nd rfl (by first | exact .inl rfl | exact .inr rfl)) (xgs_cons (xg_name sc__law_closure.nd rfl (by first | exact .inl rfl | exact .inr rfl)) (xgs_cons (xg_name sc__law_closure.nd rfl (by first | exact .inl rfl | exact .inr rfl)) xgs_nil))))))) (xs_cons (x_asg (xtup (xcons (x_lc newP rfl sc__law_closure.nd (blkOk_by (own := [("_law_at", 10)]) (by kernel_rfl)) rfl (xi_range (by rfl) Φ.n_range (xcallB cr_lenA lf_len (by rfl) Φ.n_len (by decide +kernel) (xcons (xv 3) xnil))) (fun _ _ _ _ _ => xgc_name (by decide) sc__law_closure.nd rfl (by first | exact .inl rfl | exact .inr rfl)) (fun _ _ _ _ _ => xts_nil) (fun _ _ _ _ _ => xcmp op_in_seq lf_inI (xv 10) (xv 1))) (xcons (x_lc newP rfl sc__law_closure.nd (blkOk_by (own := [("_law_at", 10)]) (by kernel_rfl)) rfl (xi_range (by rfl) Φ.n_range (xcallB cr_lenA lf_len (by rfl) Φ.n_len (by decide +kernel) (xcons (xv 5) xnil))) (fun _ _ _ _ _ => xgc_name (by decide) sc__law_closure.nd rfl (by first | exact .inl rfl | exact .inr rfl)) (fun _ _ _ _ _ => xts_nil) (fun _ _ _ _ _ => xcmp op_in_seq lf_inI (xv 10) (xv 2))) xnil))) (xg_tup rfl (xgs_cons (xg_name sc__law_closure.nd rfl (by first | exact .inl rfl | exact .inr rfl)) (xgs_cons (xg_name sc__law_closure.nd rfl (by first | exact .inl rfl | exact .inr rfl)) xgs_nil)))) (xs_cons (x_setLc newF rfl sc__law_closure.nd rfl rfl (sw_true rfl rfl (by decide) (by decide +kernel)) (blkOk_by (own := [("_law_row", 12)]) (by kernel_rfl)) rfl (xi_seq (xv 4)) (fun _ _ _ _ _ => xgc_name (by decide) sc__law_closure.nd rfl (by first | exact .inl rfl | exact .inr rfl)) (fun _ _ _ _ _ => xts_nil) (fun _ _ _ _ _ => xcall (ok__law_flat Φ) (hr.mono (by omega)) (by rfl) Φ._law_flat.g Φ._law_flat.F.kp Φ._law_flat.b (xcons (xv 12) xnil))) (xs_cons (x_for PassesOwn.never rfl (xi_range (by rfl) Φ.n_range (xop op_add lf_I0 (xop op_add lf_I0 (xcallB cr_lenA lf_len (by rfl) Φ.n_len (by decide +kernel) (xcons (xv 3) xnil)) (xcallB cr_lenA lf_len (by rfl) Φ.n_len (by decide +kernel) (xcons (xv 5) xnil))) xint)) (xg_name sc__law_closure.nd rfl (by first | exact .inl rfl | exact .inr rfl)) (xs_one (x_for PassesOwn.never rfl (xi_range (by rfl) Φ.n_range (xcallB cr_lenA lf_len (by rfl) Φ.n_len (by decide +kernel) (xcons (xv 3) xnil))) (xg_name sc__law_closure.nd rfl (by first | exact .inl rfl | exact .inr rfl)) (xs_one (x_for PassesOwn.never rfl (xi_seq (x_if (xtv (xix (xv 8) (xv 10))) (xix (xv 11) (xv 10)) (xlst newF xnil))) (xg_name sc__law_closure.nd rfl (by first | exact .inl rfl | exact .inr rfl)) (xs_one (x_ifs (xtcmp op_eq lf_eq (xix (xv 14) xint) xstr) (xs_one (x_asg xbl (xg_sub (xv 8) (xix (xv 14) xint)))) (xs_one (x_ifs (xtcmp op_eq lf_eq (xix (xv 14) xint) xstr) (xs_one (x_asg xbl (xg_sub (xv 8) (xix (xv 6) (xix (xv 14) xint))))) (xs_one (x_ifs (xtcmp op_eq lf_eq (xix (xv 14) xint) xstr) (xs_cons (x_asg xbl (xg_sub (xv 9) (xix (xv 14) xint))) (xs_one (x_asg xbl (xg_sub (xv 8) (xix (xix (xv 5) (xix (xv 14) xint)) xint))))) (xs_one (x_for PassesOwn.never rfl (xi_enum (by rfl) Φ.n_enumerate (xv 5)) (xg_tup rfl (xgs_cons (xg_name sc__law_closure.nd rfl (by first | exact .inl rfl | exact .inr rfl)) (xgs_cons (xg_tup rfl (xgs_cons (xg_name sc__law_closure.nd rfl (by first | exact .inl rfl | exact .inr rfl)) (xgs_cons (xg_name sc__law_closure.nd rfl (by first | exact .inl rfl | exact .inr rfl)) xgs_nil))) xgs_nil))) (xs_one (x_for PassesOwn.never rfl (xi_seq (x_if (xtv (xix (xv 9) (xv 15))) (xv 16) (xlst newF xnil))) (xg_tup rfl (xgs_cons (xg_name sc__law_closure.nd rfl (by first | exact .inl rfl | exact .inr rfl)) (xgs_cons (xg_name sc__law_closure.nd rfl (by first | exact .inl rfl | exact .inr rfl)) xgs_nil))) (xs_one (x_ifs (xtcmp op_eq lf_eq (xv 18) (xix (xv 14) xint)) (xs_one (x_asg xbl (xg_sub (xv 8) (xv 19)))) xs_nil))))))))))))))))) (xs_one (x_ret (xtup (xcons (xcallTy call_tuple_of lf_tuple (by rfl) Φ.n_tuple (by decide +kernel) (xcons (x_lc newF rfl sc__law_closure.nd (blkOk_by (own := [("_law_at", 10)]) (by kernel_rfl)) rfl (xi_range (by rfl) Φ.n_range (xcallB cr_lenA lf_len (by rfl) Φ.n_len (by decide +kernel) (xcons (xv 3) xnil))) (fun _ _ _ _ _ => xgc_name (by decide) sc__law_closure.nd rfl (by first | exact .inl rfl | exact .inr rfl)) (fun _ _ _ _ _ => xts_one (xtv (xix (xv 8) (xv 10)))) (fun _ _ _ _ _ => xv 10)) xnil)) (xcons (xcallTy call_tuple_of lf_tuple (by rfl) Φ.n_tuple (by decide +kernel) (xcons (x_lc newF rfl sc__law_closure.nd (blkOk_by (own := [("_law_at", 10)]) (by kernel_rfl)) rfl (xi_range (by rfl) Φ.n_range (xcallB cr_lenA lf_len (by rfl) Φ.n_len (by decide +kernel) (xcons (xv 5) xnil))) (fun _ _ _ _ _ => xgc_name (by decide) sc__law_closure.nd rfl (by first | exact .inl rfl | exact .inr rfl)) (fun _ _ _ _ _ => xts_one (xtv (xix (xv 9) (xv 10)))) (fun _ _ _ _ _ => xv 10)) xnil)) xnil))))))))) (fun _ _ _ h => h.2)
theorem sc__law_asked : FnScope N__law_asked ["_law_ask_here", "_law_graph_here", "_law_names", "_law_least"] (defScope s__law_asked) := ⟨rfl, rfl, rfl, by decide +kernel, rfl, by decide +kernel, by decide +kernel⟩
theorem ok__law_asked (Φ : Phi K mg w) (n : Nat) : FnOk P w K mg base CX0 (2 + n) Φ._law_asked.f Φ._law_asked.fd ["_law_ask_here", "_law_graph_here", "_law_names", "_law_least"] (spD K (F__law_asked n)) := by
  induction n with
  | zero => exact never_ok
  | succ n ih => exact def_okK (k := 2 + n) Φ._law_asked.F sc__law_asked (fun _ _ _ h => h.1) (fun cdv A outer s H E hr => xs_cons (x_set sc__law_asked.nd rfl (by first | exact .inl rfl | exact .inr rfl) (xcallTy call_tuple_of lf_tuple (by rfl) Φ.n_tuple (by decide +kernel) (xcons (x_lc newF rfl sc__law_asked.nd (blkOk_by (own := [("_law_inner", 5)]) (by kernel_rfl)) rfl (xi_seq (xix (xv 0) xint)) (fun _ _ _ _ _ => xgc_name (by decide) sc__law_asked.nd rfl (by first | exact .inl rfl | exact .inr rfl)) (fun _ _ _ _ _ => xts_nil) (fun _ _ _ _ _ => x_if (xtcmp op_isN lf_isN (xv 5) xnon) (xtup (xcons xstr xnil)) (xcall ih (hr.mono (by omega)) (by rfl) Φ._law_asked.g Φ._law_asked.F.kp Φ._law_asked.b (xcons (xv 5) (xcons (xv 1) (xcons (xv 2) (xcons (xv 3) xnil))))))) xnil))) (xs_cons (x_ifs (xtcmp op_eq lf_eq (xix (xv 0) xint) xstr) (xs_one (x_ret (xtup (xcons xstr (xcons (xix (xix (xv 2) xint) (xix (xv 0) xint)) (xcons (xv 4) xnil)))))) xs_nil) (xs_cons (x_ifs (xtcmp op_eq lf_eq (xix (xv 0) xint) xstr) (xs_one (x_ret (xtup (xcons xstr (xcons (xix (xix (xv 2) xint) (xix (xv 0) xint)) (xcons (xv 4) xnil)))))) xs_nil) (xs_cons (x_ifs (xtcmp op_eq lf_eq (xix (xv 0) xint) xstr) (xs_one (x_ret (xtup (xcons xstr (xcons (xix (xix (xv 2) xint) (xix (xv 0) xint)) xnil))))) xs_nil) (xs_cons (x_set sc__law_asked.nd rfl (by first | exact .inl rfl | exact .inr rfl) (x_if (xtcmp op_isN lf_isN (xv 3) xnon) xnon (xcall (ok__law_only Φ) (hr.mono (by omega)) (by rfl) Φ._law_only.g Φ._law_only.F.kp Φ._law_only.b (xcons (xv 1) (xcons (xv 3) (xcons (xix (xv 0) xint) (xcons (xcallB cr_lenA lf_len (by rfl) Φ.n_len (by decide +kernel) (xcons (xv 4) xnil)) xnil))))))) (xs_one (x_ret (x_if (xtcmp op_isN lf_isN (xv 6) xnon) (xtup (xcons xstr (xcons (xix (xv 4) xint) (xcons (xix (xv 0) xint) (xcons (xslT (xv 4) (xo_some xint) xo_none) xnil))))) (xtup (xcons xstr (xcons (xix (xix (xv 2) xint) (xv 6)) (xcons (xv 4) xnil)))))))))))) (fun _ _ _ h => h.2)
theorem sc__law_drawn : FnScope N__law_drawn ["_law_feed_here", "_law_whole", "_law_least"] (defScope s__law_drawn) := ⟨rfl, rfl, rfl, by decide +kernel, rfl, by decide +kernel, by decide +kernel⟩
theorem ok__law_drawn (Φ : Phi K mg w) : FnOk P w K mg base CX0 2 Φ._law_drawn.f Φ._law_drawn.fd ["_law_feed_here", "_law_whole", "_law_least"] (spD K (F__law_drawn)) :=
  def_okK (d := rd__law_drawn) Φ._law_drawn.F sc__law_drawn (fun _ _ _ h => h.1) (fun cdv A outer s H E hr => xs_one (x_ret (xcallTy call_tuple_of lf_tuple (by rfl) Φ.n_tuple (by decide +kernel) (xcons (x_lc newF rfl sc__law_drawn.nd (blkOk_by (own := [("_law_at", 3)]) (by kernel_rfl)) rfl (xi_range (by rfl) Φ.n_range (xv 1)) (fun _ _ _ _ _ => xgc_name (by decide) sc__law_drawn.nd rfl (by first | exact .inl rfl | exact .inr rfl)) (fun _ _ _ _ _ => xts_one ((xw_or (xtcmp op_in_seq lf_inI (xv 3) (xv 2)) (xw_or1 (xtcmp op_eq lf_eq (xcall (ok__law_draw Φ) (hr.mono (by omega)) (by rfl) Φ._law_draw.g Φ._law_draw.F.kp Φ._law_draw.b (xcons (xv 0) (xcons xint xnil))) xint))).pt)) (fun _ _ _ _ _ => xv 3)) xnil)))) (fun _ _ _ h => h.2)
theorem sc_asked_in : FnScope N_asked_in ["c"] (defScope s_asked_in) := ⟨rfl, rfl, rfl, by decide +kernel, rfl, by decide +kernel, by decide +kernel⟩
theorem ok_asked_in (Φ : Phi K mg w) : FnOk P w K mg base CX0 3 Φ.asked_in.f Φ.asked_in.fd ["c"] (spD K (F_asked_in)) :=
  def_okK (d := rd_asked_in) Φ.asked_in.F sc_asked_in (fun _ _ _ h => h.1) (fun cdv A outer s H E hr => xs_cons (x_asg (xtup (xcons (xlst newP xnil) (xcons (xlst newP xnil) (xcons (xlst newP xnil) (xcons (xlst newP xnil) xnil))))) (xg_tup rfl (xgs_cons (xg_name sc_asked_in.nd rfl (by first | exact .inl rfl | exact .inr rfl)) (xgs_cons (xg_name sc_asked_in.nd rfl (by first | exact .inl rfl | exact .inr rfl)) (xgs_cons (xg_name sc_asked_in.nd rfl (by first | exact .inl rfl | exact .inr rfl)) (xgs_cons (xg_name sc_asked_in.nd rfl (by first | exact .inl rfl | exact .inr rfl)) xgs_nil)))))) (xs_cons (x_for PassesOwn.never rfl (xi_seq (xcall (ok_all_cs Φ) (hr.mono (by omega)) (by rfl) Φ.all_cs.g Φ.all_cs.F.kp Φ.all_cs.b (xcons (xv 0) xnil))) (xg_name sc_asked_in.nd rfl (by first | exact .inl rfl | exact .inr rfl)) (xs_one (x_ifs (xtcmp op_eq lf_eq (xix (xv 5) xint) xstr) (xs_one (x_expr (xappend (xv 1) (xix (xv 5) xint)))) (xs_one (x_ifs (xtcmp op_eq lf_eq (xix (xv 5) xint) xstr) (xs_one (x_expr (xappend (xv 2) (xix (xv 5) xint)))) (xs_one (x_ifs (xtcmp op_eq lf_eq (xix (xv 5) xint) xstr) (xs_one (x_expr (xappend (xv 3) (xix (xv 5) xint)))) (xs_one (x_ifs (xtcmp op_eq lf_eq (xix (xv 5) xint) xstr) (xs_one (x_expr (xappend (xv 4) (xix (xv 5) xint)))) xs_nil))))))))) (xs_one (x_ret (xtup (xcons (xfrz (xv 1)) (xcons (xfrz (xv 2)) (xcons (xfrz (xv 3)) (xcons (xfrz (xv 4)) xnil))))))))) (fun _ _ _ h => h.2)
theorem sc_is_number_row : FnScope N_is_number_row ["thing", "most"] (defScope s_is_number_row) := ⟨rfl, rfl, rfl, by decide +kernel, rfl, by decide +kernel, by decide +kernel⟩
theorem ok_is_number_row (Φ : Phi K mg w) : FnOk P w K mg base CX0 3 Φ.is_number_row.f Φ.is_number_row.fd ["thing", "most"] (spD K (F_is_number_row)) :=
  def_okK (d := rd_is_number_row) Φ.is_number_row.F sc_is_number_row (fun _ _ _ h => h.1) (fun cdv A outer s H E hr => xs_one (x_ret (x_and (xisT .tuple (by rfl) Φ.n_isinstance (by rfl) Φ.n_tuple (by decide +kernel) (xv 0)) (x_one (xcallB (cr_all rfl) lf_all (by rfl) Φ.n_all (by decide +kernel) (xcons (x_lc newF rfl sc_is_number_row.nd (blkOk_by (own := [("one", 2)]) (by kernel_rfl)) rfl (xi_seq (xv 0)) (fun _ _ _ _ _ => xgc_name (by decide) sc_is_number_row.nd rfl (by first | exact .inl rfl | exact .inr rfl)) (fun _ _ _ _ _ => xts_nil) (fun _ _ _ _ _ => xcall (ok_is_count Φ) (hr.mono (by omega)) (by rfl) Φ.is_count.g Φ.is_count.F.kp Φ.is_count.b (xcons (xv 2) (xcons (xv 1) xnil)))) xnil)))))) (fun _ _ _ h => h.2)
end
end K70
set_option maxRecDepth 100000
set_option maxHeartbeats 1000000
namespace K70
open PySem PySem.Spec PyProof.Rows L2 DL
section
variable {P : Program} {w : World} {K : PySem.W.Frag} {mg : Str → Option Value} {base : Heap}
theorem sc_is_body : FnScope N_is_body ["thing"] (defScope s_is_body) := ⟨rfl, rfl, rfl, by decide +kernel, rfl, by decide +kernel, by decide +kernel⟩
theorem ok_is_body (Φ : Phi K mg w) : FnOk P w K mg base CX0 3 Φ.is_body.f Φ.is_body.fd ["thing"] (spD K (F_is_body)) :=
  def_okK (d := rd_is_body) Φ.is_body.F sc_is_body (fun _ _ _ h => h.1) (fun cdv A outer s H E hr => xs_cons (x_ifs ((xw_or (xt_not (xtv (xisT .tuple (by rfl) Φ.n_isinstance (by rfl) Φ.n_tuple (by decide +kernel) (xv 0)))) (xw_or1 (xtcmp op_ne lf_ne (xcallB cr_lenA lf_len (by rfl) Φ.n_len (by decide +kernel) (xcons (xv 0) xnil)) xint))).pt) (xs_one (x_ret xbl)) xs_nil) (xs_one (x_ret (x_and (xcall (ok_is_count Φ) (hr.mono (by omega)) (by rfl) Φ.is_count.g Φ.is_count.F.kp Φ.is_count.b (xcons (xix (xv 0) xint) (xcons (xglobI (by rfl) Φ.i_MOST_LOCALS) xnil))) (x_one (xcall (ok_is_count Φ) (hr.mono (by omega)) (by rfl) Φ.is_count.g Φ.is_count.F.kp Φ.is_count.b (xcons (xix (xv 0) xint) (xcons (xop op_sub lf_I0 (xglobI (by rfl) Φ.i_MOST_LOCALS) (xix (xv 0) xint)) xnil)))))))) (fun _ _ _ h => h.2)
theorem sc_is_entry : FnScope N_is_entry ["thing", "bodies"] (defScope s_is_entry) := ⟨rfl, rfl, rfl, by decide +kernel, rfl, by decide +kernel, by decide +kernel⟩
theorem ok_is_entry (Φ : Phi K mg w) : FnOk P w K mg base CX0 3 Φ.is_entry.f Φ.is_entry.fd ["thing", "bodies"] (spD K (F_is_entry)) :=
  def_okK (d := rd_is_entry) Φ.is_entry.F sc_is_entry (fun _ _ _ h => h.1) (fun cdv A outer s H E hr => xs_one (x_ret (x_and (xcall (ok_is_count Φ) (hr.mono (by omega)) (by rfl) Φ.is_count.g Φ.is_count.F.kp Φ.is_count.b (xcons (xv 0) (xcons (xop op_sub lf_I0 (xcallB cr_lenA lf_len (by rfl) Φ.n_len (by decide +kernel) (xcons (xv 1) xnil)) xint) xnil))) (x_one (xcmp op_gt lf_B0 (xix (xix (xv 1) (xv 0)) xint) xint))))) (fun _ _ _ h => h.2)
theorem sc_is_start : FnScope N_is_start ["thing", "bodies"] (defScope s_is_start) := ⟨rfl, rfl, rfl, by decide +kernel, rfl, by decide +kernel, by decide +kernel⟩
theorem ok_is_start (Φ : Phi K mg w) : FnOk P w K mg base CX0 3 Φ.is_start.f Φ.is_start.fd ["thing", "bodies"] (spD K (F_is_start)) :=
  def_okK (d := rd_is_start) Φ.is_start.F sc_is_start (fun _ _ _ h => h.1) (fun cdv A outer s H E hr => xs_one (x_ret (x_and (xcall (ok_is_count Φ) (hr.mono (by omega)) (by rfl) Φ.is_count.g Φ.is_count.F.kp Φ.is_count.b (xcons (xv 0) (xcons (xop op_sub lf_I0 (xcallB cr_lenA lf_len (by rfl) Φ.n_len (by decide +kernel) (xcons (xv 1) xnil)) xint) xnil))) (x_one (xcmp op_eq lf_eq (xix (xix (xv 1) (xv 0)) xint) xint))))) (fun _ _ _ h => h.2)
theorem sc_BodyLook_binds : FnScope N_BodyLook_binds ["self", "numbers"] (defScope s_BodyLook_binds) := ⟨rfl, rfl, rfl, by decide +kernel, rfl, by decide +kernel, by decide +kernel⟩
theorem ok_BodyLook_binds (Φ : Phi K mg w) : FnOk P w K mg base CX0 3 Φ.BodyLook_binds.f Φ.BodyLook_binds.fd ["self", "numbers"] (spD K (F_BodyLook_binds Φ.C)) :=
  def_okK (d := rd_BodyLook_binds Φ.C) Φ.BodyLook_binds.F sc_BodyLook_binds (fun _ _ _ h => h.1) (fun cdv A outer s H E hr => xs_cons (x_for PassesOwn.never rfl (xi_seq (xv 1)) (xg_name sc_BodyLook_binds.nd rfl (by first | exact .inl rfl | exact .inr rfl)) (xs_cons (x_ifs ((xw_or (xt_not (xtv (xcall (ok_is_count Φ) (hr.mono (by omega)) (by rfl) Φ.is_count.g Φ.is_count.F.kp Φ.is_count.b (xcons (xv 2) (xcons (xop op_sub lf_I0 (xop op_add lf_I0 (xfld Φ.cls Φ.na_params (xv 0)) (xfld Φ.cls Φ.na_further (xv 0))) xint) xnil))))) (xw_or (xtcmp op_lt lf_B0 (xv 2) (xfld Φ.cls Φ.na_params (xv 0))) (xw_or1 (xtin (un hr) (xv 2) (xfld Φ.cls Φ.na_bound (xv 0)))))).pt) (xs_one (x_ret xbl)) xs_nil) (xs_one (x_dput (un hr) (xfld Φ.cls Φ.na_bound (xv 0)) (xv 2) xbl)))) (xs_one (x_ret xbl))) (fun _ _ _ h => h.2)
theorem sc__law_ask : FnScope N__law_ask ["_law_feed_here", "_law_know", "_law_deep"] (defScope s__law_ask) := ⟨rfl, rfl, rfl, by decide +kernel, rfl, by decide +kernel, by decide +kernel⟩
theorem ok__law_ask (Φ : Phi K mg w) (n : Nat) : FnOk P w K mg base CX0 (3 + n) Φ._law_ask.f Φ._law_ask.fd ["_law_feed_here", "_law_know", "_law_deep"] (spD K (F__law_ask n)) := by
  induction n with
  | zero => exact never_ok
  | succ n ih => exact def_okK (k := 3 + n) Φ._law_ask.F sc__law_ask (fun _ _ _ h => h.1) (fun cdv A outer s H E hr => xs_cons (x_asg (xv 1) (xg_tup rfl (xgs_cons (xg_name sc__law_ask.nd rfl (by first | exact .inl rfl | exact .inr rfl)) (xgs_cons (xg_name sc__law_ask.nd rfl (by first | exact .inl rfl | exact .inr rfl)) (xgs_cons (xg_name sc__law_ask.nd rfl (by first | exact .inl rfl | exact .inr rfl)) xgs_nil))))) (xs_cons (x_par3 rfl sc__law_ask.nd rfl rfl rfl (by decide) (by decide) (by decide) rfl rfl rfl (xcall (ok__law_draw Φ) (hr.mono (by omega)) (by rfl) Φ._law_draw.g Φ._law_draw.F.kp Φ._law_draw.b (xcons (xv 0) (xcons xint xnil))) xint xint (by rfl)) (xs_cons (x_set sc__law_ask.nd rfl (by first | exact .inl rfl | exact .inr rfl) xstr) (xs_cons (x_ifs ((xw_and (xtcmp op_eq lf_eq (xv 6) xint) (xw_and1 (xtcmp (op_neNil hr.units0) lf_neNil (xv 4) (xlst newF xnil)))).pt) (xs_cons (x_par rfl sc__law_ask.nd rfl rfl (by decide) rfl rfl xstr (xcall (ok__law_draw Φ) (hr.mono (by omega)) (by rfl) Φ._law_draw.g Φ._law_draw.F.kp Φ._law_draw.b (xcons (xv 0) (xcons (xcallB cr_lenA lf_len (by rfl) Φ.n_len (by decide +kernel) (xcons (xv 4) xnil)) xnil))) (by rfl)) (xs_one (x_set sc__law_ask.nd rfl (by first | exact .inl rfl | exact .inr rfl) (xop op_sub lf_I0 (xix (xv 3) (xix (xix (xv 4) (xv 7)) xint)) xint)))) (xs_one (x_ifs ((xw_and (xtcmp op_eq lf_eq (xv 6) xint) (xw_and1 (xtcmp (op_neNil hr.units0) lf_neNil (xv 5) (xlst newF xnil)))).pt) (xs_one (x_par rfl sc__law_ask.nd rfl rfl (by decide) rfl rfl xstr (xcall (ok__law_draw Φ) (hr.mono (by omega)) (by rfl) Φ._law_draw.g Φ._law_draw.F.kp Φ._law_draw.b (xcons (xv 0) (xcons (xcallB cr_lenA lf_len (by rfl) Φ.n_len (by decide +kernel) (xcons (xv 5) xnil)) xnil))) (by rfl))) (xs_one (x_ifs (xtcmp op_gt lf_B0 (xv 6) xint) (xs_one (x_par3 rfl sc__law_ask.nd rfl rfl rfl (by decide) (by decide) (by decide) rfl rfl rfl xstr (xcall (ok__law_one Φ) (hr.mono (by omega)) (by rfl) Φ._law_one.g Φ._law_one.F.kp Φ._law_one.b (xcons (xv 0) (xcons (xlst newF (xcons xstr (xcons xstr (xcons xstr (xcons xstr xnil))))) xnil))) (xop op_add lf_I0 xint (xcall (ok__law_draw Φ) (hr.mono (by omega)) (by rfl) Φ._law_draw.g Φ._law_draw.F.kp Φ._law_draw.b (xcons (xv 0) (xcons xint xnil)))) (by rfl))) (xs_cons (x_set sc__law_ask.nd rfl (by first | exact .inl rfl | exact .inr rfl) (xcall (ok__law_draw Φ) (hr.mono (by omega)) (by rfl) Φ._law_draw.g Φ._law_draw.F.kp Φ._law_draw.b (xcons (xv 0) (xcons (xcallB cr_lenA lf_len (by rfl) Φ.n_len (by decide +kernel) (xcons (xv 3) xnil)) xnil)))) (xs_one (x_set sc__law_ask.nd rfl (by first | exact .inl rfl | exact .inr rfl) (xix (xv 3) (xv 7)))))))))) (xs_cons (x_setLc newP rfl sc__law_ask.nd rfl rfl (sw_true rfl rfl (by decide) (by decide +kernel)) (blkOk_by (own := [("_law_turn", 11)]) (by kernel_rfl)) rfl (xi_range (by rfl) Φ.n_range (xv 8)) (fun _ _ _ _ _ => xgc_name (by decide) sc__law_ask.nd rfl (by first | exact .inl rfl | exact .inr rfl)) (fun _ _ _ _ _ => xts_nil) (fun _ _ _ _ _ => x_if ((xw_and (xtcmp op_gt lf_B0 (xv 2) xint) (xw_and1 (xtcmp op_eq lf_eq (xcall (ok__law_draw Φ) (hr.mono (by omega)) (by rfl) Φ._law_draw.g Φ._law_draw.F.kp Φ._law_draw.b (xcons (xv 0) (xcons xint xnil))) xint))).pt) (xcall ih (hr.mono (by omega)) (by rfl) Φ._law_ask.g Φ._law_ask.F.kp Φ._law_ask.b (xcons (xv 0) (xcons (xv 1) (xcons (xop op_sub lf_I0 (xv 2) xint) xnil)))) xnon)) (xs_cons (x_ifs ((xw_and (xtcmp op_eq lf_eq (xv 9) xstr) (xw_and (xtcmp (op_neNil hr.units0) lf_neNil (xv 4) (xlst newF xnil)) (xw_and (xtcmp op_isN lf_isN (xix (xv 10) xint) xnon) (xw_and1 (xtcmp op_gt lf_B0 (xcall (ok__law_draw Φ) (hr.mono (by omega)) (by rfl) Φ._law_draw.g Φ._law_draw.F.kp Φ._law_draw.b (xcons (xv 0) (xcons xint xnil))) xint))))).pt) (xs_cons (x_set sc__law_ask.nd rfl (by first | exact .inl rfl | exact .inr rfl) (xcall (ok__law_draw Φ) (hr.mono (by omega)) (by rfl) Φ._law_draw.g Φ._law_draw.F.kp Φ._law_draw.b (xcons (xv 0) (xcons (xcallB cr_lenA lf_len (by rfl) Φ.n_len (by decide +kernel) (xcons (xv 4) xnil)) xnil)))) (xs_one (x_asg (xtup (xcons xstr (xcons (xv 12) (xcons (xop op_rep (lf_rep newF) (xlst newF (xcons xnon xnil)) (xop op_sub lf_I0 (xix (xv 3) (xix (xix (xv 4) (xv 12)) xint)) xint)) xnil)))) (xg_sub (xv 10) xint)))) xs_nil) (xs_one (x_ret (xtup (xcons (xv 9) (xcons (xv 7) (xcons (xfrz (xv 10)) xnil)))))))))))) (fun _ _ _ h => h.2)
theorem sc__law_c : FnScope N__law_c ["_law_feed_here", "_law_cs", "_law_first", "_law_names"] (defScope s__law_c) := ⟨rfl, rfl, rfl, by decide +kernel, rfl, by decide +kernel, by decide +kernel⟩
theorem ok__law_c (Φ : Phi K mg w) : FnOk P w K mg base CX0 3 Φ._law_c.f Φ._law_c.fd ["_law_feed_here", "_law_cs", "_law_first", "_law_names"] (spD K (F__law_c)) :=
  def_okK (d := rd__law_c) Φ._law_c.F sc__law_c (fun _ _ _ h => h.1) (fun cdv A outer s H E hr => xs_cons (x_par3 rfl sc__law_c.nd rfl rfl rfl (by decide) (by decide) (by decide) rfl rfl rfl (xtup (xcons xstr xnil)) (xv 2) (xtup (xcons xstr xnil)) (by rfl)) (xs_cons (x_setLc newF rfl sc__law_c.nd rfl rfl (sw_true rfl rfl (by decide) (by decide +kernel)) (blkOk_by (own := [("_law_at", 8)]) (by kernel_rfl)) rfl (xi_range (by rfl) Φ.n_range (xcallB cr_lenA lf_len (by rfl) Φ.n_len (by decide +kernel) (xcons (xix (xv 3) xint) xnil))) (fun _ _ _ _ _ => xgc_name (by decide) sc__law_c.nd rfl (by first | exact .inl rfl | exact .inr rfl)) (fun _ _ _ _ _ => xts_one (xtcmp op_eq lf_eq (xcall (ok__law_draw Φ) (hr.mono (by omega)) (by rfl) Φ._law_draw.g Φ._law_draw.F.kp Φ._law_draw.b (xcons (xv 0) (xcons xint xnil))) xint)) (fun _ _ _ _ _ => xv 8)) (xs_cons (x_for PassesOwn.never rfl (xi_seq (xrevL newF (xv 1))) (xg_name sc__law_c.nd rfl (by first | exact .inl rfl | exact .inr rfl)) (xs_cons (x_par rfl sc__law_c.nd rfl rfl (by decide) rfl rfl (xcall (ok__law_draw Φ) (hr.mono (by omega)) (by rfl) Φ._law_draw.g Φ._law_draw.F.kp Φ._law_draw.b (xcons (xv 0) (xcons xint xnil))) (xtup (xcons xstr (xcons (xcmp op_eq lf_eq (xcall (ok__law_draw Φ) (hr.mono (by omega)) (by rfl) Φ._law_draw.g Φ._law_draw.F.kp Φ._law_draw.b (xcons (xv 0) (xcons xint xnil))) xint) xnil))) (by rfl)) (xs_cons (x_set sc__law_c.nd rfl (by first | exact .inl rfl | exact .inr rfl) (xcallTy call_tuple_of lf_tuple (by rfl) Φ.n_tuple (by decide +kernel) (xcons (x_lc newF rfl sc__law_c.nd (blkOk_by (own := [("_law_at", 8)]) (by kernel_rfl)) rfl (xi_seq (xv 7)) (fun _ _ _ _ _ => xgc_name (by decide) sc__law_c.nd rfl (by first | exact .inl rfl | exact .inr rfl)) (fun _ _ _ _ _ => xts_one (xtcmp op_ge lf_B0 (xix (xix (xv 3) xint) (xv 8)) xint)) (fun _ _ _ _ _ => xix (xix (xv 3) xint) (xv 8))) xnil))) (xs_one (x_ifs (xtcmp op_lt lf_B0 (xv 10) xint) (xs_one (x_set sc__law_c.nd rfl (by first | exact .inl rfl | exact .inr rfl) (xix (xlst newF (xcons (xtup (xcons xstr (xcons (xv 9) (xcons (xv 4) xnil)))) (xcons (xtup (xcons xstr (xcons (xtup (xcons xstr (xcons (xtup (xcons xstr (xcons (xv 9) (xcons (xv 12) xnil)))) xnil))) (xcons (xv 4) xnil)))) (xcons (xtup (xcons xstr (xcons (xv 11) (xcons (xv 9) (xcons (xv 4) xnil))))) xnil)))) (xv 10)))) (xs_one (x_ifs (xtcmp op_lt lf_B0 (xv 10) xint) (xs_one (x_set sc__law_c.nd rfl (by first | exact .inl rfl | exact .inr rfl) (xtup (xcons xstr (xcons (xix (xlst newF (xcons (xtup (xcons xstr (xcons (xtup (xcons xstr (xcons (xv 9) xnil))) xnil))) (xcons (xtup (xcons xstr (xcons xstr (xcons (xtup (xcons xstr (xcons (xv 9) xnil))) xnil)))) (xcons (xtup (xcons xstr (xcons (xtup (xcons xstr (xcons (xv 9) xnil))) xnil))) xnil)))) (xop op_sub lf_I0 (xv 10) xint)) (xcons (xv 4) xnil)))))) (xs_one (x_ifs (xtcmp op_eq lf_eq (xv 10) xint) (xs_cons (x_set sc__law_c.nd rfl (by first | exact .inl rfl | exact .inr rfl) (xtup (xcons xstr (xcons (xv 5) (xcons (xtup (xcons xstr (xcons (xtup (xcons (xop op_add lf_I0 (xv 5) xint) xnil)) (xcons (xv 9) xnil)))) (xcons (xv 4) xnil)))))) (xs_one (x_set sc__law_c.nd rfl (by first | exact .inl rfl | exact .inr rfl) (xop op_add lf_I0 (xv 5) xint)))) (xs_one (x_ifs (xtcmp op_eq lf_eq (xv 10) xint) (xs_cons (x_set sc__law_c.nd rfl (by first | exact .inl rfl | exact .inr rfl) (xtup (xcons xstr (xcons (xtup (xcons xstr (xcons (xtup (xcons (xv 5) xnil)) (xcons (xtup (xcons xstr (xcons (xv 9) (xcons (xv 4) xnil)))) xnil)))) (xcons (xtup (xcons (xv 6) xnil)) xnil))))) (xs_one (x_set sc__law_c.nd rfl (by first | exact .inl rfl | exact .inr rfl) (xop op_add lf_I0 (xv 5) xint)))) (xs_one (x_ifs (xtcmp op_eq lf_eq (xv 10) xint) (xs_one (x_set sc__law_c.nd rfl (by first | exact .inl rfl | exact .inr rfl) (xtup (xcons xstr (xcons (xtup (xcons xstr (xcons (xtup (xcons xstr (xcons xstr (xcons (xv 9) xnil)))) xnil))) (xcons (xv 4) xnil)))))) (xs_one (x_ifs (xtcmp op_lt lf_B0 (xv 10) xint) (xs_one (x_set sc__law_c.nd rfl (by first | exact .inl rfl | exact .inr rfl) (x_if (xtcmp op_eq lf_eq (xv 10) xint) (xtup (xcons xstr (xcons (xtup (xcons xstr (xcons xbl xnil))) (xcons (xv 4) (xcons (xtup (xcons xstr (xcons xstr (xcons (xv 9) xnil)))) xnil))))) (xtup (xcons xstr (xcons (xtup (xcons xstr (xcons (xtup (xcons xstr (xcons (xv 9) (xcons xstr (xcons (xtup (xcons (xv 4) xnil)) xnil))))) xnil))) (xcons (xv 6) xnil))))))) (xs_one (x_ifs (xtcmp op_lt lf_B0 (xv 10) xint) (xs_cons (x_set sc__law_c.nd rfl (by first | exact .inl rfl | exact .inr rfl) (xix (xlst newF (xcons (xtup (xcons xstr (xcons xstr (xcons (xv 9) (xcons (xv 9) xnil))))) (xcons (xtup (xcons xstr (xcons (xv 9) (xcons xint xnil)))) (xcons (xtup (xcons xstr (xcons (xv 9) (xcons (xtup (xcons (xv 6) (xcons (xv 9) xnil))) xnil)))) xnil)))) (xop op_sub lf_I0 (xv 10) xint))) (xs_one (x_set sc__law_c.nd rfl (by first | exact .inl rfl | exact .inr rfl) (xtup (xcons xstr (xcons (x_if (xtv (xix (xv 11) xint)) (xtup (xcons xstr (xcons (xv 13) xnil))) (xv 13)) (xcons (xv 4) xnil))))))) (xs_one (x_ifs (xtcmp op_eq lf_eq (xv 10) xint) (xs_one (x_set sc__law_c.nd rfl (by first | exact .inl rfl | exact .inr rfl) (x_if (xtv (xix (xv 11) xint)) (xtup (xcons xstr (xcons (xtup (xcons xstr (xcons (xv 9) (xcons (xv 12) xnil)))) (xcons (xv 6) (xcons (xv 4) xnil))))) (xtup (xcons xstr (xcons (xtup (xcons xstr (xcons (xv 9) (xcons (xv 12) xnil)))) (xcons (xv 4) (xcons (xv 6) xnil)))))))) (xs_cons (x_set sc__law_c.nd rfl (by first | exact .inl rfl | exact .inr rfl) (xtup (xcons xstr (xcons (xv 5) (xcons (xv 9) (xcons (xv 4) xnil)))))) (xs_one (x_set sc__law_c.nd rfl (by first | exact .inl rfl | exact .inr rfl) (xop op_add lf_I0 (xv 5) xint))))))))))))))))))))))) (xs_cons (x_ifs ((xw_and (xtcmp op_gt lf_B0 (xv 2) xint) (xw_and1 (xtcmp op_eq lf_eq (xcall (ok__law_draw Φ) (hr.mono (by omega)) (by rfl) Φ._law_draw.g Φ._law_draw.F.kp Φ._law_draw.b (xcons (xv 0) (xcons xint xnil))) xint))).pt) (xs_one (x_set sc__law_c.nd rfl (by first | exact .inl rfl | exact .inr rfl) (xtup (xcons xstr (xcons xint (xcons (xcall (ok__law_one Φ) (hr.mono (by omega)) (by rfl) Φ._law_one.g Φ._law_one.F.kp Φ._law_one.b (xcons (xv 0) (xcons (xop op_cat (lf_catL newF) (xlst newF (xcons (xv 6) xnil)) (xcallTy call_list_of (lf_list newF) (by rfl) Φ.n_list (by decide +kernel) (xcons (xv 1) xnil))) xnil))) (xcons (xv 4) xnil))))))) xs_nil) (xs_one (x_ret (xtup (xcons (xv 4) (xcons (xop op_sub lf_I0 (xv 5) (xv 2)) xnil))))))))) (fun _ _ _ h => h.2)
theorem sc_reach_in : FnScope N_reach_in ["core"] (defScope s_reach_in) := ⟨rfl, rfl, rfl, by decide +kernel, rfl, by decide +kernel, by decide +kernel⟩
theorem ok_reach_in (Φ : Phi K mg w) : FnOk P w K mg base CX0 4 Φ.reach_in.f Φ.reach_in.fd ["core"] (spD K (F_reach_in)) :=
  def_okK (d := rd_reach_in) Φ.reach_in.F sc_reach_in (fun _ _ _ h => h.1) (fun cdv A outer s H E hr => xs_cons (x_setLc newF rfl sc_reach_in.nd rfl rfl (sw_true rfl rfl (by decide) (by decide +kernel)) (blkOk_by (own := [("body", 2)]) (by kernel_rfl)) rfl (xi_seq (xix (xv 0) xint)) (fun _ _ _ _ _ => xgc_name (by decide) sc_reach_in.nd rfl (by first | exact .inl rfl | exact .inr rfl)) (fun _ _ _ _ _ => xts_nil) (fun _ _ _ _ _ => xcall (ok_asked_in Φ) (hr.mono (by omega)) (by rfl) Φ.asked_in.g Φ.asked_in.F.kp Φ.asked_in.b (xcons (xix (xv 2) xint) xnil))) (xs_cons (x_par rfl sc_reach_in.nd rfl rfl (by decide) rfl rfl (xdisp1 newDP (xix (xv 0) xint) xbl) (xdnew newDP) (by rfl)) (xs_cons (x_set sc_reach_in.nd rfl (by first | exact .inl rfl | exact .inr rfl) (xneg xint)) (xs_cons (x_while PassesOwn.never (xtcmp op_ne lf_ne (xv 5) (xop op_add lf_I0 (xcallB cr_lenA lf_len (by rfl) Φ.n_len (by decide +kernel) (xcons (xv 3) xnil)) (xcallB cr_lenA lf_len (by rfl) Φ.n_len (by decide +kernel) (xcons (xv 4) xnil)))) (xs_cons (x_set sc_reach_in.nd rfl (by first | exact .inl rfl | exact .inr rfl) (xop op_add lf_I0 (xcallB cr_lenA lf_len (by rfl) Φ.n_len (by decide +kernel) (xcons (xv 3) xnil)) (xcallB cr_lenA lf_len (by rfl) Φ.n_len (by decide +kernel) (xcons (xv 4) xnil)))) (xs_one (x_for PassesOwn.never rfl (xi_seq (xcallTy (call_list_dK rfl) (lf_listK newF) (by rfl) Φ.n_list (by decide +kernel) (xcons (xv 3) xnil))) (xg_name sc_reach_in.nd rfl (by first | exact .inl rfl | exact .inr rfl)) (xs_cons (x_for PassesOwn.never rfl (xi_seq (xix (xix (xv 1) (xv 6)) xint)) (xg_name sc_reach_in.nd rfl (by first | exact .inl rfl | exact .inr rfl)) (xs_one (x_dput (un hr) (xv 4) (xv 7) xbl))) (xs_one (x_for PassesOwn.never rfl (xi_seq (xcall (ok_bodies_asked Φ) (hr.mono (by omega)) (by rfl) Φ.bodies_asked.g Φ.bodies_asked.F.kp Φ.bodies_asked.b (xcons (xv 0) (xcons (xix (xv 1) (xv 6)) (xcons (xcallTy (call_list_dK rfl) (lf_listK newF) (by rfl) Φ.n_list (by decide +kernel) (xcons (xv 4) xnil)) xnil))))) (xg_name sc_reach_in.nd rfl (by first | exact .inl rfl | exact .inr rfl)) (xs_one (x_dput (un hr) (xv 3) (xv 8) xbl))))))))) (xs_one (x_ret (xtup (xcons (xcallB cr_sorted (lf_sorted newF) (by rfl) Φ.n_sorted (by decide +kernel) (xcons (xcallTy (call_list_dK rfl) (lf_listK newF) (by rfl) Φ.n_list (by decide +kernel) (xcons (xv 3) xnil)) xnil)) (xcons (xcallB cr_sorted (lf_sorted newF) (by rfl) Φ.n_sorted (by decide +kernel) (xcons (xcallTy (call_list_dK rfl) (lf_listK newF) (by rfl) Φ.n_list (by decide +kernel) (xcons (xv 4) xnil)) xnil)) xnil))))))))) (fun _ _ _ h => h.2)
theorem sc_is_closed_reach : FnScope N_is_closed_reach ["core", "bodies", "tables"] (defScope s_is_closed_reach) := ⟨rfl, rfl, rfl, by decide +kernel, rfl, by decide +kernel, by decide +kernel⟩
theorem ok_is_closed_reach (Φ : Phi K mg w) : FnOk P w K mg base CX0 4 Φ.is_closed_reach.f Φ.is_closed_reach.fd ["core", "bodies", "tables"] (spD K (F_is_closed_reach)) :=
  def_okK (d := rd_is_closed_reach) Φ.is_closed_reach.F sc_is_closed_reach (fun _ _ _ h => h.1) (fun cdv A outer s H E hr => xs_cons (x_for PassesOwn.never rfl (xi_seq (xv 1)) (xg_name sc_is_closed_reach.nd rfl (by first | exact .inl rfl | exact .inr rfl)) (xs_cons (x_set sc_is_closed_reach.nd rfl (by first | exact .inl rfl | exact .inr rfl) (xcall (ok_asked_in Φ) (hr.mono (by omega)) (by rfl) Φ.asked_in.g Φ.asked_in.F.kp Φ.asked_in.b (xcons (xix (xix (xix (xv 0) xint) (xv 3)) xint) xnil))) (xs_cons (x_ifs (xt_not (xtv (xcallB (cr_all rfl) lf_all (by rfl) Φ.n_all (by decide +kernel) (xcons (x_lc newF rfl sc_is_closed_reach.nd (blkOk_by (own := [("made", 5)]) (by kernel_rfl)) rfl (xi_seq (xix (xv 4) xint)) (fun _ _ _ _ _ => xgc_name (by decide) sc_is_closed_reach.nd rfl (by first | exact .inl rfl | exact .inr rfl)) (fun _ _ _ _ _ => xts_nil) (fun _ _ _ _ _ => xcmp op_in_seq lf_inI (xv 5) (xv 2))) xnil)))) (xs_one (x_ret xbl)) xs_nil) (xs_one (x_ifs (xt_not (xtv (xcallB (cr_all rfl) lf_all (by rfl) Φ.n_all (by decide +kernel) (xcons (x_lc newF rfl sc_is_closed_reach.nd (blkOk_by (own := [("other", 6)]) (by kernel_rfl)) rfl (xi_seq (xcall (ok_bodies_asked Φ) (hr.mono (by omega)) (by rfl) Φ.bodies_asked.g Φ.bodies_asked.F.kp Φ.bodies_asked.b (xcons (xv 0) (xcons (xv 4) (xcons (xv 2) xnil))))) (fun _ _ _ _ _ => xgc_name (by decide) sc_is_closed_reach.nd rfl (by first | exact .inl rfl | exact .inr rfl)) (fun _ _ _ _ _ => xts_nil) (fun _ _ _ _ _ => xcmp op_in_seq lf_inI (xv 6) (xv 1))) xnil)))) (xs_one (x_ret xbl)) xs_nil))))) (xs_one (x_ret xbl))) (fun _ _ _ h => h.2)
theorem sc_is_ascending : FnScope N_is_ascending ["thing", "most"] (defScope s_is_ascending) := ⟨rfl, rfl, rfl, by decide +kernel, rfl, by decide +kernel, by decide +kernel⟩
theorem ok_is_ascending (Φ : Phi K mg w) : FnOk P w K mg base CX0 4 Φ.is_ascending.f Φ.is_ascending.fd ["thing", "most"] (spD K (F_is_ascending)) :=
  def_okK (d := rd_is_ascending) Φ.is_ascending.F sc_is_ascending (fun _ _ _ h => h.1) (fun cdv A outer s H E hr => xs_one (x_ret (x_and (xcall (ok_is_number_row Φ) (hr.mono (by omega)) (by rfl) Φ.is_number_row.g Φ.is_number_row.F.kp Φ.is_number_row.b (xcons (xv 0) (xcons (xv 1) xnil))) (x_one (xcallB (cr_all rfl) lf_all (by rfl) Φ.n_all (by decide +kernel) (xcons (x_lc newF rfl sc_is_ascending.nd (blkOk_by (own := [("one", 2), ("other", 3)]) (by kernel_rfl)) rfl (xi_zipT (by rfl) Φ.n_zip (xv 0) (xslT (xv 0) (xo_some xint) xo_none)) (fun _ _ _ _ _ => xgc_tup rfl (xgsc_cons (xgc_name (by decide) sc_is_ascending.nd rfl (by first | exact .inl rfl | exact .inr rfl)) (xgsc_cons (xgc_name (by decide) sc_is_ascending.nd rfl (by first | exact .inl rfl | exact .inr rfl)) xgsc_nil))) (fun _ _ _ _ _ => xts_nil) (fun _ _ _ _ _ => xcmp op_lt lf_B0 (xv 2) (xv 3))) xnil)))))) (fun _ _ _ h => h.2)
theorem sc_are_sends : FnScope N_are_sends ["thing", "bodies"] (defScope s_are_sends) := ⟨rfl, rfl, rfl, by decide +kernel, rfl, by decide +kernel, by decide +kernel⟩
theorem ok_are_sends (Φ : Phi K mg w) : FnOk P w K mg base CX0 4 Φ.are_sends.f Φ.are_sends.fd ["thing", "bodies"] (spD K (F_are_sends)) :=
  def_okK (d := rd_are_sends) Φ.are_sends.F sc_are_sends (fun _ _ _ h => h.1) (fun cdv A outer s H E hr => xs_cons (x_ifs (xt_not (xtv (xisT .tuple (by rfl) Φ.n_isinstance (by rfl) Φ.n_tuple (by decide +kernel) (xv 0)))) (xs_one (x_ret xbl)) xs_nil) (xs_cons (x_for PassesOwn.never rfl (xi_seq (xv 0)) (xg_name sc_are_sends.nd rfl (by first | exact .inl rfl | exact .inr rfl)) (xs_one (x_ifs ((xw_or (xt_not (xtv (xisT .tuple (by rfl) Φ.n_isinstance (by rfl) Φ.n_tuple (by decide +kernel) (xv 2)))) (xw_or (xtcmp op_ne lf_ne (xcallB cr_lenA lf_len (by rfl) Φ.n_len (by decide +kernel) (xcons (xv 2) xnil)) xint) (xw_or (xt_not (xtv (xcall (ok_is_core_text Φ) (hr.mono (by omega)) (by rfl) Φ.is_core_text.g Φ.is_core_text.F.kp Φ.is_core_text.b (xcons (xix (xv 2) xint) (xcons xint xnil))))) (xw_or1 (xt_not (xtv (xcall (ok_is_entry Φ) (hr.mono (by omega)) (by rfl) Φ.is_entry.g Φ.is_entry.F.kp Φ.is_entry.b (xcons (xix (xv 2) xint) (xcons (xv 1) xnil))))))))).pt) (xs_one (x_ret xbl)) xs_nil))) (xs_one (x_ret (xcallB (cr_all rfl) lf_all (by rfl) Φ.n_all (by decide +kernel) (xcons (x_lc newF rfl sc_are_sends.nd (blkOk_by (own := [("one", 3), ("other", 4)]) (by kernel_rfl)) rfl (xi_zipT (by rfl) Φ.n_zip (xv 0) (xslT (xv 0) (xo_some xint) xo_none)) (fun _ _ _ _ _ => xgc_tup rfl (xgsc_cons (xgc_name (by decide) sc_are_sends.nd rfl (by first | exact .inl rfl | exact .inr rfl)) (xgsc_cons (xgc_name (by decide) sc_are_sends.nd rfl (by first | exact .inl rfl | exact .inr rfl)) xgsc_nil))) (fun _ _ _ _ _ => xts_nil) (fun _ _ _ _ _ => xcmp op_lt_str lf_str (xix (xv 3) xint) (xix (xv 4) xint))) xnil)))))) (fun _ _ _ h => h.2)
theorem sc_is_single : FnScope N_is_single ["thing", "bodies"] (defScope s_is_single) := ⟨rfl, rfl, rfl, by decide +kernel, rfl, by decide +kernel, by decide +kernel⟩
theorem ok_is_single (Φ : Phi K mg w) : FnOk P w K mg base CX0 4 Φ.is_single.f Φ.is_single.fd ["thing", "bodies"] (spD K (F_is_single)) :=
  def_okK (d := rd_is_single) Φ.is_single.F sc_is_single (fun _ _ _ h => h.1) (fun cdv A outer s H E hr => xs_cons (x_ifs ((xw_or (xt_not (xtv (xisT .tuple (by rfl) Φ.n_isinstance (by rfl) Φ.n_tuple (by decide +kernel) (xv 0)))) (xw_or1 (xtcmp op_ne lf_ne (xcallB cr_lenA lf_len (by rfl) Φ.n_len (by decide +kernel) (xcons (xv 0) xnil)) xint))).pt) (xs_one (x_ret xbl)) xs_nil) (xs_one (x_ret (x_and (xcall (ok_is_start Φ) (hr.mono (by omega)) (by rfl) Φ.is_start.g Φ.is_start.F.kp Φ.is_start.b (xcons (xix (xv 0) xint) (xcons (xv 1) xnil))) (x_one (xcall (ok_is_core_text Φ) (hr.mono (by omega)) (by rfl) Φ.is_core_text.g Φ.is_core_text.F.kp Φ.is_core_text.b (xcons (xix (xv 0) xint) (xcons xint xnil)))))))) (fun _ _ _ h => h.2)
theorem sc_is_table : FnScope N_is_table ["thing", "bodies"] (defScope s_is_table) := ⟨rfl, rfl, rfl, by decide +kernel, rfl, by decide +kernel, by decide +kernel⟩
theorem ok_is_table (Φ : Phi K mg w) : FnOk P w K mg base CX0 5 Φ.is_table.f Φ.is_table.fd ["thing", "bodies"] (spD K (F_is_table)) :=
  def_okK (d := rd_is_table) Φ.is_table.F sc_is_table (fun _ _ _ h => h.1) (fun cdv A outer s H E hr => xs_cons (x_ifs ((xw_or (xt_not (xtv (xisT .tuple (by rfl) Φ.n_isinstance (by rfl) Φ.n_tuple (by decide +kernel) (xv 0)))) (xw_or1 (xtcmp op_ne lf_ne (xcallB cr_lenA lf_len (by rfl) Φ.n_len (by decide +kernel) (xcons (xv 0) xnil)) xint))).pt) (xs_one (x_ret xbl)) xs_nil) (xs_cons (x_asg (xv 0) (xg_tup rfl (xgs_cons (xg_name sc_is_table.nd rfl (by first | exact .inl rfl | exact .inr rfl)) (xgs_cons (xg_name sc_is_table.nd rfl (by first | exact .inl rfl | exact .inr rfl)) (xgs_cons (xg_name sc_is_table.nd rfl (by first | exact .inl rfl | exact .inr rfl)) (xgs_cons (xg_name sc_is_table.nd rfl (by first | exact .inl rfl | exact .inr rfl)) (xgs_cons (xg_name sc_is_table.nd rfl (by first | exact .inl rfl | exact .inr rfl)) (xgs_cons (xg_name sc_is_table.nd rfl (by first | exact .inl rfl | exact .inr rfl)) xgs_nil)))))))) (xs_cons (x_ifs ((xw_or (xt_not (xtv (xcall (ok_is_core_text Φ) (hr.mono (by omega)) (by rfl) Φ.is_core_text.g Φ.is_core_text.F.kp Φ.is_core_text.b (xcons (xv 2) (xcons xint xnil))))) (xw_or (xt_not (xtv (xcall (ok_is_text_row Φ) (hr.mono (by omega)) (by rfl) Φ.is_text_row.g Φ.is_text_row.F.kp Φ.is_text_row.b (xcons (xv 4) xnil)))) (xw_or1 (xt_not (xtv (xcall (ok_is_text_row Φ) (hr.mono (by omega)) (by rfl) Φ.is_text_row.g Φ.is_text_row.F.kp Φ.is_text_row.b (xcons (xv 5) xnil))))))).pt) (xs_one (x_ret xbl)) xs_nil) (xs_cons (x_ifs ((xw_or (xtcmp op_ne lf_ne (xlenSet rfl (by rfl) Φ.n_len (by rfl) Φ.n_set (xv 5)) (xcallB cr_lenA lf_len (by rfl) Φ.n_len (by decide +kernel) (xcons (xv 5) xnil))) (xw_or1 ((xw_and (xtcmp op_notN lf_notN (xv 3) xnon) (xw_and1 (xt_not (xtv (xcall (ok_is_number_row Φ) (hr.mono (by omega)) (by rfl) Φ.is_number_row.g Φ.is_number_row.F.kp Φ.is_number_row.b (xcons (xv 3) (xcons (xop op_sub lf_I0 (xcallB cr_lenA lf_len (by rfl) Φ.n_len (by decide +kernel) (xcons (xv 5) xnil)) xint) xnil))))))).pt))).pt) (xs_one (x_ret xbl)) xs_nil) (xs_one (x_ret (x_and (xcall (ok_are_sends Φ) (hr.mono (by omega)) (by rfl) Φ.are_sends.g Φ.are_sends.F.kp Φ.are_sends.b (xcons (xv 6) (xcons (xv 1) xnil))) (x_one (xcall (ok_is_entry Φ) (hr.mono (by omega)) (by rfl) Φ.is_entry.g Φ.is_entry.F.kp Φ.is_entry.b (xcons (xv 7) (xcons (xv 1) xnil))))))))))) (fun _ _ _ h => h.2)
end
end K70
set_option maxRecDepth 100000
set_option maxHeartbeats 1000000
namespace K70
open PySem PySem.Spec PyProof.Rows L2 DL
section
variable {P : Program} {w : World} {K : PySem.W.Frag} {mg : Str → Option Value} {base : Heap}
theorem sc_BodyLook_fits : FnScope N_BodyLook_fits ["self", "c", "seen", "may_fill"] (defScope s_BodyLook_fits) := ⟨rfl, rfl, rfl, by decide +kernel, rfl, by decide +kernel, by decide +kernel⟩
theorem ok_BodyLook_fits (Φ : Phi K mg w) : FnOk P w K mg base CX0 5 Φ.BodyLook_fits.f Φ.BodyLook_fits.fd ["self", "c", "seen", "may_fill"] (spD K (F_BodyLook_fits Φ.C)) :=
  def_okK (d := rd_BodyLook_fits Φ.C) Φ.BodyLook_fits.F sc_BodyLook_fits (fun _ _ _ h => h.1) (fun cdv A outer s H E hr => xs_cons (x_set sc_BodyLook_fits.nd rfl (by first | exact .inl rfl | exact .inr rfl) (xix (xv 1) xint)) (xs_cons (x_ifs (xtwin Φ.W_ALONE (by rfl) Φ.g_ALONE (xv 4)) (xs_one (x_ret (xcall (ok_fits_alone Φ) (hr.mono (by omega)) (by rfl) Φ.fits_alone.g Φ.fits_alone.F.kp Φ.fits_alone.b (xcons (xv 1) xnil)))) xs_nil) (xs_cons (x_ifs (xtcmp op_eq lf_eq (xv 4) xstr) (xs_one (x_ret (x_and (xcall (ok_is_whole Φ) (hr.mono (by omega)) (by rfl) Φ.is_whole.g Φ.is_whole.F.kp Φ.is_whole.b (xcons (xix (xv 1) xint) xnil)) (x_one (xdin (un hr) (xix (xv 1) xint) (xv 2)))))) xs_nil) (xs_cons (x_ifs (xtcmp op_eq lf_eq (xv 4) xstr) (xs_one (x_ret (x_and (xv 3) (x_and (xcmp op_gt lf_B0 (xfld Φ.cls Φ.na_params (xv 0)) xint) (x_and (xcall (ok_is_whole Φ) (hr.mono (by omega)) (by rfl) Φ.is_whole.g Φ.is_whole.F.kp Φ.is_whole.b (xcons (xix (xv 1) xint) xnil)) (x_one (xcmp op_ge lf_B0 (xix (xv 1) xint) xint))))))) xs_nil) (xs_cons (x_ifs (xtcmp op_eq lf_eq (xv 4) xstr) (xs_one (x_ret (xmeth (xv 0) Φ.cls Φ.BodyLook_binds.m (ok_BodyLook_binds Φ) (hr.mono (by omega)) Φ.BodyLook_binds.b (xcons (xtup (xcons (xix (xv 1) xint) xnil)) xnil)))) xs_nil) (xs_cons (x_ifs (xtcmp op_eq lf_eq (xv 4) xstr) (xs_one (x_ret (x_and (xisT .tuple (by rfl) Φ.n_isinstance (by rfl) Φ.n_tuple (by decide +kernel) (xix (xv 1) xint)) (x_one (xmeth (xv 0) Φ.cls Φ.BodyLook_binds.m (ok_BodyLook_binds Φ) (hr.mono (by omega)) Φ.BodyLook_binds.b (xcons (xix (xv 1) xint) xnil)))))) xs_nil) (xs_cons (x_ifs (xtcmp op_eq lf_eq (xv 4) xstr) (xs_one (x_ret (xcall (ok_is_ascending Φ) (hr.mono (by omega)) (by rfl) Φ.is_ascending.g Φ.is_ascending.F.kp Φ.is_ascending.b (xcons (xix (xv 1) xint) (xcons (xop op_sub lf_I0 (xcallB cr_lenA lf_len (by rfl) Φ.n_len (by decide +kernel) (xcons (xfld Φ.cls Φ.na_tables (xv 0)) xnil)) xint) xnil))))) xs_nil) (xs_cons (x_ifs (xtcmp op_eq lf_eq (xv 4) xstr) (xs_one (x_ret (x_and (xcall (ok_is_count Φ) (hr.mono (by omega)) (by rfl) Φ.is_count.g Φ.is_count.F.kp Φ.is_count.b (xcons (xix (xv 1) xint) (xcons (xop op_sub lf_I0 (xcallB cr_lenA lf_len (by rfl) Φ.n_len (by decide +kernel) (xcons (xfld Φ.cls Φ.na_bodies (xv 0)) xnil)) xint) xnil))) (x_one (xcmp op_eq lf_eq (xcallB cr_lenA lf_len (by rfl) Φ.n_len (by decide +kernel) (xcons (xix (xv 1) xint) xnil)) (xix (xix (xfld Φ.cls Φ.na_bodies (xv 0)) (xix (xv 1) xint)) xint)))))) xs_nil) (xs_cons (x_ifs (xtcmp op_eq lf_eq (xv 4) xstr) (xs_one (x_ret (x_and (xcall (ok_is_count Φ) (hr.mono (by omega)) (by rfl) Φ.is_count.g Φ.is_count.F.kp Φ.is_count.b (xcons (xix (xv 1) xint) (xcons (xop op_sub lf_I0 (xcallB cr_lenA lf_len (by rfl) Φ.n_len (by decide +kernel) (xcons (xfld Φ.cls Φ.na_tables (xv 0)) xnil)) xint) xnil))) (x_one (xcmp op_eq lf_eq (xop op_add lf_I0 (xcallB cr_lenA lf_len (by rfl) Φ.n_len (by decide +kernel) (xcons (xix (xv 1) xint) xnil)) xint) (xix (xix (xfld Φ.cls Φ.na_bodies (xv 0)) (xix (xix (xfld Φ.cls Φ.na_tables (xv 0)) (xix (xv 1) xint)) xint)) xint)))))) xs_nil) (xs_one (x_ret (x_or (xcmp op_ne lf_ne (xv 4) xstr) (x_one (xcall (ok_is_count Φ) (hr.mono (by omega)) (by rfl) Φ.is_count.g Φ.is_count.F.kp Φ.is_count.b (xcons (xix (xv 1) xint) (xcons (xop op_sub lf_I0 (xcallB cr_lenA lf_len (by rfl) Φ.n_len (by decide +kernel) (xcons (xfld Φ.cls Φ.na_singles (xv 0)) xnil)) xint) xnil)))))))))))))))) (fun _ _ _ h => h.2)
theorem sc_BodyLook_is_right : FnScope N_BodyLook_is_right ["self"] (defScope s_BodyLook_is_right) := ⟨rfl, rfl, rfl, by decide +kernel, rfl, by decide +kernel, by decide +kernel⟩
theorem ok_BodyLook_is_right (Φ : Phi K mg w) : FnOk P w K mg base CX0 6 Φ.BodyLook_is_right.f Φ.BodyLook_is_right.fd ["self"] (spD K (F_BodyLook_is_right Φ.C)) :=
  def_okK (d := rd_BodyLook_is_right Φ.C) Φ.BodyLook_is_right.F sc_BodyLook_is_right (fun _ _ _ h => h.1) (fun cdv A outer s H E hr => xs_cons (x_set sc_BodyLook_is_right.nd rfl (by first | exact .inl rfl | exact .inr rfl) (xlst newP (xcons (xtup (xcons (xfld Φ.cls Φ.na_c (xv 0)) (xcons xint (xcons (x_dc newDF rfl sc_BodyLook_is_right.nd (blkOk_by (own := [("number", 2)]) (by kernel_rfl)) rfl (xi_range (by rfl) Φ.n_range (xfld Φ.cls Φ.na_params (xv 0))) (fun _ _ _ _ _ => xgc_name (by decide) sc_BodyLook_is_right.nd rfl (by first | exact .inl rfl | exact .inr rfl)) (fun _ _ _ _ _ => xts_nil) (fun _ _ _ _ _ => xv 2) (fun _ _ _ _ _ => xbl)) (xcons xbl xnil))))) xnil))) (xs_cons (x_while PassesOwn.never (xtcmp (op_neNil hr.units0) lf_neNil (xv 1) (xlst newF xnil)) (xs_cons (x_asg (xpop (xv 1) ) (xg_tup rfl (xgs_cons (xg_name sc_BodyLook_is_right.nd rfl (by first | exact .inl rfl | exact .inr rfl)) (xgs_cons (xg_name sc_BodyLook_is_right.nd rfl (by first | exact .inl rfl | exact .inr rfl)) (xgs_cons (xg_name sc_BodyLook_is_right.nd rfl (by first | exact .inl rfl | exact .inr rfl)) (xgs_cons (xg_name sc_BodyLook_is_right.nd rfl (by first | exact .inl rfl | exact .inr rfl)) xgs_nil)))))) (xs_cons (x_ifs ((xw_or (xtcmp op_gt lf_B0 (xv 4) (xglobI (by rfl) Φ.i_MOST_WITHIN)) (xw_or (xt_not (xtv (xcall (ok_has_form Φ) (hr.mono (by omega)) (by rfl) Φ.has_form.g Φ.has_form.F.kp Φ.has_form.b (xcons (xv 3) xnil)))) (xw_or1 (xt_not (xtv (xmeth (xv 0) Φ.cls Φ.BodyLook_fits.m (ok_BodyLook_fits Φ) (hr.mono (by omega)) Φ.BodyLook_fits.b (xcons (xv 3) (xcons (xv 5) (xcons (xv 6) xnil))))))))).pt) (xs_one (x_ret xbl)) xs_nil) (xs_cons (x_set sc_BodyLook_is_right.nd rfl (by first | exact .inl rfl | exact .inr rfl) (x_and (xv 6) (x_one (xwnotin Φ.W_CLOSED (by rfl) Φ.g_CLOSED (xix (xv 3) xint))))) (xs_cons (x_set sc_BodyLook_is_right.nd rfl (by first | exact .inl rfl | exact .inr rfl) (xcall (ok_inner_cs Φ) (hr.mono (by omega)) (by rfl) Φ.inner_cs.g Φ.inner_cs.F.kp Φ.inner_cs.b (xcons (xv 3) xnil))) (xs_one (x_for PassesOwn.never rfl (xi_enum (by rfl) Φ.n_enumerate (xv 7)) (xg_tup rfl (xgs_cons (xg_name sc_BodyLook_is_right.nd rfl (by first | exact .inl rfl | exact .inr rfl)) (xgs_cons (xg_name sc_BodyLook_is_right.nd rfl (by first | exact .inl rfl | exact .inr rfl)) xgs_nil))) (xs_one (x_expr (xappend (xv 1) (xtup (xcons (xv 9) (xcons (xop op_add lf_I0 (xv 4) xint) (xcons (xmeth (xv 0) Φ.cls Φ.BodyLook_seen_in.m (ok_BodyLook_seen_in Φ) (hr.mono (by omega)) Φ.BodyLook_seen_in.b (xcons (xv 3) (xcons (xv 8) (xcons (xv 5) xnil)))) (xcons (xv 6) xnil))))))))))))))) (xs_one (x_ret (xcmp op_eq lf_eq (xcallB cr_lenA lf_len (by rfl) Φ.n_len (by decide +kernel) (xcons (xfld Φ.cls Φ.na_bound (xv 0)) xnil)) (xfld Φ.cls Φ.na_further (xv 0))))))) (fun _ _ _ h => h.2)
theorem sc_core_is_right : FnScope N_core_is_right ["thing"] (defScope s_core_is_right) := ⟨rfl, rfl, rfl, by decide +kernel, rfl, by decide +kernel, by decide +kernel⟩
theorem ok_core_is_right (Φ : Phi K mg w) : FnOk P w K mg base CX0 7 Φ.core_is_right.f Φ.core_is_right.fd ["thing"] (spD K (F_core_is_right Φ.C)) :=
  def_okK (d := rd_core_is_right Φ.C) Φ.core_is_right.F sc_core_is_right (fun _ _ _ h => h.1) (fun cdv A outer s H E hr => xs_cons (x_ifs ((xw_or (xt_not (xtv (xisT .tuple (by rfl) Φ.n_isinstance (by rfl) Φ.n_tuple (by decide +kernel) (xv 0)))) (xw_or1 (xtcmp op_ne lf_ne (xcallB cr_lenA lf_len (by rfl) Φ.n_len (by decide +kernel) (xcons (xv 0) xnil)) xint))).pt) (xs_one (x_ret xbl)) xs_nil) (xs_cons (x_asg (xv 0) (xg_tup rfl (xgs_cons (xg_name sc_core_is_right.nd rfl (by first | exact .inl rfl | exact .inr rfl)) (xgs_cons (xg_name sc_core_is_right.nd rfl (by first | exact .inl rfl | exact .inr rfl)) (xgs_cons (xg_name sc_core_is_right.nd rfl (by first | exact .inl rfl | exact .inr rfl)) (xgs_cons (xg_name sc_core_is_right.nd rfl (by first | exact .inl rfl | exact .inr rfl)) xgs_nil)))))) (xs_cons (x_ifs ((xw_or (xt_not (xtv (xcall (ok_is_row Φ) (hr.mono (by omega)) (by rfl) Φ.is_row.g Φ.is_row.F.kp Φ.is_row.b (xcons (xv 1) (xcons (xglobI (by rfl) Φ.i_MOST_TABLES) xnil))))) (xw_or (xt_not (xtv (xcall (ok_is_row Φ) (hr.mono (by omega)) (by rfl) Φ.is_row.g Φ.is_row.F.kp Φ.is_row.b (xcons (xv 2) (xcons (xglobI (by rfl) Φ.i_MOST_BODIES) xnil))))) (xw_or1 (xt_not (xtv (xcall (ok_is_row Φ) (hr.mono (by omega)) (by rfl) Φ.is_row.g Φ.is_row.F.kp Φ.is_row.b (xcons (xv 3) (xcons (xglobI (by rfl) Φ.i_MOST_SINGLES) xnil)))))))).pt) (xs_one (x_ret xbl)) xs_nil) (xs_cons (x_ifs ((xw_or (xt_not (xtv (xcallB (cr_all rfl) lf_all (by rfl) Φ.n_all (by decide +kernel) (xcons (x_lc newF rfl sc_core_is_right.nd (blkOk_by (own := [("body", 5)]) (by kernel_rfl)) rfl (xi_seq (xv 2)) (fun _ _ _ _ _ => xgc_name (by decide) sc_core_is_right.nd rfl (by first | exact .inl rfl | exact .inr rfl)) (fun _ _ _ _ _ => xts_nil) (fun _ _ _ _ _ => xcall (ok_is_body Φ) (hr.mono (by omega)) (by rfl) Φ.is_body.g Φ.is_body.F.kp Φ.is_body.b (xcons (xv 5) xnil))) xnil)))) (xw_or1 (xt_not (xtv (xcallB (cr_all rfl) lf_all (by rfl) Φ.n_all (by decide +kernel) (xcons (x_lc newF rfl sc_core_is_right.nd (blkOk_by (own := [("table", 6)]) (by kernel_rfl)) rfl (xi_seq (xv 1)) (fun _ _ _ _ _ => xgc_name (by decide) sc_core_is_right.nd rfl (by first | exact .inl rfl | exact .inr rfl)) (fun _ _ _ _ _ => xts_nil) (fun _ _ _ _ _ => xcall (ok_is_table Φ) (hr.mono (by omega)) (by rfl) Φ.is_table.g Φ.is_table.F.kp Φ.is_table.b (xcons (xv 6) (xcons (xv 2) xnil)))) xnil)))))).pt) (xs_one (x_ret xbl)) xs_nil) (xs_cons (x_ifs ((xw_or (xt_not (xtv (xcallB (cr_all rfl) lf_all (by rfl) Φ.n_all (by decide +kernel) (xcons (x_lc newF rfl sc_core_is_right.nd (blkOk_by (own := [("single", 7)]) (by kernel_rfl)) rfl (xi_seq (xv 3)) (fun _ _ _ _ _ => xgc_name (by decide) sc_core_is_right.nd rfl (by first | exact .inl rfl | exact .inr rfl)) (fun _ _ _ _ _ => xts_nil) (fun _ _ _ _ _ => xcall (ok_is_single Φ) (hr.mono (by omega)) (by rfl) Φ.is_single.g Φ.is_single.F.kp Φ.is_single.b (xcons (xv 7) (xcons (xv 2) xnil)))) xnil)))) (xw_or1 (xt_not (xtv (xcall (ok_is_start Φ) (hr.mono (by omega)) (by rfl) Φ.is_start.g Φ.is_start.F.kp Φ.is_start.b (xcons (xv 4) (xcons (xv 2) xnil))))))).pt) (xs_one (x_ret xbl)) xs_nil) (xs_one (x_ret (xcallB (cr_all rfl) lf_all (by rfl) Φ.n_all (by decide +kernel) (xcons (x_lc newF rfl sc_core_is_right.nd (blkOk_by (own := [("number", 8)]) (by kernel_rfl)) rfl (xi_range (by rfl) Φ.n_range (xcallB cr_lenA lf_len (by rfl) Φ.n_len (by decide +kernel) (xcons (xv 2) xnil))) (fun _ _ _ _ _ => xgc_name (by decide) sc_core_is_right.nd rfl (by first | exact .inl rfl | exact .inr rfl)) (fun _ _ _ _ _ => xts_nil) (fun _ _ _ _ _ => xmeth0r (xmake Φ.mkr (ok_BodyLook_init Φ) (hr.mono (by omega)) (by rfl) Φ.g_BodyLook Φ.BodyLook_init.b (xcons (xv 0) (xcons (xv 8) xnil))) Φ.cls Φ.BodyLook_is_right.m (ok_BodyLook_is_right Φ) (hr.mono (by omega)) Φ.BodyLook_is_right.b)) xnil))))))))) (fun _ _ _ h => h.2)
theorem sc__law_core : FnScope N__law_core ["_law_feed_here", "_law_graph_here"] (defScope s__law_core) := ⟨rfl, rfl, rfl, by decide +kernel, rfl, by decide +kernel, by decide +kernel⟩
theorem ok__law_core (Φ : Phi K mg w) : FnOk P w K mg base CX0 7 Φ._law_core.f Φ._law_core.fd ["_law_feed_here", "_law_graph_here"] (spD K (F__law_core)) :=
  def_okK (d := rd__law_core) Φ._law_core.F sc__law_core (fun _ _ _ h => h.1) (fun cdv A outer s H E hr => xs_cons (x_asg (xv 1) (xg_tup rfl (xgs_cons (xg_name sc__law_core.nd rfl (by first | exact .inl rfl | exact .inr rfl)) (xgs_cons (xg_name sc__law_core.nd rfl (by first | exact .inl rfl | exact .inr rfl)) (xgs_cons (xg_name sc__law_core.nd rfl (by first | exact .inl rfl | exact .inr rfl)) (xgs_cons (xg_name sc__law_core.nd rfl (by first | exact .inl rfl | exact .inr rfl)) (xgs_cons (xg_name sc__law_core.nd rfl (by first | exact .inl rfl | exact .inr rfl)) xgs_nil))))))) (xs_cons (x_set sc__law_core.nd rfl (by first | exact .inl rfl | exact .inr rfl) (xlst newF (xcons (xlistRg newF rfl (by rfl) Φ.n_list (by rfl) Φ.n_range (xcallB cr_lenA lf_len (by rfl) Φ.n_len (by decide +kernel) (xcons (xv 2) xnil))) (xcons (xlistRg newF rfl (by rfl) Φ.n_list (by rfl) Φ.n_range (xcallB cr_lenA lf_len (by rfl) Φ.n_len (by decide +kernel) (xcons (xv 4) xnil))) (xcons (xlistRg newF rfl (by rfl) Φ.n_list (by rfl) Φ.n_range (xcallB cr_lenA lf_len (by rfl) Φ.n_len (by decide +kernel) (xcons (xv 5) xnil))) xnil))))) (xs_cons (x_set sc__law_core.nd rfl (by first | exact .inl rfl | exact .inr rfl) (xlst newP xnil)) (xs_cons (x_for PassesOwn.never rfl (xi_range (by rfl) Φ.n_range (xcallB cr_lenA lf_len (by rfl) Φ.n_len (by decide +kernel) (xcons (xv 2) xnil))) (xg_name sc__law_core.nd rfl (by first | exact .inl rfl | exact .inr rfl)) (xs_cons (x_asg (xcall (ok__law_c Φ) (hr.mono (by omega)) (by rfl) Φ._law_c.g Φ._law_c.F.kp Φ._law_c.b (xcons (xv 0) (xcons (x_lc newF rfl sc__law_core.nd (blkOk_by (own := [("_law_ask_here", 12)]) (by kernel_rfl)) rfl (xi_seq (xix (xv 3) (xv 9))) (fun _ _ _ _ _ => xgc_name (by decide) sc__law_core.nd rfl (by first | exact .inl rfl | exact .inr rfl)) (fun _ _ _ _ _ => xts_nil) (fun _ _ _ _ _ => xcall (ok__law_asked Φ 4) (hr.mono (by omega)) (by rfl) Φ._law_asked.g Φ._law_asked.F.kp Φ._law_asked.b (xcons (xv 12) (xcons (xv 1) (xcons (xv 7) (xcons xnon xnil)))))) (xcons (xix (xv 2) (xv 9)) (xcons (xv 7) xnil))))) (xg_tup rfl (xgs_cons (xg_name sc__law_core.nd rfl (by first | exact .inl rfl | exact .inr rfl)) (xgs_cons (xg_name sc__law_core.nd rfl (by first | exact .inl rfl | exact .inr rfl)) xgs_nil)))) (xs_one (x_expr (xappend (xv 8) (xtup (xcons (xix (xv 2) (xv 9)) (xcons (xv 11) (xcons (xv 10) xnil))))))))) (xs_cons (x_setLc newF rfl sc__law_core.nd rfl rfl (sw_true rfl rfl (by decide) (by decide +kernel)) (blkOk_by (own := [("_law_sends", 14), ("_law_begin", 15)]) (by kernel_rfl)) rfl (xi_seq (xv 4)) (fun _ _ _ _ _ => xgc_tup rfl (xgsc_cons (xgc_name (by decide) sc__law_core.nd rfl (by first | exact .inl rfl | exact .inr rfl)) (xgsc_cons (xgc_name (by decide) sc__law_core.nd rfl (by first | exact .inl rfl | exact .inr rfl)) xgsc_nil))) (fun _ _ _ _ _ => xts_nil) (fun _ _ _ _ _ => xtup (xcons xstr (xcons xnon (xcons (xtup xnil) (xcons (xtup xnil) (xcons (xcallTy call_tuple_of lf_tuple (by rfl) Φ.n_tuple (by decide +kernel) (xcons (xv 14) xnil)) (xcons (xv 15) xnil)))))))) (xs_one (x_ret (xtup (xcons (xcallTy call_tuple_of lf_tuple (by rfl) Φ.n_tuple (by decide +kernel) (xcons (xv 13) xnil)) (xcons (xcallTy call_tuple_of lf_tuple (by rfl) Φ.n_tuple (by decide +kernel) (xcons (xv 8) xnil)) (xcons (xcallTy call_tuple_of lf_tuple (by rfl) Φ.n_tuple (by decide +kernel) (xcons (x_lc newF rfl sc__law_core.nd (blkOk_by (own := [("_law_at", 9)]) (by kernel_rfl)) rfl (xi_seq (xv 5)) (fun _ _ _ _ _ => xgc_name (by decide) sc__law_core.nd rfl (by first | exact .inl rfl | exact .inr rfl)) (fun _ _ _ _ _ => xts_nil) (fun _ _ _ _ _ => xtup (xcons (xv 9) (xcons xstr xnil)))) xnil)) (xcons (xv 6) xnil)))))))))))) (fun _ _ _ h => h.2)
theorem sc_need_core : FnScope N_need_core ["thing"] (defScope s_need_core) := ⟨rfl, rfl, rfl, by decide +kernel, rfl, by decide +kernel, by decide +kernel⟩
theorem ok_need_core (Φ : Phi K mg w) : FnOk P w K mg base CX0 8 Φ.need_core.f Φ.need_core.fd ["thing"] (spD K (F_need_core Φ.C)) :=
  def_okK (d := rd_need_core Φ.C) Φ.need_core.F sc_need_core (fun _ _ _ h => h.1) (fun cdv A outer s H E hr => xs_one (x_ifs (xt_not (xtv (xcall (ok_core_is_right Φ) (hr.mono (by omega)) (by rfl) Φ.core_is_right.g Φ.core_is_right.F.kp Φ.core_is_right.b (xcons (xv 0) xnil)))) (xs_one x_never) xs_nil)) (fun _ _ _ h => h.2)
theorem sc__law_graph : FnScope N__law_graph ["_law_feed_here"] (defScope s__law_graph) := ⟨rfl, rfl, rfl, by decide +kernel, rfl, by decide +kernel, by decide +kernel⟩
theorem ok__law_graph (Φ : Phi K mg w) : FnOk P w K mg base CX0 8 Φ._law_graph.f Φ._law_graph.fd ["_law_feed_here"] (spD K (F__law_graph)) :=
  def_okK (d := rd__law_graph) Φ._law_graph.F sc__law_graph (fun _ _ _ h => h.1) (fun cdv A outer s H E hr => xs_cons (x_set sc__law_graph.nd rfl (by first | exact .inl rfl | exact .inr rfl) (xop op_add lf_I0 xint (xcall (ok__law_draw Φ) (hr.mono (by omega)) (by rfl) Φ._law_draw.g Φ._law_draw.F.kp Φ._law_draw.b (xcons (xv 0) (xcons xint xnil))))) (xs_cons (x_set sc__law_graph.nd rfl (by first | exact .inl rfl | exact .inr rfl) (x_lc newP rfl sc__law_graph.nd (blkOk_by (own := [("_law_turn", 3)]) (by kernel_rfl)) rfl (xi_range (by rfl) Φ.n_range (xv 1)) (fun _ _ _ _ _ => xgc_name (by decide) sc__law_graph.nd rfl (by first | exact .inl rfl | exact .inr rfl)) (fun _ _ _ _ _ => xts_nil) (fun _ _ _ _ _ => xcall (ok__law_one Φ) (hr.mono (by omega)) (by rfl) Φ._law_one.g Φ._law_one.F.kp Φ._law_one.b (xcons (xv 0) (xcons (xlst newF (xcons xint (xcons xint (xcons xint (xcons xint xnil))))) xnil))))) (xs_cons (x_expr (xinsert (xv 2) (xcall (ok__law_draw Φ) (hr.mono (by omega)) (by rfl) Φ._law_draw.g Φ._law_draw.F.kp Φ._law_draw.b (xcons (xv 0) (xcons (xop op_add lf_I0 (xv 1) xint) xnil))) xint)) (xs_fz (xs_cons (x_asg (xtup (xcons (x_lc newF rfl sc__law_graph.nd (blkOk_by (own := [("_law_at", 6), ("_law_count", 7)]) (by kernel_rfl)) rfl (xi_enum (by rfl) Φ.n_enumerate (xv 2)) (fun _ _ _ _ _ => xgc_tup rfl (xgsc_cons (xgc_name (by decide) sc__law_graph.nd rfl (by first | exact .inl rfl | exact .inr rfl)) (xgsc_cons (xgc_name (by decide) sc__law_graph.nd rfl (by first | exact .inl rfl | exact .inr rfl)) xgsc_nil))) (fun _ _ _ _ _ => xts_one (xtcmp op_gt lf_B0 (xv 7) xint)) (fun _ _ _ _ _ => xv 6)) (xcons (x_lc newF rfl sc__law_graph.nd (blkOk_by (own := [("_law_at", 6), ("_law_count", 7)]) (by kernel_rfl)) rfl (xi_enum (by rfl) Φ.n_enumerate (xv 2)) (fun _ _ _ _ _ => xgc_tup rfl (xgsc_cons (xgc_name (by decide) sc__law_graph.nd rfl (by first | exact .inl rfl | exact .inr rfl)) (xgsc_cons (xgc_name (by decide) sc__law_graph.nd rfl (by first | exact .inl rfl | exact .inr rfl)) xgsc_nil))) (fun _ _ _ _ _ => xts_one (xtcmp op_eq lf_eq (xv 7) xint)) (fun _ _ _ _ _ => xv 6)) xnil))) (xg_tup rfl (xgs_cons (xg_name sc__law_graph.nd rfl (by first | exact .inl rfl | exact .inr rfl)) (xgs_cons (xg_name sc__law_graph.nd rfl (by first | exact .inl rfl | exact .inr rfl)) xgs_nil)))) (xs_cons (x_set sc__law_graph.nd rfl (by first | exact .inl rfl | exact .inr rfl) (xlst newP xnil)) (xs_cons (x_for PassesOwn.never rfl (xi_range (by rfl) Φ.n_range (x_if (xtcmp (op_neNil hr.units0) lf_neNil (xv 4) (xlst newF xnil)) (xcall (ok__law_draw Φ) (hr.mono (by omega)) (by rfl) Φ._law_draw.g Φ._law_draw.F.kp Φ._law_draw.b (xcons (xv 0) (xcons xint xnil))) xint)) (xg_name sc__law_graph.nd rfl (by first | exact .inl rfl | exact .inr rfl)) (xs_cons (x_set sc__law_graph.nd rfl (by first | exact .inl rfl | exact .inr rfl) (xcall (ok__law_one Φ) (hr.mono (by omega)) (by rfl) Φ._law_one.g Φ._law_one.F.kp Φ._law_one.b (xcons (xv 0) (xcons (xv 4) xnil)))) (xs_cons (x_setLc newF rfl sc__law_graph.nd rfl rfl (sw_true rfl rfl (by decide) (by decide +kernel)) (blkOk_by (own := [("_law_word", 11)]) (by kernel_rfl)) rfl (xi_seq (xlst newF (xcons xstr (xcons xstr (xcons xstr (xcons xstr xnil)))))) (fun _ _ _ _ _ => xgc_name (by decide) sc__law_graph.nd rfl (by first | exact .inl rfl | exact .inr rfl)) (fun _ _ _ _ _ => xts_one (xtcmp op_gt lf_B0 (xcall (ok__law_draw Φ) (hr.mono (by omega)) (by rfl) Φ._law_draw.g Φ._law_draw.F.kp Φ._law_draw.b (xcons (xv 0) (xcons xint xnil))) xint)) (fun _ _ _ _ _ => xtup (xcons (xv 11) (xcons (xcall (ok__law_one Φ) (hr.mono (by omega)) (by rfl) Φ._law_one.g Φ._law_one.F.kp Φ._law_one.b (xcons (xv 0) (xcons (xv 4) xnil))) xnil)))) (xs_one (x_expr (xappend (xv 8) (xtup (xcons (xv 10) (xcons (xv 9) xnil))))))))) (xs_fz (xs_cons (x_set sc__law_graph.nd rfl (by first | exact .inl rfl | exact .inr rfl) (x_if (xtcmp (op_neNil hr.units0) lf_neNil (xv 4) (xlst newF xnil)) (xcall (ok__law_one Φ) (hr.mono (by omega)) (by rfl) Φ._law_one.g Φ._law_one.F.kp Φ._law_one.b (xcons (xv 0) (xcons (xv 4) xnil))) xint)) (xs_cons (x_ifs (xtcmp op_eq lf_eq (xcall (ok__law_draw Φ) (hr.mono (by omega)) (by rfl) Φ._law_draw.g Φ._law_draw.F.kp Φ._law_draw.b (xcons (xv 0) (xcons xint xnil))) xint) (xs_one (x_set sc__law_graph.nd rfl (by first | exact .inl rfl | exact .inr rfl) (x_lc newF rfl sc__law_graph.nd (blkOk_by (own := [("_law_rows", 10), ("_law_begin", 9)]) (by kernel_rfl)) rfl (xi_seq (xv 8)) (fun _ _ _ _ _ => xgc_tup rfl (xgsc_cons (xgc_name (by decide) sc__law_graph.nd rfl (by first | exact .inl rfl | exact .inr rfl)) (xgsc_cons (xgc_name (by decide) sc__law_graph.nd rfl (by first | exact .inl rfl | exact .inr rfl)) xgsc_nil))) (fun _ _ _ _ _ => xts_nil) (fun _ _ _ _ _ => xtup (xcons (xop op_cat (lf_catL newF) (xlst newF (xcons (xtup (xcons xstr (xcons (xv 12) xnil))) xnil)) (x_lc newF rfl sc__law_graph.nd (blkOk_by (own := [("_law_row", 13)]) (by kernel_rfl)) rfl (xi_seq (xv 10)) (fun _ _ _ _ _ => xgc_name (by decide) sc__law_graph.nd rfl (by first | exact .inl rfl | exact .inr rfl)) (fun _ _ _ _ _ => xts_one (xtcmp op_ne lf_ne (xix (xv 13) xint) xstr)) (fun _ _ _ _ _ => xv 13))) (xcons (xv 9) xnil)))))) xs_nil) (xs_cons (x_set sc__law_graph.nd rfl (by first | exact .inl rfl | exact .inr rfl) (x_lc newF rfl sc__law_graph.nd (blkOk_by (own := [("_law_turn", 3)]) (by kernel_rfl)) rfl (xi_range (by rfl) Φ.n_range (xcall (ok__law_draw Φ) (hr.mono (by omega)) (by rfl) Φ._law_draw.g Φ._law_draw.F.kp Φ._law_draw.b (xcons (xv 0) (xcons xint xnil)))) (fun _ _ _ _ _ => xgc_name (by decide) sc__law_graph.nd rfl (by first | exact .inl rfl | exact .inr rfl)) (fun _ _ _ _ _ => xts_nil) (fun _ _ _ _ _ => xcall (ok__law_one Φ) (hr.mono (by omega)) (by rfl) Φ._law_one.g Φ._law_one.F.kp Φ._law_one.b (xcons (xv 0) (xcons (xv 5) xnil))))) (xs_cons (x_set sc__law_graph.nd rfl (by first | exact .inl rfl | exact .inr rfl) (xlst newP xnil)) (xs_cons (x_for PassesOwn.never rfl (xi_range (by rfl) Φ.n_range (xop op_add lf_I0 (xv 1) xint)) (xg_name sc__law_graph.nd rfl (by first | exact .inl rfl | exact .inr rfl)) (xs_one (x_expr (xappend (xv 15) (x_lc newF rfl sc__law_graph.nd (blkOk_by (own := [("_law_turn", 3)]) (by kernel_rfl)) rfl (xi_range (by rfl) Φ.n_range (xcall (ok__law_draw Φ) (hr.mono (by omega)) (by rfl) Φ._law_draw.g Φ._law_draw.F.kp Φ._law_draw.b (xcons (xv 0) (xcons xint xnil)))) (fun _ _ _ _ _ => xgc_name (by decide) sc__law_graph.nd rfl (by first | exact .inl rfl | exact .inr rfl)) (fun _ _ _ _ _ => xts_nil) (fun _ _ _ _ _ => xcall (ok__law_ask Φ 4) (hr.mono (by omega)) (by rfl) Φ._law_ask.g Φ._law_ask.F.kp Φ._law_ask.b (xcons (xv 0) (xcons (xtup (xcons (xv 2) (xcons (xv 8) (xcons (xv 14) xnil)))) (xcons xint xnil))))))))) (xs_one (x_ret (xtup (xcons (xv 2) (xcons (xfrz (xv 15)) (xcons (xv 8) (xcons (xv 14) (xcons (xcall (ok__law_one Φ) (hr.mono (by omega)) (by rfl) Φ._law_one.g Φ._law_one.F.kp Φ._law_one.b (xcons (xv 0) (xcons (xv 5) xnil))) xnil))))))))))))))))))))) (fun _ _ _ h => h.2)
theorem sc_reach : FnScope N_reach ["core"] (defScope s_reach) := ⟨rfl, rfl, rfl, by decide +kernel, rfl, by decide +kernel, by decide +kernel⟩
theorem ok_reach (Φ : Phi K mg w) : FnOk P w K mg base CX0 9 Φ.reach.f Φ.reach.fd ["core"] (spD K (F_reach Φ.C)) :=
  def_okK (d := rd_reach Φ.C) Φ.reach.F sc_reach (fun _ _ _ h => h.1) (fun cdv A outer s H E hr => xs_cons (x_expr (xcall (ok_need_core Φ) (hr.mono (by omega)) (by rfl) Φ.need_core.g Φ.need_core.F.kp Φ.need_core.b (xcons (xv 0) xnil))) (xs_cons (x_asg (xcall (ok_reach_in Φ) (hr.mono (by omega)) (by rfl) Φ.reach_in.g Φ.reach_in.F.kp Φ.reach_in.b (xcons (xv 0) xnil)) (xg_tup rfl (xgs_cons (xg_name sc_reach.nd rfl (by first | exact .inl rfl | exact .inr rfl)) (xgs_cons (xg_name sc_reach.nd rfl (by first | exact .inl rfl | exact .inr rfl)) xgs_nil)))) (xs_one (x_ret (xtup (xcons (xcallTy call_tuple_of lf_tuple (by rfl) Φ.n_tuple (by decide +kernel) (xcons (xv 1) xnil)) (xcons (xcallTy call_tuple_of lf_tuple (by rfl) Φ.n_tuple (by decide +kernel) (xcons (xv 2) xnil)) xnil))))))) (fun _ _ _ h => h.2)
theorem sc_reach_holds : FnScope N_reach_holds ["core", "thing"] (defScope s_reach_holds) := ⟨rfl, rfl, rfl, by decide +kernel, rfl, by decide +kernel, by decide +kernel⟩
theorem ok_reach_holds (Φ : Phi K mg w) : FnOk P w K mg base CX0 9 Φ.reach_holds.f Φ.reach_holds.fd ["core", "thing"] (spD K (F_reach_holds Φ.C)) :=
  def_okK (d := rd_reach_holds Φ.C) Φ.reach_holds.F sc_reach_holds (fun _ _ _ h => h.1) (fun cdv A outer s H E hr => xs_cons (x_expr (xcall (ok_need_core Φ) (hr.mono (by omega)) (by rfl) Φ.need_core.g Φ.need_core.F.kp Φ.need_core.b (xcons (xv 0) xnil))) (xs_cons (x_ifs ((xw_or (xt_not (xtv (xisT .tuple (by rfl) Φ.n_isinstance (by rfl) Φ.n_tuple (by decide +kernel) (xv 1)))) (xw_or1 (xtcmp op_ne lf_ne (xcallB cr_lenA lf_len (by rfl) Φ.n_len (by decide +kernel) (xcons (xv 1) xnil)) xint))).pt) (xs_one (x_ret xbl)) xs_nil) (xs_cons (x_ifs ((xw_or (xt_not (xtv (xcall (ok_is_ascending Φ) (hr.mono (by omega)) (by rfl) Φ.is_ascending.g Φ.is_ascending.F.kp Φ.is_ascending.b (xcons (xix (xv 1) xint) (xcons (xop op_sub lf_I0 (xcallB cr_lenA lf_len (by rfl) Φ.n_len (by decide +kernel) (xcons (xix (xv 0) xint) xnil)) xint) xnil))))) (xw_or1 (xt_not (xtv (xcall (ok_is_ascending Φ) (hr.mono (by omega)) (by rfl) Φ.is_ascending.g Φ.is_ascending.F.kp Φ.is_ascending.b (xcons (xix (xv 1) xint) (xcons (xop op_sub lf_I0 (xcallB cr_lenA lf_len (by rfl) Φ.n_len (by decide +kernel) (xcons (xix (xv 0) xint) xnil)) xint) xnil))))))).pt) (xs_one (x_ret xbl)) xs_nil) (xs_one (x_ret (x_and (xcmp op_in_seq lf_inI (xix (xv 0) xint) (xix (xv 1) xint)) (x_one (xcall (ok_is_closed_reach Φ) (hr.mono (by omega)) (by rfl) Φ.is_closed_reach.g Φ.is_closed_reach.F.kp Φ.is_closed_reach.b (xcons (xv 0) (xcons (xix (xv 1) xint) (xcons (xix (xv 1) xint) xnil))))))))))) (fun _ _ _ h => h.2)
theorem sc__law_right : FnScope N__law_right ["_law_feed_here"] (defScope s__law_right) := ⟨rfl, rfl, rfl, by decide +kernel, rfl, by decide +kernel, by decide +kernel⟩
theorem ok__law_right (Φ : Phi K mg w) : FnOk P w K mg base CX0 10 Φ._law_right.f Φ._law_right.fd ["_law_feed_here"] (spD K (F__law_right Φ.C)) :=
  def_okK (d := rd__law_right Φ.C) Φ._law_right.F sc__law_right (fun _ _ _ h => h.1) (fun cdv A outer s H E hr => xs_cons (x_set sc__law_right.nd rfl (by first | exact .inl rfl | exact .inr rfl) (xcall (ok__law_graph Φ) (hr.mono (by omega)) (by rfl) Φ._law_graph.g Φ._law_graph.F.kp Φ._law_graph.b (xcons (xv 0) xnil))) (xs_cons (x_par rfl sc__law_right.nd rfl rfl (by decide) rfl rfl (xcall (ok__law_core Φ) (hr.mono (by omega)) (by rfl) Φ._law_core.g Φ._law_core.F.kp Φ._law_core.b (xcons (xv 0) (xcons (xv 1) xnil))) (xix (xv 1) xint) (by rfl)) (xs_cons (x_set sc__law_right.nd rfl (by first | exact .inl rfl | exact .inr rfl) (xcall (ok__law_closure Φ) (hr.mono (by omega)) (by rfl) Φ._law_closure.g Φ._law_closure.F.kp Φ._law_closure.b (xcons (xv 1) (xcons (xlst newF (xcons (xv 3) xnil)) (xcons (xlst newF xnil) xnil))))) (xs_cons (x_ifs ((xw_or (xtcmp (op_neD hr.units) lf_neD (xcall (ok_reach Φ) (hr.mono (by omega)) (by rfl) Φ.reach.g Φ.reach.F.kp Φ.reach.b (xcons (xv 2) xnil)) (xv 4)) (xw_or1 (xt_not (xtv (xisT .tuple (by rfl) Φ.n_isinstance (by rfl) Φ.n_tuple (by decide +kernel) (xcall (ok_reach Φ) (hr.mono (by omega)) (by rfl) Φ.reach.g Φ.reach.F.kp Φ.reach.b (xcons (xv 2) xnil))))))).pt) (xs_one (x_ret xbl)) xs_nil) (xs_cons (x_par rfl sc__law_right.nd rfl rfl (by decide) rfl rfl (xcallB cr_lenA lf_len (by rfl) Φ.n_len (by decide +kernel) (xcons (xix (xv 1) xint) xnil)) (xcallB cr_lenA lf_len (by rfl) Φ.n_len (by decide +kernel) (xcons (xix (xv 1) xint) xnil)) (by rfl)) (xs_cons (x_set sc__law_right.nd rfl (by first | exact .inl rfl | exact .inr rfl) (xtup (xcons (xtupRg rfl (by rfl) Φ.n_tuple (by rfl) Φ.n_range (xv 5)) (xcons (xtupRg rfl (by rfl) Φ.n_tuple (by rfl) Φ.n_range (xv 6)) xnil)))) (xs_cons (x_ifs ((xw_or (xtcmp op_notBl lf_notB (xcall (ok_reach_holds Φ) (hr.mono (by omega)) (by rfl) Φ.reach_holds.g Φ.reach_holds.F.kp Φ.reach_holds.b (xcons (xv 2) (xcons (xv 4) xnil))) xbl) (xw_or1 (xtcmp op_notBl lf_notB (xcallK (ok_reach_holds Φ) (hr.mono (by omega)) (by rfl) Φ.reach_holds.g Φ.reach_holds.F.kp Φ.reach_holds.kb (xk_cons (xv 2) (xk_cons (xv 7) xk_nil))) xbl))).pt) (xs_one (x_ret xbl)) xs_nil) (xs_cons (x_for PassesOwn.never rfl (xi_seq (xcall (ok__law_others Φ) (hr.mono (by omega)) (by rfl) Φ._law_others.g Φ._law_others.F.kp Φ._law_others.b (xcons (xv 1) (xcons (xix (xv 4) xint) (xcons (xix (xv 4) xint) xnil))))) (xg_name sc__law_right.nd rfl (by first | exact .inl rfl | exact .inr rfl)) (xs_one (x_ifs (xtcmp op_notBl lf_notB (xcall (ok_reach_holds Φ) (hr.mono (by omega)) (by rfl) Φ.reach_holds.g Φ.reach_holds.F.kp Φ.reach_holds.b (xcons (xv 2) (xcons (xv 8) xnil))) xbl) (xs_one (x_ret xbl)) xs_nil))) (xs_cons (x_for PassesOwn.never rfl (xi_range (by rfl) Φ.n_range xint) (xg_name sc__law_right.nd rfl (by first | exact .inl rfl | exact .inr rfl)) (xs_cons (x_par rfl sc__law_right.nd rfl rfl (by decide) rfl rfl (xcall (ok__law_drawn Φ) (hr.mono (by omega)) (by rfl) Φ._law_drawn.g Φ._law_drawn.F.kp Φ._law_drawn.b (xcons (xv 0) (xcons (xv 5) (xcons (xix (xv 4) xint) xnil)))) (xcall (ok__law_drawn Φ) (hr.mono (by omega)) (by rfl) Φ._law_drawn.g Φ._law_drawn.F.kp Φ._law_drawn.b (xcons (xv 0) (xcons (xv 6) (xcons (xix (xv 4) xint) xnil)))) (by rfl)) (xs_cons (x_set sc__law_right.nd rfl (by first | exact .inl rfl | exact .inr rfl) (xcmp (op_eqD hr.units) lf_eqD (xcall (ok__law_closure Φ) (hr.mono (by omega)) (by rfl) Φ._law_closure.g Φ._law_closure.F.kp Φ._law_closure.b (xcons (xv 1) (xcons (xv 10) (xcons (xv 11) xnil)))) (xtup (xcons (xv 10) (xcons (xv 11) xnil))))) (xs_cons (x_set sc__law_right.nd rfl (by first | exact .inl rfl | exact .inr rfl) (xcall (ok_reach_holds Φ) (hr.mono (by omega)) (by rfl) Φ.reach_holds.g Φ.reach_holds.F.kp Φ.reach_holds.b (xcons (xv 2) (xcons (xtup (xcons (xv 10) (xcons (xv 11) xnil))) xnil)))) (xs_cons (x_ifs ((xw_or (xt_not (xtv (xisT .bool (by rfl) Φ.n_isinstance (by rfl) Φ.n_bool (by decide +kernel) (xv 13)))) (xw_or1 (xtcmp op_ne lf_ne (xv 13) (xv 12)))).pt) (xs_one (x_ret xbl)) xs_nil) (xs_one (x_ifs (xtcmp op_notBl lf_notB (xcall (ok_reach_holds Φ) (hr.mono (by omega)) (by rfl) Φ.reach_holds.g Φ.reach_holds.F.kp Φ.reach_holds.b (xcons (xv 2) (xcons (xcall (ok__law_closure Φ) (hr.mono (by omega)) (by rfl) Φ._law_closure.g Φ._law_closure.F.kp Φ._law_closure.b (xcons (xv 1) (xcons (xv 10) (xcons (xv 11) xnil)))) xnil))) xbl) (xs_one (x_ret xbl)) xs_nil))))))) (xs_one (x_ret (xcmp (op_eqD hr.units) lf_eqD (xcallK (ok_reach Φ) (hr.mono (by omega)) (by rfl) Φ.reach.g Φ.reach.F.kp Φ.reach.kb (xk_cons (xv 2) xk_nil)) (xv 4))))))))))))) (fun _ _ _ h => h.2)
theorem sc_law : FnScope N_law ["_law_script"] (defScope s_law) := ⟨rfl, rfl, rfl, by decide +kernel, rfl, by decide +kernel, by decide +kernel⟩
theorem ok_law (Φ : Phi K mg w) : FnOk P w K mg base CX0 11 Φ.law.f Φ.law.fd ["_law_script"] (spD K (F_law Φ.C)) :=
  def_okK (d := rd_law Φ.C) Φ.law.F sc_law (fun _ _ _ h => h.1) (fun cdv A outer s H E hr => xs_cons (x_for PassesOwn.never rfl (xi_range (by rfl) Φ.n_range (xcallB (call_max2 rfl) lf_max (by rfl) Φ.n_max (by decide +kernel) (xcons xint (xcons (xcallB (call_min2 rfl) lf_min (by rfl) Φ.n_min (by decide +kernel) (xcons (xcallB cr_lenA lf_len (by rfl) Φ.n_len (by decide +kernel) (xcons (xv 0) xnil)) (xcons xint xnil))) xnil)))) (xg_name sc_law.nd rfl (by first | exact .inl rfl | exact .inr rfl)) (xs_one (x_ifs (xt_not (xtv (xcall (ok__law_right Φ) (hr.mono (by omega)) (by rfl) Φ._law_right.g Φ._law_right.F.kp Φ._law_right.b (xcons (xcall (ok__law_feed Φ) (hr.mono (by omega)) (by rfl) Φ._law_feed.g Φ._law_feed.F.kp Φ._law_feed.b (xcons (xv 0) (xcons (xv 1) xnil))) xnil)))) (xs_one (x_ret xbl)) xs_nil))) (xs_one (x_ret xbl))) (fun _ _ _ h => h.2)
end
end K70
set_option maxRecDepth 100000
set_option maxHeartbeats 1000000
namespace K70
open PySem PySem.Spec PyProof.Rows L2 DL
/-- no address -/
def Np : D → Prop
  | .ptr _ => False
  | _ => True
def isI : D → Bool | .int _ => true | _ => false
section
variable {M : Mh} {R : D → Mh → Prop} {x : D} {n : Int}
theorem isT_np {T : Tn} (h : Np x) : isT M T x = some (match x with | .bl _ => T.isB | .int _ => T.isI | .str _ => T.isS | .tup _ => T.isTup | .lst _ => T.isL | .scr _ => T.isL | _ => false) := by
  cases x <;> first | exact h.elim | rfl
@[simp] theorem isT_tup {T : Tn} {xs : List D} : isT M T (.tup xs) = some T.isTup := id rfl
@[simp] theorem isT_lst {T : Tn} {xs : List D} : isT M T (.lst xs) = some T.isL := id rfl
@[simp] theorem isT_str {T : Tn} {xs : Str} : isT M T (.str xs) = some T.isS := id rfl
@[simp] theorem isT_int {T : Tn} {i : Int} : isT M T (.int i) = some T.isI := id rfl
@[simp] theorem isT_bl {T : Tn} {i : Bool} : isT M T (.bl i) = some T.isB := id rfl
@[simp] theorem isT_non {T : Tn} : isT M T .non = some false := id rfl
@[simp] theorem t1 : Tn.isTup .tuple = true := id rfl
@[simp] theorem t2 : Tn.isS .str = true := id rfl
@[simp] theorem t3 : Tn.isI .int = true := id rfl
@[simp] theorem t4 : Tn.isB .bool = true := id rfl
@[simp] theorem t5 : Tn.isI .bool = false := id rfl
@[simp] theorem t6 : Tn.isB .int = true := id rfl
@[simp] theorem t7 : Tn.isS .tuple = false := id rfl
@[simp] theorem t8 : Tn.isL .tuple = false := id rfl
@[simp] theorem t9 : Tn.isI .tuple = false := id rfl
@[simp] theorem t10 : Tn.isB .tuple = false := id rfl
@[simp] theorem t11 : Tn.isTup .bool = false := id rfl
@[simp] theorem t12 : Tn.isTup .int = false := id rfl
@[simp] theorem t13 : Tn.isS .int = false := id rfl
@[simp] theorem t14 : Tn.isS .bool = false := id rfl
theorem is_whole_ok (h : Np x) (k : R (.bl (isI x)) M) : F_is_whole [x] M R := by
  refine ⟨rfl, ?_⟩
  simp [rd_is_whole, dstart, N_is_whole, isT_np h]
  cases x <;> first | exact h.elim | exact k
def cnt (x : D) (most : Int) : Bool := match x with | .int i => decide (0 ≤ i) && decide (i ≤ most) | _ => false
theorem is_count_ok (h : Np x) (k : R (.bl (cnt x n)) M) : F_is_count [x, .int n] M R := by
  refine ⟨rfl, ?_⟩
  simp [rd_is_count, dstart, N_is_count]
  refine is_whole_ok h ?_
  cases x
  case ptr => exact h.elim
  case int i =>
    simp only [isI, s_onBl, if_true]
    unfold cnt at k
    by_cases h0 : 0 ≤ i
    · simpa [h0] using k
    · simpa [h0] using k
  all_goals simpa [isI, cnt] using k
theorem is_row_ok {xs : List D} (k : R (.bl (decide ((xs.length : Int) ≤ n))) M) : F_is_row [.tup xs, .int n] M R := by
  refine ⟨rfl, ?_⟩
  simpa [rd_is_row, dstart, N_is_row] using k
/-- a row of counts -/
def cnts (x : D) (n : Int) : Bool := match x with | .tup xs => xs.all (cnt · n) | _ => false
theorem is_number_row_ok (h : Np x) (hs : ∀ xs, x = .tup xs → ∀ y ∈ xs, Np y) (k : R (.bl (cnts x n)) M) : F_is_number_row [x, .int n] M R := by
  refine ⟨rfl, ?_⟩
  cases x <;> first | exact h.elim | skip
  case tup xs =>
    simp [rd_is_number_row, dstart, N_is_number_row]
    refine lcW_map (fun x => .bl (cnt x n)) xs [] (fun x hx ys acc Q' q => ?_) ?_
    · simp
      exact is_count_ok (hs xs rfl x hx) q
    · rw [List.nil_append, g_all, keep_self]
      exact k
  all_goals
    simpa [rd_is_number_row, dstart, N_is_number_row, isT, cnts, Tn.isTup] using k
def asc : List Int → Bool := fun is => (is.zip is.tail).all fun p => decide (p.1 < p.2)
def ascD (x : D) (n : Int) : Bool := match x with | .tup xs => xs.all (cnt · n) && (match ints? xs with | some is => asc is | none => false) | _ => false
theorem cnt_ints {n : Int} : ∀ {xs : List D}, xs.all (cnt · n) = true → ∃ is : List Int, xs = is.map D.int
  | [], _ => ⟨[], rfl⟩
  | x :: r, h => by
    rw [List.all_cons, Bool.and_eq_true] at h
    obtain ⟨is, e⟩ := cnt_ints h.2
    cases x <;> first | (cases h.1; done) | skip
    rename_i i
    exact ⟨i :: is, by rw [e]; rfl⟩
theorem is_ascending_ok (h : Np x) (hs : ∀ xs, x = .tup xs → (∀ y ∈ xs, Np y) ∧ xs.length ≤ sizeLine) (k : R (.bl (ascD x n)) M) : F_is_ascending [x, .int n] M R := by
  refine ⟨rfl, ?_⟩
  simp [rd_is_ascending, dstart, N_is_ascending]
  refine is_number_row_ok h (fun xs e => (hs xs e).1) ?_
  cases hc : cnts x n with
  | false =>
    have e : ascD x n = false := by
      cases x <;> first | rfl | skip
      show (_ && _) = false
      have : (List.all _ _) = false := hc
      rw [this]
      rfl
    rw [e] at k
    simpa using k
  | true =>
    cases x <;> first | (cases hc; done) | skip
    rename_i xs
    have hc : xs.all (cnt · n) = true := hc
    obtain ⟨is, rfl⟩ := cnt_ints hc
    have hl := (hs _ rfl).2
    simp only [if_true, s_onBl]
    simp [gSlT, cut_1, dPart]
    refine ⟨by simp at hl; omega, ?_⟩
    rw [← List.map_tail, zip_ints]
    refine lcW_map (fun x => match x with | .tup [.int a, .int b] => .bl (decide (a < b)) | _ => .non) _ [] (fun x hx ys acc Q' q => ?_) ?_
    · obtain ⟨p, _, rfl⟩ := List.mem_map.mp hx
      simp
      exact q
    · rw [List.nil_append, List.map_map]
      show gAll [D.lst ((is.zip is.tail).map fun p => D.bl (decide (p.1 < p.2)))] M _
      rw [g_all]
      have e : ascD (.tup (is.map D.int)) n = asc is := by
        show (_ && (match ints? (is.map D.int) with | some is => asc is | none => false)) = _
        rw [DL.ints_map, hc]
        rfl
      rw [e] at k
      rw [keep_self]
      exact k
/-! ### texts -/
def okT (z : Str) (k : Int) : Bool := decide (k ≤ (z.length : Nat)) && (decide (z.length ≤ 80) && z.cps.toList.all fun c => leT " " ⟨#[c]⟩ && leT ⟨#[c]⟩ "~")
theorem is_core_text_ok {z : Str} {k : Int} (hz : okT z k = true) (q : R (.bl true) M) : F_is_core_text [.str z, .int k] M R := by
  unfold okT at hz
  simp only [Bool.and_eq_true, decide_eq_true_eq] at hz
  obtain ⟨h1, h2, h3⟩ := hz
  have hl : z.length ≤ sizeLine := by rw [sizeLine_eq]; omega
  have n1 : ¬ ((z.length : Int) < k) := by omega
  have n2 : ¬ ((80 : Int) < (z.length : Int)) := by omega
  refine ⟨rfl, ?_⟩
  simp [rd_is_core_text, dstart, N_is_core_text, hl, n1, n2]
  refine lcW_map (fun x => match x with | .str c => .bl (leT " " c && leT c "~") | _ => .non) (strD z) [] (fun x hx ys acc Q' h => ?_) ?_
  · obtain ⟨c, _, rfl⟩ := List.mem_map.mp hx
    simp
    cases hc : leT " " ⟨#[c]⟩ <;> simpa [hc] using h
  · rw [List.nil_append]
    unfold strD
    rw [List.map_map]
    show gAll [D.lst (z.cps.toList.map fun c => D.bl (leT " " ⟨#[c]⟩ && leT ⟨#[c]⟩ "~"))] M _
    rw [g_all, keep_self, h3]
    exact q
/-! ### bodies, tables -/
/-- the bodies' params -/
def IsBs (bs : List D) (ps : List Int) : Prop := bs.length = ps.length ∧ ∀ (i : Nat) (p : Int), ps[i]? = some p → ∃ f c, bs[i]? = some (.tup [.int p, f, c])
section
variable {bs : List D} {ps : List Int}
theorem bs_at (h : IsBs bs ps) {i : Nat} {p : Int} (e : ps[i]? = some p) : ∃ f c, bs[i]? = some (.tup [.int p, f, c]) := h.2 i p e
theorem is_entry_ok (hb : IsBs bs ps) {i : Nat} {p : Int} (e : ps[i]? = some p) (hp : 0 < p) (k : R (.bl true) M) : F_is_entry [.int (i : Nat), .tup bs] M R := by
  obtain ⟨f, c, hi⟩ := bs_at hb e
  have hl : i < bs.length := by rw [hb.1]; exact (List.getElem?_eq_some_iff.mp e).1
  refine ⟨rfl, ?_⟩
  simp [rd_is_entry, dstart, N_is_entry]
  refine is_count_ok True.intro ?_
  have hc : cnt (.int (i : Nat)) ((bs.length : Int) - 1) = true := by simp [cnt]; omega
  rw [hc]
  simp [ix_tup hi, hp]
  exact k
theorem is_start_ok (hb : IsBs bs ps) {i : Nat} (e : ps[i]? = some 0) (k : R (.bl true) M) : F_is_start [.int (i : Nat), .tup bs] M R := by
  obtain ⟨f, c, hi⟩ := bs_at hb e
  have hl : i < bs.length := by rw [hb.1]; exact (List.getElem?_eq_some_iff.mp e).1
  refine ⟨rfl, ?_⟩
  simp [rd_is_start, dstart, N_is_start]
  refine is_count_ok True.intro ?_
  have hc : cnt (.int (i : Nat)) ((bs.length : Int) - 1) = true := by simp [cnt]; omega
  rw [hc]
  simp [ix_tup hi]
  exact k
theorem is_body_ok {p f : Int} {c : D} (h1 : 0 ≤ p) (h2 : p ≤ 400) (h3 : 0 ≤ f) (h4 : f ≤ 400 - p) (k : R (.bl true) M) : F_is_body [.tup [.int p, .int f, c]] M R := by
  refine ⟨rfl, ?_⟩
  simp [rd_is_body, dstart, N_is_body]
  refine is_count_ok True.intro ?_
  have hc : cnt (.int p) 400 = true := by simp [cnt]; omega
  rw [hc]
  simp
  refine is_count_ok True.intro ?_
  have hc : cnt (.int f) (400 - p) = true := by simp [cnt]; omega
  rw [hc]
  simpa using k
theorem is_single_ok (hb : IsBs bs ps) {i : Nat} (e : ps[i]? = some 0) {z : Str} (hz : okT z 1 = true) (k : R (.bl true) M) : F_is_single [.tup [.int (i : Nat), .str z], .tup bs] M R := by
  refine ⟨rfl, ?_⟩
  simp [rd_is_single, dstart, N_is_single]
  refine is_start_ok hb e ?_
  simp
  exact is_core_text_ok hz (by simpa using k)
/-- the rows of a table: texts that ascend, entries -/
def rowD (r : Str × Nat) : D := .tup [.str r.1, .int (r.2 : Nat)]
def RowsOk (ps : List Int) (rs : List (Str × Nat)) : Prop := (∀ r ∈ rs, okT r.1 1 = true ∧ ∃ p, ps[r.2]? = some p ∧ 0 < p) ∧ ((rs.zip rs.tail).all fun p => ltT p.1.1 p.2.1) = true
theorem zip_rows : ∀ (rs qs : List (Str × Nat)), zipD (rs.map rowD) (qs.map rowD) = (rs.zip qs).map fun p => D.tup [rowD p.1, rowD p.2]
  | [], _ => by simp [zipD]
  | i :: is, [] => by simp [zipD]
  | i :: is, j :: js => by simp [zipD, zip_rows is js]
theorem are_sends_ok (hb : IsBs bs ps) {rs : List (Str × Nat)} (hr : RowsOk ps rs) (hl : rs.length ≤ sizeLine) (k : R (.bl true) M) : F_are_sends [.tup (rs.map rowD), .tup bs] M R := by
  refine ⟨rfl, ?_⟩
  simp [rd_are_sends, dstart, N_are_sends]
  have loop : ∀ (qs : List (Str × Nat)) (x : Option D) (E : DEnds), (∀ r ∈ qs, okT r.1 1 = true ∧ ∃ p, ps[r.2]? = some p ∧ 0 < p) → (∀ x, E.nx [some (.tup (rs.map rowD)), some (.tup bs), x, none, none] M) →
      forW (dgName 2) (dIfS (dOr (dNot (dTst (dIsT .tuple (dVar 2)))) (dOr (dTst (dOp gNe (dCB gLen (dCons (dVar 2) dNil)) (dC (.int 2)))) (dOr (dNot (dTst (dCall F_is_core_text (dCons (dOp gIx (dVar 2) (dC (.int 0))) (dCons (dC (.int 1)) dNil))))) (dNot (dTst (dCall F_is_entry (dCons (dOp gIx (dVar 2) (dC (.int 1))) (dCons (dVar 1) dNil)))))))) (dRet (dC (.bl false))) dNext) (qs.map rowD) E [some (.tup (rs.map rowD)), some (.tup bs), x, none, none] M := by
    intro qs
    induction qs with
    | nil => intro x E _ h; exact h x
    | cons r qs ih =>
      intro x E h1 h2
      obtain ⟨g1, p, g2, g3⟩ := h1 r List.mem_cons_self
      simp [forW, rowD]
      refine is_core_text_ok g1 ?_
      simp
      refine is_entry_ok hb g2 g3 ?_
      simp
      exact ih _ E (fun q hq => h1 q (List.mem_cons_of_mem _ hq)) h2
  refine loop rs none _ hr.1 fun x => ?_
  simp [gSlT, cut_1]
  refine ⟨by omega, ?_⟩
  rw [← List.map_tail, zip_rows]
  refine lcW_map (fun x => match x with | .tup [.tup [.str a, _], .tup [.str b, _]] => .bl (ltT a b) | _ => .non) _ [] (fun x hx ys acc Q' q => ?_) ?_
  · obtain ⟨p, _, rfl⟩ := List.mem_map.mp hx
    simp [rowD]
    exact q
  · rw [List.nil_append, List.map_map]
    show gAll [D.lst ((rs.zip rs.tail).map fun p => D.bl (ltT p.1.1 p.2.1))] M _
    rw [g_all, keep_self, hr.2]
    exact k
theorem text_row_nil (k : R (.bl true) M) : F_is_text_row [.tup []] M R := by
  refine ⟨rfl, ?_⟩
  simp [rd_is_text_row, dstart, N_is_text_row]
  have := g_all (M := M) (Q := fun x M' => R x (keepM M M')) (p := fun (_ : Nat) => true) (xs := [])
  rw [show ([] : List Nat).map (fun _ => D.bl true) = [] from rfl] at this
  rw [this, keep_self]
  exact k
def tabD (t : List (Str × Nat) × Nat) : D := .tup [.str "T", .non, .tup [], .tup [], .tup (t.1.map rowD), .int (t.2 : Nat)]
theorem is_table_ok (hb : IsBs bs ps) {t : List (Str × Nat) × Nat} (hr : RowsOk ps t.1) (hl : t.1.length ≤ sizeLine) {p : Int} (e : ps[t.2]? = some p) (hp : 0 < p) (k : R (.bl true) M) : F_is_table [tabD t, .tup bs] M R := by
  refine ⟨rfl, ?_⟩
  simp [rd_is_table, dstart, N_is_table, tabD]
  refine is_core_text_ok (by decide +kernel) ?_
  simp
  refine text_row_nil ?_
  simp
  refine text_row_nil ?_
  simp [asQ]
  refine are_sends_ok hb hr hl ?_
  simp
  exact is_entry_ok hb e hp (by simpa using k)
end
end
end K70
set_option maxRecDepth 100000
namespace K70
open PySem PySem.Spec PyProof.Rows L2 DL
@[simp] theorem tb_PLACES_unit : lkS tb_PLACES "unit" = some none := by kernel_rfl
@[simp] theorem tb_PLACES_truth : lkS tb_PLACES "truth" = some none := by kernel_rfl
@[simp] theorem tb_PLACES_single : lkS tb_PLACES "single" = some none := by kernel_rfl
@[simp] theorem tb_PLACES_show : lkS tb_PLACES "show" = some (some (.tup [.int 1])) := by kernel_rfl
@[simp] theorem tb_PLACES_late : lkS tb_PLACES "late" = some (some (.tup [.int 1])) := by kernel_rfl
@[simp] theorem tb_PLACES_now : lkS tb_PLACES "now" = some (some (.tup [.int 1])) := by kernel_rfl
@[simp] theorem tb_PLACES_first : lkS tb_PLACES "first" = some (some (.tup [.int 1])) := by kernel_rfl
@[simp] theorem tb_PLACES_once : lkS tb_PLACES "once" = some (some (.tup [.int 2])) := by kernel_rfl
@[simp] theorem tb_PLACES_among : lkS tb_PLACES "among" = some (some (.tup [.int 1])) := by kernel_rfl
@[simp] theorem tb_PLACES_stop : lkS tb_PLACES "stop" = some (some (.tup [.int 2])) := by kernel_rfl
@[simp] theorem tb_PLACES_slot : lkS tb_PLACES "slot" = some (some (.tup [.int 1])) := by kernel_rfl
@[simp] theorem tb_PLACES_then : lkS tb_PLACES "then" = some (some (.tup [.int 1, .int 2])) := by kernel_rfl
@[simp] theorem tb_PLACES_op : lkS tb_PLACES "op" = some (some (.tup [.int 2, .int 3])) := by kernel_rfl
@[simp] theorem tb_PLACES_if : lkS tb_PLACES "if" = some (some (.tup [.int 1, .int 2, .int 3])) := by kernel_rfl
@[simp] theorem tb_PLACES_let : lkS tb_PLACES "let" = some (some (.tup [.int 2, .int 3])) := by kernel_rfl
@[simp] theorem tb_PLACES_fill : lkS tb_PLACES "fill" = some (some (.tup [.int 2, .int 3])) := by kernel_rfl
@[simp] theorem tb_PLACES_fun : lkS tb_PLACES "fun" = some (some (.tup [.int 2])) := by kernel_rfl
@[simp] theorem tb_PLACES_apply : lkS tb_PLACES "apply" = some (some (.tup [.int 1])) := by kernel_rfl
@[simp] theorem tb_PLACES_send : lkS tb_PLACES "send" = some (some (.tup [.int 1])) := by kernel_rfl
@[simp] theorem tb_PLACES_direct : lkS tb_PLACES "direct" = some none := by kernel_rfl
@[simp] theorem tb_PLACES_make : lkS tb_PLACES "make" = some none := by kernel_rfl
@[simp] theorem tb_ROWS_unit : lkS tb_ROWS "unit" = some none := by kernel_rfl
@[simp] theorem tb_ROWS_truth : lkS tb_ROWS "truth" = some none := by kernel_rfl
@[simp] theorem tb_ROWS_single : lkS tb_ROWS "single" = some none := by kernel_rfl
@[simp] theorem tb_ROWS_show : lkS tb_ROWS "show" = some none := by kernel_rfl
@[simp] theorem tb_ROWS_late : lkS tb_ROWS "late" = some none := by kernel_rfl
@[simp] theorem tb_ROWS_now : lkS tb_ROWS "now" = some none := by kernel_rfl
@[simp] theorem tb_ROWS_first : lkS tb_ROWS "first" = some none := by kernel_rfl
@[simp] theorem tb_ROWS_once : lkS tb_ROWS "once" = some none := by kernel_rfl
@[simp] theorem tb_ROWS_among : lkS tb_ROWS "among" = some none := by kernel_rfl
@[simp] theorem tb_ROWS_stop : lkS tb_ROWS "stop" = some none := by kernel_rfl
@[simp] theorem tb_ROWS_slot : lkS tb_ROWS "slot" = some none := by kernel_rfl
@[simp] theorem tb_ROWS_then : lkS tb_ROWS "then" = some none := by kernel_rfl
@[simp] theorem tb_ROWS_op : lkS tb_ROWS "op" = some none := by kernel_rfl
@[simp] theorem tb_ROWS_if : lkS tb_ROWS "if" = some none := by kernel_rfl
@[simp] theorem tb_ROWS_let : lkS tb_ROWS "let" = some none := by kernel_rfl
@[simp] theorem tb_ROWS_fill : lkS tb_ROWS "fill" = some none := by kernel_rfl
@[simp] theorem tb_ROWS_fun : lkS tb_ROWS "fun" = some none := by kernel_rfl
@[simp] theorem tb_ROWS_apply : lkS tb_ROWS "apply" = some (some (.int 2)) := by kernel_rfl
@[simp] theorem tb_ROWS_send : lkS tb_ROWS "send" = some (some (.int 3)) := by kernel_rfl
@[simp] theorem tb_ROWS_direct : lkS tb_ROWS "direct" = some (some (.int 2)) := by kernel_rfl
@[simp] theorem tb_ROWS_make : lkS tb_ROWS "make" = some (some (.int 2)) := by kernel_rfl
@[simp] theorem tb_SIZES_unit : lkS tb_SIZES "unit" = some (some (.int 1)) := by kernel_rfl
@[simp] theorem tb_SIZES_truth : lkS tb_SIZES "truth" = some (some (.int 2)) := by kernel_rfl
@[simp] theorem tb_SIZES_single : lkS tb_SIZES "single" = some (some (.int 2)) := by kernel_rfl
@[simp] theorem tb_SIZES_show : lkS tb_SIZES "show" = some (some (.int 2)) := by kernel_rfl
@[simp] theorem tb_SIZES_late : lkS tb_SIZES "late" = some (some (.int 2)) := by kernel_rfl
@[simp] theorem tb_SIZES_now : lkS tb_SIZES "now" = some (some (.int 2)) := by kernel_rfl
@[simp] theorem tb_SIZES_first : lkS tb_SIZES "first" = some (some (.int 2)) := by kernel_rfl
@[simp] theorem tb_SIZES_once : lkS tb_SIZES "once" = some (some (.int 3)) := by kernel_rfl
@[simp] theorem tb_SIZES_among : lkS tb_SIZES "among" = some (some (.int 3)) := by kernel_rfl
@[simp] theorem tb_SIZES_stop : lkS tb_SIZES "stop" = some (some (.int 3)) := by kernel_rfl
@[simp] theorem tb_SIZES_slot : lkS tb_SIZES "slot" = some (some (.int 3)) := by kernel_rfl
@[simp] theorem tb_SIZES_then : lkS tb_SIZES "then" = some (some (.int 3)) := by kernel_rfl
@[simp] theorem tb_SIZES_op : lkS tb_SIZES "op" = some (some (.int 4)) := by kernel_rfl
@[simp] theorem tb_SIZES_if : lkS tb_SIZES "if" = some (some (.int 4)) := by kernel_rfl
@[simp] theorem tb_SIZES_let : lkS tb_SIZES "let" = some (some (.int 4)) := by kernel_rfl
@[simp] theorem tb_SIZES_fill : lkS tb_SIZES "fill" = some (some (.int 4)) := by kernel_rfl
@[simp] theorem tb_SIZES_fun : lkS tb_SIZES "fun" = some (some (.int 3)) := by kernel_rfl
@[simp] theorem tb_SIZES_apply : lkS tb_SIZES "apply" = some (some (.int 3)) := by kernel_rfl
@[simp] theorem tb_SIZES_send : lkS tb_SIZES "send" = some (some (.int 4)) := by kernel_rfl
@[simp] theorem tb_SIZES_direct : lkS tb_SIZES "direct" = some (some (.int 3)) := by kernel_rfl
@[simp] theorem tb_SIZES_make : lkS tb_SIZES "make" = some (some (.int 3)) := by kernel_rfl
@[simp] theorem tb_CLOSED_unit : lkS tb_CLOSED "unit" = some none := by kernel_rfl
@[simp] theorem tb_CLOSED_truth : lkS tb_CLOSED "truth" = some none := by kernel_rfl
@[simp] theorem tb_CLOSED_single : lkS tb_CLOSED "single" = some none := by kernel_rfl
@[simp] theorem tb_CLOSED_show : lkS tb_CLOSED "show" = some none := by kernel_rfl
@[simp] theorem tb_CLOSED_late : lkS tb_CLOSED "late" = some (some (.bl true)) := by kernel_rfl
@[simp] theorem tb_CLOSED_now : lkS tb_CLOSED "now" = some none := by kernel_rfl
@[simp] theorem tb_CLOSED_first : lkS tb_CLOSED "first" = some none := by kernel_rfl
@[simp] theorem tb_CLOSED_once : lkS tb_CLOSED "once" = some (some (.bl true)) := by kernel_rfl
@[simp] theorem tb_CLOSED_among : lkS tb_CLOSED "among" = some none := by kernel_rfl
@[simp] theorem tb_CLOSED_stop : lkS tb_CLOSED "stop" = some none := by kernel_rfl
@[simp] theorem tb_CLOSED_slot : lkS tb_CLOSED "slot" = some none := by kernel_rfl
@[simp] theorem tb_CLOSED_then : lkS tb_CLOSED "then" = some none := by kernel_rfl
@[simp] theorem tb_CLOSED_op : lkS tb_CLOSED "op" = some none := by kernel_rfl
@[simp] theorem tb_CLOSED_if : lkS tb_CLOSED "if" = some none := by kernel_rfl
@[simp] theorem tb_CLOSED_let : lkS tb_CLOSED "let" = some none := by kernel_rfl
@[simp] theorem tb_CLOSED_fill : lkS tb_CLOSED "fill" = some none := by kernel_rfl
@[simp] theorem tb_CLOSED_fun : lkS tb_CLOSED "fun" = some (some (.bl true)) := by kernel_rfl
@[simp] theorem tb_CLOSED_apply : lkS tb_CLOSED "apply" = some none := by kernel_rfl
@[simp] theorem tb_CLOSED_send : lkS tb_CLOSED "send" = some none := by kernel_rfl
@[simp] theorem tb_CLOSED_direct : lkS tb_CLOSED "direct" = some none := by kernel_rfl
@[simp] theorem tb_CLOSED_make : lkS tb_CLOSED "make" = some none := by kernel_rfl
@[simp] theorem tb_ALONE_unit : lkS tb_ALONE "unit" = some none := by kernel_rfl
@[simp] theorem tb_ALONE_truth : lkS tb_ALONE "truth" = some (some (.bl true)) := by kernel_rfl
@[simp] theorem tb_ALONE_single : lkS tb_ALONE "single" = some none := by kernel_rfl
@[simp] theorem tb_ALONE_show : lkS tb_ALONE "show" = some none := by kernel_rfl
@[simp] theorem tb_ALONE_late : lkS tb_ALONE "late" = some none := by kernel_rfl
@[simp] theorem tb_ALONE_now : lkS tb_ALONE "now" = some none := by kernel_rfl
@[simp] theorem tb_ALONE_first : lkS tb_ALONE "first" = some none := by kernel_rfl
@[simp] theorem tb_ALONE_once : lkS tb_ALONE "once" = some (some (.bl true)) := by kernel_rfl
@[simp] theorem tb_ALONE_among : lkS tb_ALONE "among" = some none := by kernel_rfl
@[simp] theorem tb_ALONE_stop : lkS tb_ALONE "stop" = some (some (.bl true)) := by kernel_rfl
@[simp] theorem tb_ALONE_slot : lkS tb_ALONE "slot" = some (some (.bl true)) := by kernel_rfl
@[simp] theorem tb_ALONE_then : lkS tb_ALONE "then" = some none := by kernel_rfl
@[simp] theorem tb_ALONE_op : lkS tb_ALONE "op" = some (some (.bl true)) := by kernel_rfl
@[simp] theorem tb_ALONE_if : lkS tb_ALONE "if" = some none := by kernel_rfl
@[simp] theorem tb_ALONE_let : lkS tb_ALONE "let" = some none := by kernel_rfl
@[simp] theorem tb_ALONE_fill : lkS tb_ALONE "fill" = some none := by kernel_rfl
@[simp] theorem tb_ALONE_fun : lkS tb_ALONE "fun" = some none := by kernel_rfl
@[simp] theorem tb_ALONE_apply : lkS tb_ALONE "apply" = some none := by kernel_rfl
@[simp] theorem tb_ALONE_send : lkS tb_ALONE "send" = some (some (.bl true)) := by kernel_rfl
@[simp] theorem tb_ALONE_direct : lkS tb_ALONE "direct" = some none := by kernel_rfl
@[simp] theorem tb_ALONE_make : lkS tb_ALONE "make" = some none := by kernel_rfl
@[simp] theorem tb_OPS_eq : lkS tb_OPS "=" = some (some (.bl true)) := by kernel_rfl
@[simp] theorem tb_STOPS_stop : lkS tb_STOPS "stop" = some (some (.bl true)) := by kernel_rfl
@[simp] theorem ne_unit_truth : decide (("unit" : Str) = ("truth" : Str)) = false := by kernel_rfl
@[simp] theorem ne_unit_single : decide (("unit" : Str) = ("single" : Str)) = false := by kernel_rfl
@[simp] theorem ne_unit_among : decide (("unit" : Str) = ("among" : Str)) = false := by kernel_rfl
@[simp] theorem ne_unit_stop : decide (("unit" : Str) = ("stop" : Str)) = false := by kernel_rfl
@[simp] theorem ne_unit_slot : decide (("unit" : Str) = ("slot" : Str)) = false := by kernel_rfl
@[simp] theorem ne_unit_op : decide (("unit" : Str) = ("op" : Str)) = false := by kernel_rfl
@[simp] theorem ne_unit_let : decide (("unit" : Str) = ("let" : Str)) = false := by kernel_rfl
@[simp] theorem ne_unit_fill : decide (("unit" : Str) = ("fill" : Str)) = false := by kernel_rfl
@[simp] theorem ne_unit_fun : decide (("unit" : Str) = ("fun" : Str)) = false := by kernel_rfl
@[simp] theorem ne_unit_send : decide (("unit" : Str) = ("send" : Str)) = false := by kernel_rfl
@[simp] theorem ne_unit_direct : decide (("unit" : Str) = ("direct" : Str)) = false := by kernel_rfl
@[simp] theorem ne_unit_make : decide (("unit" : Str) = ("make" : Str)) = false := by kernel_rfl
@[simp] theorem ne_truth_truth : decide (("truth" : Str) = ("truth" : Str)) = true := by kernel_rfl
@[simp] theorem ne_truth_single : decide (("truth" : Str) = ("single" : Str)) = false := by kernel_rfl
@[simp] theorem ne_truth_among : decide (("truth" : Str) = ("among" : Str)) = false := by kernel_rfl
@[simp] theorem ne_truth_stop : decide (("truth" : Str) = ("stop" : Str)) = false := by kernel_rfl
@[simp] theorem ne_truth_slot : decide (("truth" : Str) = ("slot" : Str)) = false := by kernel_rfl
@[simp] theorem ne_truth_op : decide (("truth" : Str) = ("op" : Str)) = false := by kernel_rfl
@[simp] theorem ne_truth_let : decide (("truth" : Str) = ("let" : Str)) = false := by kernel_rfl
@[simp] theorem ne_truth_fill : decide (("truth" : Str) = ("fill" : Str)) = false := by kernel_rfl
@[simp] theorem ne_truth_fun : decide (("truth" : Str) = ("fun" : Str)) = false := by kernel_rfl
@[simp] theorem ne_truth_send : decide (("truth" : Str) = ("send" : Str)) = false := by kernel_rfl
@[simp] theorem ne_truth_direct : decide (("truth" : Str) = ("direct" : Str)) = false := by kernel_rfl
@[simp] theorem ne_truth_make : decide (("truth" : Str) = ("make" : Str)) = false := by kernel_rfl
@[simp] theorem ne_single_truth : decide (("single" : Str) = ("truth" : Str)) = false := by kernel_rfl
@[simp] theorem ne_single_single : decide (("single" : Str) = ("single" : Str)) = true := by kernel_rfl
@[simp] theorem ne_single_among : decide (("single" : Str) = ("among" : Str)) = false := by kernel_rfl
@[simp] theorem ne_single_stop : decide (("single" : Str) = ("stop" : Str)) = false := by kernel_rfl
@[simp] theorem ne_single_slot : decide (("single" : Str) = ("slot" : Str)) = false := by kernel_rfl
@[simp] theorem ne_single_op : decide (("single" : Str) = ("op" : Str)) = false := by kernel_rfl
@[simp] theorem ne_single_let : decide (("single" : Str) = ("let" : Str)) = false := by kernel_rfl
@[simp] theorem ne_single_fill : decide (("single" : Str) = ("fill" : Str)) = false := by kernel_rfl
@[simp] theorem ne_single_fun : decide (("single" : Str) = ("fun" : Str)) = false := by kernel_rfl
@[simp] theorem ne_single_send : decide (("single" : Str) = ("send" : Str)) = false := by kernel_rfl
@[simp] theorem ne_single_direct : decide (("single" : Str) = ("direct" : Str)) = false := by kernel_rfl
@[simp] theorem ne_single_make : decide (("single" : Str) = ("make" : Str)) = false := by kernel_rfl
@[simp] theorem ne_show_truth : decide (("show" : Str) = ("truth" : Str)) = false := by kernel_rfl
@[simp] theorem ne_show_single : decide (("show" : Str) = ("single" : Str)) = false := by kernel_rfl
@[simp] theorem ne_show_among : decide (("show" : Str) = ("among" : Str)) = false := by kernel_rfl
@[simp] theorem ne_show_stop : decide (("show" : Str) = ("stop" : Str)) = false := by kernel_rfl
@[simp] theorem ne_show_slot : decide (("show" : Str) = ("slot" : Str)) = false := by kernel_rfl
@[simp] theorem ne_show_op : decide (("show" : Str) = ("op" : Str)) = false := by kernel_rfl
@[simp] theorem ne_show_let : decide (("show" : Str) = ("let" : Str)) = false := by kernel_rfl
@[simp] theorem ne_show_fill : decide (("show" : Str) = ("fill" : Str)) = false := by kernel_rfl
@[simp] theorem ne_show_fun : decide (("show" : Str) = ("fun" : Str)) = false := by kernel_rfl
@[simp] theorem ne_show_send : decide (("show" : Str) = ("send" : Str)) = false := by kernel_rfl
@[simp] theorem ne_show_direct : decide (("show" : Str) = ("direct" : Str)) = false := by kernel_rfl
@[simp] theorem ne_show_make : decide (("show" : Str) = ("make" : Str)) = false := by kernel_rfl
@[simp] theorem ne_late_truth : decide (("late" : Str) = ("truth" : Str)) = false := by kernel_rfl
@[simp] theorem ne_late_single : decide (("late" : Str) = ("single" : Str)) = false := by kernel_rfl
@[simp] theorem ne_late_among : decide (("late" : Str) = ("among" : Str)) = false := by kernel_rfl
@[simp] theorem ne_late_stop : decide (("late" : Str) = ("stop" : Str)) = false := by kernel_rfl
@[simp] theorem ne_late_slot : decide (("late" : Str) = ("slot" : Str)) = false := by kernel_rfl
@[simp] theorem ne_late_op : decide (("late" : Str) = ("op" : Str)) = false := by kernel_rfl
@[simp] theorem ne_late_let : decide (("late" : Str) = ("let" : Str)) = false := by kernel_rfl
@[simp] theorem ne_late_fill : decide (("late" : Str) = ("fill" : Str)) = false := by kernel_rfl
@[simp] theorem ne_late_fun : decide (("late" : Str) = ("fun" : Str)) = false := by kernel_rfl
@[simp] theorem ne_late_send : decide (("late" : Str) = ("send" : Str)) = false := by kernel_rfl
@[simp] theorem ne_late_direct : decide (("late" : Str) = ("direct" : Str)) = false := by kernel_rfl
@[simp] theorem ne_late_make : decide (("late" : Str) = ("make" : Str)) = false := by kernel_rfl
@[simp] theorem ne_now_truth : decide (("now" : Str) = ("truth" : Str)) = false := by kernel_rfl
@[simp] theorem ne_now_single : decide (("now" : Str) = ("single" : Str)) = false := by kernel_rfl
@[simp] theorem ne_now_among : decide (("now" : Str) = ("among" : Str)) = false := by kernel_rfl
@[simp] theorem ne_now_stop : decide (("now" : Str) = ("stop" : Str)) = false := by kernel_rfl
@[simp] theorem ne_now_slot : decide (("now" : Str) = ("slot" : Str)) = false := by kernel_rfl
@[simp] theorem ne_now_op : decide (("now" : Str) = ("op" : Str)) = false := by kernel_rfl
@[simp] theorem ne_now_let : decide (("now" : Str) = ("let" : Str)) = false := by kernel_rfl
@[simp] theorem ne_now_fill : decide (("now" : Str) = ("fill" : Str)) = false := by kernel_rfl
@[simp] theorem ne_now_fun : decide (("now" : Str) = ("fun" : Str)) = false := by kernel_rfl
@[simp] theorem ne_now_send : decide (("now" : Str) = ("send" : Str)) = false := by kernel_rfl
@[simp] theorem ne_now_direct : decide (("now" : Str) = ("direct" : Str)) = false := by kernel_rfl
@[simp] theorem ne_now_make : decide (("now" : Str) = ("make" : Str)) = false := by kernel_rfl
@[simp] theorem ne_first_truth : decide (("first" : Str) = ("truth" : Str)) = false := by kernel_rfl
@[simp] theorem ne_first_single : decide (("first" : Str) = ("single" : Str)) = false := by kernel_rfl
@[simp] theorem ne_first_among : decide (("first" : Str) = ("among" : Str)) = false := by kernel_rfl
@[simp] theorem ne_first_stop : decide (("first" : Str) = ("stop" : Str)) = false := by kernel_rfl
@[simp] theorem ne_first_slot : decide (("first" : Str) = ("slot" : Str)) = false := by kernel_rfl
@[simp] theorem ne_first_op : decide (("first" : Str) = ("op" : Str)) = false := by kernel_rfl
@[simp] theorem ne_first_let : decide (("first" : Str) = ("let" : Str)) = false := by kernel_rfl
@[simp] theorem ne_first_fill : decide (("first" : Str) = ("fill" : Str)) = false := by kernel_rfl
@[simp] theorem ne_first_fun : decide (("first" : Str) = ("fun" : Str)) = false := by kernel_rfl
@[simp] theorem ne_first_send : decide (("first" : Str) = ("send" : Str)) = false := by kernel_rfl
@[simp] theorem ne_first_direct : decide (("first" : Str) = ("direct" : Str)) = false := by kernel_rfl
@[simp] theorem ne_first_make : decide (("first" : Str) = ("make" : Str)) = false := by kernel_rfl
@[simp] theorem ne_once_truth : decide (("once" : Str) = ("truth" : Str)) = false := by kernel_rfl
@[simp] theorem ne_once_single : decide (("once" : Str) = ("single" : Str)) = false := by kernel_rfl
@[simp] theorem ne_once_among : decide (("once" : Str) = ("among" : Str)) = false := by kernel_rfl
@[simp] theorem ne_once_stop : decide (("once" : Str) = ("stop" : Str)) = false := by kernel_rfl
@[simp] theorem ne_once_slot : decide (("once" : Str) = ("slot" : Str)) = false := by kernel_rfl
@[simp] theorem ne_once_op : decide (("once" : Str) = ("op" : Str)) = false := by kernel_rfl
@[simp] theorem ne_once_let : decide (("once" : Str) = ("let" : Str)) = false := by kernel_rfl
@[simp] theorem ne_once_fill : decide (("once" : Str) = ("fill" : Str)) = false := by kernel_rfl
@[simp] theorem ne_once_fun : decide (("once" : Str) = ("fun" : Str)) = false := by kernel_rfl
@[simp] theorem ne_once_send : decide (("once" : Str) = ("send" : Str)) = false := by kernel_rfl
@[simp] theorem ne_once_direct : decide (("once" : Str) = ("direct" : Str)) = false := by kernel_rfl
@[simp] theorem ne_once_make : decide (("once" : Str) = ("make" : Str)) = false := by kernel_rfl
@[simp] theorem ne_among_truth : decide (("among" : Str) = ("truth" : Str)) = false := by kernel_rfl
@[simp] theorem ne_among_single : decide (("among" : Str) = ("single" : Str)) = false := by kernel_rfl
@[simp] theorem ne_among_among : decide (("among" : Str) = ("among" : Str)) = true := by kernel_rfl
@[simp] theorem ne_among_stop : decide (("among" : Str) = ("stop" : Str)) = false := by kernel_rfl
@[simp] theorem ne_among_slot : decide (("among" : Str) = ("slot" : Str)) = false := by kernel_rfl
@[simp] theorem ne_among_op : decide (("among" : Str) = ("op" : Str)) = false := by kernel_rfl
@[simp] theorem ne_among_let : decide (("among" : Str) = ("let" : Str)) = false := by kernel_rfl
@[simp] theorem ne_among_fill : decide (("among" : Str) = ("fill" : Str)) = false := by kernel_rfl
@[simp] theorem ne_among_fun : decide (("among" : Str) = ("fun" : Str)) = false := by kernel_rfl
@[simp] theorem ne_among_send : decide (("among" : Str) = ("send" : Str)) = false := by kernel_rfl
@[simp] theorem ne_among_direct : decide (("among" : Str) = ("direct" : Str)) = false := by kernel_rfl
@[simp] theorem ne_among_make : decide (("among" : Str) = ("make" : Str)) = false := by kernel_rfl
@[simp] theorem ne_stop_truth : decide (("stop" : Str) = ("truth" : Str)) = false := by kernel_rfl
@[simp] theorem ne_stop_single : decide (("stop" : Str) = ("single" : Str)) = false := by kernel_rfl
@[simp] theorem ne_stop_among : decide (("stop" : Str) = ("among" : Str)) = false := by kernel_rfl
@[simp] theorem ne_stop_stop : decide (("stop" : Str) = ("stop" : Str)) = true := by kernel_rfl
@[simp] theorem ne_stop_slot : decide (("stop" : Str) = ("slot" : Str)) = false := by kernel_rfl
@[simp] theorem ne_stop_op : decide (("stop" : Str) = ("op" : Str)) = false := by kernel_rfl
@[simp] theorem ne_stop_let : decide (("stop" : Str) = ("let" : Str)) = false := by kernel_rfl
@[simp] theorem ne_stop_fill : decide (("stop" : Str) = ("fill" : Str)) = false := by kernel_rfl
@[simp] theorem ne_stop_fun : decide (("stop" : Str) = ("fun" : Str)) = false := by kernel_rfl
@[simp] theorem ne_stop_send : decide (("stop" : Str) = ("send" : Str)) = false := by kernel_rfl
@[simp] theorem ne_stop_direct : decide (("stop" : Str) = ("direct" : Str)) = false := by kernel_rfl
@[simp] theorem ne_stop_make : decide (("stop" : Str) = ("make" : Str)) = false := by kernel_rfl
@[simp] theorem ne_slot_truth : decide (("slot" : Str) = ("truth" : Str)) = false := by kernel_rfl
@[simp] theorem ne_slot_single : decide (("slot" : Str) = ("single" : Str)) = false := by kernel_rfl
@[simp] theorem ne_slot_among : decide (("slot" : Str) = ("among" : Str)) = false := by kernel_rfl
@[simp] theorem ne_slot_stop : decide (("slot" : Str) = ("stop" : Str)) = false := by kernel_rfl
@[simp] theorem ne_slot_slot : decide (("slot" : Str) = ("slot" : Str)) = true := by kernel_rfl
@[simp] theorem ne_slot_op : decide (("slot" : Str) = ("op" : Str)) = false := by kernel_rfl
@[simp] theorem ne_slot_let : decide (("slot" : Str) = ("let" : Str)) = false := by kernel_rfl
@[simp] theorem ne_slot_fill : decide (("slot" : Str) = ("fill" : Str)) = false := by kernel_rfl
@[simp] theorem ne_slot_fun : decide (("slot" : Str) = ("fun" : Str)) = false := by kernel_rfl
@[simp] theorem ne_slot_send : decide (("slot" : Str) = ("send" : Str)) = false := by kernel_rfl
@[simp] theorem ne_slot_direct : decide (("slot" : Str) = ("direct" : Str)) = false := by kernel_rfl
@[simp] theorem ne_slot_make : decide (("slot" : Str) = ("make" : Str)) = false := by kernel_rfl
@[simp] theorem ne_then_truth : decide (("then" : Str) = ("truth" : Str)) = false := by kernel_rfl
@[simp] theorem ne_then_single : decide (("then" : Str) = ("single" : Str)) = false := by kernel_rfl
@[simp] theorem ne_then_among : decide (("then" : Str) = ("among" : Str)) = false := by kernel_rfl
@[simp] theorem ne_then_stop : decide (("then" : Str) = ("stop" : Str)) = false := by kernel_rfl
@[simp] theorem ne_then_slot : decide (("then" : Str) = ("slot" : Str)) = false := by kernel_rfl
@[simp] theorem ne_then_op : decide (("then" : Str) = ("op" : Str)) = false := by kernel_rfl
@[simp] theorem ne_then_let : decide (("then" : Str) = ("let" : Str)) = false := by kernel_rfl
@[simp] theorem ne_then_fill : decide (("then" : Str) = ("fill" : Str)) = false := by kernel_rfl
@[simp] theorem ne_then_fun : decide (("then" : Str) = ("fun" : Str)) = false := by kernel_rfl
@[simp] theorem ne_then_send : decide (("then" : Str) = ("send" : Str)) = false := by kernel_rfl
@[simp] theorem ne_then_direct : decide (("then" : Str) = ("direct" : Str)) = false := by kernel_rfl
@[simp] theorem ne_then_make : decide (("then" : Str) = ("make" : Str)) = false := by kernel_rfl
@[simp] theorem ne_op_truth : decide (("op" : Str) = ("truth" : Str)) = false := by kernel_rfl
@[simp] theorem ne_op_single : decide (("op" : Str) = ("single" : Str)) = false := by kernel_rfl
@[simp] theorem ne_op_among : decide (("op" : Str) = ("among" : Str)) = false := by kernel_rfl
@[simp] theorem ne_op_stop : decide (("op" : Str) = ("stop" : Str)) = false := by kernel_rfl
@[simp] theorem ne_op_slot : decide (("op" : Str) = ("slot" : Str)) = false := by kernel_rfl
@[simp] theorem ne_op_op : decide (("op" : Str) = ("op" : Str)) = true := by kernel_rfl
@[simp] theorem ne_op_let : decide (("op" : Str) = ("let" : Str)) = false := by kernel_rfl
@[simp] theorem ne_op_fill : decide (("op" : Str) = ("fill" : Str)) = false := by kernel_rfl
@[simp] theorem ne_op_fun : decide (("op" : Str) = ("fun" : Str)) = false := by kernel_rfl
@[simp] theorem ne_op_send : decide (("op" : Str) = ("send" : Str)) = false := by kernel_rfl
@[simp] theorem ne_op_direct : decide (("op" : Str) = ("direct" : Str)) = false := by kernel_rfl
@[simp] theorem ne_op_make : decide (("op" : Str) = ("make" : Str)) = false := by kernel_rfl
@[simp] theorem ne_if_truth : decide (("if" : Str) = ("truth" : Str)) = false := by kernel_rfl
@[simp] theorem ne_if_single : decide (("if" : Str) = ("single" : Str)) = false := by kernel_rfl
@[simp] theorem ne_if_among : decide (("if" : Str) = ("among" : Str)) = false := by kernel_rfl
@[simp] theorem ne_if_stop : decide (("if" : Str) = ("stop" : Str)) = false := by kernel_rfl
@[simp] theorem ne_if_slot : decide (("if" : Str) = ("slot" : Str)) = false := by kernel_rfl
@[simp] theorem ne_if_op : decide (("if" : Str) = ("op" : Str)) = false := by kernel_rfl
@[simp] theorem ne_if_let : decide (("if" : Str) = ("let" : Str)) = false := by kernel_rfl
@[simp] theorem ne_if_fill : decide (("if" : Str) = ("fill" : Str)) = false := by kernel_rfl
@[simp] theorem ne_if_fun : decide (("if" : Str) = ("fun" : Str)) = false := by kernel_rfl
@[simp] theorem ne_if_send : decide (("if" : Str) = ("send" : Str)) = false := by kernel_rfl
@[simp] theorem ne_if_direct : decide (("if" : Str) = ("direct" : Str)) = false := by kernel_rfl
@[simp] theorem ne_if_make : decide (("if" : Str) = ("make" : Str)) = false := by kernel_rfl
@[simp] theorem ne_let_truth : decide (("let" : Str) = ("truth" : Str)) = false := by kernel_rfl
@[simp] theorem ne_let_single : decide (("let" : Str) = ("single" : Str)) = false := by kernel_rfl
@[simp] theorem ne_let_among : decide (("let" : Str) = ("among" : Str)) = false := by kernel_rfl
@[simp] theorem ne_let_stop : decide (("let" : Str) = ("stop" : Str)) = false := by kernel_rfl
@[simp] theorem ne_let_slot : decide (("let" : Str) = ("slot" : Str)) = false := by kernel_rfl
@[simp] theorem ne_let_op : decide (("let" : Str) = ("op" : Str)) = false := by kernel_rfl
@[simp] theorem ne_let_let : decide (("let" : Str) = ("let" : Str)) = true := by kernel_rfl
@[simp] theorem ne_let_fill : decide (("let" : Str) = ("fill" : Str)) = false := by kernel_rfl
@[simp] theorem ne_let_fun : decide (("let" : Str) = ("fun" : Str)) = false := by kernel_rfl
@[simp] theorem ne_let_send : decide (("let" : Str) = ("send" : Str)) = false := by kernel_rfl
@[simp] theorem ne_let_direct : decide (("let" : Str) = ("direct" : Str)) = false := by kernel_rfl
@[simp] theorem ne_let_make : decide (("let" : Str) = ("make" : Str)) = false := by kernel_rfl
@[simp] theorem ne_fill_truth : decide (("fill" : Str) = ("truth" : Str)) = false := by kernel_rfl
@[simp] theorem ne_fill_single : decide (("fill" : Str) = ("single" : Str)) = false := by kernel_rfl
@[simp] theorem ne_fill_among : decide (("fill" : Str) = ("among" : Str)) = false := by kernel_rfl
@[simp] theorem ne_fill_stop : decide (("fill" : Str) = ("stop" : Str)) = false := by kernel_rfl
@[simp] theorem ne_fill_slot : decide (("fill" : Str) = ("slot" : Str)) = false := by kernel_rfl
@[simp] theorem ne_fill_op : decide (("fill" : Str) = ("op" : Str)) = false := by kernel_rfl
@[simp] theorem ne_fill_let : decide (("fill" : Str) = ("let" : Str)) = false := by kernel_rfl
@[simp] theorem ne_fill_fill : decide (("fill" : Str) = ("fill" : Str)) = true := by kernel_rfl
@[simp] theorem ne_fill_fun : decide (("fill" : Str) = ("fun" : Str)) = false := by kernel_rfl
@[simp] theorem ne_fill_send : decide (("fill" : Str) = ("send" : Str)) = false := by kernel_rfl
@[simp] theorem ne_fill_direct : decide (("fill" : Str) = ("direct" : Str)) = false := by kernel_rfl
@[simp] theorem ne_fill_make : decide (("fill" : Str) = ("make" : Str)) = false := by kernel_rfl
@[simp] theorem ne_fun_truth : decide (("fun" : Str) = ("truth" : Str)) = false := by kernel_rfl
@[simp] theorem ne_fun_single : decide (("fun" : Str) = ("single" : Str)) = false := by kernel_rfl
@[simp] theorem ne_fun_among : decide (("fun" : Str) = ("among" : Str)) = false := by kernel_rfl
@[simp] theorem ne_fun_stop : decide (("fun" : Str) = ("stop" : Str)) = false := by kernel_rfl
@[simp] theorem ne_fun_slot : decide (("fun" : Str) = ("slot" : Str)) = false := by kernel_rfl
@[simp] theorem ne_fun_op : decide (("fun" : Str) = ("op" : Str)) = false := by kernel_rfl
@[simp] theorem ne_fun_let : decide (("fun" : Str) = ("let" : Str)) = false := by kernel_rfl
@[simp] theorem ne_fun_fill : decide (("fun" : Str) = ("fill" : Str)) = false := by kernel_rfl
@[simp] theorem ne_fun_fun : decide (("fun" : Str) = ("fun" : Str)) = true := by kernel_rfl
@[simp] theorem ne_fun_send : decide (("fun" : Str) = ("send" : Str)) = false := by kernel_rfl
@[simp] theorem ne_fun_direct : decide (("fun" : Str) = ("direct" : Str)) = false := by kernel_rfl
@[simp] theorem ne_fun_make : decide (("fun" : Str) = ("make" : Str)) = false := by kernel_rfl
@[simp] theorem ne_apply_truth : decide (("apply" : Str) = ("truth" : Str)) = false := by kernel_rfl
@[simp] theorem ne_apply_single : decide (("apply" : Str) = ("single" : Str)) = false := by kernel_rfl
@[simp] theorem ne_apply_among : decide (("apply" : Str) = ("among" : Str)) = false := by kernel_rfl
@[simp] theorem ne_apply_stop : decide (("apply" : Str) = ("stop" : Str)) = false := by kernel_rfl
@[simp] theorem ne_apply_slot : decide (("apply" : Str) = ("slot" : Str)) = false := by kernel_rfl
@[simp] theorem ne_apply_op : decide (("apply" : Str) = ("op" : Str)) = false := by kernel_rfl
@[simp] theorem ne_apply_let : decide (("apply" : Str) = ("let" : Str)) = false := by kernel_rfl
@[simp] theorem ne_apply_fill : decide (("apply" : Str) = ("fill" : Str)) = false := by kernel_rfl
@[simp] theorem ne_apply_fun : decide (("apply" : Str) = ("fun" : Str)) = false := by kernel_rfl
@[simp] theorem ne_apply_send : decide (("apply" : Str) = ("send" : Str)) = false := by kernel_rfl
@[simp] theorem ne_apply_direct : decide (("apply" : Str) = ("direct" : Str)) = false := by kernel_rfl
@[simp] theorem ne_apply_make : decide (("apply" : Str) = ("make" : Str)) = false := by kernel_rfl
@[simp] theorem ne_send_truth : decide (("send" : Str) = ("truth" : Str)) = false := by kernel_rfl
@[simp] theorem ne_send_single : decide (("send" : Str) = ("single" : Str)) = false := by kernel_rfl
@[simp] theorem ne_send_among : decide (("send" : Str) = ("among" : Str)) = false := by kernel_rfl
@[simp] theorem ne_send_stop : decide (("send" : Str) = ("stop" : Str)) = false := by kernel_rfl
@[simp] theorem ne_send_slot : decide (("send" : Str) = ("slot" : Str)) = false := by kernel_rfl
@[simp] theorem ne_send_op : decide (("send" : Str) = ("op" : Str)) = false := by kernel_rfl
@[simp] theorem ne_send_let : decide (("send" : Str) = ("let" : Str)) = false := by kernel_rfl
@[simp] theorem ne_send_fill : decide (("send" : Str) = ("fill" : Str)) = false := by kernel_rfl
@[simp] theorem ne_send_fun : decide (("send" : Str) = ("fun" : Str)) = false := by kernel_rfl
@[simp] theorem ne_send_send : decide (("send" : Str) = ("send" : Str)) = true := by kernel_rfl
@[simp] theorem ne_send_direct : decide (("send" : Str) = ("direct" : Str)) = false := by kernel_rfl
@[simp] theorem ne_send_make : decide (("send" : Str) = ("make" : Str)) = false := by kernel_rfl
@[simp] theorem ne_direct_truth : decide (("direct" : Str) = ("truth" : Str)) = false := by kernel_rfl
@[simp] theorem ne_direct_single : decide (("direct" : Str) = ("single" : Str)) = false := by kernel_rfl
@[simp] theorem ne_direct_among : decide (("direct" : Str) = ("among" : Str)) = false := by kernel_rfl
@[simp] theorem ne_direct_stop : decide (("direct" : Str) = ("stop" : Str)) = false := by kernel_rfl
@[simp] theorem ne_direct_slot : decide (("direct" : Str) = ("slot" : Str)) = false := by kernel_rfl
@[simp] theorem ne_direct_op : decide (("direct" : Str) = ("op" : Str)) = false := by kernel_rfl
@[simp] theorem ne_direct_let : decide (("direct" : Str) = ("let" : Str)) = false := by kernel_rfl
@[simp] theorem ne_direct_fill : decide (("direct" : Str) = ("fill" : Str)) = false := by kernel_rfl
@[simp] theorem ne_direct_fun : decide (("direct" : Str) = ("fun" : Str)) = false := by kernel_rfl
@[simp] theorem ne_direct_send : decide (("direct" : Str) = ("send" : Str)) = false := by kernel_rfl
@[simp] theorem ne_direct_direct : decide (("direct" : Str) = ("direct" : Str)) = true := by kernel_rfl
@[simp] theorem ne_direct_make : decide (("direct" : Str) = ("make" : Str)) = false := by kernel_rfl
@[simp] theorem ne_make_truth : decide (("make" : Str) = ("truth" : Str)) = false := by kernel_rfl
@[simp] theorem ne_make_single : decide (("make" : Str) = ("single" : Str)) = false := by kernel_rfl
@[simp] theorem ne_make_among : decide (("make" : Str) = ("among" : Str)) = false := by kernel_rfl
@[simp] theorem ne_make_stop : decide (("make" : Str) = ("stop" : Str)) = false := by kernel_rfl
@[simp] theorem ne_make_slot : decide (("make" : Str) = ("slot" : Str)) = false := by kernel_rfl
@[simp] theorem ne_make_op : decide (("make" : Str) = ("op" : Str)) = false := by kernel_rfl
@[simp] theorem ne_make_let : decide (("make" : Str) = ("let" : Str)) = false := by kernel_rfl
@[simp] theorem ne_make_fill : decide (("make" : Str) = ("fill" : Str)) = false := by kernel_rfl
@[simp] theorem ne_make_fun : decide (("make" : Str) = ("fun" : Str)) = false := by kernel_rfl
@[simp] theorem ne_make_send : decide (("make" : Str) = ("send" : Str)) = false := by kernel_rfl
@[simp] theorem ne_make_direct : decide (("make" : Str) = ("direct" : Str)) = false := by kernel_rfl
@[simp] theorem ne_make_make : decide (("make" : Str) = ("make" : Str)) = true := by kernel_rfl
@[simp] theorem ne_unit_int : decide (("unit" : Str) = ("int" : Str)) = false := by kernel_rfl
@[simp] theorem ne_truth_int : decide (("truth" : Str) = ("int" : Str)) = false := by kernel_rfl
@[simp] theorem ne_single_int : decide (("single" : Str) = ("int" : Str)) = false := by kernel_rfl
@[simp] theorem ne_show_int : decide (("show" : Str) = ("int" : Str)) = false := by kernel_rfl
@[simp] theorem ne_late_int : decide (("late" : Str) = ("int" : Str)) = false := by kernel_rfl
@[simp] theorem ne_now_int : decide (("now" : Str) = ("int" : Str)) = false := by kernel_rfl
@[simp] theorem ne_first_int : decide (("first" : Str) = ("int" : Str)) = false := by kernel_rfl
@[simp] theorem ne_once_int : decide (("once" : Str) = ("int" : Str)) = false := by kernel_rfl
@[simp] theorem ne_among_int : decide (("among" : Str) = ("int" : Str)) = false := by kernel_rfl
@[simp] theorem ne_stop_int : decide (("stop" : Str) = ("int" : Str)) = false := by kernel_rfl
@[simp] theorem ne_slot_int : decide (("slot" : Str) = ("int" : Str)) = false := by kernel_rfl
@[simp] theorem ne_then_int : decide (("then" : Str) = ("int" : Str)) = false := by kernel_rfl
@[simp] theorem ne_op_int : decide (("op" : Str) = ("int" : Str)) = false := by kernel_rfl
@[simp] theorem ne_if_int : decide (("if" : Str) = ("int" : Str)) = false := by kernel_rfl
@[simp] theorem ne_let_int : decide (("let" : Str) = ("int" : Str)) = false := by kernel_rfl
@[simp] theorem ne_fill_int : decide (("fill" : Str) = ("int" : Str)) = false := by kernel_rfl
@[simp] theorem ne_fun_int : decide (("fun" : Str) = ("int" : Str)) = false := by kernel_rfl
@[simp] theorem ne_apply_int : decide (("apply" : Str) = ("int" : Str)) = false := by kernel_rfl
@[simp] theorem ne_send_int : decide (("send" : Str) = ("int" : Str)) = false := by kernel_rfl
@[simp] theorem ne_direct_int : decide (("direct" : Str) = ("int" : Str)) = false := by kernel_rfl
@[simp] theorem ne_make_int : decide (("make" : Str) = ("int" : Str)) = false := by kernel_rfl
@[simp] theorem ne_unit_local : decide (("unit" : Str) = ("local" : Str)) = false := by kernel_rfl
@[simp] theorem ne_truth_local : decide (("truth" : Str) = ("local" : Str)) = false := by kernel_rfl
@[simp] theorem ne_single_local : decide (("single" : Str) = ("local" : Str)) = false := by kernel_rfl
@[simp] theorem ne_show_local : decide (("show" : Str) = ("local" : Str)) = false := by kernel_rfl
@[simp] theorem ne_late_local : decide (("late" : Str) = ("local" : Str)) = false := by kernel_rfl
@[simp] theorem ne_now_local : decide (("now" : Str) = ("local" : Str)) = false := by kernel_rfl
@[simp] theorem ne_first_local : decide (("first" : Str) = ("local" : Str)) = false := by kernel_rfl
@[simp] theorem ne_once_local : decide (("once" : Str) = ("local" : Str)) = false := by kernel_rfl
@[simp] theorem ne_among_local : decide (("among" : Str) = ("local" : Str)) = false := by kernel_rfl
@[simp] theorem ne_stop_local : decide (("stop" : Str) = ("local" : Str)) = false := by kernel_rfl
@[simp] theorem ne_slot_local : decide (("slot" : Str) = ("local" : Str)) = false := by kernel_rfl
@[simp] theorem ne_then_local : decide (("then" : Str) = ("local" : Str)) = false := by kernel_rfl
@[simp] theorem ne_op_local : decide (("op" : Str) = ("local" : Str)) = false := by kernel_rfl
@[simp] theorem ne_if_local : decide (("if" : Str) = ("local" : Str)) = false := by kernel_rfl
@[simp] theorem ne_let_local : decide (("let" : Str) = ("local" : Str)) = false := by kernel_rfl
@[simp] theorem ne_fill_local : decide (("fill" : Str) = ("local" : Str)) = false := by kernel_rfl
@[simp] theorem ne_fun_local : decide (("fun" : Str) = ("local" : Str)) = false := by kernel_rfl
@[simp] theorem ne_apply_local : decide (("apply" : Str) = ("local" : Str)) = false := by kernel_rfl
@[simp] theorem ne_send_local : decide (("send" : Str) = ("local" : Str)) = false := by kernel_rfl
@[simp] theorem ne_direct_local : decide (("direct" : Str) = ("local" : Str)) = false := by kernel_rfl
@[simp] theorem ne_make_local : decide (("make" : Str) = ("local" : Str)) = false := by kernel_rfl
@[simp] theorem ne_unit_text : decide (("unit" : Str) = ("text" : Str)) = false := by kernel_rfl
@[simp] theorem ne_truth_text : decide (("truth" : Str) = ("text" : Str)) = false := by kernel_rfl
@[simp] theorem ne_single_text : decide (("single" : Str) = ("text" : Str)) = false := by kernel_rfl
@[simp] theorem ne_show_text : decide (("show" : Str) = ("text" : Str)) = false := by kernel_rfl
@[simp] theorem ne_late_text : decide (("late" : Str) = ("text" : Str)) = false := by kernel_rfl
@[simp] theorem ne_now_text : decide (("now" : Str) = ("text" : Str)) = false := by kernel_rfl
@[simp] theorem ne_first_text : decide (("first" : Str) = ("text" : Str)) = false := by kernel_rfl
@[simp] theorem ne_once_text : decide (("once" : Str) = ("text" : Str)) = false := by kernel_rfl
@[simp] theorem ne_among_text : decide (("among" : Str) = ("text" : Str)) = false := by kernel_rfl
@[simp] theorem ne_stop_text : decide (("stop" : Str) = ("text" : Str)) = false := by kernel_rfl
@[simp] theorem ne_slot_text : decide (("slot" : Str) = ("text" : Str)) = false := by kernel_rfl
@[simp] theorem ne_then_text : decide (("then" : Str) = ("text" : Str)) = false := by kernel_rfl
@[simp] theorem ne_op_text : decide (("op" : Str) = ("text" : Str)) = false := by kernel_rfl
@[simp] theorem ne_if_text : decide (("if" : Str) = ("text" : Str)) = false := by kernel_rfl
@[simp] theorem ne_let_text : decide (("let" : Str) = ("text" : Str)) = false := by kernel_rfl
@[simp] theorem ne_fill_text : decide (("fill" : Str) = ("text" : Str)) = false := by kernel_rfl
@[simp] theorem ne_fun_text : decide (("fun" : Str) = ("text" : Str)) = false := by kernel_rfl
@[simp] theorem ne_apply_text : decide (("apply" : Str) = ("text" : Str)) = false := by kernel_rfl
@[simp] theorem ne_send_text : decide (("send" : Str) = ("text" : Str)) = false := by kernel_rfl
@[simp] theorem ne_direct_text : decide (("direct" : Str) = ("text" : Str)) = false := by kernel_rfl
@[simp] theorem ne_make_text : decide (("make" : Str) = ("text" : Str)) = false := by kernel_rfl
end K70
set_option maxRecDepth 100000
set_option maxHeartbeats 1000000
namespace K70
open PySem PySem.Spec PyProof.Rows L2 DL

/-! ### the c's that are made -/
inductive U1 where | shw | late | now | fst
def U1.w : U1 → Str | .shw => "show" | .late => "late" | .now => "now" | .fst => "first"
mutual
inductive Co where
  | unit | truth (b : Bool) | sg (n : Nat) | un (w : U1) (a : Co) | once (s : Str) (a : Co) | among (a : Co) (ts : List Nat) | stop (a : Co) | slot (a : Co) | thn (a b : Co) | op (a b : Co)
  | ife (a b c : Co) | lt (n : Nat) (a b : Co) | fill (a b : Co) | fn (n : Nat) (a : Co) | app (a : Co) (cs : Cos) | snd (a : Co) (s : Str) (cs : Cos) | dir (n : Nat) (cs : Cos) | mak (n : Nat) (cs : Cos)
inductive Cos where | nil | cons (c : Co) (r : Cos)
end
mutual
def Co.d : Co → D
  | .unit => .tup [.str "unit"]
  | .truth b => .tup [.str "truth", .bl b]
  | .sg n => .tup [.str "single", .int (n : Nat)]
  | .un w a => .tup [.str w.w, a.d]
  | .once s a => .tup [.str "once", .str s, a.d]
  | .among a ts => .tup [.str "among", a.d, .tup (ts.map fun t => .int (t : Nat))]
  | .stop a => .tup [.str "stop", .str "stop", a.d]
  | .slot a => .tup [.str "slot", a.d, .int 0]
  | .thn a b => .tup [.str "then", a.d, b.d]
  | .op a b => .tup [.str "op", .str "=", a.d, b.d]
  | .ife a b c => .tup [.str "if", a.d, b.d, c.d]
  | .lt n a b => .tup [.str "let", .int (n : Nat), a.d, b.d]
  | .fill a b => .tup [.str "fill", .int 0, a.d, b.d]
  | .fn n a => .tup [.str "fun", .tup [.int (n : Nat)], a.d]
  | .app a cs => .tup [.str "apply", a.d, .tup cs.ds]
  | .snd a s cs => .tup [.str "send", a.d, .str s, .tup cs.ds]
  | .dir n cs => .tup [.str "direct", .int (n : Nat), .tup cs.ds]
  | .mak n cs => .tup [.str "make", .int (n : Nat), .tup cs.ds]
def Cos.ds : Cos → List D
  | .nil => []
  | .cons c r => c.d :: r.ds
end
def Cos.l : Cos → List Co
  | .nil => []
  | .cons c r => c :: r.l
theorem Cos.ds_l : ∀ cs : Cos, cs.ds = cs.l.map Co.d
  | .nil => rfl
  | .cons c r => by simp [Cos.ds, Cos.l, Cos.ds_l r]
def Co.kids : Co → List Co
  | .unit => [] | .truth _ => [] | .sg _ => [] | .un _ a => [a] | .once _ a => [a] | .among a _ => [a] | .stop a => [a] | .slot a => [a] | .thn a b => [a, b] | .op a b => [a, b]
  | .ife a b c => [a, b, c] | .lt _ a b => [a, b] | .fill a b => [a, b] | .fn _ a => [a] | .app a cs => a :: cs.l | .snd a _ cs => a :: cs.l | .dir _ cs => cs.l | .mak _ cs => cs.l
mutual
def Co.sz : Co → Nat
  | .unit => 1 | .truth _ => 1 | .sg _ => 1 | .un _ a => 1 + a.sz | .once _ a => 1 + a.sz | .among a _ => 1 + a.sz | .stop a => 1 + a.sz | .slot a => 1 + a.sz | .thn a b => 1 + (a.sz + b.sz) | .op a b => 1 + (a.sz + b.sz)
  | .ife a b c => 1 + (a.sz + (b.sz + c.sz)) | .lt _ a b => 1 + (a.sz + b.sz) | .fill a b => 1 + (a.sz + b.sz) | .fn _ a => 1 + a.sz | .app a cs => 1 + (a.sz + cs.sz) | .snd a _ cs => 1 + (a.sz + cs.sz) | .dir _ cs => 1 + cs.sz | .mak _ cs => 1 + cs.sz
def Cos.sz : Cos → Nat
  | .nil => 0
  | .cons c r => c.sz + r.sz
end
def szs (cs : List Co) : Nat := (cs.map Co.sz).sum
theorem Cos.sz_l : ∀ cs : Cos, szs cs.l = cs.sz
  | .nil => rfl
  | .cons c r => by simp [Cos.sz, Cos.l, szs, ← Cos.sz_l r]
theorem kids_sz (c : Co) : szs c.kids + 1 = c.sz := by
  cases c <;> simp [Co.kids, Co.sz, szs, Nat.add_comm, Nat.add_left_comm, Nat.add_assoc] <;> (have := Cos.sz_l; simp [szs] at this; simp [this])
/-! all below -/
inductive Sub : Co → Co → Prop
  | self (c : Co) : Sub c c
  | kid {x k c : Co} (h : Sub x k) (hk : k ∈ c.kids) : Sub x c
theorem sub_iff {x c : Co} : Sub x c ↔ x = c ∨ ∃ k ∈ c.kids, Sub x k := by
  constructor
  · rintro (_ | ⟨h, hk⟩)
    · exact .inl rfl
    · exact .inr ⟨_, hk, h⟩
  · rintro (rfl | ⟨k, hk, h⟩)
    · exact .self _
    · exact .kid h hk
section
variable {M : Mh} {R : D → Mh → Prop}
@[simp] theorem w_str {tb : List (Str × Option D)} {z : Str} {C : Option D → Prop} : onW tb (.str z) C = (match lkS tb z with | some o => C o | none => False) := id rfl
theorem kids_len (c : Co) : c.kids.length < c.sz := by
  have h : ∀ l : List Co, l.length ≤ szs l := fun l => by
    induction l with
    | nil => simp [szs]
    | cons x r ih =>
      have : 1 ≤ x.sz := by cases x <;> simp [Co.sz]
      simp only [szs, List.map_cons, List.sum_cons, List.length_cons] at ih ⊢
      omega
  have := kids_sz c
  have := h c.kids
  omega
theorem inner_cs_ok (c : Co) (hz : c.sz ≤ sizeLine) (k : R (.lst (c.kids.map Co.d)) M) : F_inner_cs [c.d] M R := by
  have hl := kids_len c
  refine ⟨rfl, ?_⟩
  cases c
  case un w a => cases w <;> (simp [rd_inner_cs, dstart, N_inner_cs, Co.d, U1.w]; intro a h; simpa [mdel_mup h, Co.kids] using k)
  case app a cs =>
    simp only [Co.kids, List.length_cons] at hl
    simp [rd_inner_cs, dstart, N_inner_cs, Co.d, Cos.ds_l]
    intro p h
    refine ⟨by omega, ?_⟩
    simpa [mdel_mup h, Co.kids] using k
  case snd a s cs =>
    simp only [Co.kids, List.length_cons] at hl
    simp [rd_inner_cs, dstart, N_inner_cs, Co.d, Cos.ds_l]
    intro p h
    refine ⟨by omega, ?_⟩
    simpa [mdel_mup h, Co.kids] using k
  case dir n cs =>
    simp only [Co.kids] at hl
    simp [rd_inner_cs, dstart, N_inner_cs, Co.d, Cos.ds_l]
    intro p h
    refine ⟨by omega, ?_⟩
    simpa [mdel_mup h, Co.kids] using k
  case mak n cs =>
    simp only [Co.kids] at hl
    simp [rd_inner_cs, dstart, N_inner_cs, Co.d, Cos.ds_l]
    intro p h
    refine ⟨by omega, ?_⟩
    simpa [mdel_mup h, Co.kids] using k
  all_goals
    simp [rd_inner_cs, dstart, N_inner_cs, Co.d]
    intro p h
    simpa [mdel_mup h, Co.kids] using k
theorem szs_app (l r : List Co) : szs (l ++ r) = szs l + szs r := by simp [szs]
theorem szs_one (c : Co) : szs [c] = c.sz := by simp [szs]
theorem sz_pos (c : Co) : 1 ≤ c.sz := by cases c <;> simp [Co.sz]
theorem len_szs : ∀ l : List Co, l.length ≤ szs l
  | [] => Nat.zero_le _
  | x :: r => by
    have h1 := sz_pos x
    have h2 := len_szs r
    simp only [szs, List.map_cons, List.sum_cons, List.length_cons] at h2 ⊢
    omega
def bAll : DS := dSeq (dAsg (dBM gPop0 (dVar 2) dNil) (dgName 3)) (dSeq (dDrop (dBM gAppend (dVar 1) (dCons (dVar 3) dNil))) (dDrop (dBM gExtend (dVar 2) (dCons (dCall F_inner_cs (dCons (dVar 3) dNil)) dNil))))
theorem all_loop {a b : Addr} (hab : a ≠ b) (E : DEnds) (c0 : D) : ∀ (n : Nat) (M : Mh) (fs ls : List Co) (x : Option D), szs ls < n → M a = some (.lst (fs.map Co.d)) → M b = some (.lst (ls.map Co.d)) → fs.length + szs ls ≤ sizeLine →
    (∀ (fs' : List Co) (M' : Mh) (x : Option D), M' a = some (.lst (fs'.map Co.d)) → (∀ p, p ≠ a → p ≠ b → M' p = M p) → (∀ c, c ∈ fs' ↔ c ∈ fs ∨ ∃ l ∈ ls, Sub c l) → fs'.length = fs.length + szs ls → E.nx [some c0, some (.ptr a), some (.ptr b), x] M') →
    whileN (dTst (dOp gNeNil (dVar 2) (dLst mkF dNil))) bAll n E [some c0, some (.ptr a), some (.ptr b), x] M := by
  intro n
  induction n with
  | zero => intro M fs ls x h; omega
  | succ n ih =>
    intro M fs ls x hn ha hb hz k
    unfold whileN
    simp [g_neNilP hb]
    rcases List.eq_nil_or_concat ls with rfl | ⟨ini, c, rfl⟩
    · simp
      exact k fs M x ha (fun p _ _ => rfl) (by simp) (by simp [szs])
    · rw [List.concat_eq_append] at hn hb hz k ⊢
      have hcs := kids_sz c
      rw [szs_app, szs_one] at hn hz k
      simp only [List.append_eq_nil_iff, List.cons_ne_self, and_false, if_false]
      have hb' : M b = some (.lst (ini.map Co.d ++ [c.d])) := by rw [hb]; simp
      have ha1 : (mup M b (.lst (ini.map Co.d))) a = some (.lst (fs.map Co.d)) := by rw [mup_ne hab]; exact ha
      have hb2 : (mup (mup M b (.lst (ini.map Co.d))) a (.lst (fs.map Co.d ++ [c.d]))) b = some (.lst (ini.map Co.d)) := by rw [mup_ne hab.symm]; exact mup_same
      simp [bAll, isPL_at hb', pop_at hb', isPL_at ha1, append_at ha1, isPL_at hb2]
      refine ⟨by omega, inner_cs_ok c (by omega) ?_⟩
      rw [extend_at hb2 rfl]
      have hlk := len_szs c.kids
      have hli := len_szs ini
      refine ⟨by simp; omega, ?_⟩
      refine ih _ (fs ++ [c]) (ini ++ c.kids) _ (by rw [szs_app]; omega) (by rw [mup_ne hab]; simp) (by simp) (by rw [szs_app, List.length_append, List.length_singleton]; omega) fun fs' M' x h1 h2 h3 h4 => k fs' M' x h1 (fun p p1 p2 => ?_) (fun d => ?_) (by rw [h4, szs_app, List.length_append, List.length_singleton]; omega)
      · rw [h2 p p1 p2, mup_ne p2, mup_ne p1, mup_ne p2]
      · rw [h3 d]
        simp only [List.mem_append, List.mem_singleton]
        constructor
        · rintro ((h | rfl) | ⟨l, h | h, s⟩)
          · exact .inl h
          · exact .inr ⟨d, .inr rfl, .self _⟩
          · exact .inr ⟨l, .inl h, s⟩
          · exact .inr ⟨c, .inr rfl, .kid s h⟩
        · rintro (h | ⟨l, h | rfl, s⟩)
          · exact .inl (.inl h)
          · exact .inr ⟨l, .inl h, s⟩
          · rcases sub_iff.mp s with rfl | ⟨kk, hk, s⟩
            · exact .inl (.inr rfl)
            · exact .inr ⟨kk, .inr hk, s⟩
theorem all_cs_ok (c : Co) (hz : c.sz ≤ sizeLine) (k : ∀ fs : List Co, (∀ d, d ∈ fs ↔ Sub d c) → fs.length = c.sz → R (.lst (fs.map Co.d)) M) : F_all_cs [c.d] M R := by
  refine ⟨rfl, ?_⟩
  simp [rd_all_cs, dstart, N_all_cs]
  intro a ha b hb
  have hab : a ≠ b := fun e => by subst e; simp at hb
  have hbM : M b = none := by rw [mup_ne hab.symm] at hb; exact hb
  refine ⟨c.sz + 1, all_loop hab _ _ _ _ [] [c] _ (by rw [szs_one]; omega) (by rw [mup_ne hab]; simp) (by simp) (by rw [szs_one]; simpa using hz) fun fs' M' x h1 h2 h3 h4 => ?_⟩
  simp [mlst, h1]
  rw [keep_of]
  · exact k fs' (fun d => by rw [h3 d]; simp) (by rw [h4, szs_one]; simp)
  · intro p o hp
    have p1 : p ≠ a := ne_m hp ha
    have p2 : p ≠ b := ne_m hp hbM
    simp [mdel, p1, h2 p p1 p2, mup_ne p1, mup_ne p2, hp]
end
end K70
set_option maxRecDepth 100000
set_option maxHeartbeats 1000000
namespace K70
open PySem PySem.Spec PyProof.Rows L2 DL
def makOf : Co → Option Nat | .mak n _ => some n | _ => none
def dirOf : Co → Option Nat | .dir n _ => some n | _ => none
def sgOf : Co → Option Nat | .sg n => some n | _ => none
def sndOf : Co → Option Str | .snd _ s _ => some s | _ => none
def nD (n : Nat) : D := .int (n : Nat)
structure Four (M : Mh) (a b c d : Addr) (m e s : List Nat) (t : List Str) : Prop where
  ab : a ≠ b
  ac : a ≠ c
  ad : a ≠ d
  bc : b ≠ c
  bd : b ≠ d
  cd : c ≠ d
  m : M a = some (.lst (m.map nD))
  e : M b = some (.lst (e.map nD))
  s : M c = some (.lst (s.map nD))
  t : M d = some (.lst (t.map D.str))
theorem U1.lk (w : U1) (z : Str) (h : z = "make" ∨ z = "direct" ∨ z = "single" ∨ z = "send") : decide (w.w = z) = false := by
  rcases h with rfl | rfl | rfl | rfl <;> cases w <;> kernel_rfl
def bAsk : DS := dIfS (dTst (dOp gEq (dOp gIx (dVar 5) (dC (.int 0))) (dC (.str "make")))) (dDrop (dBM gAppend (dVar 1) (dCons (dOp gIx (dVar 5) (dC (.int 1))) dNil))) (dIfS (dTst (dOp gEq (dOp gIx (dVar 5) (dC (.int 0))) (dC (.str "direct")))) (dDrop (dBM gAppend (dVar 2) (dCons (dOp gIx (dVar 5) (dC (.int 1))) dNil))) (dIfS (dTst (dOp gEq (dOp gIx (dVar 5) (dC (.int 0))) (dC (.str "single")))) (dDrop (dBM gAppend (dVar 3) (dCons (dOp gIx (dVar 5) (dC (.int 1))) dNil))) (dIfS (dTst (dOp gEq (dOp gIx (dVar 5) (dC (.int 0))) (dC (.str "send")))) (dDrop (dBM gAppend (dVar 4) (dCons (dOp gIx (dVar 5) (dC (.int 2))) dNil))) dNext)))
theorem ask_loop {a b c d : Addr} (E : DEnds) (c0 : D) : ∀ (fs : List Co) (M : Mh) (m e s : List Nat) (t : List Str) (x : Option D), Four M a b c d m e s t → m.length + fs.length < sizeLine → e.length + fs.length < sizeLine → s.length + fs.length < sizeLine → t.length + fs.length < sizeLine →
    (∀ (M' : Mh) (x : Option D), Four M' a b c d (m ++ fs.filterMap makOf) (e ++ fs.filterMap dirOf) (s ++ fs.filterMap sgOf) (t ++ fs.filterMap sndOf) → (∀ p, p ≠ a → p ≠ b → p ≠ c → p ≠ d → M' p = M p) → E.nx [some c0, some (.ptr a), some (.ptr b), some (.ptr c), some (.ptr d), x] M') →
    forW (dgName 5) bAsk (fs.map Co.d) E [some c0, some (.ptr a), some (.ptr b), some (.ptr c), some (.ptr d), x] M := by
  intro fs
  induction fs with
  | nil => intro M m e s t x h _ _ _ _ k; exact k M x (by simpa using h) (fun p _ _ _ _ => rfl)
  | cons f fs ih =>
    intro M m e s t x h l1 l2 l3 l4 k
    simp only [List.length_cons] at l1 l2 l3 l4
    have plain : makOf f = none → dirOf f = none → sgOf f = none → sndOf f = none → ∀ x, forW (dgName 5) bAsk (fs.map Co.d) E [some c0, some (.ptr a), some (.ptr b), some (.ptr c), some (.ptr d), x] M := fun h1 h2 h3 h4 x =>
      ih M m e s t x h (by omega) (by omega) (by omega) (by omega) fun M' x' q1 q2 => k M' x' (by simpa [List.filterMap_cons, h1, h2, h3, h4] using q1) q2
    show (dgName 5 f.d [some c0, some (.ptr a), some (.ptr b), some (.ptr c), some (.ptr d), x] M fun ρ1 M1 => bAsk { nx := fun ρ' M' => forW (dgName 5) bAsk (fs.map Co.d) E ρ' M', ct := fun ρ' M' => forW (dgName 5) bAsk (fs.map Co.d) E ρ' M', bk := E.nx, rt := E.rt } ρ1 M1)
    cases f
    case mak n cs =>
      simp [bAsk, Co.d, isPL_at h.m, append_at h.m]
      refine ⟨by omega, ih _ (m ++ [n]) e s t _ ⟨h.ab, h.ac, h.ad, h.bc, h.bd, h.cd, by simp [nD], by rw [mup_ne h.ab.symm]; exact h.e, by rw [mup_ne h.ac.symm]; exact h.s, by rw [mup_ne h.ad.symm]; exact h.t⟩ (by simp; omega) (by omega) (by omega) (by omega) fun M' x' q1 q2 => k M' x' (by simpa [List.filterMap_cons, makOf, dirOf, sgOf, sndOf] using q1) fun p p1 p2 p3 p4 => by rw [q2 p p1 p2 p3 p4, mup_ne p1]⟩
    case dir n cs =>
      simp [bAsk, Co.d, isPL_at h.e, append_at h.e]
      refine ⟨by omega, ih _ m (e ++ [n]) s t _ ⟨h.ab, h.ac, h.ad, h.bc, h.bd, h.cd, by rw [mup_ne h.ab]; exact h.m, by simp [nD], by rw [mup_ne h.bc.symm]; exact h.s, by rw [mup_ne h.bd.symm]; exact h.t⟩ (by omega) (by simp; omega) (by omega) (by omega) fun M' x' q1 q2 => k M' x' (by simpa [List.filterMap_cons, makOf, dirOf, sgOf, sndOf] using q1) fun p p1 p2 p3 p4 => by rw [q2 p p1 p2 p3 p4, mup_ne p2]⟩
    case sg n =>
      simp [bAsk, Co.d, isPL_at h.s, append_at h.s]
      refine ⟨by omega, ih _ m e (s ++ [n]) t _ ⟨h.ab, h.ac, h.ad, h.bc, h.bd, h.cd, by rw [mup_ne h.ac]; exact h.m, by rw [mup_ne h.bc]; exact h.e, by simp [nD], by rw [mup_ne h.cd.symm]; exact h.t⟩ (by omega) (by omega) (by simp; omega) (by omega) fun M' x' q1 q2 => k M' x' (by simpa [List.filterMap_cons, makOf, dirOf, sgOf, sndOf] using q1) fun p p1 p2 p3 p4 => by rw [q2 p p1 p2 p3 p4, mup_ne p3]⟩
    case snd a' z cs =>
      simp [bAsk, Co.d, isPL_at h.t, append_at h.t]
      refine ⟨by omega, ih _ m e s (t ++ [z]) _ ⟨h.ab, h.ac, h.ad, h.bc, h.bd, h.cd, by rw [mup_ne h.ad]; exact h.m, by rw [mup_ne h.bd]; exact h.e, by rw [mup_ne h.cd]; exact h.s, by simp⟩ (by omega) (by omega) (by omega) (by simp; omega) fun M' x' q1 q2 => k M' x' (by simpa [List.filterMap_cons, makOf, dirOf, sgOf, sndOf] using q1) fun p p1 p2 p3 p4 => by rw [q2 p p1 p2 p3 p4, mup_ne p4]⟩
    case un w a' =>
      simp [bAsk, Co.d, U1.lk]
      exact plain rfl rfl rfl rfl _
    all_goals
      simp [bAsk, Co.d]
      exact plain rfl rfl rfl rfl _
section
variable {M : Mh} {R : D → Mh → Prop}
/-- what a c asks for -/
structure Asks (c : Co) (m e s : List Nat) (t : List Str) : Prop where
  m : ∀ n, n ∈ m ↔ ∃ d, Sub d c ∧ makOf d = some n
  e : ∀ n, n ∈ e ↔ ∃ d, Sub d c ∧ dirOf d = some n
  s : ∀ n, n ∈ s ↔ ∃ d, Sub d c ∧ sgOf d = some n
  t : ∀ n, n ∈ t ↔ ∃ d, Sub d c ∧ sndOf d = some n
def askD (m e s : List Nat) (t : List Str) : D := .tup [.lst (m.map nD), .lst (e.map nD), .lst (s.map nD), .lst (t.map D.str)]
theorem asked_in_ok (c : Co) (hz : c.sz < sizeLine) (k : ∀ m e s t, Asks c m e s t → m.length ≤ c.sz → e.length ≤ c.sz → s.length ≤ c.sz → t.length ≤ c.sz → R (askD m e s t) M) : F_asked_in [c.d] M R := by
  refine ⟨rfl, ?_⟩
  simp [rd_asked_in, dstart, N_asked_in]
  intro a1 h1 a2 h2 a3 h3 a4 h4
  have e12 : a2 ≠ a1 := fun e => by subst e; simp at h2
  rw [mup_ne e12] at h2
  have e13 : a3 ≠ a2 := fun e => by subst e; simp at h3
  rw [mup_ne e13] at h3
  have e14 : a3 ≠ a1 := fun e => by subst e; simp at h3
  rw [mup_ne e14] at h3
  have e15 : a4 ≠ a3 := fun e => by subst e; simp at h4
  rw [mup_ne e15] at h4
  have e16 : a4 ≠ a2 := fun e => by subst e; simp at h4
  rw [mup_ne e16] at h4
  have e17 : a4 ≠ a1 := fun e => by subst e; simp at h4
  rw [mup_ne e17] at h4
  refine all_cs_ok c (by omega) fun fs hfs hlen => ?_
  have hF : Four (mup (mup (mup (mup M a1 (.lst [])) a2 (.lst [])) a3 (.lst [])) a4 (.lst [])) a1 a2 a3 a4 [] [] [] [] :=
    ⟨e12.symm, e14.symm, e17.symm, e13.symm, e16.symm, e15.symm, by rw [mup_ne e17.symm, mup_ne e14.symm, mup_ne e12.symm]; simp, by rw [mup_ne e16.symm, mup_ne e13.symm]; simp, by rw [mup_ne e15.symm]; simp, by simp⟩
  refine ask_loop _ _ fs _ [] [] [] [] _ hF (by simp; omega) (by simp; omega) (by simp; omega) (by simp; omega) fun M' x q1 q2 => ?_
  simp only [List.nil_append] at q1
  have n1 : mlst M' a1 = some ((fs.filterMap makOf).map nD) := by simp [mlst, q1.m]
  have n2 : mlst (mdel M' a1) a2 = some ((fs.filterMap dirOf).map nD) := by simp [mlst, mdel, q1.ab.symm, q1.e]
  have n3 : mlst (mdel (mdel M' a1) a2) a3 = some ((fs.filterMap sgOf).map nD) := by simp [mlst, mdel, q1.ac.symm, q1.bc.symm, q1.s]
  have n4 : mlst (mdel (mdel (mdel M' a1) a2) a3) a4 = some ((fs.filterMap sndOf).map D.str) := by simp [mlst, mdel, q1.ad.symm, q1.bd.symm, q1.cd.symm, q1.t]
  simp [n1, n2, n3, n4]
  rw [keep_of]
  · have key : ∀ {α : Type} (f : Co → Option α) (n : α), n ∈ fs.filterMap f ↔ ∃ d, Sub d c ∧ f d = some n := fun f n => by
      rw [List.mem_filterMap]
      constructor
      · rintro ⟨d, h, e⟩; exact ⟨d, (hfs d).mp h, e⟩
      · rintro ⟨d, h, e⟩; exact ⟨d, (hfs d).mpr h, e⟩
    exact k _ _ _ _ ⟨key makOf, key dirOf, key sgOf, key sndOf⟩ (hlen ▸ List.length_filterMap_le _ _) (hlen ▸ List.length_filterMap_le _ _) (hlen ▸ List.length_filterMap_le _ _) (hlen ▸ List.length_filterMap_le _ _)
  · intro p o hp
    have p1 := ne_m hp h1
    have p2 := ne_m hp h2
    have p3 := ne_m hp h3
    have p4 := ne_m hp h4
    simp [mdel, p1, p2, p3, p4, q2 p p1 p2 p3 p4, mup_ne p1, mup_ne p2, mup_ne p3, mup_ne p4, hp]
end
end K70
set_option maxRecDepth 100000
set_option maxHeartbeats 1000000
namespace K70
open PySem PySem.Spec PyProof.Rows L2 DL
/-! ### has_form, fits_alone -/
section
variable {M : Mh} {R : D → Mh → Prop}
theorem has_form_ok (c : Co) (k : R (.bl true) M) : F_has_form [c.d] M R := by
  refine ⟨rfl, ?_⟩
  cases c
  case un w a => cases w <;> (simp [rd_has_form, dstart, N_has_form, Co.d, U1.w]; exact k)
  all_goals
    simp [rd_has_form, dstart, N_has_form, Co.d]
    exact k
def closedC : Co → Bool | .un .late _ => true | .once _ _ => true | .fn _ _ => true | _ => false
end
/-! ### the object -/
def flds (T B S : D) (P F : Int) (c : D) (b : Addr) : List (Str × D) := [("tables", T), ("bodies", B), ("singles", S), ("params", .int P), ("further", .int F), ("c", c), ("bound", .ptr b)]
section
variable {T B S c : D} {P F : Int} {b : Addr}
@[simp] theorem fl_tables : (flds T B S P F c b).lookup ("tables" : Str) = some T := by kernel_rfl
@[simp] theorem fl_bodies : (flds T B S P F c b).lookup ("bodies" : Str) = some B := by kernel_rfl
@[simp] theorem fl_singles : (flds T B S P F c b).lookup ("singles" : Str) = some S := by kernel_rfl
@[simp] theorem fl_params : (flds T B S P F c b).lookup ("params" : Str) = some (.int P) := by kernel_rfl
@[simp] theorem fl_further : (flds T B S P F c b).lookup ("further" : Str) = some (.int F) := by kernel_rfl
@[simp] theorem fl_c : (flds T B S P F c b).lookup ("c" : Str) = some c := by kernel_rfl
@[simp] theorem fl_bound : (flds T B S P F c b).lookup ("bound" : Str) = some (.ptr b) := by kernel_rfl
@[simp] theorem fl_m1 : (flds T B S P F c b).lookup ("is_right" : Str) = none := by kernel_rfl
@[simp] theorem fl_m2 : (flds T B S P F c b).lookup ("seen_in" : Str) = none := by kernel_rfl
@[simp] theorem fl_m3 : (flds T B S P F c b).lookup ("binds" : Str) = none := by kernel_rfl
@[simp] theorem fl_m4 : (flds T B S P F c b).lookup ("fits" : Str) = none := by kernel_rfl
theorem fl_made : putFD "bound" (.ptr b) (putFD "c" c (putFD "further" (.int F) (putFD "params" (.int P) (putFD "singles" S (putFD "bodies" B (putFD "tables" T [])))))) = flds T B S P F c b := by kernel_rfl
end
theorem ins_at {M : Mh} {C p : Addr} {fs : List (Str × D)} {K : Addr → List (Str × D) → Prop} (h : M p = some (.ins C fs)) : onIns M C (.ptr p) K = K p fs := by simp [onIns, mins, h]
theorem onD_at {M : Mh} {b : Addr} {ks : List (Key × D)} {K : List (Key × D) → Prop} (h : M b = some (.dic ks)) : onD M (.ptr b) K = K ks := by simp [onD, asK, mdic, h]
@[simp] theorem onD_dic {M : Mh} {ks : List (Key × D)} {K : List (Key × D) → Prop} : onD M (.dic ks) K = K ks := id rfl
theorem mdic_at {M : Mh} {b : Addr} {ks : List (Key × D)} (h : M b = some (.dic ks)) : mdic M b = some ks := by simp [mdic, h]
theorem mup_self {M : Mh} {b : Addr} {o : MO} (h : M b = some o) : mup M b o = M := by
  funext a
  by_cases e : a = b
  · subst e; rw [mup_same, h]
  · rw [mup_ne e]
theorem keep_mup {M : Mh} {b : Addr} {o o' : MO} (h : M b = some o) : keepM M (mup M b o') = mup M b o' := by
  funext a
  unfold keepM
  by_cases e : a = b
  · subst e; rw [h, mup_same]; rfl
  · rw [mup_ne e]; cases M a <;> rfl
/-- the parts of a core -/
structure Cp where
  ts : List (List (Str × Nat) × Nat)
  bs : List D
  ps : List Int
  ss : List D
structure Cp.Ok (K : Cp) : Prop where
  bs : IsBs K.bs K.ps
  bz : K.bs.length ≤ sizeLine
  tz : K.ts.length ≤ sizeLine
def Cp.T (K : Cp) : D := .tup (K.ts.map tabD)
def Cp.B (K : Cp) : D := .tup K.bs
def Cp.S (K : Cp) : D := .tup K.ss
def bndOf : Co → List Nat | .lt n _ _ => [n] | .fn n _ => [n] | _ => []
def fitP (K : Cp) (P : Int) (may : Bool) : Co → Prop
  | .sg n => n < K.ss.length
  | .once s _ => okT s 1 = true
  | .among _ l => asc (l.map fun t => ((t : Nat) : Int)) = true ∧ (∀ t ∈ l, t < K.ts.length) ∧ l.length ≤ sizeLine
  | .fill _ _ => may = true ∧ 0 < P
  | .snd _ s _ => okT s 1 = true
  | .dir n cs => K.ps[n]? = some ((cs.l.length : Nat) : Int)
  | .mak n cs => ∃ t, K.ts[n]? = some t ∧ K.ps[t.2]? = some (((cs.l.length + 1 : Nat)) : Int)
  | _ => True
section
variable {M : Mh} {R : D → Mh → Prop} {C p b : Addr} {K : Cp} {P F : Int} {c0 : D} {ks : List (Key × D)}
theorem binds_ok (hI : M p = some (.ins C (flds K.T K.B K.S P F c0 b))) (hB : M b = some (.dic ks)) (hk : ks.length < sizeLine) {n : Nat} (h1 : P ≤ n) (h2 : (n : Int) < P + F) (h3 : hasK ks (.inl n) = false) (hP : 0 ≤ P)
    (k : R (.bl true) (mup M b (.dic (ks ++ [(.inl (n : Int), .bl true)])))) : F_BodyLook_binds C [.ptr p, .tup [.int (n : Nat)]] M R := by
  refine ⟨rfl, ?_⟩
  simp [rd_BodyLook_binds, dstart, N_BodyLook_binds, forW, ins_at hI]
  refine is_count_ok True.intro ?_
  have hc : cnt (.int (n : Nat)) (P + F - 1) = true := by simp [cnt]; omega
  have hn : ¬ ((n : Int) < P) := by omega
  rw [hc]
  simp [ins_at hI, hn, onD_at hB, h3, mdic_at hB, keep_mup hB]
  refine ⟨hk, ?_⟩
  have e : putD ks (.inl (n : Int)) (.bl true) = ks ++ [(.inl (n : Int), .bl true)] := by unfold putD; rw [h3]; rfl
  rw [e]
  exact k
end
end K70
set_option maxRecDepth 100000
set_option maxHeartbeats 1000000
namespace K70
open PySem PySem.Spec PyProof.Rows L2 DL
theorem lookup_no {m : Str} : ∀ {fs : List (Str × D)}, fs.lookup m = none → ∀ (a : Str) (b : D), (a, b) ∈ fs → ¬ m = a
  | [], _, a, b, h, _ => by cases h
  | (g, d) :: r, h, a, b, hm, e => by
    subst e
    rw [List.lookup_cons] at h
    cases eg : m == g with
    | true => rw [eg] at h; cases h
    | false =>
      rw [eg] at h
      rcases List.mem_cons.mp hm with q | q
      · cases q
        rw [beq_self_eq_true] at eg
        cases eg
      · exact lookup_no h m b q rfl
section
variable {M : Mh} {R : D → Mh → Prop} {C p b : Addr} {K : Cp} {P F : Int} {c0 : D} {ks sn : List (Key × D)}
theorem alone_truth {t : Bool} (k : R (.bl true) M) : F_fits_alone [(Co.truth t).d] M R := by
  refine ⟨rfl, ?_⟩
  simpa [rd_fits_alone, dstart, N_fits_alone, Co.d] using k
theorem alone_slot {a : Co} (k : R (.bl true) M) : F_fits_alone [(Co.slot a).d] M R := by
  refine ⟨rfl, ?_⟩
  simp [rd_fits_alone, dstart, N_fits_alone, Co.d]
  refine is_whole_ok True.intro ?_
  simpa [isI] using k
theorem alone_op {a c : Co} (k : R (.bl true) M) : F_fits_alone [(Co.op a c).d] M R := by
  refine ⟨rfl, ?_⟩
  simpa [rd_fits_alone, dstart, N_fits_alone, Co.d] using k
theorem alone_stop {a : Co} (k : R (.bl true) M) : F_fits_alone [(Co.stop a).d] M R := by
  refine ⟨rfl, ?_⟩
  simpa [rd_fits_alone, dstart, N_fits_alone, Co.d] using k
theorem alone_snd {a : Co} {s : Str} {cs : Cos} (h : okT s 1 = true) (k : R (.bl true) M) : F_fits_alone [(Co.snd a s cs).d] M R := by
  refine ⟨rfl, ?_⟩
  simp [rd_fits_alone, dstart, N_fits_alone, Co.d]
  exact is_core_text_ok h (by simpa using k)
theorem alone_once {a : Co} {s : Str} (h : okT s 1 = true) (k : R (.bl true) M) : F_fits_alone [(Co.once s a).d] M R := by
  refine ⟨rfl, ?_⟩
  simp [rd_fits_alone, dstart, N_fits_alone, Co.d]
  exact is_core_text_ok h (by simpa using k)
def bndD (ns : List Nat) : List (Key × D) := ns.map fun n => (Sum.inl ((n : Nat) : Int), D.bl true)
theorem fits_ok (hK : K.Ok) (hP : 0 ≤ P) (hI : M p = some (.ins C (flds K.T K.B K.S P F c0 b))) (hB : M b = some (.dic ks)) (hk : ks.length < sizeLine) (c : Co) (may : Bool) (hf : fitP K P may c)
    (hb : ∀ n ∈ bndOf c, P ≤ ((n : Nat) : Int) ∧ ((n : Nat) : Int) < P + F ∧ hasK ks (.inl ((n : Nat) : Int)) = false) (k : R (.bl true) (mup M b (.dic (ks ++ bndD (bndOf c))))) : F_BodyLook_fits C [.ptr p, c.d, .dic sn, .bl may] M R := by
  refine ⟨rfl, ?_⟩
  have k0 : bndOf c = [] → R (.bl true) M := fun e => by
    rw [e] at k
    simp only [bndD, List.map_nil, List.append_nil] at k
    rw [mup_self hB] at k
    exact k
  cases c
  case un w a => cases w <;> (simp [rd_BodyLook_fits, dstart, N_BodyLook_fits, Co.d, U1.w]; exact k0 rfl)
  case truth t => simp [rd_BodyLook_fits, dstart, N_BodyLook_fits]; simp [Co.d]; exact alone_truth (by rw [keep_self]; exact k0 rfl)
  case slot a => simp [rd_BodyLook_fits, dstart, N_BodyLook_fits]; simp [Co.d]; exact alone_slot (by rw [keep_self]; exact k0 rfl)
  case op a c => simp [rd_BodyLook_fits, dstart, N_BodyLook_fits]; simp [Co.d]; exact alone_op (by rw [keep_self]; exact k0 rfl)
  case stop a => simp [rd_BodyLook_fits, dstart, N_BodyLook_fits]; simp [Co.d]; exact alone_stop (by rw [keep_self]; exact k0 rfl)
  case snd a s cs => simp [rd_BodyLook_fits, dstart, N_BodyLook_fits]; simp [Co.d]; exact alone_snd (a := a) (cs := cs) hf (by rw [keep_self]; exact k0 rfl)
  case once s a => simp [rd_BodyLook_fits, dstart, N_BodyLook_fits]; simp [Co.d]; exact alone_once (a := a) hf (by rw [keep_self]; exact k0 rfl)
  case fill a c =>
    obtain ⟨rfl, h2⟩ := hf
    simp [rd_BodyLook_fits, dstart, N_BodyLook_fits, Co.d, ins_at hI, h2]
    refine is_whole_ok True.intro ?_
    simp [isI]
    exact k0 rfl
  case lt n a c =>
    obtain ⟨h1, h2, h3⟩ := hb n (by simp [bndOf])
    simp [rd_BodyLook_fits, dstart, N_BodyLook_fits, Co.d, ins_at hI]
    refine ⟨lookup_no fl_m3, binds_ok hI hB hk h1 h2 h3 hP ?_⟩
    rw [keep_mup hB]
    exact k
  case fn n a =>
    obtain ⟨h1, h2, h3⟩ := hb n (by simp [bndOf])
    simp [rd_BodyLook_fits, dstart, N_BodyLook_fits, Co.d, ins_at hI]
    refine ⟨lookup_no fl_m3, binds_ok hI hB hk h1 h2 h3 hP ?_⟩
    rw [keep_mup hB]
    exact k
  case among a l =>
    obtain ⟨h1, h2, h3⟩ := hf
    simp [rd_BodyLook_fits, dstart, N_BodyLook_fits, Co.d, ins_at hI, Cp.T]
    refine is_ascending_ok True.intro (fun xs e => ?_) ?_
    · cases e
      exact ⟨fun y hy => by obtain ⟨t, _, rfl⟩ := List.mem_map.mp hy; exact True.intro, by simpa using h3⟩
    · have e : ascD (.tup (l.map fun t => D.int ((t : Nat) : Int))) ((K.ts.length : Int) - 1) = true := by
        have e1 : (l.map fun t => D.int ((t : Nat) : Int)) = (l.map fun t => ((t : Nat) : Int)).map D.int := by rw [List.map_map]; rfl
        unfold ascD
        simp only [e1, DL.ints_map, h1, Bool.and_true]
        simp only [List.all_map, List.all_eq_true, Function.comp, cnt, Bool.and_eq_true, decide_eq_true_eq]
        intro t ht
        have := h2 t ht
        omega
      rw [e, keep_self]
      exact k0 rfl
  case dir n cs =>
    have hf : K.ps[n]? = some ((cs.l.length : Nat) : Int) := hf
    obtain ⟨f, c, hi⟩ := bs_at hK.bs hf
    have hl : n < K.bs.length := (List.getElem?_eq_some_iff.mp hi).1
    simp [rd_BodyLook_fits, dstart, N_BodyLook_fits, Co.d, ins_at hI, Cp.B]
    refine is_count_ok True.intro ?_
    have hc : cnt (.int (n : Nat)) ((K.bs.length : Int) - 1) = true := by simp [cnt]; omega
    rw [hc]
    simp [ins_at hI, ix_tup hi, Cos.ds_l, Cp.B]
    exact k0 rfl
  case mak n cs =>
    obtain ⟨t, h1, h2⟩ := hf
    obtain ⟨f, c, hi⟩ := bs_at hK.bs h2
    have hl : n < K.ts.length := (List.getElem?_eq_some_iff.mp h1).1
    have ht : (K.ts.map tabD)[n]? = some (tabD t) := by rw [List.getElem?_map, h1]; rfl
    simp [rd_BodyLook_fits, dstart, N_BodyLook_fits, Co.d, ins_at hI, Cp.T]
    refine is_count_ok True.intro ?_
    have hc : cnt (.int (n : Nat)) ((K.ts.length : Int) - 1) = true := by simp [cnt]; omega
    rw [hc]
    simp [ins_at hI, ix_tup ht, Cos.ds_l, Cp.T, Cp.B, tabD, ix_tup hi]
    exact k0 rfl
  case sg n =>
    have hf : n < K.ss.length := hf
    simp [rd_BodyLook_fits, dstart, N_BodyLook_fits, Co.d, ins_at hI, Cp.S]
    refine is_count_ok True.intro ?_
    have hc : cnt (.int (n : Nat)) ((K.ss.length : Int) - 1) = true := by simp [cnt]; omega
    rw [hc]
    simp
    exact k0 rfl
  all_goals
    simp [rd_BodyLook_fits, dstart, N_BodyLook_fits, Co.d]
    exact k0 rfl
theorem putD_len (ks : List (Key × D)) (k : Key) (v : D) : (putD ks k v).length ≤ ks.length + 1 := putD_length k v ks
theorem seen_in_ok (c : Co) (at_ : Nat) (hl : sn.length + 2 ≤ sizeLine) (k : ∀ sn', sn'.length ≤ sn.length + 1 → R (.dic sn') M) : F_BodyLook_seen_in [.ptr p, c.d, .int (at_ : Nat), .dic sn] M R := by
  refine ⟨rfl, ?_⟩
  have k0 : R (.dic sn) M := k sn (by omega)
  cases c
  case un w a => cases w <;> (simp [rd_BodyLook_seen_in, dstart, N_BodyLook_seen_in, Co.d, U1.w]; exact k0)
  case lt n a c =>
    simp [rd_BodyLook_seen_in, dstart, N_BodyLook_seen_in, Co.d]
    by_cases h : (at_ : Int) = 1
    · simp [h]
      exact ⟨by omega, k _ (putD_len _ _ _)⟩
    · simp [h]
      exact k0
  case fn n a =>
    simp [rd_BodyLook_seen_in, dstart, N_BodyLook_seen_in, Co.d, dcW]
    refine ⟨?_, k _ ?_⟩
    · simp [putD, hasK]; omega
    · simp [putD, hasK, mrgD]
      exact putD_len _ _ _
  all_goals
    simp [rd_BodyLook_seen_in, dstart, N_BodyLook_seen_in, Co.d]
    exact k0
end
end K70
set_option maxRecDepth 100000
set_option maxHeartbeats 1000000
namespace K70
open PySem PySem.Spec PyProof.Rows L2 DL
mutual
def Co.bs : Co → List Nat
  | .unit => [] | .truth _ => [] | .sg _ => [] | .un _ a => a.bs | .once _ a => a.bs | .among a _ => a.bs | .stop a => a.bs | .slot a => a.bs | .thn a b => a.bs ++ b.bs | .op a b => a.bs ++ b.bs
  | .ife a b c => a.bs ++ (b.bs ++ c.bs) | .lt n a b => n :: (a.bs ++ b.bs) | .fill a b => a.bs ++ b.bs | .fn n a => n :: a.bs | .app a cs => a.bs ++ cs.bs | .snd a _ cs => a.bs ++ cs.bs | .dir _ cs => cs.bs | .mak _ cs => cs.bs
def Cos.bs : Cos → List Nat
  | .nil => []
  | .cons c r => c.bs ++ r.bs
end
theorem Cos.bs_l : ∀ cs : Cos, cs.bs = cs.l.flatMap Co.bs
  | .nil => rfl
  | .cons c r => by simp [Cos.bs, Cos.l, Cos.bs_l r]
theorem bs_kids (c : Co) : c.bs = bndOf c ++ c.kids.flatMap Co.bs := by
  cases c <;> simp [Co.bs, bndOf, Co.kids, Cos.bs_l]
inductive Okc (K : Cp) (P : Int) : Bool → Nat → Co → Prop
  | mk {may : Bool} {w : Nat} {c : Co} (hw : w ≤ 240) (hf : fitP K P may c) (hk : ∀ k ∈ c.kids, Okc K P (may && !closedC c) (w + 1) k) : Okc K P may w c
structure Itm where
  c : Co
  w : Nat
  sn : List (Key × D)
  may : Bool
def Itm.d (i : Itm) : D := .tup [i.c.d, .int (i.w : Nat), .dic i.sn, .bl i.may]
def itSz (l : List Itm) : Nat := szs (l.map Itm.c)
def itBs (l : List Itm) : List Nat := l.flatMap fun i => i.c.bs
theorem closed_may {ρ : DV} {M : Mh} {Q : D → Mh → Prop} (c : Co) (may : Bool) (i j : Nat) (h1 : lk ρ i = some (.bl may)) (h2 : lk ρ j = some c.d) (k : Q (.bl (may && !closedC c)) M) : dAndV (dVar i) (dWNotIn tb_CLOSED (dOp gIx (dVar j) (dC (.int 0)))) ρ M Q := by
  simp only [s_andV, s_var h1, s_onBl]
  cases may with
  | false => simpa using k
  | true =>
    simp only [if_true, s_wnotin, s_op, s_var h2, s_C]
    cases c
    case un w a => cases w <;> (simp [Co.d, U1.w]; simpa [closedC] using k)
    all_goals
      simp [Co.d]
      simpa [closedC] using k
def bKid (C : Addr) : DS := dDrop (dBM gAppend (dVar 1) (dCons (dTup (dCons (dVar 9) (dCons (dOp gAdd (dVar 4) (dC (.int 1))) (dCons (dMeth C "seen_in" (F_BodyLook_seen_in) (dVar 0) (dCons (dVar 3) (dCons (dVar 8) (dCons (dVar 5) dNil)))) (dCons (dVar 6) dNil))))) dNil))
section
variable {C p b l : Addr} {K : Cp} {P F : Int} {c0 : D}
theorem kid_loop (hlp : l ≠ p) (E : DEnds) (c : Co) (w : Nat) (sn : List (Key × D)) (may : Bool) (hs : sn.length + 2 ≤ sizeLine) (x2 x7 : Option D) : ∀ (ks : List Co) (i : Nat) (its : List Itm) (M : Mh) (x8 x9 : Option D),
    M l = some (.lst (its.map Itm.d)) → M p = some (.ins C (flds K.T K.B K.S P F c0 b)) → its.length + ks.length < sizeLine →
    (∀ (its' : List Itm) (M' : Mh) (x8 x9 : Option D), its'.map Itm.c = ks → (∀ i ∈ its', i.w = w + 1 ∧ i.may = may ∧ i.sn.length ≤ sn.length + 1) → M' = mup M l (.lst ((its ++ its').map Itm.d)) →
      E.nx [some (.ptr p), some (.ptr l), x2, some c.d, some (.int (w : Nat)), some (.dic sn), some (.bl may), x7, x8, x9] M') →
    forW (dgTup 2 (dgCons (dgName 8) (dgCons (dgName 9) dgNil))) (bKid C) (enumD i (ks.map Co.d)) E [some (.ptr p), some (.ptr l), x2, some c.d, some (.int (w : Nat)), some (.dic sn), some (.bl may), x7, x8, x9] M := by
  intro ks
  induction ks with
  | nil => intro i its M x8 x9 hl hp hz k; exact k [] M x8 x9 rfl (by simp) (by rw [List.append_nil, mup_self hl])
  | cons q ks ih =>
    intro i its M x8 x9 hl hp hz k
    simp only [List.length_cons] at hz
    show (dgTup 2 (dgCons (dgName 8) (dgCons (dgName 9) dgNil)) (.tup [.int (i : Nat), q.d]) [some (.ptr p), some (.ptr l), x2, some c.d, some (.int (w : Nat)), some (.dic sn), some (.bl may), x7, x8, x9] M fun ρ1 M1 =>
      bKid C { nx := fun ρ' M' => forW (dgTup 2 (dgCons (dgName 8) (dgCons (dgName 9) dgNil))) (bKid C) (enumD (i + 1) (ks.map Co.d)) E ρ' M', ct := fun ρ' M' => forW (dgTup 2 (dgCons (dgName 8) (dgCons (dgName 9) dgNil))) (bKid C) (enumD (i + 1) (ks.map Co.d)) E ρ' M', bk := E.nx, rt := E.rt } ρ1 M1)
    simp [bKid, isPL_at hl, ins_at hp]
    refine ⟨lookup_no fl_m2, seen_in_ok c i hs fun sn' hsn => ?_⟩
    simp [append_at hl]
    refine ⟨by omega, ?_⟩
    have e : its.map Itm.d ++ [.tup [q.d, .int ((w : Int) + 1), .dic sn', .bl may]] = (its ++ [(⟨q, w + 1, sn', may⟩ : Itm)]).map Itm.d := by
      rw [List.map_append]
      rfl
    rw [e]
    refine ih (i + 1) (its ++ [⟨q, w + 1, sn', may⟩]) _ _ _ (by simp) (by rw [mup_ne hlp.symm]; exact hp) (by simp; omega) fun its' M' x8 x9 h1 h2 h3 => ?_
    refine k (⟨q, w + 1, sn', may⟩ :: its') M' x8 x9 (by simp [h1]) (fun j hj => ?_) (by rw [h3, mup_mup]; simp)
    rcases List.mem_cons.mp hj with rfl | hj
    · exact ⟨rfl, rfl, hsn⟩
    · exact h2 j hj
structure ItOk (K : Cp) (P : Nat) (i : Itm) : Prop where
  ok : Okc K P i.may i.w i.c
  sn : i.sn.length ≤ P + i.w
def bRight (C : Addr) : DS := dSeq (dAsg (dBM gPop0 (dVar 1) dNil) (dgTup 4 (dgCons (dgName 3) (dgCons (dgName 4) (dgCons (dgName 5) (dgCons (dgName 6) dgNil)))))) (dSeq (dIfS (dOr (dTst (dOp gGt (dVar 4) (dC (.int 240)))) (dOr (dNot (dTst (dCall F_has_form (dCons (dVar 3) dNil)))) (dNot (dTst (dMeth C "fits" (F_BodyLook_fits C) (dVar 0) (dCons (dVar 3) (dCons (dVar 5) (dCons (dVar 6) dNil)))))))) (dRet (dC (.bl false))) dNext) (dSeq (dAsg (dAndV (dVar 6) (dWNotIn tb_CLOSED (dOp gIx (dVar 3) (dC (.int 0))))) (dgName 6)) (dSeq (dAsg (dCall F_inner_cs (dCons (dVar 3) dNil)) (dgName 7)) (dFor (dInE (dVar 7)) (dgTup 2 (dgCons (dgName 8) (dgCons (dgName 9) dgNil))) (bKid C)))))
theorem hasK_app (ks ks' : List (Key × D)) (k : Key) : hasK (ks ++ ks') k = (hasK ks k || hasK ks' k) := by simp [hasK]
theorem hasK_bnd (ns : List Nat) (m : Nat) : hasK (bndD ns) (.inl ((m : Nat) : Int)) = decide (m ∈ ns) := by
  unfold hasK bndD
  rw [List.any_map, Bool.eq_iff_iff]
  simp
  exact ⟨fun ⟨x, h, e⟩ => by have : x = m := by omega
                             subst this; exact h, fun h => ⟨m, h, rfl⟩⟩
theorem bndOf_len (c : Co) : (bndOf c).length ≤ 1 := by cases c <;> simp [bndOf]
theorem right_loop (hK : K.Ok) {Pn : Nat} (hpz : Pn ≤ 1000) (hlp : l ≠ p) (hlb : l ≠ b) (hpb : p ≠ b) (E : DEnds) : ∀ (n : Nat) (its : List Itm) (M : Mh) (ks : List (Key × D)) (x2 x3 x4 x5 x6 x7 x8 x9 : Option D), itSz its < n → M l = some (.lst (its.map Itm.d)) →
    M p = some (.ins C (flds K.T K.B K.S Pn F c0 b)) → M b = some (.dic ks) → (∀ i ∈ its, ItOk K Pn i) → (itBs its).Nodup → (∀ m ∈ itBs its, ((Pn : Nat) : Int) ≤ ((m : Nat) : Int) ∧ ((m : Nat) : Int) < Pn + F ∧ hasK ks (.inl ((m : Nat) : Int)) = false) →
    itSz its < sizeLine → ks.length + (itBs its).length < sizeLine →
    (∀ (ks' : List (Key × D)) (M' : Mh) (x2 x3 x4 x5 x6 x7 x8 x9 : Option D), M' b = some (.dic ks') → ks'.length = ks.length + (itBs its).length → (∀ a, a ≠ l → a ≠ b → M' a = M a) → E.nx [some (.ptr p), some (.ptr l), x2, x3, x4, x5, x6, x7, x8, x9] M') →
    whileN (dTst (dOp gNeNil (dVar 1) (dLst mkF dNil))) (bRight C) n E [some (.ptr p), some (.ptr l), x2, x3, x4, x5, x6, x7, x8, x9] M := by
  intro n
  induction n with
  | zero => intro its M ks x2 x3 x4 x5 x6 x7 x8 x9 h; omega
  | succ n ih =>
    intro its M ks x2 x3 x4 x5 x6 x7 x8 x9 hn hl hp hb ok nd bd hz hkz k
    unfold whileN
    simp [g_neNilP hl]
    rcases List.eq_nil_or_concat its with rfl | ⟨ini, i, rfl⟩
    · simp
      exact k ks M _ _ _ _ _ _ _ _ hb (by simp [itBs]) fun a _ _ => rfl
    · rw [List.concat_eq_append] at hn hl ok nd bd hz hkz k ⊢
      obtain ⟨c, w, sn, may⟩ := i
      have oi := ok ⟨c, w, sn, may⟩ (by simp)
      obtain ⟨⟨hw, hf, hk⟩, hsn⟩ := oi
      simp only at hw hf hk hsn
      have hcs := kids_sz c
      have hkl := len_szs c.kids
      have hsz : itSz (ini ++ [⟨c, w, sn, may⟩]) = itSz ini + c.sz := by simp [itSz, szs]
      have hbs : itBs (ini ++ [⟨c, w, sn, may⟩]) = itBs ini ++ (bndOf c ++ c.kids.flatMap Co.bs) := by simp [itBs, bs_kids c]
      have hli : ini.length ≤ itSz ini := by
        have := len_szs (ini.map Itm.c)
        simpa [itSz] using this
      rw [hsz] at hn hz
      rw [hbs] at nd bd hkz k
      simp only [List.append_eq_nil_iff, List.cons_ne_self, and_false, if_false]
      have hl' : M l = some (.lst (ini.map Itm.d ++ [.tup [c.d, .int (w : Nat), .dic sn, .bl may]])) := by rw [hl, List.map_append]; rfl
      have hp1 : (mup M l (.lst (ini.map Itm.d))) p = some (.ins C (flds K.T K.B K.S Pn F c0 b)) := by rw [mup_ne hlp.symm]; exact hp
      have hb1 : (mup M l (.lst (ini.map Itm.d))) b = some (.dic ks) := by rw [mup_ne hlb.symm]; exact hb
      have nw : ¬ ((240 : Int) < ((w : Nat) : Int)) := by omega
      simp [-s_andV, bRight, isPL_at hl', pop_at hl', nw]
      refine has_form_ok c ?_
      simp [-s_andV, ins_at hp1]
      refine ⟨lookup_no fl_m4, ?_⟩
      have hsl := sizeLine_eq
      have hbl := bndOf_len c
      rw [List.length_append, List.length_append] at hkz
      refine fits_ok hK (Int.natCast_nonneg _) hp1 hb1 (by omega) c may hf (fun m hm => bd m (by simp [hm])) ?_
      simp [-s_andV]
      refine closed_may c may 6 3 (by rfl) (by rfl) ?_
      refine inner_cs_ok c (by omega) ?_
      simp
      refine ⟨by omega, ?_⟩
      refine kid_loop hlp _ c w sn (may && !closedC c) (by omega) _ _ c.kids 0 ini _ _ _ (by rw [mup_ne hlb]; simp) (by rw [mup_ne hpb]; exact hp1) (by omega) fun its' M' y8 y9 h1 h2 h3 => ?_
      have hfl : itBs its' = c.kids.flatMap Co.bs := by
        rw [← h1, itBs, List.flatMap_map]
      have hs2 : itSz its' = szs c.kids := by rw [← h1]; rfl
      have e1 : itBs (ini ++ its') = itBs ini ++ c.kids.flatMap Co.bs := by rw [← hfl]; simp [itBs]
      have e2 : itSz (ini ++ its') = itSz ini + szs c.kids := by rw [← hs2]; simp [itSz, szs]
      have sub : (itBs ini ++ c.kids.flatMap Co.bs).Sublist (itBs ini ++ (bndOf c ++ c.kids.flatMap Co.bs)) := (List.Sublist.refl _).append (List.sublist_append_right _ _)
      refine ih (ini ++ its') M' (ks ++ bndD (bndOf c)) _ _ _ _ _ _ _ _ (by omega) (by rw [h3]; simp) (by rw [h3, mup_ne hlp.symm, mup_ne hpb]; exact hp1) (by rw [h3, mup_ne hlb.symm]; simp) (fun j hj => ?_) (by rw [e1]; exact nd.sublist sub) (fun m hm => ?_) (by omega) (by rw [e1]; simp only [bndD, List.length_append, List.length_map]; omega) fun ks' M'' y2 y3 y4 y5 y6 y7 y8 y9 g1 g2 g3 => k ks' M'' y2 y3 y4 y5 y6 y7 y8 y9 g1 ?_ fun a a1 a2 => ?_
      · rcases List.mem_append.mp hj with hj | hj
        · exact ok j (by simp [hj])
        · obtain ⟨j1, j2, j3⟩ := h2 j hj
          have hjc : j.c ∈ c.kids := by rw [← h1]; exact List.mem_map_of_mem hj
          exact ⟨by rw [j1, j2]; exact hk _ hjc, by omega⟩
      · rw [e1] at hm
        obtain ⟨m1, m2, m3⟩ := bd m (sub.subset hm)
        refine ⟨m1, m2, ?_⟩
        rw [hasK_app, m3, hasK_bnd]
        simp only [Bool.false_or, decide_eq_false_iff_not]
        intro hbc
        rw [List.nodup_append] at nd
        obtain ⟨_, nd2, nd3⟩ := nd
        rw [List.nodup_append] at nd2
        rcases List.mem_append.mp hm with q | q
        · exact nd3 m q m (by simp [hbc]) rfl
        · exact nd2.2.2 m hbc m q rfl
      · rw [g2, e1]
        simp only [bndD, List.length_append, List.length_map]
        omega
      · rw [g3 a a1 a2, h3, mup_ne a1, mup_ne a2, mup_ne a1]
theorem seen_dc (ρ : DV) (h2 : ρ.length = 10) : ∀ (ns : List Nat) (acc : List (Key × D)) (M : Mh) (Q : List (Key × D) → Mh → Prop), (∀ ks : List (Key × D), ks.length ≤ acc.length + ns.length → Q ks M) → dcW (dgName 2) dYes (dVar 2) (dC (.bl true)) ρ (ns.map fun i => D.int ((i : Nat) : Int)) acc M Q
  | [], acc, M, Q, k => k acc (by simp)
  | n :: ns, acc, M, Q, k => by
    have e : lk (ρ.set 2 (some (.int ((n : Nat) : Int)))) 2 = some (.int ((n : Nat) : Int)) := by
      match ρ, h2 with
      | [_, _, _, _, _, _, _, _, _, _], _ => rfl
    rw [List.map_cons]
    unfold dcW
    simp only [s_gname, s_yes, if_true, s_var e, s_onK, s_C]
    refine seen_dc ρ h2 ns _ M Q fun ks hk => k ks ?_
    have := putD_len acc (.inl ((n : Nat) : Int)) (.bl true)
    simp only [List.length_cons]
    omega
theorem is_right_ok {M : Mh} {R : D → Mh → Prop} (hK : K.Ok) {Pn : Nat} (hpz : Pn ≤ 400) (hpb : p ≠ b) (c : Co) (hp : M p = some (.ins C (flds K.T K.B K.S Pn F c.d b))) (hb : M b = some (.dic [])) (hok : Okc K Pn true 1 c) (hnd : c.bs.Nodup)
    (hbd : ∀ m ∈ c.bs, ((Pn : Nat) : Int) ≤ ((m : Nat) : Int) ∧ ((m : Nat) : Int) < Pn + F) (hF : F = ((c.bs.length : Nat) : Int)) (hz : c.sz < sizeLine) (hbz : c.bs.length < sizeLine) (k : ∀ M', (∀ a, a ≠ b → M' a = M a) → R (.bl true) M') : F_BodyLook_is_right C [.ptr p] M R := by
  refine ⟨rfl, ?_⟩
  simp [rd_BodyLook_is_right, dstart, N_BodyLook_is_right, ins_at hp]
  refine ⟨by omega, ?_⟩
  unfold rngD
  refine seen_dc _ rfl _ _ _ _ fun sn hsn => ?_
  intro l hl
  have hlp : l ≠ p := fun e => by subst e; rw [hl] at hp; cases hp
  have hlb : l ≠ b := fun e => by subst e; rw [hl] at hb; cases hb
  have hsl := sizeLine_eq
  refine ⟨c.sz + 1, right_loop (F := F) hK (Pn := Pn) (by omega) hlp hlb hpb _ _ [⟨c, 1, sn, true⟩] _ [] _ _ _ _ _ _ _ _ (by simp [itSz, szs]) (by simp [Itm.d]) (by rw [mup_ne hlp.symm]; exact hp) (by rw [mup_ne hlb.symm]; exact hb)
    (fun i hi => by
      have e : i = ⟨c, 1, sn, true⟩ := by simpa using hi
      subst e
      exact ⟨hok, Nat.le_succ_of_le (by simpa using hsn)⟩) (by simpa [itBs] using hnd) (fun m hm => by
      obtain ⟨q1, q2⟩ := hbd m (by simpa [itBs] using hm)
      exact ⟨q1, q2, rfl⟩) (by simpa [itSz, szs] using hz) (by simpa [itBs] using hbz) fun ks' M' x2 x3 x4 x5 x6 x7 x8 x9 g1 g2 g3 => ?_⟩
  have hp' : M' p = some (.ins C (flds K.T K.B K.S Pn F c.d b)) := by rw [g3 p hlp.symm hpb, mup_ne hlp.symm]; exact hp
  have g2 : ks'.length = c.bs.length := by simpa [itBs] using g2
  simp [ins_at hp', s_lenPD g1, g2, hF]
  refine k _ fun a ha => ?_
  unfold keepM
  by_cases hal : a = l
  · subst hal; rw [hl]; rfl
  · rw [g3 a hal ha, mup_ne hal]
    cases M a <;> rfl
end
end K70
set_option maxRecDepth 100000
set_option maxHeartbeats 1000000
namespace K70
open PySem PySem.Spec PyProof.Rows L2 DL
structure Core where
  ts : List (List (Str × Nat) × Nat)
  bd : List (Nat × Nat × Co)
  sg : List Nat
  main : Nat
def bodyD (x : Nat × Nat × Co) : D := .tup [.int (x.1 : Nat), .int (x.2.1 : Nat), x.2.2.d]
def sgD (i : Nat) : D := .tup [.int (i : Nat), .str "s"]
def Core.cp (K : Core) : Cp := ⟨K.ts, K.bd.map bodyD, K.bd.map fun x => ((x.1 : Nat) : Int), K.sg.map sgD⟩
def Core.d (K : Core) : D := .tup [.tup (K.ts.map tabD), .tup (K.bd.map bodyD), .tup (K.sg.map sgD), .int (K.main : Nat)]
structure BodyOk (K : Core) (x : Nat × Nat × Co) : Prop where
  p : x.1 ≤ 400
  f : x.1 + x.2.1 ≤ 400
  ok : Okc K.cp x.1 true 1 x.2.2
  nd : x.2.2.bs.Nodup
  bd : ∀ m ∈ x.2.2.bs, x.1 ≤ m ∧ m < x.1 + x.2.1
  n : x.2.2.bs.length = x.2.1
  sz : x.2.2.sz ≤ 100000
structure Core.Wf (K : Core) : Prop where
  tl : K.ts.length ≤ 60
  bl : K.bd.length ≤ 60
  sl : K.sg.length ≤ 60
  tb : ∀ t ∈ K.ts, RowsOk K.cp.ps t.1 ∧ t.1.length ≤ 60 ∧ ∃ p, K.cp.ps[t.2]? = some p ∧ 0 < p
  sg : ∀ s ∈ K.sg, K.cp.ps[s]? = some 0
  mn : K.cp.ps[K.main]? = some 0
  bd : ∀ x ∈ K.bd, BodyOk K x
theorem Core.isBs (K : Core) : IsBs K.cp.bs K.cp.ps := by
  refine ⟨by simp [Core.cp], fun i p e => ?_⟩
  simp only [Core.cp, List.getElem?_map] at e ⊢
  cases h : K.bd[i]? with
  | none => rw [h] at e; cases e
  | some x =>
    rw [h] at e
    cases e
    exact ⟨_, _, rfl⟩
theorem Core.Wf.cok {K : Core} (h : K.Wf) : K.cp.Ok := by
  have e := sizeLine_eq
  exact ⟨K.isBs, by simp [Core.cp]; have := h.bl; omega, by show K.ts.length ≤ _; have := h.tl; omega⟩
theorem pf_lt {f : Str} {d : D} : ∀ {fs : List (Str × D)} {n : Nat}, fs.length < n → (putFD f d fs).length < n + 1
  | [], n, h => by simp [putFD]; simp at h; omega
  | y :: r, n, h => by
    simp only [List.length_cons] at h
    unfold putFD
    split
    · simp; omega
    · have := pf_lt (f := f) (d := d) (fs := r) (n := n - 1) (by omega)
      simp only [List.length_cons]
      omega
theorem up {a b c : Nat} (h : a < b) (h2 : b ≤ c) : a < c := Nat.lt_of_lt_of_le h h2
section
variable {M : Mh} {R : D → Mh → Prop} {C : Addr} {K : Core}
theorem init_ok {a : Addr} (ha : M a = none) {i : Nat} {x : Nat × Nat × Co} (hx : K.bd[i]? = some x) (k : ∀ M' b, M' a = some (.ins C (flds K.cp.T K.cp.B K.cp.S (x.1 : Nat) (x.2.1 : Nat) x.2.2.d b)) → M' b = some (.dic []) → a ≠ b → M b = none → (∀ c, c ≠ a → c ≠ b → M' c = M c) → R .non M') :
    F_BodyLook_init C [.ptr a, K.d, .int (i : Nat)] (mup M a (.ins C [])) R := by
  have hb : (K.bd.map bodyD)[i]? = some (bodyD x) := by rw [List.getElem?_map, hx]; rfl
  have e1 : ∀ {fs : List (Str × D)} {G : Addr → List (Str × D) → Prop}, onIns (mup M a (.ins C fs)) C (.ptr a) G = G a fs := fun {fs G} => ins_at mup_same
  refine ⟨rfl, ?_⟩
  simp [rd_BodyLook_init, dstart, N_BodyLook_init, Core.d, e1, ix_tup hb, bodyD]
  have n0 : ([] : List (Str × D)).length < 900 := by simp
  refine ⟨up (pf_lt n0) (by decide), up (pf_lt (pf_lt n0)) (by decide), up (pf_lt (pf_lt (pf_lt n0))) (by decide), up (pf_lt (pf_lt (pf_lt (pf_lt n0)))) (by decide), up (pf_lt (pf_lt (pf_lt (pf_lt (pf_lt n0))))) (by decide), fun b hb => ?_⟩
  have hab : a ≠ b := fun e => by subst e; rw [mup_same] at hb; cases hb
  rw [mup_ne hab.symm] at hb
  rw [ins_at (C := C) (p := a) (by rw [mup_ne hab]; exact mup_same)]
  refine ⟨up (pf_lt (pf_lt (pf_lt (pf_lt (pf_lt (pf_lt n0)))))) (by decide), ?_⟩
  rw [fl_made]
  exact k _ b mup_same (by rw [mup_ne hab.symm]; exact mup_same) hab hb fun c h1 h2 => by rw [mup_ne h1, mup_ne h2, mup_ne h1]
def bLook (C : Addr) : DE := dMeth C "is_right" (F_BodyLook_is_right C) (dMake C (F_BodyLook_init C) (dCons (dVar 0) (dCons (dVar 8) dNil))) dNil
theorem looks (h : K.Wf) (M0 : Mh) : ∀ (ns : List Nat) (acc : List D) (M : Mh) (x1 x2 x3 x4 x5 x6 x7 x8 : Option D) (Q : List D → Mh → Prop), (∀ n ∈ ns, n < K.bd.length) → (∀ a o, M0 a = some o → M a = some o) →
    (∀ M', (∀ a o, M0 a = some o → M' a = some o) → Q (acc ++ ns.map fun _ => .bl true) M') →
    lcW (dgName 8) dYes (bLook C) [some K.d, x1, x2, x3, x4, x5, x6, x7, x8] (ns.map nD) acc M Q
  | [], acc, M, x1, x2, x3, x4, x5, x6, x7, x8, Q, _, hM, k => by simpa using k M hM
  | n :: ns, acc, M, x1, x2, x3, x4, x5, x6, x7, x8, Q, hn, hM, k => by
    have hl := hn n List.mem_cons_self
    obtain ⟨x, hx⟩ : ∃ x, K.bd[n]? = some x := ⟨_, List.getElem?_eq_getElem hl⟩
    have ho := h.bd x (List.mem_of_getElem? hx)
    simp [bLook, nD]
    intro a ha
    refine init_ok ha hx fun M' b h1 h2 hab hb hrest => ⟨rfl, ?_⟩
    rw [ins_at h1]
    refine ⟨lookup_no fl_m1, ?_⟩
    have e := sizeLine_eq
    refine is_right_ok (F := ((x.2.1 : Nat) : Int)) h.cok ho.p hab x.2.2 h1 h2 ho.ok ho.nd (fun m hm => by have := ho.bd m hm; omega) (by rw [ho.n]) (by have := ho.sz; omega) (by rw [ho.n]; have := ho.f; omega) fun M2 hM2 => ?_
    refine looks h M0 ns (acc ++ [.bl true]) M2 _ _ _ _ _ _ _ _ Q (fun m hm => hn m (List.mem_cons_of_mem _ hm)) (fun c o hc => ?_) fun M3 h3 => by simpa using k M3 h3
    have hc2 := hM c o hc
    have ca : c ≠ a := ne_m hc2 ha
    have cb : c ≠ b := ne_m hc2 hb
    rw [hM2 c cb, hrest c ca cb]
    exact hc2
theorem core_is_right_ok (h : K.Wf) (k : R (.bl true) M) : F_core_is_right C [K.d] M R := by
  have e := sizeLine_eq
  have h1 := h.tl
  have h2 := h.bl
  have h3 := h.sl
  refine ⟨rfl, ?_⟩
  simp [rd_core_is_right, dstart, N_core_is_right, Core.d]
  have all1 : ∀ {α : Type} (l : List α) {M : Mh} {Q : D → Mh → Prop}, Q (.bl true) M → gAll [.lst (l.map fun _ => D.bl true)] M Q := fun l M Q q => by
    rw [g_all (p := fun _ => true), show (l.all fun _ => true) = true from List.all_eq_true.mpr fun _ _ => rfl]
    exact q
  refine is_row_ok ?_
  simp [show (K.ts.length : Int) ≤ 60 by omega]
  refine is_row_ok ?_
  simp [show (K.bd.length : Int) ≤ 600 by omega]
  refine is_row_ok ?_
  simp [show (K.sg.length : Int) ≤ 60 by omega]
  refine lcW_map (fun _ => .bl true) _ [] (fun x hx ys acc Q' q => ?_) ?_
  · obtain ⟨y, hy, rfl⟩ := List.mem_map.mp hx
    have ho := h.bd y hy
    have := ho.p
    have := ho.f
    simp [bodyD]
    exact is_body_ok (by omega) (by omega) (by omega) (by omega) q
  rw [List.nil_append]
  refine all1 _ ?_
  simp
  refine lcW_map (fun _ => .bl true) _ [] (fun x hx ys acc Q' q => ?_) ?_
  · obtain ⟨y, hy, rfl⟩ := List.mem_map.mp hx
    obtain ⟨t1, t2, p, t3, t4⟩ := h.tb y hy
    simp
    exact is_table_ok K.isBs t1 (by omega) t3 t4 q
  rw [List.nil_append]
  refine all1 _ ?_
  simp
  refine lcW_map (fun _ => .bl true) _ [] (fun x hx ys acc Q' q => ?_) ?_
  · obtain ⟨y, hy, rfl⟩ := List.mem_map.mp hx
    simp [sgD]
    exact is_single_ok K.isBs (h.sg y hy) (by decide +kernel) q
  rw [List.nil_append]
  refine all1 _ ?_
  simp
  refine is_start_ok K.isBs h.mn ?_
  simp
  refine ⟨by omega, ?_⟩
  refine looks h M (List.range K.bd.length) [] M _ _ _ _ _ _ _ _ _ (fun n hn => List.mem_range.mp hn) (fun _ _ q => q) fun M' hM' => ?_
  rw [List.nil_append]
  refine all1 _ ?_
  rw [keep_of hM']
  exact k
end
end K70
set_option maxRecDepth 100000
set_option maxHeartbeats 1000000
namespace K70
open PySem PySem.Spec PyProof.Rows L2 DL
section
variable {M : Mh} {R : D → Mh → Prop} {C : Addr} {K : Core}
theorem need_core_ok (h : K.Wf) (k : R .non M) : F_need_core C [K.d] M R := by
  refine ⟨rfl, ?_⟩
  simp [rd_need_core, dstart, N_need_core]
  refine core_is_right_ok h ?_
  simpa using k
def rowOf (t : List (Str × Nat) × Nat) (z : Str) : Option Nat := (t.1.find? fun r => decide (r.1 = z)).map (·.2)
def optD : Option Nat → D | some n => nD n | none => .non
theorem row_body_ok (t : List (Str × Nat) × Nat) (z : Str) (k : R (optD (rowOf t z)) M) : F_row_body [tabD t, .str z] M R := by
  refine ⟨rfl, ?_⟩
  simp [rd_row_body, dstart, N_row_body, tabD]
  have loop : ∀ (rs : List (Str × Nat)) (x : Option D) (E : DEnds), (∀ r, rs.find? (fun r => decide (r.1 = z)) = some r → E.rt (nD r.2) M) → (rs.find? (fun r => decide (r.1 = z)) = none → ∀ x, E.nx [some (tabD t), some (.str z), x] M) →
      forW (dgName 2) (dIfS (dTst (dOp gEq (dOp gIx (dVar 2) (dC (.int 0))) (dVar 1))) (dRet (dOp gIx (dVar 2) (dC (.int 1)))) dNext) (rs.map rowD) E [some (tabD t), some (.str z), x] M := by
    intro rs
    induction rs with
    | nil => intro x E _ h; exact h rfl x
    | cons r rs ih =>
      intro x E h1 h2
      simp [forW, rowD]
      by_cases e : r.1 = z
      · simp [e]
        exact h1 r (by simp [e])
      · simp [e]
        exact ih _ E (fun q hq => h1 q (by simpa [e] using hq)) (fun hq => h2 (by simpa [e] using hq))
  refine loop t.1 none _ (fun r hr => ?_) (fun hr x => ?_)
  · simp [rowOf, hr, optD] at k ⊢
    exact k
  · simp [rowOf, hr, optD] at k ⊢
    exact k
def bgOf (K : Core) (i : Nat) : Nat := ((K.ts[i]?).map (·.2)).getD 0
def sgAt (K : Core) (i : Nat) : Nat := (K.sg[i]?).getD 0
def rwOf (K : Core) (z : Str) (i : Nat) : Option Nat := (K.ts[i]?).bind (rowOf · z)
def rowsL (K : Core) (md : List Nat) (t : List Str) : List Nat := t.flatMap fun z => md.filterMap (rwOf K z)
def consL (K : Core) (m e s : List Nat) (t : List Str) (md : List Nat) : List Nat := m.map (bgOf K) ++ e ++ s.map (sgAt K) ++ rowsL K md t
theorem nD_int (n : Nat) : nD n = .int ((n : Nat) : Int) := rfl
theorem gCatL_F {xs ys : List D} {Q : D → Mh → Prop} (h : xs.length + ys.length ≤ sizeLine) (q : Q (.lst (xs ++ ys)) M) : gCatL mkF (.lst xs) (.lst ys) M Q := ⟨h, q⟩
theorem gCatL_P {xs ys : List D} {Q : D → Mh → Prop} (h : xs.length + ys.length ≤ sizeLine) (q : ∀ a, M a = none → Q (.ptr a) (mup M a (.lst (xs ++ ys)))) : gCatL mkP (.lst xs) (.lst ys) M Q := ⟨h, q⟩
def bRows : DS := dSeq (dAsg (dLc mkF (dInQ (dVar 2)) (dgName 8) dYes (dCall F_row_body (dCons (dOp gIx (dOp gIx (dVar 0) (dC (.int 0))) (dVar 8)) (dCons (dVar 9) dNil))) [8]) (dgName 10)) (dDrop (dBM gExtend (dVar 7) (dCons (dLc mkF (dInQ (dVar 10)) (dgName 11) (dTst (dOp gNotN (dVar 11) (dC .non))) (dVar 11) [11]) dNil)))
theorem rows_loop {a : Addr} {md : List Nat} {dmd : D} (hmd : dmd = .lst (md.map nD) ∨ dmd = .tup (md.map nD)) (hm : ∀ i ∈ md, i < K.ts.length) (E : DEnds) (x1 x3 x4 x5 x6 : Option D) : ∀ (t : List Str) (fs : List Nat) (M : Mh) (x8 x9 x10 x11 : Option D), M a = some (.lst (fs.map nD)) → fs.length + t.length * md.length ≤ sizeLine →
    (∀ (M' : Mh) (x8 x9 x10 x11 : Option D), M' = mup M a (.lst ((fs ++ rowsL K md t).map nD)) → E.nx [some K.d, x1, some dmd, x3, x4, x5, x6, some (.ptr a), x8, x9, x10, x11] M') →
    forW (dgName 9) bRows (t.map D.str) E [some K.d, x1, some dmd, x3, x4, x5, x6, some (.ptr a), x8, x9, x10, x11] M := by
  intro t
  induction t with
  | nil => intro fs M x8 x9 x10 x11 ha hz k; exact k M x8 x9 x10 x11 (by simp [rowsL, mup_self ha])
  | cons z t ih =>
    intro fs M x8 x9 x10 x11 ha hz k
    have hlen : (md.filterMap (rwOf K z)).length ≤ md.length := List.length_filterMap_le _ _
    have hmul : (t.length + 1) * md.length = t.length * md.length + md.length := Nat.succ_mul _ _
    rw [List.length_cons, hmul] at hz
    have inner : ∀ (Q : List D → Mh → Prop), Q (md.map fun i => optD (rwOf K z i)) M → lcW (dgName 8) dYes (dCall F_row_body (dCons (dOp gIx (dOp gIx (dVar 0) (dC (.int 0))) (dVar 8)) (dCons (dVar 9) dNil))) [some K.d, x1, some dmd, x3, x4, x5, x6, some (.ptr a), none, some (.str z), x10, x11] (md.map nD) [] M Q := fun Q q => by
      refine lcW_map (fun x => match x with | .int i => optD (rwOf K z i.toNat) | _ => .non) _ [] (fun x hx ys acc Q' q => ?_) ?_
      · obtain ⟨i, hi, rfl⟩ := List.mem_map.mp hx
        obtain ⟨tb, htb⟩ : ∃ tb, K.ts[i]? = some tb := ⟨_, List.getElem?_eq_getElem (hm i hi)⟩
        have h1 : (K.ts.map tabD)[i]? = some (tabD tb) := by rw [List.getElem?_map, htb]; rfl
        simp [Core.d, nD, ix_tup h1]
        refine row_body_ok tb z ?_
        have e : rwOf K z i = rowOf tb z := by simp [rwOf, htb]
        simp only [nD, Int.toNat_natCast, e] at q
        exact q
      · rw [List.nil_append, List.map_map]
        exact q
    have fin : ∀ (Q : List D → Mh → Prop) (x9 : Option D), Q ((md.filterMap (rwOf K z)).map nD) M → lcW (dgName 11) (dTst (dOp gNotN (dVar 11) (dC .non))) (dVar 11) [some K.d, x1, some dmd, x3, x4, x5, x6, some (.ptr a), x8, x9, some (.lst (md.map fun i => optD (rwOf K z i))), none] (md.map fun i => optD (rwOf K z i)) [] M Q := fun Q x9 q => by
      refine lcW_opt (fun x => match x with | .non => none | d => some d) _ [] (fun x hx ys acc Q' q => ?_) ?_
      · obtain ⟨i, hi, rfl⟩ := List.mem_map.mp hx
        cases e : rwOf K z i with
        | none => simpa [optD, e] using q
        | some n => simpa [optD, e, nD] using q
      · rw [List.nil_append, List.filterMap_map]
        have e : (md.filterMap ((fun x => match x with | .non => none | d => some d) ∘ fun i => optD (rwOf K z i))) = (md.filterMap (rwOf K z)).map nD := by
          rw [List.map_filterMap]
          refine HT.fm_congr fun i _ => ?_
          cases e : rwOf K z i with
          | none => simp [optD, e]
          | some n => simp [optD, e, nD]
        rw [e]
        exact q
    have step : ∀ M', M' = mup M a (.lst ((fs ++ md.filterMap (rwOf K z)).map nD)) → ∀ x8 x9 x10 x11, forW (dgName 9) bRows (t.map D.str) E [some K.d, x1, some dmd, x3, x4, x5, x6, some (.ptr a), x8, x9, x10, x11] M' := fun M' e x8 x9 x10 x11 => by
      subst e
      refine ih (fs ++ md.filterMap (rwOf K z)) _ _ _ _ _ (by simp) (by rw [List.length_append]; omega) fun M' y8 y9 y10 y11 e => k M' y8 y9 y10 y11 ?_
      rw [e, mup_mup]
      simp [rowsL]
    show (dgName 9 (.str z) [some K.d, x1, some dmd, x3, x4, x5, x6, some (.ptr a), x8, x9, x10, x11] M fun ρ1 M1 => bRows { nx := fun ρ' M' => forW (dgName 9) bRows (t.map D.str) E ρ' M', ct := fun ρ' M' => forW (dgName 9) bRows (t.map D.str) E ρ' M', bk := E.nx, rt := E.rt } ρ1 M1)
    rcases hmd with rfl | rfl
    all_goals
      simp [bRows, isPL_at ha]
      refine inner _ ?_
      simp [isPL_at ha]
      refine fin _ _ ?_
      rw [extend_at ha rfl]
      refine ⟨by simp only [List.length_map]; omega, ?_⟩
      exact step _ (by rw [List.map_append]) _ _ _ _
theorem bodies_asked_ok {m e s : List Nat} {t : List Str} {md : List Nat} {dmd : D} (hmd : dmd = .lst (md.map nD) ∨ dmd = .tup (md.map nD)) (h1 : ∀ i ∈ m, i < K.ts.length) (h2 : ∀ i ∈ s, i < K.sg.length) (h3 : ∀ i ∈ md, i < K.ts.length)
    (hz : m.length + e.length + s.length + t.length * md.length ≤ sizeLine) (k : R (.lst ((consL K m e s t md).map nD)) M) : F_bodies_asked [K.d, askD m e s t, dmd] M R := by
  refine ⟨rfl, ?_⟩
  simp [rd_bodies_asked, dstart, N_bodies_asked, askD]
  refine lcW_map (fun x => match x with | .int i => nD (bgOf K i.toNat) | _ => .non) _ [] (fun x hx ys acc Q' q => ?_) ?_
  · obtain ⟨i, hi, rfl⟩ := List.mem_map.mp hx
    obtain ⟨tb, htb⟩ : ∃ tb, K.ts[i]? = some tb := ⟨_, List.getElem?_eq_getElem (h1 i hi)⟩
    have g1 : (K.ts.map tabD)[i]? = some (tabD tb) := by rw [List.getElem?_map, htb]; rfl
    have e : bgOf K i = tb.2 := by simp [bgOf, htb]
    simp [Core.d, nD, ix_tup g1]
    simp [tabD]
    simpa [nD, e, Core.d] using q
  rw [List.nil_append, List.map_map]
  refine gCatL_F (by simp; omega) ?_
  refine lcW_map (fun x => match x with | .int i => nD (sgAt K i.toNat) | _ => .non) _ [] (fun x hx ys acc Q' q => ?_) ?_
  · obtain ⟨i, hi, rfl⟩ := List.mem_map.mp hx
    obtain ⟨j, hj⟩ : ∃ j, K.sg[i]? = some j := ⟨_, List.getElem?_eq_getElem (h2 i hi)⟩
    have g1 : (K.sg.map sgD)[i]? = some (sgD j) := by rw [List.getElem?_map, hj]; rfl
    have e : sgAt K i = j := by simp [sgAt, hj]
    simp [Core.d, nD, ix_tup g1]
    simp [sgD]
    simpa [nD, e, Core.d] using q
  rw [List.nil_append, List.map_map]
  refine gCatL_P (by simp; omega) fun a ha => ?_
  have e0 : ((m.map ((fun x => match x with | .int i => nD (bgOf K i.toNat) | _ => .non) ∘ nD)) ++ e.map nD ++ s.map ((fun x => match x with | .int i => nD (sgAt K i.toNat) | _ => .non) ∘ nD)) = (m.map (bgOf K) ++ e ++ s.map (sgAt K)).map nD := by
    simp [Function.comp_def, nD]
  rw [e0]
  have hlen : (m.map (bgOf K) ++ e ++ s.map (sgAt K)).length = m.length + e.length + s.length := by simp only [List.length_append, List.length_map]
  have hcons : consL K m e s t md = (m.map (bgOf K) ++ e ++ s.map (sgAt K)) ++ rowsL K md t := rfl
  rw [hcons] at k
  generalize m.map (bgOf K) ++ e ++ s.map (sgAt K) = fs0 at hlen k ⊢
  have loop := fun E x1 x3 x4 x5 x6 => rows_loop (K := K) (a := a) hmd h3 E x1 x3 x4 x5 x6
  rcases hmd with rfl | rfl
  all_goals
    refine loop _ _ _ _ _ _ t fs0 _ _ _ _ _ mup_same (by omega) fun M' x8 x9 x10 x11 e1 => ?_
    subst e1
    simp [mdel_mup ha]
    simpa using k
end
end K70
set_option maxRecDepth 100000
set_option maxHeartbeats 1000000
namespace K70
open PySem PySem.Spec PyProof.Rows L2 DL
structure Ak where
  m : List Nat
  e : List Nat
  s : List Nat
  t : List Str
def Ak.d (a : Ak) : D := askD a.m a.e a.s a.t
/-- what a body asks for, tables T being made -/
def Cs (K : Core) (a : Ak) (T : Nat → Prop) (n : Nat) : Prop := (∃ i ∈ a.m, bgOf K i = n) ∨ n ∈ a.e ∨ (∃ i ∈ a.s, sgAt K i = n) ∨ ∃ z ∈ a.t, ∃ i, T i ∧ rwOf K z i = some n
theorem mem_consL {K : Core} {a : Ak} {md : List Nat} {n : Nat} : n ∈ consL K a.m a.e a.s a.t md ↔ Cs K a (· ∈ md) n := by
  unfold consL rowsL Cs
  simp only [List.mem_append, List.mem_map, List.mem_flatMap, List.mem_filterMap, or_assoc]
def Closed (K : Core) (A : List Ak) (B T : Nat → Prop) : Prop := ∀ i a, B i → A[i]? = some a → (∀ n ∈ a.m, T n) ∧ ∀ n, Cs K a T n → B n
theorem Cs.mono {K : Core} {a : Ak} {T T' : Nat → Prop} {n : Nat} (h : ∀ i, T i → T' i) : Cs K a T n → Cs K a T' n := by
  rintro (x | x | x | ⟨z, hz, i, hi, e⟩)
  · exact .inl x
  · exact .inr (.inl x)
  · exact .inr (.inr (.inl x))
  · exact .inr (.inr (.inr ⟨z, hz, i, h i hi, e⟩))
/-- the asks of the bodies -/
structure AkOk (K : Core) (x : Nat × Nat × Co) (a : Ak) : Prop where
  asks : Asks x.2.2 a.m a.e a.s a.t
  lm : a.m.length ≤ 100000
  le : a.e.length ≤ 100000
  ls : a.s.length ≤ 100000
  lt : a.t.length ≤ 100000
inductive AkAll (K : Core) : List (Nat × Nat × Co) → List Ak → Prop
  | nil : AkAll K [] []
  | cons {x : Nat × Nat × Co} {a : Ak} {xs : List (Nat × Nat × Co)} {as : List Ak} (h : AkOk K x a) (t : AkAll K xs as) : AkAll K (x :: xs) (a :: as)
theorem AkAll.len {K : Core} : ∀ {xs : List (Nat × Nat × Co)} {as : List Ak}, AkAll K xs as → as.length = xs.length
  | _, _, .nil => rfl
  | _, _, .cons _ t => by rw [List.length_cons, List.length_cons, t.len]
theorem AkAll.at_ {K : Core} : ∀ {xs : List (Nat × Nat × Co)} {as : List Ak} {i : Nat} {a : Ak}, AkAll K xs as → as[i]? = some a → ∃ x, xs[i]? = some x ∧ AkOk K x a
  | _, _, i, a, .nil, h => by simp at h
  | _, _, 0, a, .cons h _, e => by simp at e; subst e; exact ⟨_, rfl, h⟩
  | _, _, i + 1, a, .cons _ t, e => by
    obtain ⟨x, h1, h2⟩ := t.at_ (i := i) (a := a) (by simpa using e)
    exact ⟨x, by simpa using h1, h2⟩
/-- all that is asked for is there -/
theorem okc_sub {K : Cp} {P : Int} {x c : Co} (s : Sub x c) : ∀ {may : Bool} {w : Nat}, Okc K P may w c → ∃ may' w', Okc K P may' w' x := by
  induction s with
  | self => intro may w h; exact ⟨_, _, h⟩
  | kid h hk ih =>
    intro may w ho
    obtain ⟨_, _, hkk⟩ := ho
    exact ih (hkk _ hk)
theorem ask_m {K : Core} {x : Nat × Nat × Co} {a : Ak} (hb : BodyOk K x) (h : AkOk K x a) {n : Nat} (hn : n ∈ a.m) : n < K.ts.length := by
  obtain ⟨d, hd, e⟩ := (h.asks.m n).mp hn
  obtain ⟨may, w, ⟨_, hf, _⟩⟩ := okc_sub hd hb.ok
  cases d <;> simp [makOf] at e
  subst e
  obtain ⟨t, h1, _⟩ := hf
  exact (List.getElem?_eq_some_iff.mp h1).1
theorem ask_s {K : Core} {x : Nat × Nat × Co} {a : Ak} (hb : BodyOk K x) (h : AkOk K x a) {n : Nat} (hn : n ∈ a.s) : n < K.sg.length := by
  obtain ⟨d, hd, e⟩ := (h.asks.s n).mp hn
  obtain ⟨may, w, ⟨_, hf, _⟩⟩ := okc_sub hd hb.ok
  cases d <;> simp [sgOf] at e
  subst e
  have hf : _ < (K.sg.map sgD).length := hf
  simpa using hf
theorem ask_e {K : Core} {x : Nat × Nat × Co} {a : Ak} (hb : BodyOk K x) (h : AkOk K x a) {n : Nat} (hn : n ∈ a.e) : n < K.bd.length := by
  obtain ⟨d, hd, e⟩ := (h.asks.e n).mp hn
  obtain ⟨may, w, ⟨_, hf, _⟩⟩ := okc_sub hd hb.ok
  cases d <;> simp [dirOf] at e
  subst e
  have hf : (K.bd.map fun x => ((x.1 : Nat) : Int))[_]? = some _ := hf
  have := (List.getElem?_eq_some_iff.mp hf).1
  simpa using this
section
variable {M : Mh} {R : D → Mh → Prop} {C : Addr} {K : Core}
theorem asks_lc (ρ : DV) (h2 : ρ.length = 9) : ∀ (xs : List (Nat × Nat × Co)) (acc : List D) (Q : List D → Mh → Prop), (∀ x ∈ xs, BodyOk K x) → (∀ A, AkAll K xs A → Q (acc ++ A.map Ak.d) M) → lcW (dgName 2) dYes (dCall F_asked_in (dCons (dOp gIx (dVar 2) (dC (.int 2))) dNil)) ρ (xs.map bodyD) acc M Q
  | [], acc, Q, _, k => by simpa using k [] .nil
  | x :: xs, acc, Q, hx, k => by
    have e : lk (ρ.set 2 (some (bodyD x))) 2 = some (bodyD x) := by
      match ρ, h2 with
      | [_, _, _, _, _, _, _, _, _], _ => rfl
    have hb := hx x List.mem_cons_self
    have hz := hb.sz
    have hs := sizeLine_eq
    rw [List.map_cons]
    simp only [s_lcWS, s_gname, s_yes, if_true, s_call, s_cons, s_op, s_var e, s_C, s_nil]
    have e2 : ∀ (Q : D → Mh → Prop), gIx (bodyD x) (.int 2) M Q = Q x.2.2.d M := fun Q => ixT2
    rw [e2]
    refine asked_in_ok x.2.2 (by omega) fun m e' s t ha l1 l2 l3 l4 => ?_
    refine asks_lc ρ h2 xs _ Q (fun y hy => hx y (List.mem_cons_of_mem _ hy)) fun A hA => ?_
    have := k (⟨m, e', s, t⟩ :: A) (.cons ⟨ha, by show m.length ≤ _; omega, by show e'.length ≤ _; omega, by show s.length ≤ _; omega, by show t.length ≤ _; omega⟩ hA)
    simpa [Ak.d] using this
def insA (l : List Nat) (n : Nat) : List Nat := if n ∈ l then l else l ++ [n]
def insAll (l ns : List Nat) : List Nat := ns.foldl insA l
theorem mem_insA {l : List Nat} {n x : Nat} : x ∈ insA l n ↔ x ∈ l ∨ x = n := by
  unfold insA
  split
  · rename_i h
    constructor
    · exact .inl
    · rintro (h' | rfl)
      · exact h'
      · exact h
  · simp
theorem mem_insAll {x : Nat} : ∀ {ns l : List Nat}, x ∈ insAll l ns ↔ x ∈ l ∨ x ∈ ns
  | [], l => by simp [insAll]
  | n :: ns, l => by
    show x ∈ insAll (insA l n) ns ↔ _
    rw [mem_insAll, mem_insA, List.mem_cons, or_assoc]
theorem nodup_insA {l : List Nat} {n : Nat} (h : l.Nodup) : (insA l n).Nodup := by
  unfold insA
  split
  · exact h
  · rename_i hn
    rw [List.nodup_append]
    refine ⟨h, by simp, fun a ha b hb e => ?_⟩
    have : b = n := by simpa using hb
    subst this
    subst e
    exact hn ha
theorem nodup_insAll : ∀ {ns l : List Nat}, l.Nodup → (insAll l ns).Nodup
  | [], l, h => h
  | n :: ns, l, h => nodup_insAll (ns := ns) (nodup_insA h)
theorem pre_insA (l : List Nat) (n : Nat) : ∃ r, insA l n = l ++ r := by
  unfold insA
  split
  · exact ⟨[], by simp⟩
  · exact ⟨[n], rfl⟩
theorem pre_insAll : ∀ (ns l : List Nat), ∃ r, insAll l ns = l ++ r
  | [], l => ⟨[], by simp [insAll]⟩
  | n :: ns, l => by
    obtain ⟨r, e⟩ := pre_insA l n
    obtain ⟨r2, e2⟩ := pre_insAll ns (insA l n)
    exact ⟨r ++ r2, by show insAll (insA l n) ns = _; rw [e2, e, List.append_assoc]⟩
theorem len_insA (l : List Nat) (n : Nat) : (insA l n).length ≤ l.length + 1 := by unfold insA; split <;> simp
theorem len_insAll : ∀ (ns l : List Nat), (insAll l ns).length ≤ l.length + ns.length
  | [], l => by simp [insAll]
  | n :: ns, l => by
    have h1 := len_insA l n
    have h2 := len_insAll ns (insA l n)
    show (insAll (insA l n) ns).length ≤ _
    simp only [List.length_cons]
    omega
theorem putD_bnd (l : List Nat) (n : Nat) : putD (bndD l) (.inl ((n : Nat) : Int)) (.bl true) = bndD (insA l n) := by
  unfold putD insA
  rw [hasK_bnd]
  by_cases h : n ∈ l
  · simp only [h, decide_true, if_true]
    unfold bndD
    rw [List.map_map]
    refine List.map_congr_left fun m _ => ?_
    simp only [Function.comp]
    split <;> simp_all
  · simp only [h, decide_false, if_false, Bool.false_eq_true]
    simp [bndD]
theorem listK_at {a : Addr} {l : List Nat} {M : Mh} {Q : D → Mh → Prop} (h : M a = some (.dic (bndD l))) : gListK mkF [.ptr a] M Q = Q (.lst (l.map nD)) M := by
  have e : (bndD l).map (fun p => keyD' p.1) = l.map nD := by
    unfold bndD
    rw [List.map_map]
    rfl
  simp only [gListK, asK, mdic_at h, e, s_mkF]
theorem put4 {a : Addr} (E : DEnds) (x0 x1 x2 x3 x5 x6 : Option D) : ∀ (ns l : List Nat) (M : Mh) (x7 x8 : Option D), M a = some (.dic (bndD l)) → l.length + ns.length < sizeLine →
    (∀ M' x7 x8, M' = mup M a (.dic (bndD (insAll l ns))) → E.nx [x0, x1, x2, x3, some (.ptr a), x5, x6, x7, x8] M') → forW (dgName 7) (dSPut (dVar 4) (dVar 7) (dC (.bl true))) (ns.map nD) E [x0, x1, x2, x3, some (.ptr a), x5, x6, x7, x8] M
  | [], l, M, x7, x8, h, hz, k => k M x7 x8 (by rw [show insAll l [] = l from rfl, mup_self h])
  | n :: ns, l, M, x7, x8, h, hz, k => by
    simp only [List.length_cons] at hz
    simp [forW, nD, mdic_at h, putD_bnd]
    refine ⟨by simp only [bndD, List.length_map]; omega, ?_⟩
    have := len_insA l n
    exact put4 E x0 x1 x2 x3 x5 x6 ns (insA l n) _ _ _ mup_same (by omega) fun M' y7 y8 e => k M' y7 y8 (by rw [e, mup_mup]; rfl)
theorem put3 {a : Addr} (E : DEnds) (x0 x1 x2 x4 x5 x6 x7 : Option D) : ∀ (ns l : List Nat) (M : Mh) (x8 : Option D), M a = some (.dic (bndD l)) → l.length + ns.length < sizeLine →
    (∀ M' x8, M' = mup M a (.dic (bndD (insAll l ns))) → E.nx [x0, x1, x2, some (.ptr a), x4, x5, x6, x7, x8] M') → forW (dgName 8) (dSPut (dVar 3) (dVar 8) (dC (.bl true))) (ns.map nD) E [x0, x1, x2, some (.ptr a), x4, x5, x6, x7, x8] M
  | [], l, M, x8, h, hz, k => k M x8 (by rw [show insAll l [] = l from rfl, mup_self h])
  | n :: ns, l, M, x8, h, hz, k => by
    simp only [List.length_cons] at hz
    simp [forW, nD, mdic_at h, putD_bnd]
    refine ⟨by simp only [bndD, List.length_map]; omega, ?_⟩
    have := len_insA l n
    exact put3 E x0 x1 x2 x4 x5 x6 x7 ns (insA l n) _ _ mup_same (by omega) fun M' y8 e => k M' y8 (by rw [e, mup_mup]; rfl)
end
end K70
set_option maxRecDepth 100000
set_option maxHeartbeats 1000000
namespace K70
open PySem PySem.Spec PyProof.Rows L2 DL
section
variable {M : Mh} {R : D → Mh → Prop} {C : Addr} {K : Core} {A : List Ak}
theorem ps_lt {n : Nat} {p : Int} (h : K.cp.ps[n]? = some p) : n < K.bd.length := by
  have := (List.getElem?_eq_some_iff.mp h).1
  simpa [Core.cp] using this
theorem cs_lt (h : K.Wf) (hA : AkAll K K.bd A) {i : Nat} {a : Ak} (ha : A[i]? = some a) {T : Nat → Prop} (hT : ∀ n, T n → n < K.ts.length) {n : Nat} (hc : Cs K a T n) : n < K.bd.length := by
  obtain ⟨x, hx, ho⟩ := hA.at_ ha
  have hb := h.bd x (List.mem_of_getElem? hx)
  rcases hc with ⟨j, hj, rfl⟩ | hj | ⟨j, hj, rfl⟩ | ⟨z, hz, j, hj, e⟩
  · have hl := ask_m hb ho hj
    have e1 : K.ts[j]? = some K.ts[j] := List.getElem?_eq_getElem hl
    obtain ⟨_, _, p, hp, _⟩ := h.tb K.ts[j] (List.getElem_mem hl)
    simp only [bgOf, e1, Option.map_some, Option.getD_some]
    exact ps_lt hp
  · exact ask_e hb ho hj
  · have hl := ask_s hb ho hj
    have e1 : K.sg[j]? = some K.sg[j] := List.getElem?_eq_getElem hl
    simp only [sgAt, e1, Option.getD_some]
    exact ps_lt (h.sg _ (List.getElem_mem hl))
  · have hl := hT j hj
    have e1 : K.ts[j]? = some K.ts[j] := List.getElem?_eq_getElem hl
    simp only [rwOf, e1, Option.bind_some] at e
    unfold rowOf at e
    rw [Option.map_eq_some_iff] at e
    obtain ⟨r, hr, rfl⟩ := e
    obtain ⟨_, p, hp, _⟩ := (h.tb K.ts[j] (List.getElem_mem hl)).1.1 r (List.mem_of_find?_eq_some hr)
    exact ps_lt hp
theorem nodup_le : ∀ {n : Nat} {l : List Nat}, l.Nodup → (∀ x ∈ l, x < n) → l.length ≤ n
  | 0, l, _, hl => by
    cases l with
    | nil => simp
    | cons x r => exact absurd (hl x List.mem_cons_self) (Nat.not_lt_zero _)
  | n + 1, l, h, hl => by
    by_cases hn : n ∈ l
    · have h1 : (l.erase n).Nodup := h.sublist List.erase_sublist
      have h2 := List.length_erase_of_mem hn
      have := nodup_le (n := n) h1 fun x hx => by
        have hx2 := hl x (List.mem_of_mem_erase hx)
        have : x ≠ n := fun e => by subst e; exact (h.not_mem_erase) hx
        omega
      have hp := List.length_pos_of_mem hn
      omega
    · have := nodup_le (n := n) h fun x hx => by
        have hx2 := hl x hx
        have : x ≠ n := fun e => by subst e; exact hn hx
        omega
      omega
theorem rowsL_len (K : Core) (md : List Nat) : ∀ t : List Str, (rowsL K md t).length ≤ t.length * md.length
  | [] => by simp [rowsL]
  | z :: t => by
    have h1 := rowsL_len K md t
    have h2 : (md.filterMap (rwOf K z)).length ≤ md.length := List.length_filterMap_le _ _
    have e : rowsL K md (z :: t) = md.filterMap (rwOf K z) ++ rowsL K md t := by simp [rowsL]
    rw [e, List.length_append, List.length_cons, Nat.succ_mul]
    omega
structure Gd (K : Core) (bl tl : List Nat) : Prop where
  b : bl.Nodup
  t : tl.Nodup
  bl : ∀ n ∈ bl, n < K.bd.length
  tl : ∀ n ∈ tl, n < K.ts.length
def bRound : DS := dSeq (dFor (dInQ (dOp gIx (dOp gIx (dVar 1) (dVar 6)) (dC (.int 0)))) (dgName 7) (dSPut (dVar 4) (dVar 7) (dC (.bl true)))) (dFor (dInQ (dCall F_bodies_asked (dCons (dVar 0) (dCons (dOp gIx (dVar 1) (dVar 6)) (dCons (dCB (gListK mkF) (dCons (dVar 4) dNil)) dNil))))) (dgName 8) (dSPut (dVar 3) (dVar 8) (dC (.bl true))))
theorem round_loop (h : K.Wf) (hA : AkAll K K.bd A) {b t : Addr} (hbt : b ≠ t) (E : DEnds) (x2 x5 : Option D) : ∀ (ns bl tl : List Nat) (M : Mh) (x6 x7 x8 : Option D), M b = some (.dic (bndD bl)) → M t = some (.dic (bndD tl)) → Gd K bl tl → (∀ n ∈ ns, n < K.bd.length) →
    (∀ (bl' tl' : List Nat) (M' : Mh) (x6 x7 x8 : Option D), M' b = some (.dic (bndD bl')) → M' t = some (.dic (bndD tl')) → (∀ a, a ≠ b → a ≠ t → M' a = M a) → Gd K bl' tl' → (∃ r, bl' = bl ++ r) → (∃ r, tl' = tl ++ r) →
      (∀ B T : Nat → Prop, Closed K A B T → (∀ n ∈ bl, B n) → (∀ n ∈ tl, T n) → (∀ n ∈ ns, B n) → (∀ n ∈ bl', B n) ∧ ∀ n ∈ tl', T n) →
      (∀ i ∈ ns, ∀ a, A[i]? = some a → (∀ n ∈ a.m, n ∈ tl') ∧ ∀ n, Cs K a (· ∈ tl) n → n ∈ bl') → E.nx [some K.d, some (.lst (A.map Ak.d)), x2, some (.ptr b), some (.ptr t), x5, x6, x7, x8] M') →
    forW (dgName 6) bRound (ns.map nD) E [some K.d, some (.lst (A.map Ak.d)), x2, some (.ptr b), some (.ptr t), x5, x6, x7, x8] M := by
  intro ns
  induction ns with
  | nil => intro bl tl M x6 x7 x8 hb ht g _ k; exact k bl tl M x6 x7 x8 hb ht (fun _ _ _ => rfl) g ⟨[], by simp⟩ ⟨[], by simp⟩ (fun B T _ h1 h2 _ => ⟨h1, h2⟩) (by simp)
  | cons n ns ih =>
    intro bl tl M x6 x7 x8 hb ht g hn k
    have hnl := hn n List.mem_cons_self
    have hAl := hA.len
    obtain ⟨a, ha⟩ : ∃ a, A[n]? = some a := ⟨A[n]'(by rw [hAl]; exact hnl), List.getElem?_eq_getElem _⟩
    obtain ⟨x, hx, ho⟩ := hA.at_ ha
    have hbx := h.bd x (List.mem_of_getElem? hx)
    have gi : (A.map Ak.d)[n]? = some (Ak.d a) := by rw [List.getElem?_map, ha]; rfl
    have hs := sizeLine_eq
    have lb := nodup_le g.b g.bl
    have lt' := nodup_le g.t g.tl
    have h1 := h.tl
    have h2 := h.bl
    have o1 := ho.lm
    have o2 := ho.le
    have o3 := ho.ls
    have o4 := ho.lt
    show (dgName 6 (nD n) [some K.d, some (.lst (A.map Ak.d)), x2, some (.ptr b), some (.ptr t), x5, x6, x7, x8] M fun ρ1 M1 => bRound { nx := fun ρ' M' => forW (dgName 6) bRound (ns.map nD) E ρ' M', ct := fun ρ' M' => forW (dgName 6) bRound (ns.map nD) E ρ' M', bk := E.nx, rt := E.rt } ρ1 M1)
    simp [bRound, nD_int, ix_lst gi]
    simp [Ak.d, askD]
    refine put4 (a := t) _ _ _ _ _ _ _ a.m tl M _ _ ht (by omega) fun M1 y7 y8 e1 => ?_
    have lt2 := len_insAll a.m tl
    have gt2 : ∀ m ∈ insAll tl a.m, m < K.ts.length := fun m hm => by
      rcases mem_insAll.mp hm with q | q
      · exact g.tl m q
      · exact ask_m hbx ho q
    have nt2 : (insAll tl a.m).Nodup := nodup_insAll g.t
    have lt3 := nodup_le nt2 gt2
    have hM1t : M1 t = some (.dic (bndD (insAll tl a.m))) := by rw [e1]; exact mup_same
    have hM1b : M1 b = some (.dic (bndD bl)) := by rw [e1, mup_ne hbt]; exact hb
    have hmul : a.t.length * (insAll tl a.m).length ≤ 100000 * 60 := Nat.mul_le_mul o4 (by omega)
    simp [ix_lst gi, listK_at hM1t]
    have ba := fun R => bodies_asked_ok (R := R) (M := M1) (K := K) (m := a.m) (e := a.e) (s := a.s) (t := a.t) (md := insAll tl a.m) (dmd := .lst ((insAll tl a.m).map nD)) (.inl rfl) (fun i hi => ask_m hbx ho hi) (fun i hi => ask_s hbx ho hi) gt2
    refine ba _ (by omega) ?_
    simp
    have lc : (consL K a.m a.e a.s a.t (insAll tl a.m)).length ≤ 300000 + 6000000 := by
      have := rowsL_len K (insAll tl a.m) a.t
      unfold consL
      simp only [List.length_append, List.length_map]
      omega
    refine put3 (a := b) _ _ _ _ _ _ _ _ (consL K a.m a.e a.s a.t (insAll tl a.m)) bl M1 _ hM1b (by omega) fun M2 y8 e2 => ?_
    have mc : ∀ m, m ∈ consL K a.m a.e a.s a.t (insAll tl a.m) ↔ Cs K a (· ∈ insAll tl a.m) m := fun m => mem_consL
    generalize hcl : consL K a.m a.e a.s a.t (insAll tl a.m) = cl at *
    refine ih (insAll bl cl) (insAll tl a.m) M2 _ _ _ (by rw [e2]; exact mup_same) (by rw [e2, mup_ne hbt.symm]; exact hM1t) ⟨nodup_insAll g.b, nt2, fun m hm => ?_, gt2⟩ (fun m hm => hn m (List.mem_cons_of_mem _ hm)) ?_
    · rcases mem_insAll.mp hm with q | q
      · exact g.bl m q
      · exact cs_lt h hA ha (fun j hj => gt2 j hj) ((mc m).mp q)
    · intro bl' tl' M' z6 z7 z8 q1 q2 q3 q4 q5 q6 q7 q8
      obtain ⟨r1, w1⟩ := pre_insAll cl bl
      obtain ⟨r2, w2⟩ := pre_insAll a.m tl
      obtain ⟨r3, w3⟩ := q5
      obtain ⟨r4, w4⟩ := q6
      have sb : ∀ m, m ∈ insAll bl cl → m ∈ bl' := fun m hm => by rw [w3]; exact List.mem_append_left _ hm
      have st : ∀ m, m ∈ insAll tl a.m → m ∈ tl' := fun m hm => by rw [w4]; exact List.mem_append_left _ hm
      refine k bl' tl' M' z6 z7 z8 q1 q2 (fun c c1 c2 => by rw [q3 c c1 c2, e2, mup_ne c1, e1, mup_ne c2]) q4 ⟨r1 ++ r3, by rw [w3, w1, List.append_assoc]⟩ ⟨r2 ++ r4, by rw [w4, w2, List.append_assoc]⟩ (fun B T hc u1 u2 u3 => ?_) (fun i hi a' ha' => ?_)
      · have cn := hc n a (u3 n List.mem_cons_self) ha
        have u4 : ∀ m ∈ insAll tl a.m, T m := fun m hm => by
          rcases mem_insAll.mp hm with q | q
          · exact u2 m q
          · exact cn.1 m q
        refine q7 B T hc (fun m hm => ?_) u4 fun m hm => u3 m (List.mem_cons_of_mem _ hm)
        rcases mem_insAll.mp hm with q | q
        · exact u1 m q
        · exact cn.2 m (((mc m).mp q).mono u4)
      · rcases List.mem_cons.mp hi with rfl | hi
        · rw [ha] at ha'
          cases ha'
          exact ⟨fun m hm => st m (mem_insAll.mpr (.inr hm)), fun m hm => sb m (mem_insAll.mpr (.inr ((mc m).mpr (hm.mono fun j hj => mem_insAll.mpr (.inl hj)))))⟩
        · obtain ⟨v1, v2⟩ := q8 i hi a' ha'
          exact ⟨v1, fun m hm => v2 m (hm.mono fun j hj => mem_insAll.mpr (.inl hj))⟩
end
end K70
set_option maxRecDepth 100000
set_option maxHeartbeats 1000000
namespace K70
open PySem PySem.Spec PyProof.Rows L2 DL
section
variable {M : Mh} {R : D → Mh → Prop} {C : Addr} {K : Core} {A : List Ak}
def bWh : DS := dSeq (dAsg (dOp gAdd (dCB gLen (dCons (dVar 3) dNil)) (dCB gLen (dCons (dVar 4) dNil))) (dgName 5)) (dFor (dInQ (dCB (gListK mkF) (dCons (dVar 3) dNil))) (dgName 6) bRound)
def tWh : DT := dTst (dOp gNe (dVar 5) (dOp gAdd (dCB gLen (dCons (dVar 3) dNil)) (dCB gLen (dCons (dVar 4) dNil))))
theorem bnd_len (l : List Nat) : (bndD l).length = l.length := by simp [bndD]
theorem reach_while (h : K.Wf) (hA : AkAll K K.bd A) {b t : Addr} (hbt : b ≠ t) (E : DEnds) (x2 : Option D) : ∀ (n : Nat) (bl tl : List Nat) (c : Int) (M : Mh) (x6 x7 x8 : Option D), M b = some (.dic (bndD bl)) → M t = some (.dic (bndD tl)) → Gd K bl tl →
    (c = ((bl.length + tl.length : Nat) : Int) → Closed K A (· ∈ bl) (· ∈ tl)) → 2 * (K.bd.length + K.ts.length - (bl.length + tl.length)) + (if c = ((bl.length + tl.length : Nat) : Int) then 0 else 1) < n →
    (∀ (bl' tl' : List Nat) (M' : Mh) (x5 x6 x7 x8 : Option D), M' b = some (.dic (bndD bl')) → M' t = some (.dic (bndD tl')) → (∀ a, a ≠ b → a ≠ t → M' a = M a) → Gd K bl' tl' → (∃ r, bl' = bl ++ r) → (∃ r, tl' = tl ++ r) →
      (∀ B T : Nat → Prop, Closed K A B T → (∀ n ∈ bl, B n) → (∀ n ∈ tl, T n) → (∀ n ∈ bl', B n) ∧ ∀ n ∈ tl', T n) → Closed K A (· ∈ bl') (· ∈ tl') → E.nx [some K.d, some (.lst (A.map Ak.d)), x2, some (.ptr b), some (.ptr t), x5, x6, x7, x8] M') →
    whileN tWh bWh n E [some K.d, some (.lst (A.map Ak.d)), x2, some (.ptr b), some (.ptr t), some (.int c), x6, x7, x8] M := by
  intro n
  induction n with
  | zero => intro bl tl c M x6 x7 x8 _ _ _ _ hn; omega
  | succ n ih =>
    intro bl tl c M x6 x7 x8 hb ht g hc hn k
    have ec : ((bl.length : Int) + (tl.length : Int)) = ((bl.length + tl.length : Nat) : Int) := by omega
    unfold whileN
    simp [tWh, s_lenPD hb, s_lenPD ht, bnd_len]
    rw [ec]
    by_cases e : c = ((bl.length + tl.length : Nat) : Int)
    · rw [if_pos e]
      exact k bl tl M _ _ _ _ hb ht (fun _ _ _ => rfl) g ⟨[], by simp⟩ ⟨[], by simp⟩ (fun B T _ u1 u2 => ⟨u1, u2⟩) (hc e)
    · rw [if_neg e]
      rw [if_neg e] at hn
      simp [bWh, s_lenPD hb, s_lenPD ht, bnd_len, listK_at hb]
      rw [ec]
      refine round_loop h hA hbt _ _ _ bl bl tl M _ _ _ hb ht g g.bl fun bl' tl' M' y6 y7 y8 q1 q2 q3 q4 q5 q6 q7 q8 => ?_
      obtain ⟨r1, w1⟩ := q5
      obtain ⟨r2, w2⟩ := q6
      have l1 : bl'.length = bl.length + r1.length := by rw [w1, List.length_append]
      have l2 : tl'.length = tl.length + r2.length := by rw [w2, List.length_append]
      have b1 := nodup_le q4.b q4.bl
      have b2 := nodup_le q4.t q4.tl
      refine ih bl' tl' _ M' _ _ _ q1 q2 q4 (fun e2 => ?_) ?_ fun bl2 tl2 M2 z5 z6 z7 z8 p1 p2 p3 p4 p5 p6 p7 p8 => ?_
      · have r1n : r1 = [] := List.length_eq_zero_iff.mp (by omega)
        have r2n : r2 = [] := List.length_eq_zero_iff.mp (by omega)
        subst r1n
        subst r2n
        rw [List.append_nil] at w1 w2
        subst w1
        subst w2
        exact fun i a hi ha => q8 i hi a ha
      · split <;> omega
      · obtain ⟨r3, w3⟩ := p5
        obtain ⟨r4, w4⟩ := p6
        exact k bl2 tl2 M2 z5 z6 z7 z8 p1 p2 (fun a a1 a2 => by rw [p3 a a1 a2, q3 a a1 a2]) p4 ⟨r1 ++ r3, by rw [w3, w1, List.append_assoc]⟩ ⟨r2 ++ r4, by rw [w4, w2, List.append_assoc]⟩ (fun B T hcl u1 u2 => by
          obtain ⟨v1, v2⟩ := q7 B T hcl u1 u2 u1
          exact p7 B T hcl v1 v2) p8
theorem sorted_ok {l : List Nat} (hn : l.Nodup) (hl : l.length < 64) {Q : D → Mh → Prop} (k : ∀ bs : List Nat, bs.Perm l → bs.Pairwise (· < ·) → Q (.lst (bs.map nD)) M) : gSorted mkF [.lst (l.map nD)] M Q := by
  have e : l.map nD = (l.map fun n => ((n : Nat) : Int)).map D.int := by rw [List.map_map]; rfl
  rw [e]
  unfold gSorted oneLS asLS onI
  simp only [DL.ints_map, List.length_map]
  refine ⟨hl, fun cs hp hs => ?_⟩
  have hnn : ∀ c ∈ cs, 0 ≤ c := fun c hc => by
    obtain ⟨n, _, rfl⟩ := List.mem_map.mp (hp.subset hc)
    omega
  have ecs : cs.map D.int = (cs.map Int.toNat).map nD := by
    rw [List.map_map]
    refine List.map_congr_left fun c hc => ?_
    have := hnn c hc
    show D.int c = D.int ((c.toNat : Nat) : Int)
    rw [Int.toNat_of_nonneg this]
  have hp2 : (cs.map Int.toNat).Perm l := by
    have := hp.map Int.toNat
    rw [List.map_map] at this
    have e2 : l.map (Int.toNat ∘ fun n => ((n : Nat) : Int)) = l := by
      conv => rhs; rw [← List.map_id l]
      exact List.map_congr_left fun n _ => by simp
    rw [e2] at this
    exact this
  rw [ecs]
  refine k _ hp2 ?_
  have nd : (cs.map Int.toNat).Nodup := hp2.nodup_iff.mpr hn
  have hle : (cs.map Int.toNat).Pairwise (· ≤ ·) := by
    rw [List.pairwise_map]
    exact hs.imp_of_mem fun {a b} ha hb hab => by have := hnn a ha; have := hnn b hb; omega
  exact (hle.and nd).imp fun {a b} hab => by have := hab.1; have := hab.2; omega
/-- the least closed pair with main -/
structure Lst (K : Core) (A : List Ak) (bl tl : List Nat) : Prop where
  sb : bl.Pairwise (· < ·)
  st : tl.Pairwise (· < ·)
  g : Gd K bl tl
  main : K.main ∈ bl
  cl : Closed K A (· ∈ bl) (· ∈ tl)
  least : ∀ B T : Nat → Prop, Closed K A B T → B K.main → (∀ n ∈ bl, B n) ∧ ∀ n ∈ tl, T n
theorem Closed.congr {B B' T T' : Nat → Prop} (hB : ∀ n, B n ↔ B' n) (hT : ∀ n, T n ↔ T' n) (h : Closed K A B T) : Closed K A B' T' := fun i a hi ha => by
  obtain ⟨h1, h2⟩ := h i a ((hB i).mpr hi) ha
  exact ⟨fun n hn => (hT n).mp (h1 n hn), fun n hn => (hB n).mp (h2 n (hn.mono fun j hj => (hT j).mpr hj))⟩
theorem reach_in_ok (h : K.Wf) (k : ∀ A bl tl, AkAll K K.bd A → Lst K A bl tl → R (.tup [.lst (bl.map nD), .lst (tl.map nD)]) M) : F_reach_in [K.d] M R := by
  refine ⟨rfl, ?_⟩
  simp [rd_reach_in, dstart, N_reach_in]
  have e1 : ∀ (Q : D → Mh → Prop), gIx K.d (.int 1) M Q = Q (.tup (K.bd.map bodyD)) M := fun Q => ixT1
  rw [e1]
  simp
  refine asks_lc _ rfl K.bd [] _ h.bd fun A hA => ?_
  simp
  have e2 : ∀ {M : Mh} (Q : D → Mh → Prop), gIx K.d (.int 3) M Q = Q (nD K.main) M := fun {M} Q => ixT3
  rw [e2]
  simp [nD_int]
  intro b hb t ht
  have hbt : b ≠ t := fun e => by subst e; rw [mup_same] at ht; cases ht
  have htM : M t = none := by rw [mup_ne hbt.symm] at ht; exact ht
  have hmain := ps_lt h.mn
  have e0 : (([(Sum.inl ((K.main : Nat) : Int), D.bl true)] : List (Key × D))) = bndD [K.main] := rfl
  have e00 : ([] : List (Key × D)) = bndD [] := rfl
  rw [e0, e00]
  refine ⟨2 * (K.bd.length + K.ts.length) + 2, reach_while h hA hbt _ _ _ [K.main] [] (-1) _ _ _ _ (by rw [mup_ne hbt]; exact mup_same) mup_same ⟨by simp, by simp, by simpa using hmain, by simp⟩ (fun e => by simp at e) (by split <;> omega) fun bl tl M' x5 x6 x7 x8 q1 q2 q3 q4 q5 q6 q7 q8 => ?_⟩
  have b1 := nodup_le q4.b q4.bl
  have b2 := nodup_le q4.t q4.tl
  have w1 := h.tl
  have w2 := h.bl
  simp [listK_at q1, listK_at q2]
  refine sorted_ok q4.b (by omega) fun bs p1 s1 => ?_
  simp [listK_at q2]
  refine sorted_ok q4.t (by omega) fun ts p2 s2 => ?_
  rw [keep_of]
  · obtain ⟨r, e5⟩ := q5
    exact k A bs ts hA ⟨s1, s2, ⟨p1.nodup_iff.mpr q4.b, p2.nodup_iff.mpr q4.t, fun n hn => q4.bl n (p1.subset hn), fun n hn => q4.tl n (p2.subset hn)⟩, p1.symm.subset (by rw [e5]; simp), q8.congr (fun n => ⟨fun q => p1.symm.subset q, fun q => p1.subset q⟩) (fun n => ⟨fun q => p2.symm.subset q, fun q => p2.subset q⟩),
      fun B T hc hm => by
        obtain ⟨v1, v2⟩ := q7 B T hc (by simpa using hm) (by simp)
        exact ⟨fun n hn => v1 n (p1.subset hn), fun n hn => v2 n (p2.subset hn)⟩⟩
  · intro a o ha
    have a1 := ne_m ha hb
    have a2 := ne_m ha htM
    rw [q3 a a1 a2, mup_ne a2, mup_ne a1]
    exact ha
theorem reach_ok (h : K.Wf) (k : ∀ A bl tl, AkAll K K.bd A → Lst K A bl tl → R (.tup [.tup (bl.map nD), .tup (tl.map nD)]) M) : F_reach C [K.d] M R := by
  refine ⟨rfl, ?_⟩
  simp [rd_reach, dstart, N_reach]
  refine need_core_ok h ?_
  refine reach_in_ok h fun A bl tl hA hl => ?_
  simpa using k A bl tl hA hl
end
end K70
set_option maxRecDepth 100000
set_option maxHeartbeats 1000000
namespace K70
open PySem PySem.Spec PyProof.Rows L2 DL
section
variable {M : Mh} {R : D → Mh → Prop} {C : Addr} {K : Core} {A : List Ak}
theorem inI_at {n : Nat} {l : List Nat} {x : D} {Q : D → Mh → Prop} (hx : x = .lst (l.map nD) ∨ x = .tup (l.map nD)) : gInI false (.int ((n : Nat) : Int)) x M Q = Q (.bl (decide (n ∈ l))) M := by
  have e : l.map nD = (l.map fun n => ((n : Nat) : Int)).map D.int := by rw [List.map_map]; rfl
  have e2 : decide (((n : Nat) : Int) ∈ l.map fun n => ((n : Nat) : Int)) = decide (n ∈ l) := by
    rw [decide_eq_decide, List.mem_map]
    constructor
    · rintro ⟨m, hm, q⟩
      have : m = n := by omega
      subst this
      exact hm
    · exact fun h => ⟨n, h, rfl⟩
  rcases hx with rfl | rfl
  all_goals
    simp only [gInI, asQ, e, onI, DL.ints_map]
    simp only [e2, Bool.false_eq_true, if_false]
theorem all_in {g : DG} {t : DT} {d : DE} {ρ : DV} {ns l : List Nat} {Q : D → Mh → Prop} (hs : ∀ n ∈ ns, ∀ ys acc (Q' : List D → Mh → Prop), lcW g t d ρ ys (acc ++ [.bl (decide (n ∈ l))]) M Q' → lcW g t d ρ (nD n :: ys) acc M Q') (q : Q (.bl (ns.all fun n => decide (n ∈ l))) M) :
    lcW g t d ρ (ns.map nD) [] M fun ys M2 => gAll [.lst ys] M2 Q := by
  refine lcW_map (fun x => match x with | .int i => .bl (decide (i.toNat ∈ l)) | _ => .non) _ [] (fun x hx ys acc Q' q => ?_) ?_
  · obtain ⟨n, hn, rfl⟩ := List.mem_map.mp hx
    exact hs n hn ys acc Q' (by simpa [nD] using q)
  · rw [List.nil_append, List.map_map]
    have e : (ns.map ((fun x => match x with | .int i => D.bl (decide (i.toNat ∈ l)) | _ => .non) ∘ nD)) = ns.map fun n => D.bl (decide (n ∈ l)) := by
      refine List.map_congr_left fun n _ => ?_
      simp [nD]
    rw [e, g_all (p := fun n => decide (n ∈ l))]
    exact q
theorem cs_same {c : Co} {a a' : Ak} (h : Asks c a.m a.e a.s a.t) (h' : Asks c a'.m a'.e a'.s a'.t) {T : Nat → Prop} {n : Nat} (q : Cs K a T n) : Cs K a' T n := by
  rcases q with ⟨i, hi, e⟩ | hi | ⟨i, hi, e⟩ | ⟨z, hz, i, hi, e⟩
  · exact .inl ⟨i, (h'.m i).mpr ((h.m i).mp hi), e⟩
  · exact .inr (.inl ((h'.e _).mpr ((h.e _).mp hi)))
  · exact .inr (.inr (.inl ⟨i, (h'.s i).mpr ((h.s i).mp hi), e⟩))
  · exact .inr (.inr (.inr ⟨z, (h'.t z).mpr ((h.t z).mp hz), i, hi, e⟩))
def okAt (K : Core) (A : List Ak) (bl tl : List Nat) (i : Nat) : Prop := ∀ a, A[i]? = some a → (∀ n ∈ a.m, n ∈ tl) ∧ ∀ n, Cs K a (· ∈ tl) n → n ∈ bl
def bClo : DS := dSeq (dAsg (dCall F_asked_in (dCons (dOp gIx (dOp gIx (dOp gIx (dVar 0) (dC (.int 1))) (dVar 3)) (dC (.int 2))) dNil)) (dgName 4)) (dSeq (dIfS (dNot (dTst (dCB gAll (dCons (dLc mkF (dInQ (dOp gIx (dVar 4) (dC (.int 0)))) (dgName 5) dYes (dOp (gInI false) (dVar 5) (dVar 2)) [5]) dNil)))) (dRet (dC (.bl false))) dNext) (dIfS (dNot (dTst (dCB gAll (dCons (dLc mkF (dInQ (dCall F_bodies_asked (dCons (dVar 0) (dCons (dVar 4) (dCons (dVar 2) dNil))))) (dgName 6) dYes (dOp (gInI false) (dVar 6) (dVar 1)) [6]) dNil)))) (dRet (dC (.bl false))) dNext))
theorem clo_loop (h : K.Wf) (hA : AkAll K K.bd A) {bl tl : List Nat} (htl : ∀ n ∈ tl, n < K.ts.length) (htn : tl.Nodup) (E : DEnds) : ∀ (ns : List Nat) (x3 x4 x5 x6 : Option D), (∀ n ∈ ns, n < K.bd.length) → ((∃ i ∈ ns, ¬ okAt K A bl tl i) → E.rt (.bl false) M) → ((∀ i ∈ ns, okAt K A bl tl i) → ∀ x3 x4 x5 x6, E.nx [some K.d, some (.tup (bl.map nD)), some (.tup (tl.map nD)), x3, x4, x5, x6] M) →
    forW (dgName 3) bClo (ns.map nD) E [some K.d, some (.tup (bl.map nD)), some (.tup (tl.map nD)), x3, x4, x5, x6] M := by
  intro ns
  induction ns with
  | nil => intro x3 x4 x5 x6 _ _ k; exact k (by simp) x3 x4 x5 x6
  | cons n ns ih =>
    intro x3 x4 x5 x6 hn kf kt
    have hnl := hn n List.mem_cons_self
    obtain ⟨a0, ha0⟩ : ∃ a, A[n]? = some a := ⟨A[n]'(by rw [hA.len]; exact hnl), List.getElem?_eq_getElem _⟩
    obtain ⟨x, hx, ho⟩ := hA.at_ ha0
    have hbx := h.bd x (List.mem_of_getElem? hx)
    have gb : (K.bd.map bodyD)[n]? = some (bodyD x) := by rw [List.getElem?_map, hx]; rfl
    have hs := sizeLine_eq
    have hz := hbx.sz
    have e1 : ∀ {M : Mh} (Q : D → Mh → Prop), gIx K.d (.int 1) M Q = Q (.tup (K.bd.map bodyD)) M := fun {M} Q => ixT1
    have e2 : ∀ {M : Mh} (Q : D → Mh → Prop), gIx (bodyD x) (.int 2) M Q = Q x.2.2.d M := fun {M} Q => ixT2
    show (dgName 3 (nD n) [some K.d, some (.tup (bl.map nD)), some (.tup (tl.map nD)), x3, x4, x5, x6] M fun ρ1 M1 => bClo { nx := fun ρ' M' => forW (dgName 3) bClo (ns.map nD) E ρ' M', ct := fun ρ' M' => forW (dgName 3) bClo (ns.map nD) E ρ' M', bk := E.nx, rt := E.rt } ρ1 M1)
    simp [bClo, e1, nD_int, ix_tup gb, e2]
    refine asked_in_ok x.2.2 (by omega) fun m e s t ha l1 l2 l3 l4 => ?_
    simp [askD]
    have hab : okAt K A bl tl n ↔ (∀ i ∈ m, i ∈ tl) ∧ ∀ i, Cs K ⟨m, e, s, t⟩ (· ∈ tl) i → i ∈ bl := by
      constructor
      · intro q
        obtain ⟨q1, q2⟩ := q a0 ha0
        exact ⟨fun i hi => q1 i ((ho.asks.m i).mpr ((ha.m i).mp hi)), fun i hi => q2 i (cs_same (a := ⟨m, e, s, t⟩) ha ho.asks hi)⟩
      · rintro ⟨q1, q2⟩ a' ha'
        rw [ha0] at ha'
        cases ha'
        exact ⟨fun i hi => q1 i ((ha.m i).mpr ((ho.asks.m i).mp hi)), fun i hi => q2 i (cs_same (a' := ⟨m, e, s, t⟩) ho.asks ha hi)⟩
    refine all_in (l := tl) (fun i hi ys acc Q' q => ?_) ?_
    · simp [nD_int, inI_at (M := M) (.inr rfl)]
      exact q
    have hmm : (m.all fun i => decide (i ∈ tl)) = true ↔ ∀ i ∈ m, i ∈ tl := by simp
    cases hm : (m.all fun i => decide (i ∈ tl)) with
    | false =>
      simp
      exact kf ⟨n, List.mem_cons_self, fun q => by
        have := hmm.mpr (hab.mp q).1
        rw [hm] at this
        cases this⟩
    | true =>
      have hmT := hmm.mp hm
      simp
      have ltl := nodup_le htn htl
      have w1 := h.tl
      have hmul : t.length * tl.length ≤ 100000 * 60 := Nat.mul_le_mul (by omega) (by omega)
      have ho' : AkOk K x ⟨m, e, s, t⟩ := ⟨ha, by show m.length ≤ _; omega, by show e.length ≤ _; omega, by show s.length ≤ _; omega, by show t.length ≤ _; omega⟩
      have ba := fun R => bodies_asked_ok (R := R) (M := M) (K := K) (m := m) (e := e) (s := s) (t := t) (md := tl) (dmd := .tup (tl.map nD)) (.inr rfl) (fun i hi => ask_m hbx ho' hi) (fun i hi => ask_s hbx ho' hi) htl
      refine ba _ (by omega) ?_
      simp
      have mc : ∀ i, i ∈ consL K m e s t tl ↔ Cs K ⟨m, e, s, t⟩ (· ∈ tl) i := fun i => mem_consL (a := ⟨m, e, s, t⟩)
      refine all_in (l := bl) (fun i hi ys acc Q' q => ?_) ?_
      · simp [nD_int, inI_at (M := M) (.inr rfl)]
        exact q
      have hcc : ((consL K m e s t tl).all fun i => decide (i ∈ bl)) = true ↔ ∀ i, Cs K ⟨m, e, s, t⟩ (· ∈ tl) i → i ∈ bl := by
        rw [List.all_eq_true]
        exact ⟨fun q i hi => of_decide_eq_true (q i ((mc i).mpr hi)), fun q i hi => decide_eq_true (q i ((mc i).mp hi))⟩
      cases hc : ((consL K m e s t tl).all fun i => decide (i ∈ bl)) with
      | false =>
        simp
        exact kf ⟨n, List.mem_cons_self, fun q => by
          have := hcc.mpr (hab.mp q).2
          rw [hc] at this
          cases this⟩
      | true =>
        simp
        have hok : okAt K A bl tl n := hab.mpr ⟨hmT, hcc.mp hc⟩
        refine ih _ _ _ _ (fun i hi => hn i (List.mem_cons_of_mem _ hi)) (fun ⟨i, hi, q⟩ => kf ⟨i, List.mem_cons_of_mem _ hi, q⟩) fun q => kt fun i hi => ?_
        rcases List.mem_cons.mp hi with rfl | hi
        · exact hok
        · exact q i hi
theorem is_closed_ok (h : K.Wf) (hA : AkAll K K.bd A) {bl tl : List Nat} (hbl : ∀ n ∈ bl, n < K.bd.length) (htl : ∀ n ∈ tl, n < K.ts.length) (htn : tl.Nodup) (k : ∀ v : Bool, (v = true ↔ Closed K A (· ∈ bl) (· ∈ tl)) → R (.bl v) M) : F_is_closed_reach [K.d, .tup (bl.map nD), .tup (tl.map nD)] M R := by
  refine ⟨rfl, ?_⟩
  simp [rd_is_closed_reach, dstart, N_is_closed_reach]
  refine clo_loop h hA htl htn _ bl _ _ _ _ hbl (fun ⟨i, hi, q⟩ => ?_) fun q x3 x4 x5 x6 => ?_
  · show R (.bl false) (keepM M M)
    rw [keep_self]
    exact k false ⟨fun e => absurd e (by decide), fun hc => absurd (fun a ha => hc i a hi ha) q⟩
  · simp
    exact k true ⟨fun _ i a hi ha => q i hi a ha, fun _ => rfl⟩
end
end K70
set_option maxRecDepth 100000
set_option maxHeartbeats 1000000
namespace K70
open PySem PySem.Spec PyProof.Rows L2 DL
section
variable {M : Mh} {R : D → Mh → Prop} {C : Addr} {K : Core} {A : List Ak}
theorem k0 {M : Mh} (Q : D → Mh → Prop) : gIx K.d (.int 0) M Q = Q (.tup (K.ts.map tabD)) M := ixT0
theorem k1 {M : Mh} (Q : D → Mh → Prop) : gIx K.d (.int 1) M Q = Q (.tup (K.bd.map bodyD)) M := ixT1
theorem k3 {M : Mh} (Q : D → Mh → Prop) : gIx K.d (.int 3) M Q = Q (nD K.main) M := ixT3
/-- objects of another form -/
theorem holds_form (h : K.Wf) {x : D} (hx : Np x) (hl : ∀ xs, x = .tup xs → xs.length ≠ 2) (k : R (.bl false) M) : F_reach_holds C [K.d, x] M R := by
  refine ⟨rfl, ?_⟩
  simp [rd_reach_holds, dstart, N_reach_holds]
  refine need_core_ok h ?_
  cases x
  case ptr => exact hx.elim
  case tup xs =>
    have e : ¬ ((xs.length : Int) = 2) := by have := hl xs rfl; omega
    simp [e]
    exact k
  all_goals
    simp [isT, Tn.isTup]
    exact k
structure Tame (x : D) : Prop where
  np : Np x
  xs : ∀ xs, x = .tup xs → (∀ y ∈ xs, Np y) ∧ xs.length ≤ sizeLine
theorem holds_asc (h : K.Wf) {x y : D} (hx : Tame x) (hy : Tame y) (hf : ascD x ((K.bd.length : Int) - 1) = false ∨ ascD y ((K.ts.length : Int) - 1) = false) (k : R (.bl false) M) : F_reach_holds C [K.d, .tup [x, y]] M R := by
  refine ⟨rfl, ?_⟩
  simp [rd_reach_holds, dstart, N_reach_holds]
  refine need_core_ok h ?_
  simp [k1]
  refine is_ascending_ok hx.np hx.xs ?_
  cases e1 : ascD x ((K.bd.length : Int) - 1) with
  | false => simp; exact k
  | true =>
    have e2 : ascD y ((K.ts.length : Int) - 1) = false := by
      rcases hf with q | q
      · rw [e1] at q; cases q
      · exact q
    simp [k0]
    refine is_ascending_ok hy.np hy.xs ?_
    rw [e2]
    simp
    exact k
theorem asc_iff : ∀ {is : List Int}, asc is = true ↔ is.Pairwise (· < ·)
  | [] => by simp [asc]
  | [i] => by simp [asc]
  | i :: j :: r => by
    have ih := asc_iff (is := j :: r)
    have e : asc (i :: j :: r) = (decide (i < j) && asc (j :: r)) := by simp [asc]
    rw [e, Bool.and_eq_true, ih, decide_eq_true_eq, List.pairwise_cons (a := i)]
    constructor
    · rintro ⟨h1, h2⟩
      refine ⟨fun x hx => ?_, h2⟩
      rcases List.mem_cons.mp hx with rfl | hx
      · exact h1
      · exact Int.lt_trans h1 ((List.pairwise_cons.mp h2).1 x hx)
    · rintro ⟨h1, h2⟩
      exact ⟨h1 j List.mem_cons_self, h2⟩
theorem ascD_nat {l : List Nat} {n : Nat} : ascD (.tup (l.map nD)) ((n : Int) - 1) = true ↔ l.Pairwise (· < ·) ∧ ∀ x ∈ l, x < n := by
  have e : l.map nD = (l.map fun n => ((n : Nat) : Int)).map D.int := by rw [List.map_map]; rfl
  unfold ascD
  simp only [e, DL.ints_map, Bool.and_eq_true, asc_iff, List.pairwise_map, List.all_map, List.all_eq_true, Function.comp, cnt, decide_eq_true_eq]
  constructor
  · rintro ⟨h1, h2⟩
    exact ⟨h2.imp fun {a b} q => by omega, fun x hx => by have := h1 x hx; omega⟩
  · rintro ⟨h1, h2⟩
    exact ⟨fun x hx => by have := h2 x hx; omega, h1.imp fun {a b} q => by omega⟩
theorem tame_nat {l : List Nat} (h : l.length ≤ sizeLine) : Tame (.tup (l.map nD)) := ⟨True.intro, fun xs e => by
  cases e
  exact ⟨fun y hy => by obtain ⟨n, _, rfl⟩ := List.mem_map.mp hy; exact True.intro, by simpa using h⟩⟩
theorem holds_ok (h : K.Wf) (hA : AkAll K K.bd A) {bl tl : List Nat} (sb : bl.Pairwise (· < ·)) (st : tl.Pairwise (· < ·)) (hb : ∀ n ∈ bl, n < K.bd.length) (ht : ∀ n ∈ tl, n < K.ts.length)
    (k : ∀ v : Bool, (v = true ↔ K.main ∈ bl ∧ Closed K A (· ∈ bl) (· ∈ tl)) → R (.bl v) M) : F_reach_holds C [K.d, .tup [.tup (bl.map nD), .tup (tl.map nD)]] M R := by
  have nb : bl.Nodup := sb.imp fun {a b} q => by omega
  have nt : tl.Nodup := st.imp fun {a b} q => by omega
  have lb := nodup_le nb hb
  have lt := nodup_le nt ht
  have w1 := h.tl
  have w2 := h.bl
  have hs := sizeLine_eq
  have tb : Tame (.tup (bl.map nD)) := tame_nat (by omega)
  have tt : Tame (.tup (tl.map nD)) := tame_nat (by omega)
  refine ⟨rfl, ?_⟩
  simp [rd_reach_holds, dstart, N_reach_holds]
  refine need_core_ok h ?_
  simp [k1]
  refine is_ascending_ok tb.np tb.xs ?_
  rw [ascD_nat.mpr ⟨sb, hb⟩]
  simp [k0]
  refine is_ascending_ok tt.np tt.xs ?_
  rw [ascD_nat.mpr ⟨st, ht⟩]
  simp [k3, nD_int, inI_at (M := M) (.inr rfl)]
  by_cases hm : K.main ∈ bl
  · simp [hm]
    exact is_closed_ok h hA hb ht nt fun v hv => by rw [keep_self]; exact k v (by rw [hv]; simp [hm])
  · simp [hm]
    exact k false (by simp [hm])
end
end K70
set_option maxRecDepth 100000
set_option maxHeartbeats 1000000
namespace K70
open PySem PySem.Spec PyProof.Rows L2 DL
/-- a feed: its cell below 2 ^ B, at most N draws by hash so far -/
def Fd (B N : Nat) (M : Mh) (f : Addr) : Prop := ∃ a b c : Int, M f = some (.lst [.int a, .int b, .int c]) ∧ 0 ≤ a ∧ a.natAbs < 2 ^ B ∧ 0 ≤ b ∧ b < 2 ^ 130 ∧ 0 ≤ c ∧ c ≤ N
theorem mlst_at {M : Mh} {f : Addr} {xs : List D} (h : M f = some (.lst xs)) : mlst M f = some xs := by simp [mlst, h]
theorem ix3_0 {x y z : D} : ixN [x, y, z].length 0 = some 0 := rfl
theorem ix3_2 {x y z : D} : ixN [x, y, z].length 2 = some 2 := rfl
section
variable {M : Mh} {R : D → Mh → Prop} {f : Addr} {B N : Nat}
theorem draw_hi {a b c many : Int} (hB : B ≤ 10000000) (h0 : M f = some (.lst [.int a, .int b, .int c])) (ha : 0 < a) (haB : a.natAbs < 2 ^ B) (hm : 1 ≤ many) (hm2 : many < 1000000) (k : R (.int (a % many)) (mup M f (.lst [.int (a / many), .int b, .int c]))) : F__law_draw [.ptr f, .int many] M R := by
  have q0 : ∀ {M : Mh} {x y z : D} (Q : D → Mh → Prop), M f = some (.lst [x, y, z]) → gIx (.ptr f) (.int 0) M Q = Q x M := fun {M x y z} Q h => ix_ptr (n := 0) h rfl
  have c1 : CDiv a many := ⟨by omega, by omega⟩
  have hdiv : 0 ≤ a / many := Int.ediv_nonneg (by omega) (by omega)
  have hle : a / many ≤ a := Int.ediv_le_self _ (by omega)
  have c2 : CMulX (a / many) many := mulx_ok (a := B) (b := 20) (Nat.lt_of_le_of_lt (by omega) haB) (by have : many.natAbs < 1048576 := by omega
                                                                                                        exact this) (by omega)
  have e : a - a / many * many = a % many := by have := Int.emod_add_mul_ediv a many; rw [Int.mul_comm]; omega
  refine ⟨rfl, ?_⟩
  simp [rd__law_draw, dstart, N__law_draw, q0 _ h0, ha, c1, c2]
  rw [mlst_at h0]
  simp only [ix3_0]
  rw [keep_mup h0, e]
  exact k
theorem draw_lo {b c many : Int} (h0 : M f = some (.lst [.int 0, .int b, .int c])) (hb : 0 ≤ b) (hb2 : b < 2 ^ 130) (hc : 0 ≤ c) (hc2 : c < 2 ^ 40) (hm : 1 ≤ many) (hm2 : many < 1000000)
    (k : ∀ v, 0 ≤ v → v < many → R (.int v) (mup M f (.lst [.int 0, .int b, .int (c + 1)]))) : F__law_draw [.ptr f, .int many] M R := by
  have q0 : ∀ {M : Mh} {x y z : D} (Q : D → Mh → Prop), M f = some (.lst [x, y, z]) → gIx (.ptr f) (.int 0) M Q = Q x M := fun {M x y z} Q h => ix_ptr (n := 0) h rfl
  have q1 : ∀ {M : Mh} {x y z : D} (Q : D → Mh → Prop), M f = some (.lst [x, y, z]) → gIx (.ptr f) (.int 1) M Q = Q y M := fun {M x y z} Q h => ix_ptr (n := 1) h rfl
  have q2 : ∀ {M : Mh} {x y z : D} (Q : D → Mh → Prop), M f = some (.lst [x, y, z]) → gIx (.ptr f) (.int 2) M Q = Q z M := fun {M x y z} Q h => ix_ptr (n := 2) h rfl
  have hM : (mup M f (.lst [.int 0, .int b, .int (c + 1)])) f = some (.lst [.int 0, .int b, .int (c + 1)]) := mup_same
  refine ⟨rfl, ?_⟩
  simp [rd__law_draw, dstart, N__law_draw, q0 _ h0, q2 _ h0]
  rw [mlst_at h0]
  simp only [ix3_2]
  have eset : ([D.int 0, D.int b, D.int c] : List D).set 2 (D.int (c + 1)) = [D.int 0, D.int b, D.int (c + 1)] := rfl
  rw [eset]
  have gi : ∀ {M : Mh} {i : Int} (Q : D → Mh → Prop), gInt [.int i] M Q = Q (.int i) M := fun Q => rfl
  simp only [q1 _ hM, q2 _ hM, g_I, g_I0, gi]
  have p1 : CMulX 6700417 (c + 1) := mulx_ok (a := 64) (b := 64) (by decide) (by omega) (by decide)
  have p2 : CMulX 15485863 (c + 1) := mulx_ok (a := 64) (b := 64) (by decide) (by omega) (by decide)
  have s0 : (b + 6700417 * (c + 1)).natAbs < 2 ^ 131 := by omega
  generalize b + 6700417 * (c + 1) = S at s0 ⊢
  have p3 : CMulX S S := mulx_ok s0 s0 (by decide)
  have s1 : (S * S).natAbs < 2 ^ (131 + 131) := wide_lt s0 s0
  have p4 : CMulX (S * S) S := mulx_ok s1 s0 (by decide)
  have t1 : (0 : Int) < 10000000000000000000000000000000000000000057 := by decide
  have s2 := Int.emod_nonneg (S * S * S + 15485863 * (c + 1)) (Int.ne_of_gt t1)
  have s3 := Int.emod_lt_of_pos (S * S * S + 15485863 * (c + 1)) t1
  generalize (S * S * S + 15485863 * (c + 1)) % 10000000000000000000000000000000000000000057 = S2 at s2 s3 ⊢
  have s4 : S2.natAbs < 2 ^ 144 := by omega
  have p5 : CMulX S2 S2 := mulx_ok s4 s4 (by decide)
  have t2 : (0 : Int) < 100000000000000000000000000000000000133 := by decide
  have x1 : CPow 10 43 := ⟨by decide, by decide, by decide⟩
  have x2 : CPow 10 38 := ⟨by decide, by decide, by decide⟩
  have x3 : CPow 10 9 := ⟨by decide, by decide, by decide⟩
  have hp : 0 < many := by omega
  refine ⟨p1, p3, p4, p2, x1, t1, p5, x2, t2, x3, ⟨by decide, by decide⟩, hp, ?_⟩
  rw [keep_mup h0]
  exact k _ (Int.emod_nonneg _ (by omega)) (Int.emod_lt_of_pos _ hp)
theorem draw_ok {many : Int} (hB : B ≤ 10000000) (hN : N < 2 ^ 40) (h : Fd B N M f) (hm : 1 ≤ many) (hm2 : many < 1000000) (k : ∀ v M', 0 ≤ v → v < many → Fd B (N + 1) M' f → (∀ p, p ≠ f → M' p = M p) → R (.int v) M') : F__law_draw [.ptr f, .int many] M R := by
  obtain ⟨a, b, c, h0, h1, h2, h3, h4, h5, h6⟩ := h
  by_cases ha : 0 < a
  · refine draw_hi hB h0 ha h2 hm hm2 (k _ _ (Int.emod_nonneg _ (by omega)) (Int.emod_lt_of_pos _ (by omega)) ⟨a / many, b, c, mup_same, Int.ediv_nonneg (by omega) (by omega), ?_, h3, h4, h5, by omega⟩ fun p hp => mup_ne hp)
    have hdiv : 0 ≤ a / many := Int.ediv_nonneg (by omega) (by omega)
    have hle : a / many ≤ a := Int.ediv_le_self _ (by omega)
    exact Nat.lt_of_le_of_lt (by omega) h2
  · have e : a = 0 := by omega
    subst e
    exact draw_lo h0 h3 h4 h5 (by omega) hm hm2 fun v v0 v1 => k v _ v0 v1 ⟨0, b, c + 1, mup_same, by omega, h2, h3, h4, by omega, by omega⟩ fun p hp => mup_ne hp
end
end K70
set_option maxRecDepth 100000
set_option maxHeartbeats 1000000
namespace K70
open PySem PySem.Spec PyProof.Rows L2 DL
section
variable {M : Mh} {R : D → Mh → Prop} {f : Addr} {B N : Nat}
theorem one_ok {xs : List D} (hB : B ≤ 10000000) (hN : N < 2 ^ 40) (h : Fd B N M f) (hx : xs ≠ []) (hl : xs.length < 1000000) (k : ∀ x ∈ xs, ∀ M', Fd B (N + 1) M' f → (∀ p, p ≠ f → M' p = M p) → R x M') : F__law_one [.ptr f, .lst xs] M R := by
  have hp : 0 < xs.length := List.length_pos_iff.mpr hx
  refine ⟨rfl, ?_⟩
  simp [rd__law_one, dstart, N__law_one]
  refine draw_ok hB hN h (by omega) (by omega) fun v M' v0 v1 hf hM => ?_
  obtain ⟨n, rfl⟩ : ∃ n : Nat, v = (n : Int) := ⟨v.toNat, by omega⟩
  have hn : n < xs.length := by omega
  rw [ix_lst (List.getElem?_eq_getElem hn)]
  have e : keepM M M' = M' := by
    funext p
    unfold keepM
    by_cases hpf : p = f
    · subst hpf
      obtain ⟨a, b, c, h0, _⟩ := h
      rw [h0]
      rfl
    · rw [hM p hpf]
      cases M p <;> rfl
  rw [e]
  exact k _ (List.getElem_mem hn) M' hf hM
end
end K70
set_option maxRecDepth 100000
set_option maxHeartbeats 1000000
namespace K70
open PySem PySem.Spec PyProof.Rows L2 DL
inductive Wd where | dir | mak | sin | snd
mutual
/-- what is asked for: a word, its number, what is handed on -/
inductive Qa where | mk (w : Wd) (n : Nat) (is : Qs)
inductive Qs where | nil | non (r : Qs) | cons (a : Qa) (r : Qs)
end
def sel : Nat → Str | 0 => "a" | 1 => "b b" | 2 => "c" | _ => "d"
def Wd.t : Wd → Str | .dir => "direct" | .mak => "make" | .sin => "single" | .snd => "send"
def numD (w : Wd) (n : Nat) : D := match w with | .snd => .str (sel n) | _ => .int (n : Nat)
mutual
def Qa.d : Qa → D
  | .mk w n is => .tup [.str w.t, numD w n, .lst is.ds]
def Qs.ds : Qs → List D
  | .nil => []
  | .non r => .non :: r.ds
  | .cons a r => a.d :: r.ds
end
def Qs.len : Qs → Nat | .nil => 0 | .non r => r.len + 1 | .cons _ r => r.len + 1
theorem Qs.ds_len : ∀ is : Qs, is.ds.length = is.len
  | .nil => rfl
  | .non r => by simp [Qs.ds, Qs.len, Qs.ds_len r]
  | .cons a r => by simp [Qs.ds, Qs.len, Qs.ds_len r]
/-! the c's that _law_asked makes of it -/
mutual
def Qa.co : Qa → Co
  | .mk .dir n is => .dir n is.cos
  | .mk .mak n is => .mak n is.cos
  | .mk .sin n _ => .sg n
  | .mk .snd n is => match is with
    | .nil => .unit
    | .non r => .snd .unit (sel n) r.cos
    | .cons a r => .snd a.co (sel n) r.cos
def Qs.cos : Qs → Cos
  | .nil => .nil
  | .non r => .cons .unit r.cos
  | .cons a r => .cons a.co r.cos
end
structure Gp where
  ps : List Nat
  ts : List (List (Str × Nat) × Nat)
  ng : Nat
mutual
/-- what is handed on fits, at most dp deep -/
def Qa.Ok (G : Gp) : Nat → Qa → Prop
  | dp, .mk w n is => (match w with
    | .dir => G.ps[n]? = some is.len
    | .mak => ∃ t, G.ts[n]? = some t ∧ G.ps[t.2]? = some (is.len + 1)
    | .sin => n < G.ng ∧ is.len = 0
    | .snd => n < 4 ∧ 1 ≤ is.len ∧ is.len ≤ 3) ∧ is.Ok G dp
def Qs.Ok (G : Gp) : Nat → Qs → Prop
  | _, .nil => True
  | dp, .non r => r.Ok G dp
  | 0, .cons _ _ => False
  | dp + 1, .cons a r => a.Ok G dp ∧ r.Ok G (dp + 1)
end
end K70
set_option maxRecDepth 100000
set_option maxHeartbeats 1000000
namespace K70
open PySem PySem.Spec PyProof.Rows L2 DL
def Gp.psD (G : Gp) : D := .lst (G.ps.map nD)
def rwD (t : List (Str × Nat) × Nat) : D := .tup [.lst (t.1.map rowD), nD t.2]
def Gp.tsD (G : Gp) : D := .lst (G.ts.map rwD)
def Gp.sgD (G : Gp) (sg : List Nat) : D := .lst (sg.map nD)
theorem fd_ne {B N : Nat} {M : Mh} {f a : Addr} (h : Fd B N M f) (ha : M a = none) : f ≠ a := by
  obtain ⟨_, _, _, h0, _⟩ := h
  exact ne_m h0 ha
theorem fd_mup {B N : Nat} {M : Mh} {f a : Addr} {o : MO} (h : Fd B N M f) (ha : f ≠ a) : Fd B N (mup M a o) f := by
  obtain ⟨x, y, z, h0, h1⟩ := h
  exact ⟨x, y, z, by rw [mup_ne ha]; exact h0, h1⟩
theorem fd_le {B N N' : Nat} {M : Mh} {f : Addr} (h : Fd B N M f) (hn : N ≤ N') : Fd B N' M f := by
  obtain ⟨x, y, z, h0, h1, h2, h3, h4, h5, h6⟩ := h
  exact ⟨x, y, z, h0, h1, h2, h3, h4, h5, by omega⟩
/-- a store that differs at the feed alone is kept -/
theorem keep_fd {B N : Nat} {M M' : Mh} {f : Addr} (h : Fd B N M f) (hM : ∀ p, p ≠ f → M' p = M p) : keepM M M' = M' := by
  obtain ⟨a, b, c, h0, _⟩ := h
  funext p
  unfold keepM
  by_cases hpf : p = f
  · subst hpf
    rw [h0]
    rfl
  · rw [hM p hpf]
    cases M p <;> rfl
section
variable {M : Mh} {R : D → Mh → Prop} {f : Addr} {B N : Nat}
theorem drawn_lc (hB : B ≤ 10000000) {ls : List Nat} (x1 : Option D) : ∀ (ns : List Nat) (acc : List D) (N : Nat) (M : Mh) (Q : List D → Mh → Prop), N + ns.length < 2 ^ 40 → Fd B N M f →
    (∀ (l : List Nat) M', l.Sublist ns → (∀ n ∈ ns, n ∈ ls → n ∈ l) → Fd B (N + ns.length) M' f → (∀ p, p ≠ f → M' p = M p) → Q (acc ++ l.map nD) M') →
    lcW (dgName 3) (dOr (dTst (dOp (gInI false) (dVar 3) (dVar 2))) (dTst (dOp gEq (dCall F__law_draw (dCons (dVar 0) (dCons (dC (.int 3)) dNil))) (dC (.int 0))))) (dVar 3) [some (.ptr f), x1, some (.tup (ls.map nD)), none] (ns.map nD) acc M Q
  | [], acc, N, M, Q, hN, hf, k => by simpa using k [] M (List.Sublist.refl _) (by simp) hf (fun _ _ => rfl)
  | n :: ns, acc, N, M, Q, hN, hf, k => by
    simp only [List.length_cons] at hN k
    have take : ∀ M' N', N' ≤ N + 1 → Fd B N' M' f → (∀ p, p ≠ f → M' p = M p) → lcW (dgName 3) (dOr (dTst (dOp (gInI false) (dVar 3) (dVar 2))) (dTst (dOp gEq (dCall F__law_draw (dCons (dVar 0) (dCons (dC (.int 3)) dNil))) (dC (.int 0))))) (dVar 3) [some (.ptr f), x1, some (.tup (ls.map nD)), none] (ns.map nD) (acc ++ [nD n]) M' Q := fun M' N' h1 h2 h3 =>
      drawn_lc hB x1 ns _ N' M' Q (by omega) h2 fun l M2 g1 g2 g3 g4 => by
        have := k (n :: l) M2 (g1.cons_cons n) (fun m hm hl => by
          rcases List.mem_cons.mp hm with rfl | hm
          · exact List.mem_cons_self
          · exact List.mem_cons_of_mem _ (g2 m hm hl)) (fd_le g3 (by omega)) (fun p hp => by rw [g4 p hp, h3 p hp])
        simpa using this
    simp [nD_int, inI_at (M := M) (.inr rfl)]
    by_cases hn : n ∈ ls
    · simp [hn]
      exact take M N (by omega) hf (fun _ _ => rfl)
    · simp [hn]
      refine draw_ok hB (by omega) hf (by decide) (by decide) fun v M' v0 v1 hf' hM' => ?_
      simp
      by_cases hv : v = 0
      · simp [hv]
        exact take M' (N + 1) (by omega) hf' hM'
      · simp [hv]
        refine drawn_lc hB x1 ns acc (N + 1) M' Q (by omega) hf' fun l M2 g1 g2 g3 g4 => k l M2 (g1.cons n) (fun m hm hl => ?_) (fd_le g3 (by omega)) fun p hp => by rw [g4 p hp, hM' p hp]
        rcases List.mem_cons.mp hm with rfl | hm
        · exact absurd hl hn
        · exact g2 m hm hl
theorem drawn_ok (hB : B ≤ 10000000) {ls : List Nat} {w : Nat} (hw : w ≤ 1000) (hN : N + w < 2 ^ 40) (hf : Fd B N M f) (k : ∀ (l : List Nat) M', l.Pairwise (· < ·) → (∀ n ∈ l, n < w) → (∀ n ∈ ls, n < w → n ∈ l) → Fd B (N + w) M' f → (∀ p, p ≠ f → M' p = M p) → R (.tup (l.map nD)) M') : F__law_drawn [.ptr f, .int (w : Nat), .tup (ls.map nD)] M R := by
  refine ⟨rfl, ?_⟩
  simp [rd__law_drawn, dstart, N__law_drawn]
  refine ⟨by omega, ?_⟩
  refine drawn_lc hB _ (List.range w) [] N M _ (by simpa using hN) hf fun l M' g1 g2 g3 g4 => ?_
  rw [List.nil_append, keep_fd hf g4]
  refine k l M' (List.Pairwise.sublist g1 List.pairwise_lt_range) (fun n hn => List.mem_range.mp (g1.subset hn)) (fun n hn hl => g2 n (List.mem_range.mpr hl) hn) (by simpa using g3) g4
end
end K70
set_option maxRecDepth 100000
set_option maxHeartbeats 1000000
namespace K70
open PySem PySem.Spec PyProof.Rows L2 DL
structure Gp.Fit (G : Gp) : Prop where
  p0 : 1 ≤ G.ps.length
  pl : G.ps.length ≤ 50
  tl : G.ts.length ≤ 50
  gl : G.ng ≤ 50
  p2 : ∀ p ∈ G.ps, p ≤ 2
  tp : ∀ t ∈ G.ts, ∃ p, G.ps[t.2]? = some p ∧ 0 < p
def cost : Nat → Nat | 0 => 23 | n + 1 => 20 + 3 * (cost n + 1)
def Qs.nons : Nat → Qs | 0 => .nil | n + 1 => .non (Qs.nons n)
theorem nons_len : ∀ n, (Qs.nons n).len = n
  | 0 => rfl
  | n + 1 => by simp [Qs.nons, Qs.len, nons_len n]
theorem nons_ds : ∀ n, (Qs.nons n).ds = List.replicate n .non
  | 0 => rfl
  | n + 1 => by simp [Qs.nons, Qs.ds, nons_ds n, List.replicate_succ]
theorem nons_ok {G : Gp} {dp : Nat} : ∀ n, (Qs.nons n).Ok G dp
  | 0 => by cases dp <;> exact True.intro
  | n + 1 => by cases dp <;> exact nons_ok n
def eInn (n : Nat) : DE := dIf (dAnd (dTst (dOp gGt (dVar 2) (dC (.int 0)))) (dTst (dOp gEq (dCall F__law_draw (dCons (dVar 0) (dCons (dC (.int 3)) dNil))) (dC (.int 0))))) (dCall (F__law_ask n) (dCons (dVar 0) (dCons (dVar 1) (dCons (dOp gSub (dVar 2) (dC (.int 1))) dNil)))) (dC .non)
def bAskT (n : Nat) : DS := dSeq (dAsg (dLc mkP (dInR (dVar 8)) (dgName 11) dYes (eInn n) [11]) (dgName 10)) (dSeq (dIfS (dAnd (dTst (dOp gEq (dVar 9) (dC (.str "send")))) (dAnd (dTst (dOp gNeNil (dVar 4) (dLst mkF dNil))) (dAnd (dTst (dOp gIsN (dOp gIx (dVar 10) (dC (.int 0))) (dC .non))) (dTst (dOp gGt (dCall F__law_draw (dCons (dVar 0) (dCons (dC (.int 3)) dNil))) (dC (.int 0))))))) (dSeq (dAsg (dCall F__law_draw (dCons (dVar 0) (dCons (dCB gLen (dCons (dVar 4) dNil)) dNil))) (dgName 12)) (dAsg (dTup (dCons (dC (.str "make")) (dCons (dVar 12) (dCons (dOp (gRep mkF) (dLst mkF (dCons (dC .non) dNil)) (dOp gSub (dOp gIx (dVar 3) (dOp gIx (dOp gIx (dVar 4) (dVar 12)) (dC (.int 1)))) (dC (.int 1)))) dNil)))) (dgSub (dVar 10) (dC (.int 0))))) dNext) (dRet (dTup (dCons (dVar 9) (dCons (dVar 7) (dCons (dFrz (dVar 10)) dNil))))))
/-- what an ask does -/
def AskOk (G : Gp) (sg : List Nat) (n dp : Nat) : Prop := ∀ (M : Mh) (R : D → Mh → Prop) (f : Addr) (B N : Nat), B ≤ 10000000 → N + cost dp < 2 ^ 40 → Fd B N M f → (∀ (a : Qa) M', a.Ok G (dp + 1) → Fd B (N + cost dp) M' f → (∀ p, p ≠ f → M' p = M p) → R a.d M') →
  F__law_ask n [.ptr f, .tup [G.psD, G.tsD, G.sgD sg], .int (dp : Nat)] M R
section
variable {f : Addr} {B : Nat} {G : Gp} {sg : List Nat}
theorem inn_lc (hB : B ≤ 10000000) {n dp : Nat} (c : Nat) (hc : ∀ k, dp = k + 1 → c = cost k ∧ AskOk G sg n k) (y3 y4 y5 y6 y7 y8 y9 y10 y12 : Option D) : ∀ (ns : List D) (N : Nat) (acc : List D) (M : Mh) (x : Option D) (Q : List D → Mh → Prop), N + ns.length * (c + 1) < 2 ^ 40 → Fd B N M f →
    (∀ (is : Qs) M', is.len = ns.length → is.Ok G (dp + 1) → Fd B (N + ns.length * (c + 1)) M' f → (∀ p, p ≠ f → M' p = M p) → Q (acc ++ is.ds) M') →
    lcW (dgName 11) dYes (eInn n) [some (.ptr f), some (.tup [G.psD, G.tsD, G.sgD sg]), some (.int (dp : Nat)), y3, y4, y5, y6, y7, y8, y9, y10, x, y12] ns acc M Q := by
  intro ns
  induction ns with
  | nil => intro N acc M x Q hN hf k; simpa [Qs.ds] using k .nil M rfl True.intro (by simpa using hf) (fun _ _ => rfl)
  | cons z ns ih =>
    intro N acc M x Q hN hf k
    have e1 : (ns.length + 1) * (c + 1) = ns.length * (c + 1) + (c + 1) := Nat.succ_mul _ _
    rw [List.length_cons, e1] at hN k
    have none_ : ∀ M' N', N' ≤ N + 1 → Fd B N' M' f → (∀ p, p ≠ f → M' p = M p) → ∀ x, lcW (dgName 11) dYes (eInn n) [some (.ptr f), some (.tup [G.psD, G.tsD, G.sgD sg]), some (.int (dp : Nat)), y3, y4, y5, y6, y7, y8, y9, y10, x, y12] ns (acc ++ [.non]) M' Q := fun M' N' h1 h2 h3 x =>
      ih N' _ M' x Q (by omega) h2 fun is M2 l1 l2 l3 l4 => by
        have := k (.non is) M2 (by simp [Qs.len, l1]) l2 (fd_le l3 (by omega)) (fun p hp => by rw [l4 p hp, h3 p hp])
        simpa [Qs.ds] using this
    cases dp with
    | zero =>
      simp [eInn]
      exact none_ M N (by omega) hf (fun _ _ => rfl) _
    | succ dp =>
      obtain ⟨rfl, hA⟩ := hc dp rfl
      have e2 : (0 : Int) < ((dp + 1 : Nat) : Int) := by omega
      have e3 : ((dp + 1 : Nat) : Int) - 1 = ((dp : Nat) : Int) := by omega
      have e4 : (0 : Int) < (dp : Int) + 1 := by omega
      simp [eInn, e4]
      refine draw_ok hB (by omega) hf (by decide) (by decide) fun v M' v0 v1 hf' hM' => ?_
      simp
      by_cases hv : v = 0
      · simp [hv]
        refine hA M' _ f B (N + 1) hB (by omega) hf' fun a M2 a1 a2 a3 => ?_
        refine ih (N + 1 + cost dp) _ M2 _ Q (by omega) a2 fun is M3 l1 l2 l3 l4 => ?_
        have := k (.cons a is) M3 (by simp [Qs.len, l1]) ⟨a1, l2⟩ (fd_le l3 (by omega)) (fun p hp => by rw [l4 p hp, a3 p hp, hM' p hp])
        simpa [Qs.ds] using this
      · simp [hv]
        exact none_ M' (N + 1) (by omega) hf' hM' _
theorem fd_del {N : Nat} {M : Mh} {f a : Addr} (h : Fd B N M f) (ha : f ≠ a) : Fd B N (mdel M a) f := by
  obtain ⟨x, y, z, h0, h1⟩ := h
  exact ⟨x, y, z, by simp [mdel, ha, h0], h1⟩
theorem asQ_lst {M : Mh} {xs : List D} : asQ M (.lst xs) = some xs := rfl
theorem t_send (w : Wd) : (w.t = ("send" : Str)) = (w = .snd) := by
  cases w
  case snd => exact propext ⟨fun _ => rfl, fun _ => rfl⟩
  all_goals
    refine propext ⟨fun h => ?_, fun h => by cases h⟩
    have : decide (Wd.t _ = ("send" : Str)) = true := decide_eq_true h
    exact absurd this (by decide +kernel)
theorem ask_tail (hG : G.Fit) (hB : B ≤ 10000000) {n dp : Nat} (c : Nat) (hc : ∀ k, dp = k + 1 → c = cost k ∧ AskOk G sg n k) {w : Wd} {m cnt : Nat} (hcnt : cnt ≤ 3) (hw : ∀ is : Qs, is.len = cnt → is.Ok G (dp + 1) → (Qa.mk w m is).Ok G (dp + 1)) (h1 : w = .snd → 1 ≤ cnt)
    (M : Mh) (N : Nat) (hN : N + 3 * (c + 1) + 3 < 2 ^ 40) (hf : Fd B N M f) (E : DEnds) (y6 y10 y11 y12 : Option D) (k : ∀ (a : Qa) M', a.Ok G (dp + 1) → Fd B (N + 3 * (c + 1) + 3) M' f → (∀ p, p ≠ f → M' p = M p) → E.rt a.d M') :
    bAskT n E [some (.ptr f), some (.tup [G.psD, G.tsD, G.sgD sg]), some (.int (dp : Nat)), some G.psD, some G.tsD, some (G.sgD sg), y6, some (numD w m), some (.int (cnt : Nat)), some (.str w.t), y10, y11, y12] M := by
  have hmul : cnt * (c + 1) ≤ 3 * (c + 1) := Nat.mul_le_mul_right _ hcnt
  have hlen : (rngD cnt).length = cnt := by simp [rngD]
  have l1 : (cnt : Int) ≤ 16777216 := by omega
  simp [bAskT, l1]
  refine inn_lc hB c hc _ _ _ _ _ _ _ _ _ (rngD cnt) N [] M _ _ (by rw [hlen]; omega) hf fun is M1 i1 i2 i3 i4 => ?_
  rw [hlen] at i1 i3
  rw [List.nil_append]
  intro a ha
  have hfa := fd_ne i3 ha
  have haM : M a = none := by rw [← i4 a hfa.symm]; exact ha
  have fin : ∀ (is : Qs) M2, is.len = cnt → is.Ok G (dp + 1) → Fd B (N + 3 * (c + 1) + 3) M2 f → (∀ p, p ≠ f → p ≠ a → M2 p = M p) → E.rt (.tup [.str w.t, numD w m, .lst is.ds]) (mdel M2 a) := fun is M2 j1 j2 j3 j4 => by
    refine k (.mk w m is) _ (hw is j1 j2) (fd_del j3 hfa) fun p hp => ?_
    by_cases e : p = a
    · subst e; simp [mdel, haM]
    · simp [mdel, e]; exact j4 p hp e
  have hf1 : Fd B (N + cnt * (c + 1)) (mup M1 a (.lst is.ds)) f := fd_mup i3 hfa
  have hr1 : ∀ p, p ≠ f → p ≠ a → (mup M1 a (.lst is.ds)) p = M p := fun p hp hpa => by rw [mup_ne hpa]; exact i4 p hp
  have ha1 : (mup M1 a (.lst is.ds)) a = some (.lst is.ds) := mup_same
  generalize mup M1 a (.lst is.ds) = M2 at hf1 hr1 ha1 ⊢
  have plain : ∀ M3, Fd B (N + 3 * (c + 1) + 3) M3 f → (∀ p, p ≠ f → p ≠ a → M3 p = M p) → E.rt (.tup [.str w.t, numD w m, .lst is.ds]) (mdel M3 a) := fun M3 g1 g2 => fin is M3 i1 i2 g1 g2
  have pl0 := plain M2 (fd_le hf1 (by omega)) hr1
  by_cases hsn : w = .snd
  · have hp := h1 hsn
    have ix0 : ∀ {M : Mh} {Q : D → Mh → Prop} {d : D} {r : List D}, M a = some (.lst (d :: r)) → gIx (.ptr a) (.int 0) M Q = Q d M := fun h => ix_ptr (n := 0) h rfl
    have hl : G.ts.length = (G.ts.map rwD).length := by simp
    rw [if_pos ((t_send w).mpr hsn)]
    simp only [Gp.tsD, g_neNilL]
    subst hsn
    cases is with
    | nil => exact absurd i1 (by show ¬ 0 = cnt; omega)
    | cons a0 r =>
      simp only [Qs.ds] at ha1 pl0
      obtain ⟨w0, n0, i0⟩ := a0
      simp only [Qa.d] at ha1 pl0
      simp [ix0 ha1, mlst_at ha1]
      exact pl0
    | non r =>
      simp only [Qs.ds] at ha1 pl0 plain
      simp [ix0 ha1, mlst_at ha1]
      by_cases ht : G.ts = []
      · simp [ht]
        exact pl0
      · simp [ht]
        refine draw_ok hB (by omega) hf1 (by decide) (by decide) fun v M3 v0 v1 f3 h3 => ?_
        have ha3 : M3 a = some (.lst (.non :: r.ds)) := by rw [h3 a hfa.symm]; exact ha1
        have hr3 : ∀ p, p ≠ f → p ≠ a → M3 p = M p := fun p hp hpa => by rw [h3 p hp]; exact hr1 p hp hpa
        simp [mlst_at ha3]
        by_cases hv : 0 < v
        · simp [hv]
          have tpos := List.length_pos_iff.mpr ht
          have htl := hG.tl
          refine draw_ok hB (by omega) f3 (by omega) (by omega) fun v4 M4 u0 u1 f4 h4 => ?_
          have ha4 : M4 a = some (.lst (.non :: r.ds)) := by rw [h4 a hfa.symm]; exact ha3
          have hr4 : ∀ p, p ≠ f → p ≠ a → M4 p = M p := fun p hp hpa => by rw [h4 p hp]; exact hr3 p hp hpa
          obtain ⟨t, rfl⟩ : ∃ t : Nat, v4 = (t : Int) := ⟨v4.toNat, by omega⟩
          have htt : t < G.ts.length := by omega
          obtain ⟨tb, htb⟩ : ∃ tb, G.ts[t]? = some tb := ⟨_, List.getElem?_eq_getElem htt⟩
          obtain ⟨p, hp1, hp2⟩ := hG.tp tb (List.mem_of_getElem? htb)
          have hp3 := hG.p2 p (List.mem_of_getElem? hp1)
          have g1 : (G.ts.map rwD)[t]? = some (rwD tb) := by rw [List.getElem?_map, htb]; rfl
          have g2 : (G.ps.map nD)[tb.2]? = some (nD p) := by rw [List.getElem?_map, hp1]; rfl
          simp [ix_lst g1]
          simp [rwD, nD_int, Gp.psD, ix_lst g2]
          have e1 : (p : Int) - 1 = ((p - 1 : Nat) : Int) := by omega
          rw [e1]
          have e2 : (List.replicate (p - 1) [D.non]).flatten = (Qs.nons (p - 1)).ds := by rw [nons_ds]; simp
          simp [gRep, asL, asLS, asT, mlst_at ha4]
          have hsl := sizeLine_eq
          refine ⟨⟨by omega, by omega⟩, ?_⟩
          rw [show ixN (r.ds.length + 1) 0 = some 0 by simp [ixN]]
          have hmk : (Qa.mk .mak t (Qs.nons (p - 1))).Ok G dp := ⟨⟨tb, htb, by rw [nons_len, hp1]; congr 1; omega⟩, nons_ok _⟩
          have := fin (.cons (.mk .mak t (Qs.nons (p - 1))) r) (mup M4 a (.lst ((D.tup [.str "make", .int (t : Nat), .lst (List.replicate (p - 1) .non)]) :: r.ds))) i1 ⟨hmk, i2⟩ (fd_mup (fd_le f4 (by omega)) hfa) fun q hq hqa => by rw [mup_ne hqa]; exact hr4 q hq hqa
          simpa [Qs.ds, Qa.d, Wd.t, numD, nons_ds] using this
        · simp [hv]
          exact plain M3 (fd_le f3 (by omega)) hr3
  · rw [if_neg fun e => hsn ((t_send w).mp e)]
    exact pl0
theorem ask_step (hG : G.Fit) (hsg : sg.length = G.ng) {n dp : Nat} (c : Nat) (hc : ∀ k, dp = k + 1 → c = cost k ∧ AskOk G sg n k) (hcost : cost dp = 20 + 3 * (c + 1)) : AskOk G sg (n + 1) dp := by
  intro M R f B N hB hN hf k
  have hp0 := hG.p0
  have hpl := hG.pl
  have htl := hG.tl
  have hgl := hG.gl
  refine ⟨rfl, ?_⟩
  show (dSeq (dAsg (dVar 1) (dgTup 3 (dgCons (dgName 3) (dgCons (dgName 4) (dgCons (dgName 5) dgNil))))) (dSeq (dPar3 6 7 8 (dCall F__law_draw (dCons (dVar 0) (dCons (dC (.int 5)) dNil))) (dC (.int 0)) (dC (.int 0))) (dSeq (dAsg (dC (.str "direct")) (dgName 9)) (dSeq (dIfS (dAnd (dTst (dOp gEq (dVar 6) (dC (.int 1)))) (dTst (dOp gNeNil (dVar 4) (dLst mkF dNil)))) (dSeq (dPar 9 7 (dC (.str "make")) (dCall F__law_draw (dCons (dVar 0) (dCons (dCB gLen (dCons (dVar 4) dNil)) dNil)))) (dAsg (dOp gSub (dOp gIx (dVar 3) (dOp gIx (dOp gIx (dVar 4) (dVar 7)) (dC (.int 1)))) (dC (.int 1))) (dgName 8))) (dIfS (dAnd (dTst (dOp gEq (dVar 6) (dC (.int 2)))) (dTst (dOp gNeNil (dVar 5) (dLst mkF dNil)))) (dPar 9 7 (dC (.str "single")) (dCall F__law_draw (dCons (dVar 0) (dCons (dCB gLen (dCons (dVar 5) dNil)) dNil)))) (dIfS (dTst (dOp gGt (dVar 6) (dC (.int 2)))) (dPar3 9 7 8 (dC (.str "send")) (dCall F__law_one (dCons (dVar 0) (dCons (dLst mkF (dCons (dC (.str "a")) (dCons (dC (.str "b b")) (dCons (dC (.str "c")) (dCons (dC (.str "d")) dNil))))) dNil))) (dOp gAdd (dC (.int 1)) (dCall F__law_draw (dCons (dVar 0) (dCons (dC (.int 3)) dNil))))) (dSeq (dAsg (dCall F__law_draw (dCons (dVar 0) (dCons (dCB gLen (dCons (dVar 3) dNil)) dNil))) (dgName 7)) (dAsg (dOp gIx (dVar 3) (dVar 7)) (dgName 8)))))) (bAskT n))))) _ _ _
  have fin : ∀ {w : Wd} {m cnt : Nat}, cnt ≤ 3 → (∀ is : Qs, is.len = cnt → is.Ok G (dp + 1) → (Qa.mk w m is).Ok G (dp + 1)) → (w = .snd → 1 ≤ cnt) → ∀ (M1 : Mh) (N1 : Nat) (E : DEnds) (y6 y10 y11 y12 : Option D), N1 ≤ N + 10 → Fd B N1 M1 f → (∀ p, p ≠ f → M1 p = M p) → (∀ x M', R x (keepM M M') → E.rt x M') →
      bAskT n E [some (.ptr f), some (.tup [G.psD, G.tsD, G.sgD sg]), some (.int (dp : Nat)), some G.psD, some G.tsD, some (G.sgD sg), y6, some (numD w m), some (.int (cnt : Nat)), some (.str w.t), y10, y11, y12] M1 := fun h1 h2 h3 M1 N1 E y6 y10 y11 y12 h4 h5 h6 h7 =>
    ask_tail hG hB c hc h1 h2 h3 M1 N1 (by omega) h5 E y6 y10 y11 y12 fun a M' a1 a2 a3 => by
      have hM : ∀ p, p ≠ f → M' p = M p := fun p hp => by rw [a3 p hp, h6 p hp]
      refine h7 _ _ ?_
      rw [keep_fd hf hM]
      exact k a M' a1 (fd_le a2 (by omega)) hM
  simp [dstart, N__law_ask]
  refine draw_ok hB (by omega) hf (by decide) (by decide) fun v M1 v0 v1 f1 h1 => ?_
  have oth : ∀ (E : DEnds) (y6 y10 y11 y12 : Option D), (∀ x M', R x (keepM M M') → E.rt x M') → gLen [G.psD] M1 fun x M1 => F__law_draw [.ptr f, x] M1 fun x M2 => gIx G.psD x M2 fun y M3 => bAskT n E [some (.ptr f), some (.tup [G.psD, G.tsD, G.sgD sg]), some (.int (dp : Nat)), some G.psD, some G.tsD, some (G.sgD sg), y6, some x, some y, some (.str "direct"), y10, y11, y12] M3 := fun E y6 y10 y11 y12 hE => by
    have n2 : ∀ {M : Mh} {Q : D → Mh → Prop}, gLen [G.psD] M Q = Q (.int (G.ps.length : Nat)) M := fun {M Q} => by simp [Gp.psD]
    rw [n2]
    refine draw_ok hB (by omega) f1 (by omega) (by omega) fun u M2 u0 u1 f2 h2 => ?_
    obtain ⟨t, rfl⟩ : ∃ t : Nat, u = (t : Int) := ⟨u.toNat, by omega⟩
    obtain ⟨p, hp⟩ : ∃ p, G.ps[t]? = some p := ⟨_, List.getElem?_eq_getElem (by omega)⟩
    have hp3 := hG.p2 p (List.mem_of_getElem? hp)
    have g2 : (G.ps.map nD)[t]? = some (nD p) := by rw [List.getElem?_map, hp]; rfl
    rw [Gp.psD, ix_lst g2]
    exact fin (w := .dir) (m := t) (cnt := p) (by omega) (fun is e o => ⟨by rw [e]; exact hp, o⟩) (fun e => by cases e) M2 _ E _ _ _ _ (by omega) f2 (fun q hq => by rw [h2 q hq, h1 q hq]) hE
  by_cases v1' : v = 1
  · subst v1'
    by_cases ht : G.ts = []
    · have n1 : ∀ {M : Mh} {Q : D → Mh → Prop}, gNeNil G.tsD (.lst []) M Q = Q (.bl false) M := fun {M Q} => by simp [Gp.tsD, ht]
      simp [n1]
      exact oth _ _ _ _ _ fun _ _ q => q
    · have tpos := List.length_pos_iff.mpr ht
      have n1 : ∀ {M : Mh} {Q : D → Mh → Prop}, gNeNil G.tsD (.lst []) M Q = Q (.bl true) M := fun {M Q} => by
        have : G.ts.isEmpty = false := by simpa using ht
        simp [Gp.tsD, this]
      have n2 : ∀ {M : Mh} {Q : D → Mh → Prop}, gLen [G.tsD] M Q = Q (.int (G.ts.length : Nat)) M := fun {M Q} => by simp [Gp.tsD]
      simp [n1, n2]
      refine draw_ok hB (by omega) f1 (by omega) (by omega) fun u M2 u0 u1 f2 h2 => ?_
      obtain ⟨t, rfl⟩ : ∃ t : Nat, u = (t : Int) := ⟨u.toNat, by omega⟩
      obtain ⟨tb, htb⟩ : ∃ tb, G.ts[t]? = some tb := ⟨_, List.getElem?_eq_getElem (by omega)⟩
      obtain ⟨p, hp1, hp2⟩ := hG.tp tb (List.mem_of_getElem? htb)
      have hp3 := hG.p2 p (List.mem_of_getElem? hp1)
      have g1 : (G.ts.map rwD)[t]? = some (rwD tb) := by rw [List.getElem?_map, htb]; rfl
      have g2 : (G.ps.map nD)[tb.2]? = some (nD p) := by rw [List.getElem?_map, hp1]; rfl
      have n3 : ∀ {M : Mh} {Q : D → Mh → Prop}, gIx G.tsD (.int (t : Nat)) M Q = Q (rwD tb) M := fun {M Q} => by rw [Gp.tsD, ix_lst g1]
      have n4 : ∀ {M : Mh} {Q : D → Mh → Prop}, gIx (rwD tb) (.int 1) M Q = Q (nD tb.2) M := fun {M Q} => ixT1
      have n5 : ∀ {M : Mh} {Q : D → Mh → Prop}, gIx G.psD (nD tb.2) M Q = Q (nD p) M := fun {M Q} => by rw [nD_int, Gp.psD, ix_lst g2]
      have e1 : (p : Int) - 1 = ((p - 1 : Nat) : Int) := by omega
      simp [n3, n4, n5, nD_int p, e1]
      exact fin (w := .mak) (m := t) (cnt := p - 1) (by omega) (fun is e o => ⟨⟨tb, htb, by rw [e, hp1]; congr 1; omega⟩, o⟩) (fun e => by cases e) M2 _ _ _ _ _ _ (by omega) f2 (fun q hq => by rw [h2 q hq, h1 q hq]) fun _ _ q => q
  by_cases v2' : v = 2
  · subst v2'
    by_cases ht : sg = []
    · have n1 : ∀ {M : Mh} {Q : D → Mh → Prop}, gNeNil (G.sgD sg) (.lst []) M Q = Q (.bl false) M := fun {M Q} => by simp [Gp.sgD, ht]
      simp [n1]
      exact oth _ _ _ _ _ fun _ _ q => q
    · have tpos := List.length_pos_iff.mpr ht
      have n1 : ∀ {M : Mh} {Q : D → Mh → Prop}, gNeNil (G.sgD sg) (.lst []) M Q = Q (.bl true) M := fun {M Q} => by
        have : sg.isEmpty = false := by simpa using ht
        simp [Gp.sgD, this]
      have n2 : ∀ {M : Mh} {Q : D → Mh → Prop}, gLen [G.sgD sg] M Q = Q (.int (sg.length : Nat)) M := fun {M Q} => by simp [Gp.sgD]
      simp [n1, n2]
      refine draw_ok hB (by omega) f1 (by omega) (by omega) fun u M2 u0 u1 f2 h2 => ?_
      obtain ⟨t, rfl⟩ : ∃ t : Nat, u = (t : Int) := ⟨u.toNat, by omega⟩
      exact fin (w := .sin) (m := t) (cnt := 0) (by omega) (fun is e o => ⟨⟨by omega, e⟩, o⟩) (fun e => by cases e) M2 _ _ _ _ _ _ (by omega) f2 (fun q hq => by rw [h2 q hq, h1 q hq]) fun _ _ q => q
  by_cases v3 : 2 < v
  · simp [v1', v2', v3]
    refine one_ok hB (by omega) f1 (by simp) (by simp) fun x hx M2 f2 h2 => ?_
    refine draw_ok hB (by omega) f2 (by decide) (by decide) fun u M3 u0 u1 f3 h3 => ?_
    obtain ⟨t, rfl⟩ : ∃ t : Nat, u = (t : Int) := ⟨u.toNat, by omega⟩
    obtain ⟨m, hm, rfl⟩ : ∃ m, m < 4 ∧ x = numD .snd m := by
      simp only [List.mem_cons, List.not_mem_nil, or_false] at hx
      rcases hx with rfl | rfl | rfl | rfl
      · exact ⟨0, by decide, rfl⟩
      · exact ⟨1, by decide, rfl⟩
      · exact ⟨2, by decide, rfl⟩
      · exact ⟨3, by decide, rfl⟩
    have e1 : 1 + (t : Int) = ((t + 1 : Nat) : Int) := by omega
    simp [e1]
    exact fin (w := .snd) (m := m) (cnt := t + 1) (by omega) (fun is e o => ⟨⟨hm, by omega, by omega⟩, o⟩) (fun e => by omega) M3 _ _ _ _ _ _ (by omega) f3 (fun q hq => by rw [h3 q hq, h2 q hq, h1 q hq]) fun _ _ q => q
  · simp [v1', v2', v3]
    exact oth _ _ _ _ _ fun _ _ q => q
theorem ask_ok (hG : G.Fit) (hsg : sg.length = G.ng) : ∀ (dp n : Nat), dp < n → AskOk G sg n dp := by
  intro dp
  induction dp with
  | zero => 
    intro n hn
    obtain ⟨n, rfl⟩ : ∃ k, n = k + 1 := ⟨n - 1, by omega⟩
    exact ask_step hG hsg 0 (fun k h => by omega) rfl
  | succ dp ih =>
    intro n hn
    obtain ⟨n, rfl⟩ : ∃ k, n = k + 1 := ⟨n - 1, by omega⟩
    exact ask_step hG hsg (cost dp) (fun k h => by
      have : dp = k := by omega
      subst this
      exact ⟨rfl, ih n (by omega)⟩) rfl
end
end K70
set_option maxRecDepth 100000
set_option maxHeartbeats 1000000
namespace K70
open PySem PySem.Spec PyProof.Rows L2 DL
def bGrAsk : DS := (dDrop (dBM gAppend (dVar 15) (dCons (dLc mkF (dInR (dCall F__law_draw (dCons (dVar 0) (dCons (dC (.int 5)) dNil)))) (dgName 3) dYes (dCall (F__law_ask 4) (dCons (dVar 0) (dCons (dTup (dCons (dVar 2) (dCons (dVar 8) (dCons (dVar 14) dNil)))) (dCons (dC (.int 2)) dNil)))) [3]) dNil)))
def bGr14 : DS := (dSeq (dAsg (dLc mkF (dInR (dCall F__law_draw (dCons (dVar 0) (dCons (dC (.int 4)) dNil)))) (dgName 3) dYes (dCall F__law_one (dCons (dVar 0) (dCons (dVar 5) dNil))) [3]) (dgName 14)) (dSeq (dAsg (dLst mkP dNil) (dgName 15)) (dSeq (dFor (dInR (dOp gAdd (dVar 1) (dC (.int 1)))) (dgName 6) bGrAsk) (dRet (dTup (dCons (dVar 2) (dCons (dFrz (dVar 15)) (dCons (dVar 8) (dCons (dVar 14) (dCons (dCall F__law_one (dCons (dVar 0) (dCons (dVar 5) dNil))) dNil))))))))))
def bGr8b : DS := (dSeq (dIfS (dTst (dOp gEq (dCall F__law_draw (dCons (dVar 0) (dCons (dC (.int 2)) dNil))) (dC (.int 0)))) (dAsg (dLc mkF (dInQ (dVar 8)) (dgTup 2 (dgCons (dgName 10) (dgCons (dgName 9) dgNil))) dYes (dTup (dCons (dOp (gCatL mkF) (dLst mkF (dCons (dTup (dCons (dC (.str "a")) (dCons (dVar 12) dNil))) dNil)) (dLc mkF (dInQ (dVar 10)) (dgName 13) (dTst (dOp gNe (dOp gIx (dVar 13) (dC (.int 0))) (dC (.str "a")))) (dVar 13) [13])) (dCons (dVar 9) dNil))) [10, 9]) (dgName 8)) dNext) bGr14)
def bGr8 : DS := (dSeq (dAsg (dIf (dTst (dOp gNeNil (dVar 4) (dLst mkF dNil))) (dCall F__law_one (dCons (dVar 0) (dCons (dVar 4) dNil))) (dC (.int 0))) (dgName 12)) bGr8b)
def bGrTab : DS := (dSeq (dAsg (dCall F__law_one (dCons (dVar 0) (dCons (dVar 4) dNil))) (dgName 9)) (dSeq (dAsg (dLc mkF (dInQ (dLst mkF (dCons (dC (.str "a")) (dCons (dC (.str "b b")) (dCons (dC (.str "c")) (dCons (dC (.str "d")) dNil)))))) (dgName 11) (dTst (dOp gGt (dCall F__law_draw (dCons (dVar 0) (dCons (dC (.int 3)) dNil))) (dC (.int 0)))) (dTup (dCons (dVar 11) (dCons (dCall F__law_one (dCons (dVar 0) (dCons (dVar 4) dNil))) dNil))) [11]) (dgName 10)) (dDrop (dBM gAppend (dVar 8) (dCons (dTup (dCons (dVar 10) (dCons (dVar 9) dNil))) dNil)))))
def bGr2 : DS := (dSeq (dAsg (dTup (dCons (dLc mkF (dInE (dVar 2)) (dgTup 2 (dgCons (dgName 6) (dgCons (dgName 7) dgNil))) (dTst (dOp gGt (dVar 7) (dC (.int 0)))) (dVar 6) [6, 7]) (dCons (dLc mkF (dInE (dVar 2)) (dgTup 2 (dgCons (dgName 6) (dgCons (dgName 7) dgNil))) (dTst (dOp gEq (dVar 7) (dC (.int 0)))) (dVar 6) [6, 7]) dNil))) (dgTup 2 (dgCons (dgName 4) (dgCons (dgName 5) dgNil)))) (dSeq (dAsg (dLst mkP dNil) (dgName 8)) (dSeq (dFor (dInR (dIf (dTst (dOp gNeNil (dVar 4) (dLst mkF dNil))) (dCall F__law_draw (dCons (dVar 0) (dCons (dC (.int 5)) dNil))) (dC (.int 0)))) (dgName 3) bGrTab) (dFzS 8 bGr8))))
def sels : List Str := ["a", "b b", "c", "d"]
def RwOk (ps : List Nat) (rs : List (Str × Nat)) : Prop := (rs.map (·.1)).Sublist sels ∧ ∀ r ∈ rs, ∃ p, ps[r.2]? = some p ∧ 0 < p
structure Gr where
  G : Gp
  sg : List Nat
  asks : List (List Qa)
  main : Nat
def Gr.d (g : Gr) : D := .tup [g.G.psD, .lst (g.asks.map fun r => .lst (r.map Qa.d)), g.G.tsD, g.G.sgD g.sg, nD g.main]
structure Gr.Ok (g : Gr) : Prop where
  fit : g.G.Fit
  p10 : g.G.ps.length ≤ 10
  t4 : g.G.ts.length ≤ 4
  sl : g.sg.length = g.G.ng
  s3 : g.G.ng ≤ 3
  al : g.asks.length = g.G.ps.length
  ar : ∀ r ∈ g.asks, r.length ≤ 4 ∧ ∀ a ∈ r, a.Ok g.G 3
  sg0 : ∀ s ∈ g.sg, g.G.ps[s]? = some 0
  mn : g.G.ps[g.main]? = some 0
  rw_ : ∀ t ∈ g.G.ts, RwOk g.G.ps t.1
theorem forW_cons {g : DG} {b : DS} {x : D} {xs : List D} {E : DEnds} {ρ : DV} {M : Mh} : forW g b (x :: xs) E ρ M = (g x ρ M fun ρ1 M1 => b { nx := fun ρ' M' => forW g b xs E ρ' M', ct := fun ρ' M' => forW g b xs E ρ' M', bk := E.nx, rt := E.rt } ρ1 M1) := id rfl
theorem lift_map {α : Type} {C : α → Prop} {h : α → D} : ∀ {l : List D}, (∀ y ∈ l, ∃ n, C n ∧ y = h n) → ∃ ns : List α, l = ns.map h ∧ ∀ n ∈ ns, C n
  | [], _ => ⟨[], rfl, by simp⟩
  | y :: l, q => by
    obtain ⟨n, h1, rfl⟩ := q y List.mem_cons_self
    obtain ⟨ns, rfl, h2⟩ := lift_map (l := l) fun z hz => q z (List.mem_cons_of_mem _ hz)
    exact ⟨n :: ns, rfl, fun m hm => by
      rcases List.mem_cons.mp hm with rfl | hm
      · exact h1
      · exact h2 m hm⟩
section
variable {f : Addr} {B : Nat}
theorem lc_gen {P : D → Prop} {c N0 : Nat} {g : DG} {t : DT} {d : DE} {ρ : DV} (step : ∀ (x : D) (N : Nat) (M : Mh) (acc ys : List D) (Q : List D → Mh → Prop), N + c < N0 → Fd B N M f → (∀ y M', P y → Fd B (N + c) M' f → (∀ p, p ≠ f → M' p = M p) → lcW g t d ρ ys (acc ++ [y]) M' Q) → lcW g t d ρ (x :: ys) acc M Q) :
    ∀ (ns acc : List D) (N : Nat) (M : Mh) (Q : List D → Mh → Prop), N + ns.length * c < N0 → Fd B N M f → (∀ l M', l.length = ns.length → (∀ y ∈ l, P y) → Fd B (N + ns.length * c) M' f → (∀ p, p ≠ f → M' p = M p) → Q (acc ++ l) M') → lcW g t d ρ ns acc M Q
  | [], acc, N, M, Q, hN, hf, k => by simpa using k [] M rfl (by simp) (by simpa using hf) (fun _ _ => rfl)
  | x :: ns, acc, N, M, Q, hN, hf, k => by
    rw [List.length_cons, Nat.succ_mul] at hN
    refine step x N M acc ns Q (by omega) hf fun y M' py f' h' => ?_
    refine lc_gen step ns _ (N + c) M' Q (by omega) f' fun l M2 l1 l2 l3 l4 => ?_
    have := k (y :: l) M2 (by simp [l1]) (fun z hz => by
      rcases List.mem_cons.mp hz with rfl | hz
      · exact py
      · exact l2 z hz) (by rw [List.length_cons, Nat.succ_mul]; exact fd_le l3 (by omega)) (fun p hp => by rw [l4 p hp, h' p hp])
    simpa using this
/-! ### which indices -/
def idx (q : Nat → Bool) : Nat → List Nat → List Nat
  | _, [] => []
  | k, p :: r => if q p then k :: idx q (k + 1) r else idx q (k + 1) r
theorem mem_idx {q : Nat → Bool} {n : Nat} : ∀ {ps : List Nat} {k : Nat}, n ∈ idx q k ps ↔ ∃ i p, n = k + i ∧ ps[i]? = some p ∧ q p = true
  | [], k => by simp [idx]
  | p :: r, k => by
    have ih := mem_idx (q := q) (n := n) (ps := r) (k := k + 1)
    have e : (∃ i p', n = k + i ∧ (p :: r)[i]? = some p' ∧ q p' = true) ↔ (n = k ∧ q p = true) ∨ ∃ i p', n = k + 1 + i ∧ r[i]? = some p' ∧ q p' = true := by
      constructor
      · rintro ⟨i, p', h1, h2, h3⟩
        cases i with
        | zero => simp at h2; subst h2; exact .inl ⟨by omega, h3⟩
        | succ i => exact .inr ⟨i, p', by omega, by simpa using h2, h3⟩
      · rintro (⟨h1, h2⟩ | ⟨i, p', h1, h2, h3⟩)
        · exact ⟨0, p, by omega, rfl, h2⟩
        · exact ⟨i + 1, p', by omega, by simpa using h2, h3⟩
    rw [e, ← ih]
    have e0 : idx q k (p :: r) = if q p then k :: idx q (k + 1) r else idx q (k + 1) r := rfl
    rw [e0]
    split
    · rename_i h; simp [h]
    · rename_i h; simp [h]
theorem idx_len {q : Nat → Bool} : ∀ {ps : List Nat} {k : Nat}, (idx q k ps).length ≤ ps.length
  | [], k => by simp [idx]
  | p :: r, k => by
    have ih := idx_len (q := q) (ps := r) (k := k + 1)
    unfold idx
    split <;> simp <;> omega
theorem enum_lc {g : G2} {q : Nat → Bool} (hg : ∀ (p : Nat) (M : Mh) (Q : D → Mh → Prop), Q (.bl (q p)) M → g (nD p) (.int 0) M Q) {ρ : DV} (hρ : ρ.length = 16) {M : Mh} {Q : List D → Mh → Prop} : ∀ (ps : List Nat) (k : Nat) (acc : List D), Q (acc ++ (idx q k ps).map nD) M →
    lcW (dgTup 2 (dgCons (dgName 6) (dgCons (dgName 7) dgNil))) (dTst (dOp g (dVar 7) (dC (.int 0)))) (dVar 6) ρ (enumD k (ps.map nD)) acc M Q
  | [], k, acc, h => by simpa [idx, enumD] using h
  | p :: ps, k, acc, h => by
    have e6 : lk (((ρ.set 6 (some (nD k))).set 7 (some (nD p)))) 6 = some (nD k) := by
      match ρ, hρ with
      | [_, _, _, _, _, _, _, _, _, _, _, _, _, _, _, _], _ => rfl
    have e7 : lk (((ρ.set 6 (some (nD k))).set 7 (some (nD p)))) 7 = some (nD p) := by
      match ρ, hρ with
      | [_, _, _, _, _, _, _, _, _, _, _, _, _, _, _, _], _ => rfl
    rw [List.map_cons]
    unfold enumD
    simp only [s_lcWS, s_gtup, s_gcons, s_gname, s_gnil, s_op, s_C]
    refine ⟨rfl, ?_⟩
    show dTst _ _ _ _
    unfold dTst
    simp only [s_op, s_C]
    rw [show (D.int (k : Nat)) = nD k from rfl]
    rw [s_var e7]
    refine hg p M _ ?_
    unfold idx at h
    by_cases hq : q p = true
    · simp only [hq, if_true] at h ⊢
      rw [s_var e6]
      refine enum_lc hg hρ ps (k + 1) _ ?_
      simpa using h
    · simp only [hq, if_false] at h ⊢
      exact enum_lc hg hρ ps (k + 1) _ h
/-! ### rows, tables -/
def tRow : DT := dTst (dOp gGt (dCall F__law_draw (dCons (dVar 0) (dCons (dC (.int 3)) dNil))) (dC (.int 0)))
def eRow : DE := dTup (dCons (dVar 11) (dCons (dCall F__law_one (dCons (dVar 0) (dCons (dVar 4) dNil))) dNil))
theorem rows_lc (hB : B ≤ 10000000) {es : List Nat} (he : es ≠ []) (hel : es.length < 1000000) (y1 y2 y3 y5 y6 y7 y8 y9 y10 y12 y13 y14 y15 : Option D) : ∀ (zs : List Str) (acc : List D) (N : Nat) (M : Mh) (Q : List D → Mh → Prop), N + zs.length * 2 < 2 ^ 40 → Fd B N M f →
    (∀ (rs : List (Str × Nat)) M', (rs.map (·.1)).Sublist zs → (∀ r ∈ rs, r.2 ∈ es) → Fd B (N + zs.length * 2) M' f → (∀ p, p ≠ f → M' p = M p) → Q (acc ++ rs.map rowD) M') →
    lcW (dgName 11) tRow eRow [some (.ptr f), y1, y2, y3, some (.lst (es.map nD)), y5, y6, y7, y8, y9, y10, none, y12, y13, y14, y15] (zs.map D.str) acc M Q := by
  intro zs
  induction zs with
  | nil =>
    intro acc N M Q hN hf k
    simpa using k [] M (List.Sublist.refl _) (by simp) (by simpa using hf) (fun _ _ => rfl)
  | cons z zs ih =>
    intro acc N M Q hN hf k
    rw [List.length_cons, Nat.succ_mul] at hN
    have hne : es.map nD ≠ [] := fun e => he (List.map_eq_nil_iff.mp e)
    simp [tRow, eRow]
    refine draw_ok hB (by omega) hf (by decide) (by decide) fun v M1 v0 v1 f1 h1 => ?_
    simp
    by_cases hv : 0 < v
    · simp [hv]
      refine one_ok hB (by omega) f1 hne (by simpa using hel) fun x hx M2 f2 h2 => ?_
      obtain ⟨n, hn, rfl⟩ := List.mem_map.mp hx
      refine ih _ (N + 1 + 1) M2 Q (by omega) f2 fun rs M3 r1 r2 r3 r4 => ?_
      have := k ((z, n) :: rs) M3 (r1.cons_cons z) (fun r hr => by
        rcases List.mem_cons.mp hr with rfl | hr
        · exact hn
        · exact r2 r hr) (by rw [List.length_cons, Nat.succ_mul]; exact fd_le r3 (by omega)) (fun p hp => by rw [r4 p hp, h2 p hp, h1 p hp])
      simpa [rowD, nD] using this
    · simp [hv]
      refine ih _ (N + 1) M1 Q (by omega) f1 fun rs M3 r1 r2 r3 r4 => ?_
      exact k rs M3 (r1.cons z) r2 (by rw [List.length_cons, Nat.succ_mul]; exact fd_le r3 (by omega)) (fun p hp => by rw [r4 p hp, h1 p hp])
theorem tab_loop (hB : B ≤ 10000000) {es : List Nat} (he : es ≠ []) (hel : es.length < 1000000) {a : Addr} (hfa : f ≠ a) (E : DEnds) (y1 y2 y5 y6 y7 y12 y13 y14 y15 : Option D) : ∀ (ns : List D) (ts : List (List (Str × Nat) × Nat)) (N : Nat) (M : Mh) (y3 y9 y10 y11 : Option D), N + ns.length * 9 < 2 ^ 40 → ts.length + ns.length ≤ 1000 → Fd B N M f → M a = some (.lst (ts.map rwD)) →
    (∀ (us : List (List (Str × Nat) × Nat)) M' (y3 y9 y10 y11 : Option D), us.length = ns.length → (∀ t ∈ us, (t.1.map (·.1)).Sublist sels ∧ (∀ r ∈ t.1, r.2 ∈ es) ∧ t.2 ∈ es) → Fd B (N + ns.length * 9) M' f → M' a = some (.lst ((ts ++ us).map rwD)) → (∀ p, p ≠ f → p ≠ a → M' p = M p) →
      E.nx [some (.ptr f), y1, y2, y3, some (.lst (es.map nD)), y5, y6, y7, some (.ptr a), y9, y10, y11, y12, y13, y14, y15] M') →
    forW (dgName 3) bGrTab ns E [some (.ptr f), y1, y2, y3, some (.lst (es.map nD)), y5, y6, y7, some (.ptr a), y9, y10, y11, y12, y13, y14, y15] M := by
  intro ns
  induction ns with
  | nil =>
    intro ts N M y3 y9 y10 y11 hN hl hf ha k
    simpa using k [] M y3 y9 y10 y11 rfl (by simp) (by simpa using hf) (by simpa using ha) (fun _ _ _ => rfl)
  | cons n ns ih =>
    intro ts N M y3 y9 y10 y11 hN hl hf ha k
    rw [List.length_cons, Nat.succ_mul] at hN
    rw [List.length_cons] at hl
    have hne : es.map nD ≠ [] := fun e => he (List.map_eq_nil_iff.mp e)
    have hsl := sizeLine_eq
    have hs4 : sels.length = 4 := rfl
    rw [forW_cons]
    simp [-s_lcWS, bGrTab]
    refine one_ok hB (by omega) hf hne (by simpa using hel) fun x hx M1 f1 h1 => ?_
    obtain ⟨b, hb, rfl⟩ := List.mem_map.mp hx
    refine rows_lc hB he hel _ _ _ _ _ _ _ _ _ _ _ _ _ sels [] (N + 1) M1 _ (by rw [hs4]; omega) f1 fun rs M2 r1 r2 r3 r4 => ?_
    have ha2 : M2 a = some (.lst (ts.map rwD)) := by rw [r4 a hfa.symm, h1 a hfa.symm]; exact ha
    simp [isPL_at ha2, append_at ha2]
    refine ⟨by omega, ?_⟩
    have hf3 : Fd B (N + 9) (mup M2 a (.lst ((ts ++ [(rs, b)]).map rwD))) f := fd_mup (fd_le r3 (by rw [hs4]; omega)) hfa
    have e1 : (ts.map rwD ++ [D.tup [D.lst (rs.map rowD), nD b]]) = (ts ++ [(rs, b)]).map rwD := by simp [rwD]
    rw [e1]
    refine ih (ts ++ [(rs, b)]) (N + 9) _ _ _ _ _ (by omega) (by simp; omega) hf3 mup_same fun us M' z3 z9 z10 z11 u1 u2 u3 u4 u5 => ?_
    refine k ((rs, b) :: us) M' z3 z9 z10 z11 (by simp [u1]) (fun t ht => ?_) (by rw [List.length_cons, Nat.succ_mul]; exact fd_le u3 (by omega)) (by rw [u4]; simp) fun p hp hpa => by rw [u5 p hp hpa, mup_ne hpa, r4 p hp, h1 p hp]
    rcases List.mem_cons.mp ht with rfl | ht
    · exact ⟨r1, r2, hb⟩
    · exact u2 t ht
def rowD2 (r : List Qa) : D := .lst (r.map Qa.d)
theorem draw_rng {u : Int} (h0 : 0 ≤ u) (h1 : u < 1000) : u ≤ 16777216 ∧ u.toNat < 1000 := ⟨by omega, by omega⟩
theorem asks_loop (hB : B ≤ 10000000) {G : Gp} {sg : List Nat} (hG : G.Fit) (hsg : sg.length = G.ng) {a : Addr} (hfa : f ≠ a) (E : DEnds) (y1 y4 y5 y7 y9 y10 y11 y12 y13 : Option D) : ∀ (ns : List D) (rs : List (List Qa)) (N : Nat) (M : Mh) (y3 y6 : Option D), N + ns.length * 1300 < 2 ^ 40 → rs.length + ns.length ≤ 1000 → Fd B N M f → M a = some (.lst (rs.map rowD2)) →
    (∀ (us : List (List Qa)) M' (y3 y6 : Option D), us.length = ns.length → (∀ r ∈ us, r.length ≤ 4 ∧ ∀ a ∈ r, a.Ok G 3) → Fd B (N + ns.length * 1300) M' f → M' a = some (.lst ((rs ++ us).map rowD2)) → (∀ p, p ≠ f → p ≠ a → M' p = M p) →
      E.nx [some (.ptr f), y1, some G.psD, y3, y4, y5, y6, y7, some G.tsD, y9, y10, y11, y12, y13, some (G.sgD sg), some (.ptr a)] M') →
    forW (dgName 6) bGrAsk ns E [some (.ptr f), y1, some G.psD, y3, y4, y5, y6, y7, some G.tsD, y9, y10, y11, y12, y13, some (G.sgD sg), some (.ptr a)] M := by
  intro ns
  induction ns with
  | nil =>
    intro rs N M y3 y6 hN hl hf ha k
    simpa using k [] M y3 y6 rfl (by simp) (by simpa using hf) (by simpa using ha) (fun _ _ _ => rfl)
  | cons n ns ih =>
    intro rs N M y3 y6 hN hl hf ha k
    rw [List.length_cons, Nat.succ_mul] at hN
    rw [List.length_cons] at hl
    have hsl := sizeLine_eq
    have hc2 : cost 2 = 299 := rfl
    rw [forW_cons]
    simp [-s_lcWS, bGrAsk, isPL_at ha]
    refine draw_ok hB (by omega) hf (by decide) (by decide) fun u M1 u0 u1 f1 h1 => ?_
    have hu : u.toNat ≤ 4 := by omega
    have hlen : (rngD u.toNat).length = u.toNat := by simp [rngD]
    have hm : u.toNat * cost 2 ≤ 4 * 299 := by rw [hc2]; omega
    simp only []
    refine ⟨by omega, by omega, ?_⟩
    refine lc_gen (P := fun y => ∃ a : Qa, a.Ok G 3 ∧ y = a.d) (c := cost 2) (N0 := 2 ^ 40) (fun x N M acc ys Q q1 q2 q3 => ?_) _ _ (N + 1) M1 _ (by rw [hlen]; omega) f1 fun l M2 l1 l2 l3 l4 => ?_
    · simp
      refine ask_ok hG hsg 2 4 (by decide) M _ f B N hB q1 q2 fun a M' a1 a2 a3 => ?_
      exact q3 _ M' ⟨a, a1, rfl⟩ a2 a3
    · obtain ⟨r, rfl, hr⟩ := lift_map l2
      rw [hlen] at l1 l3
      rw [List.length_map] at l1
      have ha2 : M2 a = some (.lst (rs.map rowD2)) := by rw [l4 a hfa.symm, h1 a hfa.symm]; exact ha
      simp [append_at ha2]
      refine ⟨by omega, ?_⟩
      have e1 : (rs.map rowD2 ++ [D.lst (r.map Qa.d)]) = (rs ++ [r]).map rowD2 := by simp [rowD2]
      rw [e1]
      refine ih (rs ++ [r]) (N + 1300) _ _ _ (by omega) (by simp; omega) (fd_mup (fd_le l3 (by omega)) hfa) mup_same fun us M' z3 z6 u1 u2 u3 u4 u5 => ?_
      refine k (r :: us) M' z3 z6 (by simp [u1]) (fun t ht => ?_) (by rw [List.length_cons, Nat.succ_mul]; exact fd_le u3 (by omega)) (by rw [u4]; simp) fun p hp hpa => by rw [u5 p hp hpa, mup_ne hpa, l4 p hp, h1 p hp]
      rcases List.mem_cons.mp ht with rfl | ht
      · exact ⟨by omega, hr⟩
      · exact u2 t ht
theorem idx_ne {q : Nat → Bool} {ps : List Nat} {i p : Nat} (h : ps[i]? = some p) (hq : q p = true) : idx q 0 ps ≠ [] := fun e => by
  have : i ∈ idx q 0 ps := mem_idx.mpr ⟨i, p, by omega, h, hq⟩
  rw [e] at this
  cases this
def zro : Nat → Bool := fun p => decide (p = 0)
def pos : Nat → Bool := fun p => decide (0 < p)
theorem zro_at {ps : List Nat} {i : Nat} (h : i ∈ idx zro 0 ps) : ps[i]? = some 0 := by
  obtain ⟨j, p, e, h1, h2⟩ := mem_idx.mp h
  have : j = i := by omega
  subst this
  have : p = 0 := of_decide_eq_true h2
  subst this
  exact h1
theorem pos_at {ps : List Nat} {i : Nat} (h : i ∈ idx pos 0 ps) : ∃ p, ps[i]? = some p ∧ 0 < p := by
  obtain ⟨j, p, e, h1, h2⟩ := mem_idx.mp h
  have : j = i := by omega
  subst this
  exact ⟨p, h1, of_decide_eq_true h2⟩
/-- params and tables that fit -/
structure PTb (ps : List Nat) (ts : List (List (Str × Nat) × Nat)) : Prop where
  p0 : 1 ≤ ps.length
  pl : ps.length ≤ 10
  tl : ts.length ≤ 4
  p2 : ∀ p ∈ ps, p ≤ 2
  tp : ∀ t ∈ ts, ∃ p, ps[t.2]? = some p ∧ 0 < p
  z : ∃ i : Nat, ps[i]? = some 0
  rw_ : ∀ t ∈ ts, RwOk ps t.1
theorem gr14_ok (hB : B ≤ 10000000) {ps : List Nat} {ts : List (List (Str × Nat) × Nat)} (h : PTb ps ts) {N : Nat} {M : Mh} (hN : N + 14000 < 2 ^ 40) (hf : Fd B N M f) (E : DEnds) {n : Nat} (hn : ps.length = n + 1) (y3 y4 y6 y7 y9 y10 y11 y12 y13 y14 y15 : Option D)
    (k : ∀ (g : Gr) M', g.Ok → Fd B (N + 14000) M' f → (∀ p, p ≠ f → M' p = M p) → E.rt g.d M') :
    bGr14 E [some (.ptr f), some (.int (n : Nat)), some (.lst (ps.map nD)), y3, y4, some (.lst ((idx zro 0 ps).map nD)), y6, y7, some (.lst (ts.map rwD)), y9, y10, y11, y12, y13, y14, y15] M := by
  obtain ⟨z, hz⟩ := h.z
  have hs0 : idx zro 0 ps ≠ [] := idx_ne hz rfl
  have hs1 : (idx zro 0 ps).map nD ≠ [] := fun e => hs0 (List.map_eq_nil_iff.mp e)
  have hsl := idx_len (q := zro) (ps := ps) (k := 0)
  have hpl := h.pl
  have hp0 := h.p0
  simp [-s_lcWS, bGr14]
  refine draw_ok hB (by omega) hf (by decide) (by decide) fun u M1 u0 u1 f1 h1 => ?_
  have hu : u.toNat ≤ 3 := by omega
  have hlen : (rngD u.toNat).length = u.toNat := by simp [rngD]
  simp only []
  refine ⟨by omega, by omega, ?_⟩
  refine lc_gen (P := fun y => ∃ s : Nat, s ∈ idx zro 0 ps ∧ y = nD s) (c := 1) (N0 := 2 ^ 40) (fun x N M acc ys Q q1 q2 q3 => ?_) _ _ (N + 1) M1 _ (by rw [hlen]; omega) f1 fun l M2 l1 l2 l3 l4 => ?_
  · simp
    refine one_ok hB (by omega) q2 hs1 (by simp; omega) fun x hx M' f' h' => ?_
    obtain ⟨s, hs, rfl⟩ := List.mem_map.mp hx
    exact q3 _ M' ⟨s, hs, rfl⟩ f' h'
  · obtain ⟨sg, rfl, hsg⟩ := lift_map l2
    rw [hlen] at l1 l3
    rw [List.length_map] at l1
    have hG : (Gp.mk ps ts sg.length).Fit := ⟨h.p0, by show ps.length ≤ _; omega, by have := h.tl; show ts.length ≤ _; omega, by show sg.length ≤ _; omega, h.p2, h.tp⟩
    simp [-s_lcWS]
    intro a ha
    have hfa := fd_ne l3 ha
    have hlen2 : (rngD (n + 1)).length = n + 1 := by simp [rngD]
    refine ⟨by omega, by omega, ?_⟩
    have hrest : ∀ p, p ≠ f → p ≠ a → (mup M2 a (.lst [])) p = M p := fun p hp hpa => by rw [mup_ne hpa, l4 p hp, h1 p hp]
    have haM : M a = none := by rw [← h1 a hfa.symm, ← l4 a hfa.symm]; exact ha
    have := asks_loop (f := f) (B := B) hB (G := ⟨ps, ts, sg.length⟩) (sg := sg) hG rfl (a := a) hfa
    refine this _ _ _ _ _ _ _ _ _ _ (rngD (n + 1)) [] (N + 4) (mup M2 a (.lst [])) _ _ (by rw [hlen2]; omega) (by rw [hlen2]; simp; omega) (fd_mup (fd_le l3 (by omega)) hfa) (by simp) fun us M' y3 y6 u1 u2 u3 u4 u5 => ?_
    rw [hlen2] at u1 u3
    simp [mlst_at u4]
    refine one_ok hB (by omega) (fd_del u3 hfa) hs1 (by simp; omega) fun x hx M3 f3 h3 => ?_
    obtain ⟨m, hm, rfl⟩ := List.mem_map.mp hx
    refine k ⟨⟨ps, ts, sg.length⟩, sg, us, m⟩ M3 ⟨hG, h.pl, h.tl, rfl, by show sg.length ≤ _; omega, by show us.length = ps.length; omega, u2, fun s hs => zro_at (hsg s hs), zro_at hm, h.rw_⟩ (fd_le f3 (by omega)) fun p hp => ?_
    rw [h3 p hp]
    by_cases e : p = a
    · subst e; simp [mdel, haM]
    · simp [mdel, e]
      rw [u5 p hp e, hrest p hp e]
def alT (al : Nat) (t : List (Str × Nat) × Nat) : List (Str × Nat) × Nat := (("a", al) :: t.1.filter (fun (r : Str × Nat) => !decide (r.1 = ("a" : Str))), t.2)
theorem filt_lc {M : Mh} (y0 y1 y2 y3 y4 y5 y6 y7 y8 y9 y10 y11 y12 y14 y15 : Option D) : ∀ (rs : List (Str × Nat)) (acc : List D) (Q : List D → Mh → Prop), Q (acc ++ (rs.filter (fun (r : Str × Nat) => !decide (r.1 = ("a" : Str)))).map rowD) M →
    lcW (dgName 13) (dTst (dOp gNe (dOp gIx (dVar 13) (dC (.int 0))) (dC (.str "a")))) (dVar 13) [y0, y1, y2, y3, y4, y5, y6, y7, y8, y9, y10, y11, y12, none, y14, y15] (rs.map rowD) acc M Q := by
  intro rs
  induction rs with
  | nil => intro acc Q k; simpa using k
  | cons r rs ih =>
    intro acc Q k
    simp [rowD]
    by_cases e : r.1 = ("a" : Str)
    · simp [e] at k ⊢
      exact ih _ _ k
    · simp [e] at k ⊢
      exact ih _ _ (by simpa [rowD] using k)
theorem alike_lc {M : Mh} (al : Nat) (y0 y1 y2 y3 y4 y5 y6 y7 y8 y11 y13 y14 y15 : Option D) : ∀ (ts : List (List (Str × Nat) × Nat)) (acc : List D) (Q : List D → Mh → Prop), (∀ t ∈ ts, t.1.length ≤ 100) → Q (acc ++ (ts.map (alT al)).map rwD) M →
    lcW (dgTup 2 (dgCons (dgName 10) (dgCons (dgName 9) dgNil))) dYes (dTup (dCons (dOp (gCatL mkF) (dLst mkF (dCons (dTup (dCons (dC (.str "a")) (dCons (dVar 12) dNil))) dNil)) (dLc mkF (dInQ (dVar 10)) (dgName 13) (dTst (dOp gNe (dOp gIx (dVar 13) (dC (.int 0))) (dC (.str "a")))) (dVar 13) [13])) (dCons (dVar 9) dNil)))
      [y0, y1, y2, y3, y4, y5, y6, y7, y8, none, none, y11, some (nD al), y13, y14, y15] (ts.map rwD) acc M Q := by
  intro ts
  induction ts with
  | nil => intro acc Q hl k; simpa using k
  | cons t ts ih =>
    intro acc Q hl k
    have hsl := sizeLine_eq
    have h1 := hl t List.mem_cons_self
    have h2 := List.length_filter_le (fun r : Str × Nat => !decide (r.1 = ("a" : Str))) t.1
    simp [-s_lcWS, rwD]
    rw [s_lcWS]
    simp [-s_lcWS]
    refine filt_lc _ _ _ _ _ _ _ _ _ _ _ _ _ _ _ t.1 [] _ ?_
    refine gCatL_F (by simp; omega) ?_
    refine ih _ _ (fun u hu => hl u (List.mem_cons_of_mem _ hu)) ?_
    simpa [alT, rwD, rowD, nD] using k
theorem rw_al {ps : List Nat} {al : Nat} {t : List (Str × Nat) × Nat} (ha : ∃ p, ps[al]? = some p ∧ 0 < p) (h : RwOk ps t.1) : RwOk ps (alT al t).1 := by
  constructor
  · have e : ((alT al t).1.map (·.1)) = ("a" : Str) :: (t.1.map (·.1)).filter (fun (z : Str) => !decide (z = ("a" : Str))) := by
      simp [alT, List.filter_map, Function.comp_def]
    rw [e]
    have h2 : ((t.1.map (·.1)).filter (fun (z : Str) => !decide (z = ("a" : Str)))).Sublist (sels.filter (fun (z : Str) => !decide (z = ("a" : Str)))) := h.1.filter _
    have e2 : sels.filter (fun (z : Str) => !decide (z = ("a" : Str))) = (["b b", "c", "d"] : List Str) := by decide +kernel
    rw [e2] at h2
    exact h2.cons_cons ("a" : Str)
  · intro r hr
    rcases List.mem_cons.mp hr with rfl | hr
    · exact ha
    · exact h.2 r (List.mem_filter.mp hr).1
theorem rw_len {ps : List Nat} {t : List (Str × Nat) × Nat} (h : RwOk ps t.1) : t.1.length ≤ 4 := by
  have := h.1.length_le
  rwa [List.length_map] at this
theorem gr8_ok (hB : B ≤ 10000000) {ps : List Nat} {ts : List (List (Str × Nat) × Nat)} (h : PTb ps ts) (hes : ts ≠ [] → idx pos 0 ps ≠ []) {N : Nat} {M : Mh} (hN : N + 14002 < 2 ^ 40) (hf : Fd B N M f) (E : DEnds) {n : Nat} (hn : ps.length = n + 1) (y3 y6 y7 y9 y10 y11 y12 y13 y14 y15 : Option D)
    (k : ∀ (g : Gr) M', g.Ok → Fd B (N + 14002) M' f → (∀ p, p ≠ f → M' p = M p) → E.rt g.d M') :
    bGr8 E [some (.ptr f), some (.int (n : Nat)), some (.lst (ps.map nD)), y3, some (.lst ((idx pos 0 ps).map nD)), some (.lst ((idx zro 0 ps).map nD)), y6, y7, some (.lst (ts.map rwD)), y9, y10, y11, y12, y13, y14, y15] M := by
  have hel := idx_len (q := pos) (ps := ps) (k := 0)
  have hpl := h.pl
  have rest : ∀ (al : Nat) (N1 : Nat) (M1 : Mh) (y9 y10 y11 y13 : Option D), (ts ≠ [] → ∃ p, ps[al]? = some p ∧ 0 < p) → N1 ≤ N + 1 → Fd B N1 M1 f → (∀ p, p ≠ f → M1 p = M p) →
      bGr8b E [some (.ptr f), some (.int (n : Nat)), some (.lst (ps.map nD)), y3, some (.lst ((idx pos 0 ps).map nD)), some (.lst ((idx zro 0 ps).map nD)), y6, y7, some (.lst (ts.map rwD)), y9, y10, y11, some (nD al), y13, y14, y15] M1 := fun al N1 M1 y9 y10 y11 y13 hal hN1 f1 h1 => by
    simp [-s_lcWS, bGr8b]
    refine draw_ok hB (by omega) f1 (by decide) (by decide) fun u M2 u0 u1 f2 h2 => ?_
    simp [-s_lcWS]
    by_cases hu : u = 0
    · simp [-s_lcWS, hu]
      refine alike_lc al _ _ _ _ _ _ _ _ _ _ _ _ _ ts [] _ (fun t ht => by have := rw_len (h.rw_ t ht); omega) ?_
      simp only [List.nil_append, s_mkF]
      have h' : PTb ps (ts.map (alT al)) := ⟨h.p0, h.pl, by simpa using h.tl, h.p2, fun t ht => by
        obtain ⟨t0, ht0, rfl⟩ := List.mem_map.mp ht
        exact h.tp t0 ht0, h.z, fun t ht => by
        obtain ⟨t0, ht0, rfl⟩ := List.mem_map.mp ht
        exact rw_al (hal fun e => by rw [e] at ht0; cases ht0) (h.rw_ t0 ht0)⟩
      exact gr14_ok hB h' (N := N1 + 1) (by omega) f2 E hn _ _ _ _ _ _ _ _ _ _ _ fun g M' g1 g2 g3 => k g M' g1 (fd_le g2 (by omega)) fun p hp => by rw [g3 p hp, h2 p hp, h1 p hp]
    · simp [-s_lcWS, hu]
      exact gr14_ok hB h (N := N1 + 1) (by omega) f2 E hn _ _ _ _ _ _ _ _ _ _ _ fun g M' g1 g2 g3 => k g M' g1 (fd_le g2 (by omega)) fun p hp => by rw [g3 p hp, h2 p hp, h1 p hp]
  have tst : ∀ {ρ : DV} {Q : Bool → Mh → Prop}, lk ρ 4 = some (.lst ((idx pos 0 ps).map nD)) → Q (!((idx pos 0 ps).map nD).isEmpty) M → dTst (dOp gNeNil (dVar 4) (dLst mkF dNil)) ρ M Q := fun {ρ Q} e q => by
    unfold dTst
    rw [s_op, s_var e]
    simpa using q
  unfold bGr8
  rw [s_seq, s_asg, s_if]
  refine tst (by rfl) ?_
  by_cases he : idx pos 0 ps = []
  · have ht : ts = [] := Classical.byContradiction fun q => hes q he
    have e1 : (!((idx pos 0 ps).map nD).isEmpty) = false := by rw [he]; rfl
    rw [e1]
    exact rest 0 N M y9 y10 y11 y13 (fun q => absurd ht q) (by omega) hf (fun _ _ => rfl)
  · have hne : (idx pos 0 ps).map nD ≠ [] := fun e => he (List.map_eq_nil_iff.mp e)
    have e1 : (!((idx pos 0 ps).map nD).isEmpty) = true := by simpa using hne
    rw [e1]
    simp only [if_true]
    have go : F__law_one [.ptr f, .lst ((idx pos 0 ps).map nD)] M fun x M1 => bGr8b E [some (.ptr f), some (.int (n : Nat)), some (.lst (ps.map nD)), y3, some (.lst ((idx pos 0 ps).map nD)), some (.lst ((idx zro 0 ps).map nD)), y6, y7, some (.lst (ts.map rwD)), y9, y10, y11, some x, y13, y14, y15] M1 := by
      refine one_ok hB (by omega) hf hne (by simp; omega) fun x hx M1 f1 h1 => ?_
      obtain ⟨al, hal, rfl⟩ := List.mem_map.mp hx
      exact rest al (N + 1) M1 _ _ _ _ (fun _ => pos_at hal) (by omega) f1 h1
    exact go
theorem fzs_at {i : Nat} {d : DS} {E : DEnds} {ρ : DV} {M : Mh} {a : Addr} {xs : List D} (h1 : lk ρ i = some (.ptr a)) (h2 : M a = some (.lst xs)) (h : d E (ρ.set i (some (.lst xs))) (mdel M a)) : dFzS i d E ρ M := by
  unfold dFzS
  rw [h1]
  show (match M a with
      | some (.lst xs) => d E (ρ.set i (some (.lst xs))) (mdel M a)
      | some (.dic ks) => d E (ρ.set i (some (.dic ks))) (mdel M a)
      | _ => False)
  rw [h2]
  exact h
structure Pb (ps : List Nat) : Prop where
  p0 : 1 ≤ ps.length
  pl : ps.length ≤ 10
  p2 : ∀ p ∈ ps, p ≤ 2
  z : ∃ i : Nat, ps[i]? = some 0
theorem gr2_ok (hB : B ≤ 10000000) {ps : List Nat} (h : Pb ps) {N : Nat} {M : Mh} (hN : N + 14100 < 2 ^ 40) (hf : Fd B N M f) (E : DEnds) {n : Nat} (hn : ps.length = n + 1) (y3 y4 y5 y6 y7 y8 y9 y10 y11 y12 y13 y14 y15 : Option D)
    (k : ∀ (g : Gr) M', g.Ok → Fd B (N + 14100) M' f → (∀ p, p ≠ f → M' p = M p) → E.rt g.d M') :
    bGr2 E [some (.ptr f), some (.int (n : Nat)), some (.lst (ps.map nD)), y3, y4, y5, y6, y7, y8, y9, y10, y11, y12, y13, y14, y15] M := by
  have hel := idx_len (q := pos) (ps := ps) (k := 0)
  have hsl := sizeLine_eq
  have hpl := h.pl
  have gp : ∀ (p : Nat) (M : Mh) (Q : D → Mh → Prop), Q (.bl (pos p)) M → gGt (nD p) (.int 0) M Q := fun p M Q q => by
    show gB0 _ (.int (p : Nat)) (.int 0) M Q
    rw [g_B0]
    have : (decide ((p : Int) > 0)) = pos p := by
      unfold pos
      rw [decide_eq_decide]
      omega
    rw [← this] at q
    exact q
  have gz : ∀ (p : Nat) (M : Mh) (Q : D → Mh → Prop), Q (.bl (zro p)) M → gEq (nD p) (.int 0) M Q := fun p M Q q => by
    rw [nD_int, g_eqI]
    have : (decide ((p : Int) = 0)) = zro p := by
      unfold zro
      rw [decide_eq_decide]
      omega
    rw [this]
    exact q
  have rest : ∀ (u : Nat) (N1 : Nat) (M1 : Mh) (a : Addr) (y3 y6 y7 y9 y10 y11 y12 y13 y14 y15 : Option D), u ≤ 4 → (u ≠ 0 → idx pos 0 ps ≠ []) → N1 ≤ N + 1 → f ≠ a → M a = none → Fd B N1 M1 f → M1 a = some (.lst []) → (∀ p, p ≠ f → p ≠ a → M1 p = M p) →
      forW (dgName 3) bGrTab (rngD u) { E with nx := fun ρ' M' => dFzS 8 bGr8 E ρ' M' } [some (.ptr f), some (.int (n : Nat)), some (.lst (ps.map nD)), y3, some (.lst ((idx pos 0 ps).map nD)), some (.lst ((idx zro 0 ps).map nD)), y6, y7, some (.ptr a), y9, y10, y11, y12, y13, y14, y15] M1 := fun u N1 M1 a y3 y6 y7 y9 y10 y11 y12 y13 y14 y15 hu hue hN1 hfa ha0 f1 ha hr => by
    have hlen : (rngD u).length = u := by simp [rngD]
    have fin : ∀ (ts : List (List (Str × Nat) × Nat)) M' (y3 y9 y10 y11 : Option D), ts.length ≤ 4 → (∀ t ∈ ts, (t.1.map (·.1)).Sublist sels ∧ (∀ r ∈ t.1, r.2 ∈ idx pos 0 ps) ∧ t.2 ∈ idx pos 0 ps) → Fd B (N + 37) M' f → M' a = some (.lst (ts.map rwD)) → (∀ p, p ≠ f → p ≠ a → M' p = M p) →
        dFzS 8 bGr8 E [some (.ptr f), some (.int (n : Nat)), some (.lst (ps.map nD)), y3, some (.lst ((idx pos 0 ps).map nD)), some (.lst ((idx zro 0 ps).map nD)), y6, y7, some (.ptr a), y9, y10, y11, y12, y13, y14, y15] M' := fun ts M' y3 y9 y10 y11 h1 h2 h3 h4 h5 => by
      refine fzs_at (by rfl) h4 ?_
      have hp : PTb ps ts := ⟨h.p0, h.pl, h1, h.p2, fun t ht => pos_at (h2 t ht).2.2, h.z, fun t ht => ⟨(h2 t ht).1, fun r hr => pos_at ((h2 t ht).2.1 r hr)⟩⟩
      refine gr8_ok hB hp (fun hts e => ?_) (N := N + 37) (by omega) (fd_del h3 hfa) E hn _ _ _ _ _ _ _ _ _ _ fun g M2 g1 g2 g3 => k g M2 g1 (fd_le g2 (by omega)) fun p hp => ?_
      · obtain ⟨t, r, rfl⟩ := List.exists_cons_of_ne_nil hts
        have := (h2 t List.mem_cons_self).2.2
        rw [e] at this
        cases this
      · rw [g3 p hp]
        by_cases e : p = a
        · subst e; simp [mdel, ha0]
        · simp [mdel, e]; exact h5 p hp e
    by_cases hu0 : u = 0
    · subst hu0
      exact fin [] M1 _ _ _ _ (by simp) (by simp) (fd_le f1 (by omega)) ha hr
    · refine tab_loop hB (hue hu0) (by omega) hfa _ _ _ _ _ _ _ _ _ _ (rngD u) [] N1 M1 _ _ _ _ (by rw [hlen]; omega) (by rw [hlen]; simp; omega) f1 ha fun us M' z3 z9 z10 z11 u1 u2 u3 u4 u5 => ?_
      rw [hlen] at u1 u3
      exact fin us M' _ _ _ _ (by omega) u2 (fd_le u3 (by omega)) u4 fun p hp hpa => by rw [u5 p hp hpa, hr p hp hpa]
  simp [-s_lcWS, bGr2]
  refine ⟨by omega, ?_⟩
  refine enum_lc gp rfl ps 0 [] ?_
  simp [-s_lcWS]
  refine ⟨by omega, ?_⟩
  refine enum_lc gz rfl ps 0 [] ?_
  simp [-s_lcWS]
  intro a ha
  have hfa := fd_ne hf ha
  have fin0 := fun u N1 M1 y3 y6 y7 y9 y10 y11 y12 y13 y14 y15 h1 h2 h3 h4 h5 h6 => rest u N1 M1 a y3 y6 y7 y9 y10 y11 y12 y13 y14 y15 h1 h2 h3 hfa ha h4 h5 h6
  by_cases he : idx pos 0 ps = []
  · rw [if_pos he]
    exact fin0 0 N _ _ _ _ _ _ _ _ _ _ _ (by omega) (fun e => absurd rfl e) (by omega) (fd_mup hf hfa) mup_same fun p _ hpa => mup_ne hpa
  · rw [if_neg he]
    refine draw_ok hB (by omega) (fd_mup hf hfa) (by decide) (by decide) fun v M1 v0 v1 f1 h1 => ?_
    refine ⟨by omega, by omega, ?_⟩
    exact fin0 v.toNat (N + 1) M1 _ _ _ _ _ _ _ _ _ _ (by omega) (fun _ => he) (by omega) f1 (by rw [h1 a hfa.symm]; exact mup_same) fun p hp hpa => by rw [h1 p hp, mup_ne hpa]
theorem graph_ok {M : Mh} {R : D → Mh → Prop} {N : Nat} (hB : B ≤ 10000000) (hN : N + 14200 < 2 ^ 40) (hf : Fd B N M f) (k : ∀ (g : Gr) M', g.Ok → Fd B (N + 14200) M' f → (∀ p, p ≠ f → M' p = M p) → R g.d M') : F__law_graph [.ptr f] M R := by
  refine ⟨rfl, ?_⟩
  show (dSeq (dAsg (dOp gAdd (dC (.int 1)) (dCall F__law_draw (dCons (dVar 0) (dCons (dC (.int 9)) dNil)))) (dgName 1)) (dSeq (dAsg (dLc mkP (dInR (dVar 1)) (dgName 3) dYes (dCall F__law_one (dCons (dVar 0) (dCons (dLst mkF (dCons (dC (.int 0)) (dCons (dC (.int 1)) (dCons (dC (.int 1)) (dCons (dC (.int 2)) dNil))))) dNil))) [3]) (dgName 2)) (dSeq (dDrop (dBM gInsert (dVar 2) (dCons (dCall F__law_draw (dCons (dVar 0) (dCons (dOp gAdd (dVar 1) (dC (.int 1))) dNil))) (dCons (dC (.int 0)) dNil)))) (dFzS 2 bGr2)))) _ _ _
  simp [-s_lcWS, dstart, N__law_graph]
  refine draw_ok hB (by omega) hf (by decide) (by decide) fun v M1 v0 v1 f1 h1 => ?_
  obtain ⟨n, rfl⟩ : ∃ n : Nat, v = (n : Int) := ⟨v.toNat, by omega⟩
  have hlen : (rngD (n + 1)).length = n + 1 := by simp [rngD]
  have e1 : (1 + (n : Int)).toNat = n + 1 := by omega
  have e2 : (1 + (n : Int)) = ((n + 1 : Nat) : Int) := by omega
  have hsl := sizeLine_eq
  simp [-s_lcWS]
  rw [e1]
  refine ⟨by omega, by omega, ?_⟩
  refine lc_gen (P := fun y => ∃ p : Nat, p ≤ 2 ∧ y = nD p) (c := 1) (N0 := 2 ^ 40) (fun x N M acc ys Q q1 q2 q3 => ?_) _ _ (N + 1) M1 _ (by rw [hlen]; omega) f1 fun l M2 l1 l2 l3 l4 => ?_
  · simp
    refine one_ok hB (by omega) q2 (by simp) (by simp) fun x hx M' f' h' => ?_
    simp only [List.mem_cons, List.not_mem_nil, or_false] at hx
    rcases hx with rfl | rfl | rfl | rfl
    · exact q3 _ M' ⟨0, by omega, rfl⟩ f' h'
    · exact q3 _ M' ⟨1, by omega, rfl⟩ f' h'
    · exact q3 _ M' ⟨1, by omega, rfl⟩ f' h'
    · exact q3 _ M' ⟨2, by omega, rfl⟩ f' h'
  · obtain ⟨ps, rfl, hps⟩ := lift_map l2
    rw [hlen] at l1 l3
    rw [List.length_map] at l1
    simp [-s_lcWS]
    intro a ha
    have hfa := fd_ne l3 ha
    have haM : M a = none := by rw [← h1 a hfa.symm, ← l4 a hfa.symm]; exact ha
    refine draw_ok hB (by omega) (fd_mup (fd_le l3 (Nat.le_refl _)) hfa) (by omega) (by omega) fun j M3 j0 j1 f3 h3 => ?_
    have ha3 : M3 a = some (.lst (ps.map nD)) := by rw [h3 a hfa.symm]; exact mup_same
    obtain ⟨j, rfl⟩ : ∃ n : Nat, j = (n : Int) := ⟨j.toNat, by omega⟩
    have e3 : (ps.map nD).take j ++ [D.int 0] ++ (ps.map nD).drop j = (ps.take j ++ [0] ++ ps.drop j).map nD := by
      rw [List.map_append, List.map_append, List.map_take, List.map_drop]
      rfl
    have gi : ∀ {M : Mh} {Q : D → Mh → Prop}, M a = some (.lst (ps.map nD)) → Q .non (mup M a (.lst ((ps.take j ++ [0] ++ ps.drop j).map nD))) → gInsert (.ptr a) [.int (j : Nat), .int 0] M Q := fun {M Q} h q => by
      unfold gInsert onPL
      simp only [mlst_at h]
      refine ⟨⟨by simp; omega, by omega, by omega⟩, ?_⟩
      rw [Int.toNat_natCast, e3]
      exact q
    refine gi ha3 ?_
    refine fzs_at (by rfl) mup_same ?_
    have hjl : j ≤ ps.length := by omega
    have hl2 : (ps.take j ++ [0] ++ ps.drop j).length = (n + 1) + 1 := by
      simp only [List.length_append, List.length_take, List.length_drop, List.length_singleton]
      omega
    have hmem : ∀ p ∈ ps.take j ++ [0] ++ ps.drop j, p ≤ 2 := fun p hp => by
      rcases List.mem_append.mp hp with hp | hp
      · rcases List.mem_append.mp hp with hp | hp
        · exact hps p (List.mem_of_mem_take hp)
        · have : p = 0 := by simpa using hp
          omega
      · exact hps p (List.mem_of_mem_drop hp)
    have hz : (ps.take j ++ [0] ++ ps.drop j)[j]? = some 0 := by
      rw [List.append_assoc, List.getElem?_append_right (by simp; omega)]
      simp [hjl]
    rw [e2]
    refine gr2_ok hB (ps := ps.take j ++ [0] ++ ps.drop j) ⟨by omega, by omega, hmem, j, hz⟩ (N := N + 1 + (n + 1) * 1 + 1) (by omega) (fd_del (fd_mup f3 hfa) hfa) _ hl2 _ _ _ _ _ _ _ _ _ _ _ _ _ fun g M' g1 g2 g3 => ?_
    have hM : ∀ p, p ≠ f → M' p = M p := fun p hp => by
      rw [g3 p hp]
      by_cases e : p = a
      · subst e; simp [mdel, haM]
      · simp [mdel, mup, e]
        rw [h3 p hp, mup_ne e, l4 p hp, h1 p hp]
    show R g.d (keepM M M')
    rw [keep_fd hf hM]
    exact k g M' g1 (fd_le g2 (by omega)) hM
end
end K70
set_option maxRecDepth 100000
set_option maxHeartbeats 1000000
namespace K70
open PySem PySem.Spec PyProof.Rows L2 DL
/-! ### all asks within -/
def Qs.l : Qs → List Qa
  | .nil => []
  | .non r => r.l
  | .cons a r => a :: r.l
def Qa.kids : Qa → List Qa | .mk _ _ is => is.l
def Qa.is : Qa → Qs | .mk _ _ is => is
mutual
def Qa.sz : Qa → Nat
  | .mk _ _ is => 1 + is.sz
def Qs.sz : Qs → Nat
  | .nil => 0
  | .non r => r.sz
  | .cons a r => a.sz + r.sz
end
def qszs (l : List Qa) : Nat := (l.map Qa.sz).sum
theorem qsz_l : ∀ is : Qs, qszs is.l = is.sz
  | .nil => rfl
  | .non r => by simp [Qs.l, Qs.sz, qsz_l r]
  | .cons a r => by
    have := qsz_l r
    simp [Qs.l, Qs.sz, qszs] at this ⊢
    omega
theorem qkids_sz (a : Qa) : qszs a.kids + 1 = a.sz := by
  obtain ⟨w, n, is⟩ := a
  simp [Qa.kids, Qa.sz, qsz_l]
  omega
inductive QSub : Qa → Qa → Prop
  | self (c : Qa) : QSub c c
  | kid {x k c : Qa} (h : QSub x k) (hk : k ∈ c.kids) : QSub x c
theorem qsub_iff {x c : Qa} : QSub x c ↔ x = c ∨ ∃ k ∈ c.kids, QSub x k := by
  constructor
  · rintro (_ | ⟨h, hk⟩)
    · exact .inl rfl
    · exact .inr ⟨_, hk, h⟩
  · rintro (rfl | ⟨k, hk, h⟩)
    · exact .self _
    · exact .kid h hk
theorem qszs_app (l r : List Qa) : qszs (l ++ r) = qszs l + qszs r := by simp [qszs]
theorem qszs_one (c : Qa) : qszs [c] = c.sz := by simp [qszs]
theorem qsz_pos (c : Qa) : 1 ≤ c.sz := by
  have := qkids_sz c
  omega
theorem qlen_szs : ∀ l : List Qa, l.length ≤ qszs l
  | [] => Nat.zero_le _
  | x :: r => by
    have h1 := qsz_pos x
    have h2 := qlen_szs r
    simp only [qszs, List.map_cons, List.sum_cons, List.length_cons] at h2 ⊢
    omega
section
variable {M : Mh} {R : D → Mh → Prop}
theorem some_lc (y0 y1 y2 y3 : Option D) : ∀ (is : Qs) (acc : List D) (Q : List D → Mh → Prop), Q (acc ++ is.l.map Qa.d) M →
    lcW (dgName 4) (dTst (dOp gNotN (dVar 4) (dC .non))) (dVar 4) [y0, y1, y2, y3, none] is.ds acc M Q
  | .nil, acc, Q, k => by simpa [Qs.ds, Qs.l] using k
  | .non r, acc, Q, k => by
    simp [Qs.ds]
    exact some_lc y0 y1 y2 y3 r acc Q k
  | .cons a r, acc, Q, k => by
    obtain ⟨w, n, is⟩ := a
    simp [Qs.ds, Qa.d]
    exact some_lc y0 y1 y2 y3 r _ Q (by simpa [Qs.l, Qa.d] using k)
def bFlat : DS := dSeq (dAsg (dBM gPop0 (dVar 2) dNil) (dgName 3)) (dSeq (dDrop (dBM gAppend (dVar 1) (dCons (dVar 3) dNil))) (dDrop (dBM gExtend (dVar 2) (dCons (dLc mkF (dInQ (dOp gIx (dVar 3) (dC (.int 2)))) (dgName 4) (dTst (dOp gNotN (dVar 4) (dC .non))) (dVar 4) [4]) dNil))))
theorem flat_loop {a b : Addr} (hab : a ≠ b) (E : DEnds) (c0 : D) : ∀ (n : Nat) (M : Mh) (fs ls : List Qa) (x3 x4 : Option D), qszs ls < n → M a = some (.lst (fs.map Qa.d)) → M b = some (.lst (ls.map Qa.d)) → fs.length + qszs ls ≤ sizeLine →
    (∀ (fs' : List Qa) (M' : Mh) (x3 x4 : Option D), M' a = some (.lst (fs'.map Qa.d)) → (∀ p, p ≠ a → p ≠ b → M' p = M p) → (∀ c, c ∈ fs' ↔ c ∈ fs ∨ ∃ l ∈ ls, QSub c l) → fs'.length = fs.length + qszs ls → E.nx [some c0, some (.ptr a), some (.ptr b), x3, x4] M') →
    whileN (dTst (dOp gNeNil (dVar 2) (dLst mkF dNil))) bFlat n E [some c0, some (.ptr a), some (.ptr b), x3, x4] M := by
  intro n
  induction n with
  | zero => intro M fs ls x3 x4 h; omega
  | succ n ih =>
    intro M fs ls x3 x4 hn ha hb hz k
    unfold whileN
    simp [g_neNilP hb]
    rcases List.eq_nil_or_concat ls with rfl | ⟨ini, c, rfl⟩
    · simp
      exact k fs M x3 x4 ha (fun p _ _ => rfl) (by simp) (by simp [qszs])
    · rw [List.concat_eq_append] at hn hb hz k ⊢
      have hcs := qkids_sz c
      rw [qszs_app, qszs_one] at hn hz k
      simp only [List.append_eq_nil_iff, List.cons_ne_self, and_false, if_false]
      have hb' : M b = some (.lst (ini.map Qa.d ++ [c.d])) := by rw [hb]; simp
      have ha1 : (mup M b (.lst (ini.map Qa.d))) a = some (.lst (fs.map Qa.d)) := by rw [mup_ne hab]; exact ha
      have hb2 : (mup (mup M b (.lst (ini.map Qa.d))) a (.lst (fs.map Qa.d ++ [c.d]))) b = some (.lst (ini.map Qa.d)) := by rw [mup_ne hab.symm]; exact mup_same
      have i2 : ∀ {M : Mh} {Q : D → Mh → Prop}, gIx c.d (.int 2) M Q = Q (.lst c.is.ds) M := fun {M Q} => by cases c; exact ixT2
      simp [bFlat, isPL_at hb', pop_at hb', isPL_at ha1, append_at ha1, isPL_at hb2, i2]
      have hlk := qlen_szs c.kids
      have hli := qlen_szs ini
      refine ⟨by omega, ?_⟩
      refine some_lc _ _ _ _ c.is [] _ ?_
      have ek : c.is.l = c.kids := by cases c; rfl
      rw [List.nil_append, ek, extend_at hb2 rfl]
      refine ⟨by simp; omega, ?_⟩
      refine ih _ (fs ++ [c]) (ini ++ c.kids) _ _ (by rw [qszs_app]; omega) (by rw [mup_ne hab]; simp) (by simp) (by rw [qszs_app, List.length_append, List.length_singleton]; omega) fun fs' M' x3 x4 h1 h2 h3 h4 => k fs' M' x3 x4 h1 (fun p p1 p2 => ?_) (fun d => ?_) (by rw [h4, qszs_app, List.length_append, List.length_singleton]; omega)
      · rw [h2 p p1 p2, mup_ne p2, mup_ne p1, mup_ne p2]
      · rw [h3 d]
        simp only [List.mem_append, List.mem_singleton]
        constructor
        · rintro ((h | rfl) | ⟨l, h | h, s⟩)
          · exact .inl h
          · exact .inr ⟨d, .inr rfl, .self _⟩
          · exact .inr ⟨l, .inl h, s⟩
          · exact .inr ⟨c, .inr rfl, .kid s h⟩
        · rintro (h | ⟨l, h | rfl, s⟩)
          · exact .inl (.inl h)
          · exact .inr ⟨l, .inl h, s⟩
          · rcases qsub_iff.mp s with rfl | ⟨kk, hk, s⟩
            · exact .inl (.inr rfl)
            · exact .inr ⟨kk, .inr hk, s⟩
theorem flat_ok (ls : List Qa) (hz : qszs ls ≤ sizeLine) (k : ∀ fs : List Qa, (∀ d, d ∈ fs ↔ ∃ l ∈ ls, QSub d l) → fs.length = qszs ls → R (.lst (fs.map Qa.d)) M) : F__law_flat [.lst (ls.map Qa.d)] M R := by
  refine ⟨rfl, ?_⟩
  simp [rd__law_flat, dstart, N__law_flat]
  intro a ha b hb
  have hab : a ≠ b := fun e => by subst e; simp at hb
  have hbM : M b = none := by rw [mup_ne hab.symm] at hb; exact hb
  refine ⟨qszs ls + 1, flat_loop hab _ _ _ _ [] ls _ _ (by omega) (by rw [mup_ne hab]; simp) (by simp) (by simpa using hz) fun fs' M' x3 x4 h1 h2 h3 h4 => ?_⟩
  simp [mlst, h1]
  rw [keep_of]
  · exact k fs' (fun d => by rw [h3 d]; simp) (by rw [h4]; simp)
  · intro p o hp
    have p1 : p ≠ a := ne_m hp ha
    have p2 : p ≠ b := ne_m hp hbM
    simp [mdel, p1, h2 p p1 p2, mup_ne p1, mup_ne p2, hp]
end
end K70
set_option maxRecDepth 100000
set_option maxHeartbeats 1000000
namespace K70
open PySem PySem.Spec PyProof.Rows L2 DL
def bRowC : DS := (dIfS (dTst (dOp gEq (dVar 18) (dOp gIx (dVar 14) (dC (.int 1))))) (dAsg (dC (.bl true)) (dgSub (dVar 8) (dVar 19))) dNext)
def bTabC : DS := (dFor (dInQ (dIf (dTst (dOp gIx (dVar 9) (dVar 15))) (dVar 16) (dLst mkF dNil))) (dgTup 2 (dgCons (dgName 18) (dgCons (dgName 19) dgNil))) bRowC)
def bAskC : DS := (dIfS (dTst (dOp gEq (dOp gIx (dVar 14) (dC (.int 0))) (dC (.str "direct")))) (dAsg (dC (.bl true)) (dgSub (dVar 8) (dOp gIx (dVar 14) (dC (.int 1))))) (dIfS (dTst (dOp gEq (dOp gIx (dVar 14) (dC (.int 0))) (dC (.str "single")))) (dAsg (dC (.bl true)) (dgSub (dVar 8) (dOp gIx (dVar 6) (dOp gIx (dVar 14) (dC (.int 1)))))) (dIfS (dTst (dOp gEq (dOp gIx (dVar 14) (dC (.int 0))) (dC (.str "make")))) (dSeq (dAsg (dC (.bl true)) (dgSub (dVar 9) (dOp gIx (dVar 14) (dC (.int 1))))) (dAsg (dC (.bl true)) (dgSub (dVar 8) (dOp gIx (dOp gIx (dVar 5) (dOp gIx (dVar 14) (dC (.int 1)))) (dC (.int 1)))))) (dFor (dInE (dVar 5)) (dgTup 2 (dgCons (dgName 15) (dgCons (dgTup 2 (dgCons (dgName 16) (dgCons (dgName 17) dgNil))) dgNil))) bTabC))))
def bAtC : DS := (dFor (dInQ (dIf (dTst (dOp gIx (dVar 8) (dVar 10))) (dOp gIx (dVar 11) (dVar 10)) (dLst mkF dNil))) (dgName 14) bAskC)
def bTurnC : DS := (dFor (dInR (dCB gLen (dCons (dVar 3) dNil))) (dgName 10) bAtC)
def bEndC : DS := (dRet (dTup (dCons (dCB gTuple (dCons (dLc mkF (dInR (dCB gLen (dCons (dVar 3) dNil))) (dgName 10) (dTst (dOp gIx (dVar 8) (dVar 10))) (dVar 10) [10]) dNil)) (dCons (dCB gTuple (dCons (dLc mkF (dInR (dCB gLen (dCons (dVar 5) dNil))) (dgName 10) (dTst (dOp gIx (dVar 9) (dVar 10))) (dVar 10) [10]) dNil)) dNil))))
def bLoopC : DS := (dSeq (dFor (dInR (dOp gAdd (dOp gAdd (dCB gLen (dCons (dVar 3) dNil)) (dCB gLen (dCons (dVar 5) dNil))) (dC (.int 1)))) (dgName 13) bTurnC) bEndC)
/-! ### truths by index -/
def Bp (bs : List Bool) (n : Nat) : Prop := bs[n]? = some true
theorem bp_set {bs : List Bool} {n m : Nat} (h : n < bs.length) : Bp (bs.set n true) m ↔ m = n ∨ Bp bs m := by
  unfold Bp
  rw [List.getElem?_set]
  by_cases e : n = m
  · subst e; simp [h]
  · have e' : ¬ m = n := fun q => e q.symm
    simp [e, e']
def blO (bs : List Bool) : MO := .lst (bs.map .bl)
theorem set_bl {bs : List Bool} {n : Nat} : (bs.map D.bl).set n (.bl true) = (bs.set n true).map D.bl := by rw [List.map_set]
theorem ixN_nat {l n : Nat} (h : n < l) : ixN l (n : Int) = some n := by
  unfold ixN
  simp [h]
/-- what one ask wants, tables T being made -/
def Dm (g : Gr) (T B' T' : Nat → Prop) : Qa → Prop
  | .mk .dir n _ => B' n
  | .mk .sin n _ => ∀ s, g.sg[n]? = some s → B' s
  | .mk .mak n _ => T' n ∧ ∀ t, g.G.ts[n]? = some t → B' t.2
  | .mk .snd n _ => ∀ (j : Nat) t, g.G.ts[j]? = some t → T j → ∀ r ∈ t.1, r.1 = sel n → B' r.2
theorem Dm.mono {g : Gr} {T U B B' T' U' : Nat → Prop} (hT : ∀ n, U n → T n) (hB : ∀ n, B n → B' n) (hU : ∀ n, T' n → U' n) : ∀ {d : Qa}, Dm g T B T' d → Dm g U B' U' d
  | .mk .dir n _, h => hB _ h
  | .mk .sin n _, h => fun s hs => hB _ (h s hs)
  | .mk .mak n _, h => ⟨hU _ h.1, fun t ht => hB _ (h.2 t ht)⟩
  | .mk .snd n _, h => fun j t ht hj r hr e => hB _ (h j t ht (hT _ hj) r hr e)
/-- what one ask names is there -/
def Vd (g : Gr) : Qa → Prop
  | .mk .dir n _ => n < g.G.ps.length
  | .mk .sin n _ => ∃ s, g.sg[n]? = some s
  | .mk .mak n _ => ∃ t, g.G.ts[n]? = some t
  | .mk .snd n _ => n < 4
structure Sz (g : Gr) : Prop where
  sg : ∀ s ∈ g.sg, s < g.G.ps.length
  tb : ∀ t ∈ g.G.ts, t.2 < g.G.ps.length ∧ ∀ r ∈ t.1, r.2 < g.G.ps.length
  tl : g.G.ts.length ≤ 60
  pl : g.G.ps.length ≤ 60
structure Stp (X : (Nat → Prop) → (Nat → Prop) → Prop) (bs rs bs' rs' : List Bool) : Prop where
  lb : bs'.length = bs.length
  lr : rs'.length = rs.length
  mb : ∀ n, Bp bs n → Bp bs' n
  mr : ∀ n, Bp rs n → Bp rs' n
  lst : ∀ B T, X B T → (∀ n, Bp bs n → B n) → (∀ n, Bp rs n → T n) → (∀ n, Bp bs' n → B n) ∧ ∀ n, Bp rs' n → T n
theorem Stp.refl {X : (Nat → Prop) → (Nat → Prop) → Prop} (bs rs : List Bool) : Stp X bs rs bs rs := ⟨rfl, rfl, fun _ h => h, fun _ h => h, fun _ _ _ h1 h2 => ⟨h1, h2⟩⟩
theorem Stp.trans {X : (Nat → Prop) → (Nat → Prop) → Prop} {b r b1 r1 b2 r2 : List Bool} (h : Stp X b r b1 r1) (h' : Stp X b1 r1 b2 r2) : Stp X b r b2 r2 :=
  ⟨by rw [h'.lb, h.lb], by rw [h'.lr, h.lr], fun n q => h'.mb n (h.mb n q), fun n q => h'.mr n (h.mr n q), fun B T x q1 q2 => let ⟨u1, u2⟩ := h.lst B T x q1 q2; h'.lst B T x u1 u2⟩
theorem Stp.weak {X Y : (Nat → Prop) → (Nat → Prop) → Prop} {b r b1 r1 : List Bool} (h : Stp X b r b1 r1) (w : ∀ B T, (∀ n, Bp b n → B n) → Y B T → X B T) : Stp Y b r b1 r1 :=
  ⟨h.lb, h.lr, h.mb, h.mr, fun B T y q1 q2 => h.lst B T (w B T q1 y) q1 q2⟩
section
variable {g : Gr} {F : List (List Qa)} {p8 p9 : Addr} {x0 x1 x2 x4 x7 x12 : Option D}
theorem set_at {x y : DE} {ρ : DV} {M : Mh} {N : DV → Mh → Prop} {p : Addr} {bs : List Bool} {n : Nat} (hx : ∀ Q : D → Mh → Prop, Q (.ptr p) M → x ρ M Q) (hy : ∀ Q : D → Mh → Prop, Q (nD n) M → y ρ M Q) (hM : M p = some (blO bs)) (hn : n < bs.length) (h : N ρ (mup M p (blO (bs.set n true)))) : dgSub x y (.bl true) ρ M N := by
  rw [s_gsub]
  refine hx _ ?_
  refine hy _ ?_
  have e : mlst M p = some (bs.map .bl) := by simp [mlst, hM, blO]
  show (match mlst M p with | some xs => (match ixN xs.length ((n : Nat) : Int) with | some j => N ρ (mup M p (.lst (xs.set j (.bl true)))) | none => False) | none => False)
  rw [e]
  simp only [List.length_map, ixN_nat hn]
  rw [set_bl]
  exact h
theorem rowc_loop (E : DEnds) (m : Nat) (is : Qs) (x10 x13 x15 x16 x17 : Option D) : ∀ (rows : List (Str × Nat)) (bs : List Bool) (M : Mh) (x18 x19 : Option D), M p8 = some (blO bs) → (∀ r ∈ rows, r.2 < bs.length) →
    (∀ (bs' : List Bool) (M' : Mh) (x18 x19 : Option D), M' p8 = some (blO bs') → (∀ p, p ≠ p8 → M' p = M p) → bs'.length = bs.length → (∀ n, Bp bs n → Bp bs' n) → (∀ r ∈ rows, r.1 = sel m → Bp bs' r.2) → (∀ B : Nat → Prop, (∀ n, Bp bs n → B n) → (∀ r ∈ rows, r.1 = sel m → B r.2) → ∀ n, Bp bs' n → B n) →
      E.nx [x0, x1, x2, some g.G.psD, x4, some g.G.tsD, some (g.G.sgD g.sg), x7, some (.ptr p8), some (.ptr p9), x10, some (.lst (F.map fun fs => .lst (fs.map Qa.d))), x12, x13, some (Qa.mk .snd m is).d, x15, x16, x17, x18, x19] M') →
    forW (dgTup 2 (dgCons (dgName 18) (dgCons (dgName 19) dgNil))) bRowC (rows.map rowD) E [x0, x1, x2, some g.G.psD, x4, some g.G.tsD, some (g.G.sgD g.sg), x7, some (.ptr p8), some (.ptr p9), x10, some (.lst (F.map fun fs => .lst (fs.map Qa.d))), x12, x13, some (Qa.mk .snd m is).d, x15, x16, x17, x18, x19] M := by
  intro rows
  induction rows with
  | nil => intro bs M x18 x19 hM _ k; exact k bs M x18 x19 hM (fun _ _ => rfl) rfl (fun _ h => h) (by simp) (fun B h _ => h)
  | cons r rows ih =>
    intro bs M x18 x19 hM hr k
    have hr0 := hr r List.mem_cons_self
    have hr1 : ∀ q ∈ rows, q.2 < bs.length := fun q hq => hr q (List.mem_cons_of_mem _ hq)
    rw [List.map_cons, forW_cons]
    have i1 : ∀ {M : Mh} {Q : D → Mh → Prop}, gIx (Qa.mk .snd m is).d (.int 1) M Q = Q (.str (sel m)) M := fun {M Q} => ixT1
    simp [rowD, bRowC, i1, -s_gsub]
    by_cases e : r.1 = sel m
    · rw [if_pos e]
      refine set_at (n := r.2) (fun Q q => q) (fun Q q => q) hM hr0 ?_
      refine ih (bs.set r.2 true) _ _ _ mup_same (fun q hq => by rw [List.length_set]; exact hr1 q hq) fun bs' M' y18 y19 h1 h2 h3 h4 h5 h6 => k bs' M' y18 y19 h1 (fun p hp => by rw [h2 p hp, mup_ne hp]) (by rw [h3, List.length_set]) (fun n hn => h4 n ((bp_set hr0).mpr (.inr hn))) (fun q hq eq => ?_) fun B hb hq => h6 B (fun n hn => ?_) fun q hq' => hq q (List.mem_cons_of_mem _ hq')
      · rcases List.mem_cons.mp hq with rfl | hq
        · exact h4 _ ((bp_set hr0).mpr (.inl rfl))
        · exact h5 q hq eq
      · rcases (bp_set hr0).mp hn with rfl | hn
        · exact hq r List.mem_cons_self e
        · exact hb n hn
    · rw [if_neg e]
      refine ih bs M _ _ hM hr1 fun bs' M' y18 y19 h1 h2 h3 h4 h5 h6 => k bs' M' y18 y19 h1 h2 h3 h4 (fun q hq eq => ?_) fun B hb hq => h6 B hb fun q hq' => hq q (List.mem_cons_of_mem _ hq')
      rcases List.mem_cons.mp hq with rfl | hq
      · exact absurd eq e
      · exact h5 q hq eq
theorem ixb {M : Mh} {p : Addr} {rs : List Bool} {k : Nat} {b : Bool} {Q : D → Mh → Prop} (h : M p = some (blO rs)) (e : rs[k]? = some b) : gIx (.ptr p) (.int (k : Nat)) M Q = Q (.bl b) M := ix_ptr (xs := rs.map .bl) h (by rw [List.getElem?_map, e]; rfl)
theorem tabc_loop (E : DEnds) (m : Nat) (is : Qs) {rs : List Bool} (h89 : p8 ≠ p9) (x10 x13 : Option D) : ∀ (ts : List (List (Str × Nat) × Nat)) (k : Nat) (bs : List Bool) (M : Mh) (x15 x16 x17 x18 x19 : Option D), M p8 = some (blO bs) → M p9 = some (blO rs) → (∀ t ∈ ts, ∀ r ∈ t.1, r.2 < bs.length) → k + ts.length ≤ rs.length →
    (∀ (bs' : List Bool) (M' : Mh) (x15 x16 x17 x18 x19 : Option D), M' p8 = some (blO bs') → (∀ p, p ≠ p8 → M' p = M p) → bs'.length = bs.length → (∀ n, Bp bs n → Bp bs' n) → (∀ (j : Nat) t, ts[j]? = some t → Bp rs (k + j) → ∀ r ∈ t.1, r.1 = sel m → Bp bs' r.2) →
      (∀ B : Nat → Prop, (∀ n, Bp bs n → B n) → (∀ (j : Nat) t, ts[j]? = some t → Bp rs (k + j) → ∀ r ∈ t.1, r.1 = sel m → B r.2) → ∀ n, Bp bs' n → B n) → E.nx [x0, x1, x2, some g.G.psD, x4, some g.G.tsD, some (g.G.sgD g.sg), x7, some (.ptr p8), some (.ptr p9), x10, some (.lst (F.map fun fs => .lst (fs.map Qa.d))), x12, x13, some (Qa.mk .snd m is).d, x15, x16, x17, x18, x19] M') →
    forW (dgTup 2 (dgCons (dgName 15) (dgCons (dgTup 2 (dgCons (dgName 16) (dgCons (dgName 17) dgNil))) dgNil))) bTabC (enumD k (ts.map rwD)) E [x0, x1, x2, some g.G.psD, x4, some g.G.tsD, some (g.G.sgD g.sg), x7, some (.ptr p8), some (.ptr p9), x10, some (.lst (F.map fun fs => .lst (fs.map Qa.d))), x12, x13, some (Qa.mk .snd m is).d, x15, x16, x17, x18, x19] M := by
  intro ts
  induction ts with
  | nil => intro k bs M x15 x16 x17 x18 x19 hM hM9 _ _ q; exact q bs M x15 x16 x17 x18 x19 hM (fun _ _ => rfl) rfl (fun _ h => h) (by simp) (fun B h _ => h)
  | cons t ts ih =>
    intro k bs M x15 x16 x17 x18 x19 hM hM9 hr hk q
    rw [List.length_cons] at hk
    obtain ⟨b, hb⟩ : ∃ b, rs[k]? = some b := ⟨_, List.getElem?_eq_getElem (by omega)⟩
    have hr1 : ∀ u ∈ ts, ∀ r ∈ u.1, r.2 < bs.length := fun u hu => hr u (List.mem_cons_of_mem _ hu)
    have e0 : enumD k ((t :: ts).map rwD) = .tup [nD k, rwD t] :: enumD (k + 1) (ts.map rwD) := rfl
    rw [e0, forW_cons]
    have split : ∀ (P : List (Str × Nat) × Nat → Prop), (∀ (j : Nat) u, (t :: ts)[j]? = some u → Bp rs (k + j) → P u) ↔ (Bp rs k → P t) ∧ ∀ (j : Nat) u, ts[j]? = some u → Bp rs (k + 1 + j) → P u := fun P => by
      constructor
      · exact fun h => ⟨fun h0 => h 0 t rfl h0, fun j u hu hj => h (j + 1) u (by simpa using hu) (by rwa [show k + (j + 1) = k + 1 + j by omega])⟩
      · rintro ⟨h1, h2⟩ j u hu hj
        cases j with
        | zero => simp at hu; subst hu; exact h1 hj
        | succ j => exact h2 j u (by simpa using hu) (by rwa [show k + 1 + j = k + (j + 1) by omega])
    have next : ∀ (bs1 : List Bool) (M1 : Mh) (x15 x16 x17 x18 x19 : Option D), M1 p8 = some (blO bs1) → (∀ p, p ≠ p8 → M1 p = M p) → bs1.length = bs.length → (∀ n, Bp bs n → Bp bs1 n) → (b = true → ∀ r ∈ t.1, r.1 = sel m → Bp bs1 r.2) → (∀ B : Nat → Prop, (∀ n, Bp bs n → B n) → (b = true → ∀ r ∈ t.1, r.1 = sel m → B r.2) → ∀ n, Bp bs1 n → B n) →
        forW (dgTup 2 (dgCons (dgName 15) (dgCons (dgTup 2 (dgCons (dgName 16) (dgCons (dgName 17) dgNil))) dgNil))) bTabC (enumD (k + 1) (ts.map rwD)) E [x0, x1, x2, some g.G.psD, x4, some g.G.tsD, some (g.G.sgD g.sg), x7, some (.ptr p8), some (.ptr p9), x10, some (.lst (F.map fun fs => .lst (fs.map Qa.d))), x12, x13, some (Qa.mk .snd m is).d, x15, x16, x17, x18, x19] M1 := fun bs1 M1 y15 y16 y17 y18 y19 a1 a2 a3 a4 a5 a6 => by
      have hbt : b = true ↔ Bp rs k := by unfold Bp; rw [hb]; simp
      refine ih (k + 1) bs1 M1 _ _ _ _ _ a1 (by rw [a2 p9 h89.symm]; exact hM9) (by rw [a3]; exact hr1) (by omega) fun bs' M' z15 z16 z17 z18 z19 b1 b2 b3 b4 b5 b6 => ?_
      refine q bs' M' _ _ _ _ _ b1 (fun p hp => by rw [b2 p hp, a2 p hp]) (by rw [b3, a3]) (fun n hn => b4 n (a4 n hn)) ((split (fun u => ∀ r ∈ u.1, r.1 = sel m → Bp bs' r.2)).mpr ⟨fun h r hr e => b4 _ (a5 (hbt.mpr h) r hr e), b5⟩) fun B hB hq => ?_
      obtain ⟨q1, q2⟩ := (split (fun u => ∀ r ∈ u.1, r.1 = sel m → B r.2)).mp hq
      exact b6 B (a6 B hB fun h => q1 (hbt.mp h)) q2
    simp [rwD, nD_int k, bTabC, ixb hM9 hb]
    cases b with
    | false =>
      simp
      exact next bs M _ _ _ _ _ hM (fun _ _ => rfl) rfl (fun _ h => h) (fun h => by cases h) (fun B h _ => h)
    | true =>
      simp
      exact rowc_loop _ m is _ _ _ _ _ t.1 bs M _ _ hM (fun r hr' => hr t List.mem_cons_self r hr') fun bs' M' y18 y19 h1 h2 h3 h4 h5 h6 => next bs' M' _ _ _ _ _ h1 h2 h3 h4 (fun _ => h5) fun B hB hq => h6 B hB (hq rfl)
theorem bp_lt {bs : List Bool} {n : Nat} (h : Bp bs n) : n < bs.length := (List.getElem?_eq_some_iff.mp h).1
theorem stp_set8 {X : (Nat → Prop) → (Nat → Prop) → Prop} {bs rs : List Bool} {n : Nat} (hn : n < bs.length) (hx : ∀ B T, X B T → (∀ m, Bp rs m → T m) → B n) : Stp X bs rs (bs.set n true) rs :=
  ⟨List.length_set, rfl, fun m h => (bp_set hn).mpr (.inr h), fun m h => h, fun B T x h1 h2 => ⟨fun m h => by
    rcases (bp_set hn).mp h with rfl | h
    · exact hx B T x h2
    · exact h1 m h, h2⟩⟩
theorem stp_set9 {X : (Nat → Prop) → (Nat → Prop) → Prop} {bs rs : List Bool} {n : Nat} (hn : n < rs.length) (hx : ∀ B T, X B T → T n) : Stp X bs rs bs (rs.set n true) :=
  ⟨rfl, List.length_set, fun m h => h, fun m h => (bp_set hn).mpr (.inr h), fun B T x h1 h2 => ⟨h1, fun m h => by
    rcases (bp_set hn).mp h with rfl | h
    · exact hx B T x
    · exact h2 m h⟩⟩
theorem ask1 (E : DEnds) (hg : Sz g) (h89 : p8 ≠ p9) {bs rs : List Bool} (hb : bs.length = g.G.ps.length) (hr : rs.length = g.G.ts.length) {M : Mh} (hM8 : M p8 = some (blO bs)) (hM9 : M p9 = some (blO rs)) (d : Qa) (hd : Vd g d) (x10 x13 x15 x16 x17 x18 x19 : Option D)
    (q : ∀ (bs' rs' : List Bool) (M' : Mh) (x15 x16 x17 x18 x19 : Option D), M' p8 = some (blO bs') → M' p9 = some (blO rs') → (∀ p, p ≠ p8 → p ≠ p9 → M' p = M p) → Stp (fun B T => Dm g T B T d) bs rs bs' rs' → Dm g (Bp rs) (Bp bs') (Bp rs') d → E.nx [x0, x1, x2, some g.G.psD, x4, some g.G.tsD, some (g.G.sgD g.sg), x7, some (.ptr p8), some (.ptr p9), x10, some (.lst (F.map fun fs => .lst (fs.map Qa.d))), x12, x13, some d.d, x15, x16, x17, x18, x19] M') :
    bAskC E [x0, x1, x2, some g.G.psD, x4, some g.G.tsD, some (g.G.sgD g.sg), x7, some (.ptr p8), some (.ptr p9), x10, some (.lst (F.map fun fs => .lst (fs.map Qa.d))), x12, x13, some d.d, x15, x16, x17, x18, x19] M := by
  have hsl := sizeLine_eq
  have htl := hg.tl
  obtain ⟨w, n, is⟩ := d
  have j0 : ∀ {M : Mh} {Q : D → Mh → Prop}, gIx (Qa.mk w n is).d (.int 0) M Q = Q (.str w.t) M := fun {M Q} => ixT0
  have j1 : ∀ {M : Mh} {Q : D → Mh → Prop}, gIx (Qa.mk w n is).d (.int 1) M Q = Q (numD w n) M := fun {M Q} => ixT1
  cases w with
  | dir =>
    have hd : n < g.G.ps.length := hd
    simp [-s_gsub, bAskC, j0, Wd.t]
    refine set_at (n := n) (fun Q q => q) (fun Q q => by simpa [j1, numD, nD] using q) hM8 (by omega) ?_
    exact q _ rs _ _ _ _ _ _ mup_same (by rw [mup_ne h89.symm]; exact hM9) (fun p hp _ => mup_ne hp) (stp_set8 (by omega) fun B T x _ => x) ((bp_set (by omega)).mpr (.inl rfl))
  | sin =>
    obtain ⟨s, hs⟩ := hd
    have hs1 := hg.sg s (List.mem_of_getElem? hs)
    have g1 : (g.sg.map nD)[n]? = some (nD s) := by rw [List.getElem?_map, hs]; rfl
    simp [-s_gsub, bAskC, j0, Wd.t]
    refine set_at (n := s) (fun Q q => q) (fun Q q => by simpa [j1, numD, Gp.sgD, ix_lst g1] using q) hM8 (by omega) ?_
    exact q _ rs _ _ _ _ _ _ mup_same (by rw [mup_ne h89.symm]; exact hM9) (fun p hp _ => mup_ne hp) (stp_set8 (by omega) fun B T x _ => x s hs) (fun s' hs' => by
      rw [hs] at hs'
      cases hs'
      exact (bp_set (by omega)).mpr (.inl rfl))
  | mak =>
    obtain ⟨t, ht⟩ := hd
    have ht1 := (hg.tb t (List.mem_of_getElem? ht)).1
    have hnt : n < g.G.ts.length := (List.getElem?_eq_some_iff.mp ht).1
    have g1 : (g.G.ts.map rwD)[n]? = some (rwD t) := by rw [List.getElem?_map, ht]; rfl
    have n4 : ∀ {M : Mh} {Q : D → Mh → Prop}, gIx (rwD t) (.int 1) M Q = Q (nD t.2) M := fun {M Q} => ixT1
    simp [-s_gsub, bAskC, j0, Wd.t]
    refine set_at (n := n) (p := p9) (fun Q q => q) (fun Q q => by simpa [j1, numD, nD] using q) hM9 (by omega) ?_
    refine set_at (n := t.2) (bs := bs) (fun Q q => q) (fun Q q => by simpa [j1, numD, Gp.tsD, ix_lst g1, n4] using q) (by rw [mup_ne h89]; exact hM8) (by omega) ?_
    have s1 : Stp (fun B T => Dm g T B T (.mk .mak n is)) bs rs bs (rs.set n true) := stp_set9 (by omega) fun B T x => x.1
    refine q _ (rs.set n true) _ _ _ _ _ _ mup_same (by rw [mup_ne h89.symm]; exact mup_same) (fun p hp hp9 => by rw [mup_ne hp, mup_ne hp9]) (s1.trans (stp_set8 (by omega) fun B T x _ => x.2 t ht)) ⟨(bp_set (by omega)).mpr (.inl rfl), fun t' ht' => ?_⟩
    rw [ht] at ht'
    cases ht'
    exact (bp_set (by omega)).mpr (.inl rfl)
  | snd =>
    simp [-s_gsub, bAskC, j0, Wd.t, Gp.tsD]
    refine ⟨by omega, ?_⟩
    refine tabc_loop E n is h89 _ _ g.G.ts 0 bs M _ _ _ _ _ hM8 hM9 (fun t ht r hr => by rw [hb]; exact (hg.tb t ht).2 r hr) (by omega) fun bs' M' y15 y16 y17 y18 y19 h1 h2 h3 h4 h5 h6 => ?_
    refine q bs' rs M' _ _ _ _ _ h1 (by rw [h2 p9 h89.symm]; exact hM9) (fun p hp _ => h2 p hp) ⟨h3, rfl, h4, fun _ h => h, fun B T x b1 b2 => ⟨h6 B b1 fun j t hj ht => x j t hj (b2 j (by simpa using ht)), b2⟩⟩ fun j t hj ht => h5 j t hj (by simpa using ht)
theorem askc_loop (E : DEnds) (hg : Sz g) (h89 : p8 ≠ p9) (x10 x13 : Option D) : ∀ (fs : List Qa) (bs rs : List Bool) (M : Mh) (x14 x15 x16 x17 x18 x19 : Option D), bs.length = g.G.ps.length → rs.length = g.G.ts.length → M p8 = some (blO bs) → M p9 = some (blO rs) → (∀ d ∈ fs, Vd g d) →
    (∀ (bs' rs' : List Bool) (M' : Mh) (x14 x15 x16 x17 x18 x19 : Option D), M' p8 = some (blO bs') → M' p9 = some (blO rs') → (∀ p, p ≠ p8 → p ≠ p9 → M' p = M p) → Stp (fun B T => ∀ d ∈ fs, Dm g T B T d) bs rs bs' rs' → (∀ d ∈ fs, Dm g (Bp rs) (Bp bs') (Bp rs') d) → E.nx [x0, x1, x2, some g.G.psD, x4, some g.G.tsD, some (g.G.sgD g.sg), x7, some (.ptr p8), some (.ptr p9), x10, some (.lst (F.map fun fs => .lst (fs.map Qa.d))), x12, x13, x14, x15, x16, x17, x18, x19] M') →
    forW (dgName 14) bAskC (fs.map Qa.d) E [x0, x1, x2, some g.G.psD, x4, some g.G.tsD, some (g.G.sgD g.sg), x7, some (.ptr p8), some (.ptr p9), x10, some (.lst (F.map fun fs => .lst (fs.map Qa.d))), x12, x13, x14, x15, x16, x17, x18, x19] M := by
  intro fs
  induction fs with
  | nil => intro bs rs M x14 x15 x16 x17 x18 x19 _ _ h8 h9 _ q; exact q bs rs M _ _ _ _ _ _ h8 h9 (fun _ _ _ => rfl) (Stp.refl _ _) (by simp)
  | cons d fs ih =>
    intro bs rs M x14 x15 x16 x17 x18 x19 hb hr h8 h9 hv q
    rw [List.map_cons, forW_cons, s_gname]
    refine ask1 _ hg h89 hb hr h8 h9 d (hv d List.mem_cons_self) _ _ _ _ _ _ _ fun b1 r1 M1 y15 y16 y17 y18 y19 a1 a2 a3 a4 a5 => ?_
    refine ih b1 r1 M1 _ _ _ _ _ _ (by rw [a4.lb, hb]) (by rw [a4.lr, hr]) a1 a2 (fun e he => hv e (List.mem_cons_of_mem _ he)) fun b2 r2 M2 z14 z15 z16 z17 z18 z19 c1 c2 c3 c4 c5 => ?_
    refine q b2 r2 M2 _ _ _ _ _ _ c1 c2 (fun p hp hp' => by rw [c3 p hp hp', a3 p hp hp']) ((a4.weak fun B T _ h => h d List.mem_cons_self).trans (c4.weak fun B T _ h e he => h e (List.mem_cons_of_mem _ he))) fun e he => ?_
    rcases List.mem_cons.mp he with rfl | he
    · exact a5.mono (fun _ h => h) c4.mb c4.mr
    · exact (c5 e he).mono a4.mr (fun _ h => h) (fun _ h => h)
/-- closed, as the graph tells -/
def GC (g : Gr) (F : List (List Qa)) (B T : Nat → Prop) : Prop := ∀ (n : Nat) fs, F[n]? = some fs → B n → ∀ d ∈ fs, Dm g T B T d
def FOk (g : Gr) (F : List (List Qa)) : Prop := F.length = g.G.ps.length ∧ ∀ fs ∈ F, ∀ d ∈ fs, Vd g d
theorem at_loop (E : DEnds) (hg : Sz g) (hF : FOk g F) (h89 : p8 ≠ p9) (x13 : Option D) : ∀ (ns : List Nat) (bs rs : List Bool) (M : Mh) (x10 x14 x15 x16 x17 x18 x19 : Option D), bs.length = g.G.ps.length → rs.length = g.G.ts.length → M p8 = some (blO bs) → M p9 = some (blO rs) → (∀ n ∈ ns, n < g.G.ps.length) →
    (∀ (bs' rs' : List Bool) (M' : Mh) (x10 x14 x15 x16 x17 x18 x19 : Option D), M' p8 = some (blO bs') → M' p9 = some (blO rs') → (∀ p, p ≠ p8 → p ≠ p9 → M' p = M p) → Stp (GC g F) bs rs bs' rs' → (∀ n ∈ ns, Bp bs n → ∀ fs, F[n]? = some fs → ∀ d ∈ fs, Dm g (Bp rs) (Bp bs') (Bp rs') d) → E.nx [x0, x1, x2, some g.G.psD, x4, some g.G.tsD, some (g.G.sgD g.sg), x7, some (.ptr p8), some (.ptr p9), x10, some (.lst (F.map fun fs => .lst (fs.map Qa.d))), x12, x13, x14, x15, x16, x17, x18, x19] M') →
    forW (dgName 10) bAtC (ns.map nD) E [x0, x1, x2, some g.G.psD, x4, some g.G.tsD, some (g.G.sgD g.sg), x7, some (.ptr p8), some (.ptr p9), x10, some (.lst (F.map fun fs => .lst (fs.map Qa.d))), x12, x13, x14, x15, x16, x17, x18, x19] M := by
  intro ns
  induction ns with
  | nil => intro bs rs M x10 x14 x15 x16 x17 x18 x19 _ _ h8 h9 _ q; exact q bs rs M _ _ _ _ _ _ _ h8 h9 (fun _ _ _ => rfl) (Stp.refl _ _) (by simp)
  | cons n ns ih =>
    intro bs rs M x10 x14 x15 x16 x17 x18 x19 hb hr h8 h9 hn q
    have hn0 := hn n List.mem_cons_self
    obtain ⟨b, hbn⟩ : ∃ b, bs[n]? = some b := ⟨_, List.getElem?_eq_getElem (by omega)⟩
    obtain ⟨fs, hfs⟩ : ∃ fs, F[n]? = some fs := ⟨_, List.getElem?_eq_getElem (by rw [hF.1]; exact hn0)⟩
    have hFi : (F.map fun fs => D.lst (fs.map Qa.d))[n]? = some (.lst (fs.map Qa.d)) := by rw [List.getElem?_map, hfs]; rfl
    have next : ∀ (b1 r1 : List Bool) (M1 : Mh) (x10 x14 x15 x16 x17 x18 x19 : Option D), M1 p8 = some (blO b1) → M1 p9 = some (blO r1) → (∀ p, p ≠ p8 → p ≠ p9 → M1 p = M p) → Stp (GC g F) bs rs b1 r1 → (Bp bs n → ∀ d ∈ fs, Dm g (Bp rs) (Bp b1) (Bp r1) d) →
        forW (dgName 10) bAtC (ns.map nD) E [x0, x1, x2, some g.G.psD, x4, some g.G.tsD, some (g.G.sgD g.sg), x7, some (.ptr p8), some (.ptr p9), x10, some (.lst (F.map fun fs => .lst (fs.map Qa.d))), x12, x13, x14, x15, x16, x17, x18, x19] M1 := fun b1 r1 M1 y10 y14 y15 y16 y17 y18 y19 a1 a2 a3 a4 a5 => by
      refine ih b1 r1 M1 _ _ _ _ _ _ _ (by rw [a4.lb, hb]) (by rw [a4.lr, hr]) a1 a2 (fun e he => hn e (List.mem_cons_of_mem _ he)) fun b2 r2 M2 z10 z14 z15 z16 z17 z18 z19 c1 c2 c3 c4 c5 => ?_
      refine q b2 r2 M2 _ _ _ _ _ _ _ c1 c2 (fun p hp hp' => by rw [c3 p hp hp', a3 p hp hp']) (a4.trans c4) fun m hm hbm gs hgs d hd => ?_
      rcases List.mem_cons.mp hm with rfl | hm
      · rw [hfs] at hgs
        cases hgs
        exact (a5 hbm d hd).mono (fun _ h => h) c4.mb c4.mr
      · exact (c5 m hm (a4.mb m hbm) gs hgs d hd).mono a4.mr (fun _ h => h) (fun _ h => h)
    rw [List.map_cons, forW_cons, s_gname]
    simp [bAtC, nD_int n, ixb h8 hbn]
    cases b with
    | false =>
      simp
      exact next bs rs M _ _ _ _ _ _ _ h8 h9 (fun _ _ _ => rfl) (Stp.refl _ _) fun h => by unfold Bp at h; rw [hbn] at h; cases h
    | true =>
      simp [ix_lst hFi]
      exact askc_loop _ hg h89 _ _ fs bs rs M _ _ _ _ _ _ hb hr h8 h9 (hF.2 fs (List.mem_of_getElem? hfs)) fun b1 r1 M1 y14 y15 y16 y17 y18 y19 a1 a2 a3 a4 a5 => next b1 r1 M1 _ _ _ _ _ _ _ a1 a2 a3 (a4.weak fun B T hB h d hd => h n fs hfs (hB n hbn) d hd) fun _ => a5
/-! ### rounds -/
def cntT (bs : List Bool) : Nat := bs.countP id
theorem cnt_le : ∀ {bs bs' : List Bool}, bs'.length = bs.length → (∀ n, Bp bs n → Bp bs' n) → cntT bs ≤ cntT bs' ∧ (cntT bs = cntT bs' → bs = bs')
  | [], [], _, _ => ⟨Nat.le_refl _, fun _ => rfl⟩
  | [], b :: r, h, _ => by simp at h
  | b :: r, [], h, _ => by simp at h
  | b :: r, b' :: r', h, hm => by
    have h0 : b = true → b' = true := fun e => by
      have := hm 0 (by unfold Bp; simp [e])
      unfold Bp at this
      simpa using this
    obtain ⟨i1, i2⟩ := cnt_le (bs := r) (bs' := r') (by simpa using h) fun n hn => by
      have := hm (n + 1) (by unfold Bp at hn ⊢; simpa using hn)
      unfold Bp at this ⊢
      simpa using this
    unfold cntT at i1 i2 ⊢
    cases b <;> cases b' <;> simp at h0 ⊢
    · exact ⟨i1, i2⟩
    · exact ⟨by omega, by omega⟩
    · exact ⟨i1, i2⟩
theorem cnt_len (bs : List Bool) : cntT bs ≤ bs.length := List.countP_le_length
theorem bp_eq {bs bs' : List Bool} (hl : bs'.length = bs.length) (h : ∀ n, Bp bs n ↔ Bp bs' n) : bs = bs' := by
  refine List.ext_getElem? fun n => ?_
  have := h n
  unfold Bp at this
  by_cases hn : n < bs.length
  · rw [List.getElem?_eq_getElem hn, List.getElem?_eq_getElem (by omega)] at this ⊢
    simp only [Option.some.injEq] at this ⊢
    exact Bool.eq_iff_iff.mpr this
  · rw [List.getElem?_eq_none (by omega), List.getElem?_eq_none (by omega)]
theorem turn_loop (E : DEnds) (hg : Sz g) (hF : FOk g F) (h89 : p8 ≠ p9) : ∀ (ns : List D) (bs rs : List Bool) (M : Mh) (x10 x13 x14 x15 x16 x17 x18 x19 : Option D), bs.length = g.G.ps.length → rs.length = g.G.ts.length → M p8 = some (blO bs) → M p9 = some (blO rs) →
    (∀ (bs' rs' : List Bool) (M' : Mh) (x10 x13 x14 x15 x16 x17 x18 x19 : Option D), M' p8 = some (blO bs') → M' p9 = some (blO rs') → (∀ p, p ≠ p8 → p ≠ p9 → M' p = M p) → Stp (GC g F) bs rs bs' rs' → (GC g F (Bp bs') (Bp rs') ∨ cntT bs + cntT rs + ns.length ≤ cntT bs' + cntT rs') → E.nx [x0, x1, x2, some g.G.psD, x4, some g.G.tsD, some (g.G.sgD g.sg), x7, some (.ptr p8), some (.ptr p9), x10, some (.lst (F.map fun fs => .lst (fs.map Qa.d))), x12, x13, x14, x15, x16, x17, x18, x19] M') →
    forW (dgName 13) bTurnC ns E [x0, x1, x2, some g.G.psD, x4, some g.G.tsD, some (g.G.sgD g.sg), x7, some (.ptr p8), some (.ptr p9), x10, some (.lst (F.map fun fs => .lst (fs.map Qa.d))), x12, x13, x14, x15, x16, x17, x18, x19] M := by
  intro ns
  induction ns with
  | nil => intro bs rs M x10 x13 x14 x15 x16 x17 x18 x19 _ _ h8 h9 q; exact q bs rs M _ _ _ _ _ _ _ _ h8 h9 (fun _ _ _ => rfl) (Stp.refl _ _) (.inr (by simp))
  | cons z ns ih =>
    intro bs rs M x10 x13 x14 x15 x16 x17 x18 x19 hb hr h8 h9 q
    have hpl := hg.pl
    rw [forW_cons, s_gname]
    have lp : ∀ {M : Mh} {Q : D → Mh → Prop}, gLen [g.G.psD] M Q = Q (.int (g.G.ps.length : Nat)) M := fun {M Q} => by simp [Gp.psD]
    simp [bTurnC, lp]
    refine ⟨by omega, ?_⟩
    have er : rngD g.G.ps.length = (List.range g.G.ps.length).map nD := rfl
    rw [er]
    refine at_loop _ hg hF h89 _ (List.range g.G.ps.length) bs rs M _ _ _ _ _ _ _ hb hr h8 h9 (fun n hn => List.mem_range.mp hn) fun b1 r1 M1 y10 y14 y15 y16 y17 y18 y19 a1 a2 a3 a4 a5 => ?_
    refine ih b1 r1 M1 _ _ _ _ _ _ _ _ (by rw [a4.lb, hb]) (by rw [a4.lr, hr]) a1 a2 fun b2 r2 M2 z10 z13 z14 z15 z16 z17 z18 z19 c1 c2 c3 c4 c5 => ?_
    refine q b2 r2 M2 _ _ _ _ _ _ _ _ c1 c2 (fun p hp hp' => by rw [c3 p hp hp', a3 p hp hp']) (a4.trans c4) ?_
    obtain ⟨d1, d2⟩ := cnt_le a4.lb a4.mb
    obtain ⟨d3, d4⟩ := cnt_le a4.lr a4.mr
    by_cases e : cntT bs + cntT rs = cntT b1 + cntT r1
    · have eb : bs = b1 := d2 (by omega)
      have er' : rs = r1 := d4 (by omega)
      subst eb
      subst er'
      have cl : GC g F (Bp bs) (Bp rs) := fun n fs hfs hn d hd => a5 n (List.mem_range.mpr (by have := bp_lt hn; omega)) hn fs hfs d hd
      obtain ⟨u1, u2⟩ := c4.lst _ _ cl (fun _ h => h) (fun _ h => h)
      have eb2 : bs = b2 := bp_eq c4.lb fun n => ⟨c4.mb n, u1 n⟩
      have er2 : rs = r2 := bp_eq c4.lr fun n => ⟨c4.mr n, u2 n⟩
      rw [← eb2, ← er2]
      exact .inl cl
    · rcases c5 with h | h
      · exact .inl h
      · right
        rw [List.length_cons]
        omega
/-! ### all of it -/
def trues (bs : List Bool) : List Nat := (List.range bs.length).filter fun n => decide (bs[n]? = some true)
theorem mem_trues {bs : List Bool} {n : Nat} : n ∈ trues bs ↔ Bp bs n := by
  unfold trues Bp
  rw [List.mem_filter, List.mem_range]
  simp only [decide_eq_true_eq]
  exact ⟨fun h => h.2, fun h => ⟨(List.getElem?_eq_some_iff.mp h).1, h⟩⟩
theorem trues_asc (bs : List Bool) : (trues bs).Pairwise (· < ·) := List.Pairwise.sublist List.filter_sublist List.pairwise_lt_range
theorem end_lc {M : Mh} {p : Addr} {bs : List Bool} (h : M p = some (blO bs)) {ρ : DV} {i : Nat} (hi : ∀ n, lk (ρ.set 10 (some (nD n))) i = some (.ptr p)) (h10 : ∀ n, lk (ρ.set 10 (some (nD n))) 10 = some (nD n)) {Q : List D → Mh → Prop} : ∀ (ns : List Nat) (acc : List D), (∀ n ∈ ns, n < bs.length) → Q (acc ++ (ns.filter fun n => decide (bs[n]? = some true)).map nD) M →
    lcW (dgName 10) (dTst (dOp gIx (dVar i) (dVar 10))) (dVar 10) ρ (ns.map nD) acc M Q := by
  intro ns
  induction ns with
  | nil => intro acc _ k; simpa using k
  | cons n ns ih =>
    intro acc hn k
    have hn0 := hn n List.mem_cons_self
    obtain ⟨b, hb⟩ : ∃ b, bs[n]? = some b := ⟨_, List.getElem?_eq_getElem hn0⟩
    rw [List.map_cons, s_lcWS, s_gname]
    unfold dTst
    rw [s_op, s_var (hi n), s_var (h10 n)]
    show gIx (.ptr p) (.int (n : Nat)) M _
    rw [ixb h hb]
    have hn1 : ∀ m ∈ ns, m < bs.length := fun m hm => hn m (List.mem_cons_of_mem _ hm)
    cases b with
    | false =>
      simp [hb] at k ⊢
      exact ih _ hn1 (by simpa using k)
    | true =>
      simp only [if_true]
      rw [s_var (h10 n)]
      simp [hb] at k
      exact ih _ hn1 (by simpa using k)
end
end K70
set_option maxRecDepth 100000
set_option maxHeartbeats 1000000
namespace K70
open PySem PySem.Spec PyProof.Rows L2 DL
theorem kids_ok {G : Gp} : ∀ {is : Qs} {dp : Nat}, is.Ok G dp → ∀ k ∈ is.l, ∃ dp', k.Ok G dp'
  | .nil, dp, h, k, hk => by cases hk
  | .non r, dp, h, k, hk => kids_ok (is := r) (dp := dp) (by cases dp <;> exact h) k hk
  | .cons a r, 0, h, k, hk => h.elim
  | .cons a r, dp + 1, h, k, hk => by
    rcases List.mem_cons.mp hk with rfl | hk
    · exact ⟨dp, h.1⟩
    · exact kids_ok (is := r) (dp := dp + 1) h.2 k hk
theorem qsub_ok {G : Gp} {d a : Qa} (s : QSub d a) : ∀ {dp : Nat}, a.Ok G dp → ∃ dp', d.Ok G dp' := by
  induction s with
  | self => intro dp h; exact ⟨dp, h⟩
  | @kid k c h hk ih =>
    intro dp ho
    obtain ⟨w, n, is⟩ := c
    obtain ⟨dp', h'⟩ := kids_ok (is := is) ho.2 k hk
    exact ih h'
theorem vd_ok {g : Gr} (hg : g.Ok) {d : Qa} {dp : Nat} (h : d.Ok g.G dp) : Vd g d := by
  obtain ⟨w, n, is⟩ := d
  obtain ⟨h, _⟩ := h
  cases w with
  | dir => exact (List.getElem?_eq_some_iff.mp h).1
  | mak => obtain ⟨t, ht, _⟩ := h; exact ⟨t, ht⟩
  | sin => exact ⟨_, List.getElem?_eq_getElem (by rw [hg.sl]; exact h.1)⟩
  | snd => exact h.1
theorem len_ok {G : Gp} (hG : G.Fit) {w : Wd} {n dp : Nat} {is : Qs} (h : (Qa.mk w n is).Ok G dp) : is.len ≤ 3 := by
  obtain ⟨h, _⟩ := h
  cases w with
  | dir => have := hG.p2 _ (List.mem_of_getElem? h); omega
  | mak => obtain ⟨t, _, h⟩ := h; have := hG.p2 _ (List.mem_of_getElem? h); omega
  | sin => have := h.2; omega
  | snd => exact h.2.2
mutual
theorem qa_sz {G : Gp} (hG : G.Fit) : ∀ {a : Qa} {dp : Nat}, a.Ok G dp → a.sz ≤ 4 ^ dp
  | .mk w n is, dp, h => by
    have h1 := qs_sz hG h.2
    have h2 := len_ok hG h
    have e : (Qa.mk w n is).sz = 1 + is.sz := by simp [Qa.sz]
    cases dp with
    | zero => simp at h1; omega
    | succ dp =>
      simp only [Nat.add_sub_cancel, Nat.succ_ne_zero, if_false] at h1
      have hm : is.len * 4 ^ dp ≤ 3 * 4 ^ dp := Nat.mul_le_mul_right _ h2
      have e4 : 4 ^ (dp + 1) = 4 * 4 ^ dp := by rw [Nat.pow_succ, Nat.mul_comm]
      have hp : 1 ≤ 4 ^ dp := Nat.pow_pos (by decide)
      omega
theorem qs_sz {G : Gp} (hG : G.Fit) : ∀ {is : Qs} {dp : Nat}, is.Ok G dp → is.sz ≤ if dp = 0 then 0 else is.len * 4 ^ (dp - 1)
  | .nil, dp, h => by simp [Qs.sz]
  | .non r, dp, h => by
    have := qs_sz hG (is := r) (dp := dp) (by cases dp <;> exact h)
    have e : (Qs.non r).sz = r.sz := by simp [Qs.sz]
    rw [e]
    split at this
    · simp_all
    · rename_i h0
      rw [if_neg h0]
      have e2 : (Qs.non r).len = r.len + 1 := rfl
      rw [e2, Nat.succ_mul]
      generalize 4 ^ (dp - 1) = q at *
      omega
  | .cons a r, 0, h => h.elim
  | .cons a r, dp + 1, h => by
    have h1 := qa_sz hG h.1
    have h2 := qs_sz hG (is := r) (dp := dp + 1) h.2
    have e : (Qs.cons a r).sz = a.sz + r.sz := by simp [Qs.sz]
    have e2 : (Qs.cons a r).len = r.len + 1 := rfl
    simp only [Nat.add_sub_cancel, Nat.succ_ne_zero, if_false] at h2 ⊢
    rw [e, e2, Nat.succ_mul]
    omega
end
theorem Gr.Ok.sz {g : Gr} (hg : g.Ok) : Sz g := ⟨fun s hs => (List.getElem?_eq_some_iff.mp (hg.sg0 s hs)).1, fun t ht => ⟨by
  obtain ⟨p, hp, _⟩ := hg.fit.tp t ht
  exact (List.getElem?_eq_some_iff.mp hp).1, fun r hr => by
  obtain ⟨p, hp, _⟩ := (hg.rw_ t ht).2 r hr
  exact (List.getElem?_eq_some_iff.mp hp).1⟩, by have := hg.t4; omega, by have := hg.p10; omega⟩
theorem row_sz {g : Gr} (hg : g.Ok) {r : List Qa} (hr : r ∈ g.asks) : qszs r ≤ 256 := by
  obtain ⟨h1, h2⟩ := hg.ar r hr
  have : ∀ l : List Qa, (∀ a ∈ l, a.Ok g.G 3) → qszs l ≤ l.length * 64 := fun l => by
    induction l with
    | nil => intro _; simp [qszs]
    | cons a l ih =>
      intro h
      have i1 := ih fun b hb => h b (List.mem_cons_of_mem _ hb)
      have i2 := qa_sz hg.fit (h a List.mem_cons_self)
      have e : qszs (a :: l) = a.sz + qszs l := by simp [qszs]
      rw [e, List.length_cons, Nat.succ_mul]
      have : (4 : Nat) ^ 3 = 64 := by decide
      omega
  have := this r h2
  omega
/-- closed, by the asks themselves -/
def GCl (g : Gr) (B T : Nat → Prop) : Prop := ∀ (n : Nat) row, g.asks[n]? = some row → B n → ∀ l ∈ row, ∀ d, QSub d l → Dm g T B T d
inductive Flts : List (List Qa) → List (List Qa) → Prop
  | nil : Flts [] []
  | cons {r fs : List Qa} {rs F : List (List Qa)} (h : ∀ d, d ∈ fs ↔ ∃ l ∈ r, QSub d l) (t : Flts rs F) : Flts (r :: rs) (fs :: F)
theorem Flts.len : ∀ {rs F : List (List Qa)}, Flts rs F → F.length = rs.length
  | _, _, .nil => rfl
  | _, _, .cons _ t => by rw [List.length_cons, List.length_cons, t.len]
theorem Flts.at_ : ∀ {rs F : List (List Qa)} {i : Nat} {r fs : List Qa}, Flts rs F → rs[i]? = some r → F[i]? = some fs → ∀ d, d ∈ fs ↔ ∃ l ∈ r, QSub d l
  | _, _, i, _, _, .nil, h, _ => by simp at h
  | _, _, 0, _, _, .cons h _, e1, e2 => by simp at e1 e2; subst e1; subst e2; exact h
  | _, _, i + 1, _, _, .cons _ t, e1, e2 => t.at_ (i := i) (by simpa using e1) (by simpa using e2)
theorem gc_iff {g : Gr} {F : List (List Qa)} (h : Flts g.asks F) {B T : Nat → Prop} : GC g F B T ↔ GCl g B T := by
  constructor
  · intro q n row hr hn l hl d hd
    obtain ⟨fs, hfs⟩ : ∃ fs, F[n]? = some fs := ⟨_, List.getElem?_eq_getElem (by rw [h.len]; exact (List.getElem?_eq_some_iff.mp hr).1)⟩
    exact q n fs hfs hn d ((h.at_ hr hfs d).mpr ⟨l, hl, hd⟩)
  · intro q n fs hfs hn d hd
    obtain ⟨row, hr⟩ : ∃ row, g.asks[n]? = some row := ⟨_, List.getElem?_eq_getElem (by rw [← h.len]; exact (List.getElem?_eq_some_iff.mp hfs).1)⟩
    obtain ⟨l, hl, hs⟩ := (h.at_ hr hfs d).mp hd
    exact q n row hr hn l hl d hs
theorem Flts.ok {g : Gr} (hg : g.Ok) {F : List (List Qa)} (h : Flts g.asks F) : FOk g F := by
  refine ⟨by rw [h.len, hg.al], fun fs hfs d hd => ?_⟩
  obtain ⟨n, hn⟩ := List.getElem?_of_mem hfs
  obtain ⟨row, hr⟩ : ∃ row, g.asks[n]? = some row := ⟨_, List.getElem?_eq_getElem (by rw [← h.len]; exact (List.getElem?_eq_some_iff.mp hn).1)⟩
  obtain ⟨l, hl, hs⟩ := (h.at_ hr hn d).mp hd
  obtain ⟨dp, ho⟩ := qsub_ok hs ((hg.ar row (List.mem_of_getElem? hr)).2 l hl)
  exact vd_ok hg ho
/-- the least closed pair over a given one -/
structure GLst (g : Gr) (b m bl tl : List Nat) : Prop where
  sb : bl.Pairwise (· < ·)
  st : tl.Pairwise (· < ·)
  lb : ∀ n ∈ bl, n < g.G.ps.length
  lt : ∀ n ∈ tl, n < g.G.ts.length
  b0 : ∀ n ∈ b, n < g.G.ps.length → n ∈ bl
  m0 : ∀ n ∈ m, n < g.G.ts.length → n ∈ tl
  cl : GCl g (· ∈ bl) (· ∈ tl)
  least : ∀ B T : Nat → Prop, GCl g B T → (∀ n ∈ b, B n) → (∀ n ∈ m, T n) → (∀ n ∈ bl, B n) ∧ ∀ n ∈ tl, T n
theorem GCl.congr {g : Gr} {B B' T T' : Nat → Prop} (hB : ∀ n, B n ↔ B' n) (hT : ∀ n, T n ↔ T' n) (h : GCl g B T) : GCl g B' T' := fun n row hr hn l hl d hd =>
  (h n row hr ((hB n).mpr hn) l hl d hd).mono (fun n hn => (hT n).mpr hn) (fun n hn => (hB n).mp hn) (fun n hn => (hT n).mp hn)
section
variable {M : Mh} {R : D → Mh → Prop} {g : Gr}
theorem in_lc {l : List Nat} {x : D} (hx : x = .lst (l.map nD) ∨ x = .tup (l.map nD)) {ρ : DV} {i : Nat} (hi : ∀ n, lk (ρ.set 10 (some (nD n))) i = some x) (h10 : ∀ n, lk (ρ.set 10 (some (nD n))) 10 = some (nD n)) {Q : List D → Mh → Prop} : ∀ (ns : List Nat) (acc : List D), Q (acc ++ (ns.map fun n => decide (n ∈ l)).map .bl) M →
    lcW (dgName 10) dYes (dOp (gInI false) (dVar 10) (dVar i)) ρ (ns.map nD) acc M Q := by
  intro ns
  induction ns with
  | nil => intro acc k; simpa using k
  | cons n ns ih =>
    intro acc k
    rw [List.map_cons, s_lcWS, s_gname, s_yes]
    simp only [if_true]
    rw [s_op, s_var (h10 n), s_var (hi n)]
    show gInI false (.int (n : Nat)) x M _
    rw [inI_at hx]
    exact ih _ (by simpa using k)
theorem flts_lc (hz : ∀ r ∈ g.asks, qszs r ≤ sizeLine) {ρ : DV} (h12 : ∀ d, lk (ρ.set 12 (some d)) 12 = some d) : ∀ (rs : List (List Qa)) (acc : List D) (Q : List D → Mh → Prop), (∀ r ∈ rs, qszs r ≤ sizeLine) → (∀ F, Flts rs F → Q (acc ++ F.map fun fs => .lst (fs.map Qa.d)) M) →
    lcW (dgName 12) dYes (dCall F__law_flat (dCons (dVar 12) dNil)) ρ (rs.map rowD2) acc M Q := by
  intro rs
  induction rs with
  | nil => intro acc Q _ k; simpa using k [] .nil
  | cons r rs ih =>
    intro acc Q hz k
    rw [List.map_cons, s_lcWS, s_gname, s_yes]
    simp only [if_true]
    rw [s_call, s_cons, s_var (h12 _), s_nil]
    refine flat_ok r (hz r List.mem_cons_self) fun fs hfs _ => ?_
    refine ih _ _ (fun q hq => hz q (List.mem_cons_of_mem _ hq)) fun F hF => ?_
    have := k (fs :: F) (.cons hfs hF)
    simpa using this
theorem closure_ok (hg : g.Ok) {b m : List Nat} {db dm : D} (hb : db = .lst (b.map nD) ∨ db = .tup (b.map nD)) (hm : dm = .lst (m.map nD) ∨ dm = .tup (m.map nD)) (k : ∀ bl tl, GLst g b m bl tl → R (.tup [.tup (bl.map nD), .tup (tl.map nD)]) M) : F__law_closure [g.d, db, dm] M R := by
  have lp : ∀ {M : Mh} {Q : D → Mh → Prop}, gLen [g.G.psD] M Q = Q (.int (g.G.ps.length : Nat)) M := fun {M Q} => by simp [Gp.psD]
  have lt : ∀ {M : Mh} {Q : D → Mh → Prop}, gLen [g.G.tsD] M Q = Q (.int (g.G.ts.length : Nat)) M := fun {M Q} => by simp [Gp.tsD]
  have hsz := hg.sz
  have hpl := hsz.pl
  have htl := hsz.tl
  have hsl := sizeLine_eq
  refine ⟨rfl, ?_⟩
  show (dSeq (dAsg (dVar 0) (dgTup 5 (dgCons (dgName 3) (dgCons (dgName 4) (dgCons (dgName 5) (dgCons (dgName 6) (dgCons (dgName 7) dgNil))))))) (dSeq (dAsg (dTup (dCons (dLc mkP (dInR (dCB gLen (dCons (dVar 3) dNil))) (dgName 10) dYes (dOp (gInI false) (dVar 10) (dVar 1)) [10]) (dCons (dLc mkP (dInR (dCB gLen (dCons (dVar 5) dNil))) (dgName 10) dYes (dOp (gInI false) (dVar 10) (dVar 2)) [10]) dNil))) (dgTup 2 (dgCons (dgName 8) (dgCons (dgName 9) dgNil)))) (dSeq (dAsg (dLc mkF (dInQ (dVar 4)) (dgName 12) dYes (dCall F__law_flat (dCons (dVar 12) dNil)) [12]) (dgName 11)) bLoopC))) _ _ _
  simp [-s_lcWS, dstart, N__law_closure, Gr.d, lp, lt]
  refine ⟨by omega, ?_⟩
  refine in_lc hb (fun n => rfl) (fun n => rfl) (List.range g.G.ps.length) [] ?_
  rw [List.nil_append]
  intro p8 h8
  simp [-s_lcWS, lt]
  refine ⟨by omega, ?_⟩
  refine in_lc hm (fun n => rfl) (fun n => rfl) (List.range g.G.ts.length) [] ?_
  rw [List.nil_append]
  intro p9 h9
  simp [-s_lcWS]
  refine flts_lc (g := g) (fun r hr => by have := row_sz hg hr; omega) (fun d => rfl) g.asks [] _ (fun r hr => by have := row_sz hg hr; omega) fun F hF => ?_
  rw [List.nil_append]
  have eb : ∀ (l : List Nat) (n : Nat), (MO.lst (List.map (D.bl ∘ fun n => decide (n ∈ l)) (List.range n))) = blO ((List.range n).map fun n => decide (n ∈ l)) := fun l n => by simp [blO]
  rw [eb] at h9
  rw [eb, eb]
  have bpi : ∀ (l : List Nat) (n i : Nat), Bp ((List.range n).map fun n => decide (n ∈ l)) i ↔ i < n ∧ i ∈ l := fun l n i => by
    unfold Bp
    rw [List.getElem?_map]
    by_cases h : i < n
    · rw [List.getElem?_range h]; simp [h]
    · rw [List.getElem?_eq_none (by simpa using h)]; simp [h]
  have h89 : p8 ≠ p9 := fun e => by subst e; rw [mup_same] at h9; cases h9
  have h9M : M p9 = none := by rw [mup_ne h89.symm] at h9; exact h9
  have lb0 : ((List.range g.G.ps.length).map fun n => decide (n ∈ b)).length = g.G.ps.length := by simp
  have lr0 : ((List.range g.G.ts.length).map fun n => decide (n ∈ m)).length = g.G.ts.length := by simp
  have bpb := bpi b g.G.ps.length
  have bpm := bpi m g.G.ts.length
  generalize ((List.range g.G.ps.length).map fun n => decide (n ∈ b)) = bs at *
  generalize ((List.range g.G.ts.length).map fun n => decide (n ∈ m)) = rs at *
  simp [bLoopC, lp, lt]
  refine ⟨by omega, by omega, ?_⟩
  refine turn_loop _ hsz (hF.ok hg) h89 _ bs rs _ _ _ _ _ _ _ _ _ lb0 lr0 (by rw [mup_ne h89]; exact mup_same) mup_same fun b2 r2 M2 z10 z13 z14 z15 z16 z17 z18 z19 c1 c2 c3 c4 c5 => ?_
  have cl : GC g F (Bp b2) (Bp r2) := by
    rcases c5 with h | h
    · exact h
    · have h1 := cnt_len b2
      have h2 := cnt_len r2
      have h3 := c4.lb
      have h4 := c4.lr
      simp [rngD] at h
      omega
  simp [-s_lcWS, bEndC, lp, lt]
  refine ⟨by omega, ?_⟩
  have e1 := c4.lb
  have e2 := c4.lr
  refine end_lc c1 (fun n => rfl) (fun n => rfl) (List.range g.G.ps.length) [] (fun n hn => by have := List.mem_range.mp hn; omega) ?_
  simp [-s_lcWS, lt]
  refine ⟨by omega, ?_⟩
  refine end_lc c2 (fun n => rfl) (fun n => rfl) (List.range g.G.ts.length) [] (fun n hn => by have := List.mem_range.mp hn; omega) ?_
  have t1 : ((List.range g.G.ps.length).filter fun n => decide (b2[n]? = some true)) = trues b2 := by unfold trues; rw [e1, lb0]
  have t2 : ((List.range g.G.ts.length).filter fun n => decide (r2[n]? = some true)) = trues r2 := by unfold trues; rw [e2, lr0]
  simp [t1, t2]
  rw [keep_of]
  · refine k (trues b2) (trues r2) ⟨trues_asc _, trues_asc _, fun n hn => ?_, fun n hn => ?_, fun n hn hl => mem_trues.mpr (c4.mb n ((bpb n).mpr ⟨hl, hn⟩)), fun n hn hl => mem_trues.mpr (c4.mr n ((bpm n).mpr ⟨hl, hn⟩)), ((gc_iff hF).mp cl).congr (fun n => mem_trues.symm) (fun n => mem_trues.symm), fun B T hc q1 q2 => ?_⟩
    · have := bp_lt (mem_trues.mp hn); omega
    · have := bp_lt (mem_trues.mp hn); omega
    · obtain ⟨u1, u2⟩ := c4.lst B T ((gc_iff hF).mpr hc) (fun n hn => q1 n ((bpb n).mp hn).2) (fun n hn => q2 n ((bpm n).mp hn).2)
      exact ⟨fun n hn => u1 n (mem_trues.mp hn), fun n hn => u2 n (mem_trues.mp hn)⟩
  · intro a o ha
    have a1 : a ≠ p8 := ne_m ha h8
    have a2 : a ≠ p9 := ne_m ha h9M
    rw [c3 a a1 a2, mup_ne a2, mup_ne a1]
    exact ha
end
end K70
set_option maxRecDepth 100000
set_option maxHeartbeats 1000000
namespace K70
open PySem PySem.Spec PyProof.Rows L2 DL
/-! ### an ask becomes a c -/
def gcp (g : Gr) (bs : List D) : Cp := ⟨g.G.ts, bs, g.G.ps.map fun p => ((p : Nat) : Int), g.sg.map sgD⟩
def All0 (K : Cp) (c : Co) : Prop := ∀ d, Sub d c → fitP K 0 false d
theorem all0_iff {K : Cp} {c : Co} : All0 K c ↔ fitP K 0 false c ∧ ∀ k ∈ c.kids, All0 K k := by
  constructor
  · intro h
    exact ⟨h c (.self c), fun k hk d hd => h d (.kid hd hk)⟩
  · rintro ⟨h1, h2⟩ d hd
    rcases sub_iff.mp hd with rfl | ⟨k, hk, hd⟩
    · exact h1
    · exact h2 k hk d hd
mutual
def Co.dep : Co → Nat
  | .unit => 0 | .truth _ => 0 | .sg _ => 0 | .un _ a => a.dep + 1 | .once _ a => a.dep + 1 | .among a _ => a.dep + 1 | .stop a => a.dep + 1 | .slot a => a.dep + 1 | .thn a b => max a.dep b.dep + 1 | .op a b => max a.dep b.dep + 1
  | .ife a b c => max a.dep (max b.dep c.dep) + 1 | .lt _ a b => max a.dep b.dep + 1 | .fill a b => max a.dep b.dep + 1 | .fn _ a => a.dep + 1 | .app a cs => max a.dep cs.dep + 1 | .snd a _ cs => max a.dep cs.dep + 1 | .dir _ cs => cs.dep + 1 | .mak _ cs => cs.dep + 1
def Cos.dep : Cos → Nat
  | .nil => 0
  | .cons c r => max c.dep r.dep
end
theorem cos_dep : ∀ {cs : Cos} {k : Co}, k ∈ cs.l → k.dep ≤ cs.dep
  | .nil, k, h => by cases h
  | .cons c r, k, h => by
    have e : (Cos.cons c r).dep = max c.dep r.dep := by simp [Cos.dep]
    rw [e]
    rcases List.mem_cons.mp h with rfl | h
    · omega
    · have := cos_dep h; omega
theorem kid_dep {c k : Co} (h : k ∈ c.kids) : k.dep < c.dep := by
  cases c <;> simp [Co.kids, Co.dep] at h ⊢
  case un => subst h; omega
  case once => subst h; omega
  case among => subst h; omega
  case stop => subst h; omega
  case slot => subst h; omega
  case thn => rcases h with rfl | rfl <;> omega
  case op => rcases h with rfl | rfl <;> omega
  case ife => rcases h with rfl | rfl | rfl <;> omega
  case lt => rcases h with rfl | rfl <;> omega
  case fill => rcases h with rfl | rfl <;> omega
  case fn => subst h; omega
  case app =>
    rcases h with rfl | h
    · omega
    · have := cos_dep h; omega
  case snd =>
    rcases h with rfl | h
    · omega
    · have := cos_dep h; omega
  case dir => have := cos_dep h; omega
  case mak => have := cos_dep h; omega
theorem fit_any {K : Cp} {P : Int} {may : Bool} : ∀ {c : Co}, fitP K 0 false c → fitP K P may c := by
  intro c h
  cases c
  case fill => exact absurd h.1 (by decide)
  all_goals exact h
theorem okc_all {K : Cp} {P : Int} : ∀ (n : Nat) {c : Co} {may : Bool} {w : Nat}, c.dep ≤ n → w + c.dep ≤ 240 → All0 K c → Okc K P may w c := by
  intro n
  induction n with
  | zero =>
    intro c may w h0 hw h
    obtain ⟨h1, h2⟩ := all0_iff.mp h
    exact ⟨by omega, fit_any h1, fun k hk => absurd (kid_dep hk) (by omega)⟩
  | succ n ih =>
    intro c may w h0 hw h
    obtain ⟨h1, h2⟩ := all0_iff.mp h
    exact ⟨by omega, fit_any h1, fun k hk => by
      have := kid_dep hk
      exact ih (by omega) (by omega) (h2 k hk)⟩
/-! ### what is found within -/
def H {α : Type} (f : Co → Option α) (c : Co) (x : α) : Prop := ∃ d, Sub d c ∧ f d = some x
theorem h_iff {α : Type} {f : Co → Option α} {c : Co} {x : α} : H f c x ↔ f c = some x ∨ ∃ k ∈ c.kids, H f k x := by
  unfold H
  constructor
  · rintro ⟨d, hd, e⟩
    rcases sub_iff.mp hd with rfl | ⟨k, hk, hd⟩
    · exact .inl e
    · exact .inr ⟨k, hk, d, hd, e⟩
  · rintro (e | ⟨k, hk, d, hd, e⟩)
    · exact ⟨c, .self c, e⟩
    · exact ⟨d, .kid hd hk, e⟩
def HQ {α : Type} (f : Qa → Option α) (c : Qa) (x : α) : Prop := ∃ d, QSub d c ∧ f d = some x
theorem hq_iff {α : Type} {f : Qa → Option α} {c : Qa} {x : α} : HQ f c x ↔ f c = some x ∨ ∃ k ∈ c.kids, HQ f k x := by
  unfold HQ
  constructor
  · rintro ⟨d, hd, e⟩
    rcases qsub_iff.mp hd with rfl | ⟨k, hk, hd⟩
    · exact .inl e
    · exact .inr ⟨k, hk, d, hd, e⟩
  · rintro (e | ⟨k, hk, d, hd, e⟩)
    · exact ⟨c, .self c, e⟩
    · exact ⟨d, .kid hd hk, e⟩
/-- found in no c but in the four that ask -/
structure Ign {α : Type} (f : Co → Option α) : Prop where
  unit : f .unit = none
  truth : ∀ b, f (.truth b) = none
  un : ∀ w a, f (.un w a) = none
  once : ∀ s a, f (.once s a) = none
  among : ∀ a l, f (.among a l) = none
  stop : ∀ a, f (.stop a) = none
  slot : ∀ a, f (.slot a) = none
  thn : ∀ a b, f (.thn a b) = none
  op : ∀ a b, f (.op a b) = none
  ife : ∀ a b c, f (.ife a b c) = none
  lt : ∀ n a b, f (.lt n a b) = none
  fill : ∀ a b, f (.fill a b) = none
  fn : ∀ n a, f (.fn n a) = none
  app : ∀ a cs, f (.app a cs) = none
  zz : ∀ a cs, f (.snd a "zz" cs) = none
theorem h_unit {α : Type} {f : Co → Option α} (hf : Ign f) {x : α} : ¬ H f .unit x := by
  rw [h_iff]
  simp [hf.unit, Co.kids]
theorem h_cos {α : Type} {f : Co → Option α} (hf : Ign f) {x : α} : ∀ {is : Qs}, (∃ k ∈ is.cos.l, H f k x) ↔ ∃ b ∈ is.l, H f b.co x
  | .nil => by simp [Qs.cos, Cos.l, Qs.l]
  | .non r => by
    have ih := h_cos hf (x := x) (is := r)
    have := h_unit hf (x := x)
    simp only [Qs.cos, Cos.l, Qs.l, List.mem_cons]
    constructor
    · rintro ⟨k, rfl | hk, h⟩
      · exact absurd h this
      · exact ih.mp ⟨k, hk, h⟩
    · intro h
      obtain ⟨k, hk, h⟩ := ih.mpr h
      exact ⟨k, .inr hk, h⟩
  | .cons a r => by
    have ih := h_cos hf (x := x) (is := r)
    simp only [Qs.cos, Cos.l, Qs.l, List.mem_cons]
    constructor
    · rintro ⟨k, rfl | hk, h⟩
      · exact ⟨a, .inl rfl, h⟩
      · obtain ⟨b, hb, h⟩ := ih.mp ⟨k, hk, h⟩
        exact ⟨b, .inr hb, h⟩
    · rintro ⟨b, rfl | hb, h⟩
      · exact ⟨_, .inl rfl, h⟩
      · obtain ⟨k, hk, h⟩ := ih.mpr ⟨b, hb, h⟩
        exact ⟨k, .inr hk, h⟩
theorem co_kids {α : Type} {f : Co → Option α} (hf : Ign f) {G : Gp} {dp : Nat} {x : α} {a : Qa} (h : a.Ok G dp) : (∃ k ∈ a.co.kids, H f k x) ↔ ∃ b ∈ a.kids, H f b.co x := by
  obtain ⟨w, n, is⟩ := a
  obtain ⟨h, _⟩ := h
  cases w with
  | dir => simpa [Qa.co, Co.kids, Qa.kids] using h_cos hf (x := x) (is := is)
  | mak => simpa [Qa.co, Co.kids, Qa.kids] using h_cos hf (x := x) (is := is)
  | sin =>
    have h2 := h.2
    cases is <;> simp [Qs.len] at h2
    simp [Qa.co, Co.kids, Qa.kids, Qs.l]
  | snd =>
    have h2 := h.2.1
    have := h_cos hf (x := x) (is := is)
    cases is <;> simp [Qs.len] at h2 <;> simpa [Qa.co, Co.kids, Qa.kids, Qs.l, Qs.cos, Cos.l] using this
theorem h_co {α : Type} {f : Co → Option α} (hf : Ign f) {q : Qa → Option α} {G : Gp} (hq : ∀ (a : Qa) dp, a.Ok G dp → f a.co = q a) {x : α} : ∀ (n : Nat) {a : Qa} {dp : Nat}, a.sz ≤ n → a.Ok G dp → (H f a.co x ↔ HQ q a x) := by
  intro n
  induction n with
  | zero => intro a dp h; have := qsz_pos a; omega
  | succ n ih =>
    intro a dp hn h
    rw [h_iff, hq_iff, hq a dp h, co_kids hf h]
    have key : ∀ b ∈ a.kids, (H f b.co x ↔ HQ q b x) := fun b hb => by
      have hs := qkids_sz a
      have hb2 : b.sz ≤ qszs a.kids := by
        have : ∀ l : List Qa, b ∈ l → b.sz ≤ qszs l := fun l => by
          induction l with
          | nil => intro h; cases h
          | cons c l ih2 =>
            intro h
            have e : qszs (c :: l) = c.sz + qszs l := by simp [qszs]
            rcases List.mem_cons.mp h with rfl | h
            · omega
            · have := ih2 h; omega
        exact this _ hb
      obtain ⟨w, m, is⟩ := a
      obtain ⟨dp', h'⟩ := kids_ok (is := is) h.2 b hb
      exact ih (by omega) h'
    constructor
    · rintro (e | ⟨b, hb, e⟩)
      · exact .inl e
      · exact .inr ⟨b, hb, (key b hb).mp e⟩
    · rintro (e | ⟨b, hb, e⟩)
      · exact .inl e
      · exact .inr ⟨b, hb, (key b hb).mpr e⟩
theorem cos_len : ∀ is : Qs, is.cos.l.length = is.len
  | .nil => by simp [Qs.cos, Cos.l, Qs.len]
  | .non r => by simp [Qs.cos, Cos.l, Qs.len, cos_len r]
  | .cons a r => by simp [Qs.cos, Cos.l, Qs.len, cos_len r]
theorem sel_ok (n : Nat) : okT (sel n) 1 = true := by
  match n with
  | 0 => decide +kernel
  | 1 => decide +kernel
  | 2 => decide +kernel
  | n + 3 =>
    show okT "d" 1 = true
    decide +kernel
structure CoOk (g : Gr) (bs : List D) (dp : Nat) (c : Co) : Prop where
  all : All0 (gcp g bs) c
  dep : c.dep ≤ dp + 1
  bs : c.bs = []
  sz : c.sz ≤ 4 ^ (dp + 1)
structure CosOk (g : Gr) (bs : List D) (dp n : Nat) (cs : Cos) : Prop where
  all : ∀ k ∈ cs.l, All0 (gcp g bs) k
  dep : cs.dep ≤ dp
  bs : cs.bs = []
  sz : cs.sz ≤ n * 4 ^ dp
theorem unit_all {K : Cp} : All0 K .unit := all0_iff.mpr ⟨True.intro, fun k hk => by cases hk⟩
theorem pow4 (n : Nat) : 4 ^ (n + 1) = 4 * 4 ^ n := by rw [Nat.pow_succ, Nat.mul_comm]
theorem pow4_pos (n : Nat) : 1 ≤ 4 ^ n := Nat.pow_pos (by decide)
mutual
theorem co_all {g : Gr} (hg : g.Ok) {bs : List D} : ∀ {a : Qa} {dp : Nat}, a.Ok g.G dp → CoOk g bs dp a.co
  | .mk w n is, dp, h => by
    have ih := cos_all hg (bs := bs) h.2
    have hl := len_ok hg.fit h
    have hlc := cos_len is
    have e4 := pow4 dp
    have p4 := pow4_pos dp
    have hm : is.len * 4 ^ dp ≤ 3 * 4 ^ dp := Nat.mul_le_mul_right _ hl
    have hsz := ih.sz
    have hdp := ih.dep
    obtain ⟨h, _⟩ := h
    cases w with
    | dir => exact ⟨by
        rw [Qa.co]
        exact all0_iff.mpr ⟨by
          show (g.G.ps.map fun p => ((p : Nat) : Int))[n]? = _
          rw [List.getElem?_map, h, hlc]; rfl, ih.all⟩, by rw [Qa.co, Co.dep]; omega, by rw [Qa.co, Co.bs]; exact ih.bs, by rw [Qa.co, Co.sz]; omega⟩
    | mak => exact ⟨by
        rw [Qa.co]
        obtain ⟨t, h1, h2⟩ := h
        exact all0_iff.mpr ⟨⟨t, h1, by
          show (g.G.ps.map fun p => ((p : Nat) : Int))[t.2]? = _
          rw [List.getElem?_map, h2, hlc]; rfl⟩, ih.all⟩, by rw [Qa.co, Co.dep]; omega, by rw [Qa.co, Co.bs]; exact ih.bs, by rw [Qa.co, Co.sz]; omega⟩
    | sin => exact ⟨by
        rw [Qa.co]
        exact all0_iff.mpr ⟨by
          show n < (g.sg.map sgD).length
          rw [List.length_map, hg.sl]; exact h.1, fun k hk => (by cases hk)⟩, by rw [Qa.co, Co.dep]; omega, by rw [Qa.co, Co.bs], by rw [Qa.co, Co.sz]; omega⟩
    | snd =>
      have h1 := h.2.1
      cases is with
      | nil => exact absurd h1 (by show ¬ 1 ≤ 0; omega)
      | non r =>
        have i1 := ih.all
        have i2 := ih.bs
        rw [Qs.cos] at i1 i2 hsz hdp
        rw [Cos.l] at i1
        rw [Cos.bs] at i2
        rw [Cos.sz] at hsz
        rw [Cos.dep] at hdp
        exact ⟨by
          rw [Qa.co]
          exact all0_iff.mpr ⟨sel_ok n, i1⟩, by rw [Qa.co, Co.dep]; omega, by rw [Qa.co, Co.bs]; exact i2, by rw [Qa.co, Co.sz]; omega⟩
      | cons a r =>
        have i1 := ih.all
        have i2 := ih.bs
        rw [Qs.cos] at i1 i2 hsz hdp
        rw [Cos.l] at i1
        rw [Cos.bs] at i2
        rw [Cos.sz] at hsz
        rw [Cos.dep] at hdp
        exact ⟨by
          rw [Qa.co]
          exact all0_iff.mpr ⟨sel_ok n, i1⟩, by rw [Qa.co, Co.dep]; omega, by rw [Qa.co, Co.bs]; exact i2, by rw [Qa.co, Co.sz]; omega⟩
theorem cos_all {g : Gr} (hg : g.Ok) {bs : List D} : ∀ {is : Qs} {dp : Nat}, is.Ok g.G dp → CosOk g bs dp is.len is.cos
  | .nil, dp, h => ⟨by rw [Qs.cos, Cos.l]; exact fun k hk => (by cases hk), by rw [Qs.cos, Cos.dep]; omega, by rw [Qs.cos, Cos.bs], by rw [Qs.cos, Cos.sz]; omega⟩
  | .non r, dp, h => by
    have ih := cos_all hg (bs := bs) (is := r) (dp := dp) (by cases dp <;> exact h)
    have p4 := pow4_pos dp
    have hsz := ih.sz
    have hdp := ih.dep
    exact ⟨by
      rw [Qs.cos, Cos.l]
      exact fun k hk => by
        rcases List.mem_cons.mp hk with rfl | hk
        · exact unit_all
        · exact ih.all k hk, by rw [Qs.cos, Cos.dep, Co.dep]; omega, by rw [Qs.cos, Cos.bs, Co.bs]; exact ih.bs, by rw [Qs.cos, Cos.sz, Co.sz]; show 1 + r.cos.sz ≤ (r.len + 1) * 4 ^ dp; rw [Nat.succ_mul]; omega⟩
  | .cons a r, 0, h => h.elim
  | .cons a r, dp + 1, h => by
    have ia := co_all hg (bs := bs) h.1
    have ih := cos_all hg (bs := bs) (is := r) (dp := dp + 1) h.2
    have hsz := ih.sz
    have hdp := ih.dep
    have az := ia.sz
    have ad := ia.dep
    exact ⟨by
      rw [Qs.cos, Cos.l]
      exact fun k hk => by
        rcases List.mem_cons.mp hk with rfl | hk
        · exact ia.all
        · exact ih.all k hk, by rw [Qs.cos, Cos.dep]; omega, by rw [Qs.cos, Cos.bs, ia.bs, ih.bs]; rfl, by rw [Qs.cos, Cos.sz]; show a.co.sz + r.cos.sz ≤ (r.len + 1) * 4 ^ (dp + 1); rw [Nat.succ_mul]; omega⟩
end
def nmD (g : Gr) : D := .lst [.lst (rngD g.G.ps.length), .lst (rngD g.G.ts.length), .lst (rngD g.sg.length)]
def eAsked (n : Nat) : DE := (dIf (dTst (dOp gIsN (dVar 5) (dC .non))) (dTup (dCons (dC (.str "unit")) dNil)) (dCall (F__law_asked n) (dCons (dVar 5) (dCons (dVar 1) (dCons (dVar 2) (dCons (dVar 3) dNil))))))
section
variable {M : Mh} {R : D → Mh → Prop} {g : Gr}
theorem asked_lc {n : Nat} (x1 x3 x4 x6 : Option D) {x0 xg : D} : ∀ {is : Qs} {dp : Nat} (acc : List D) (Q : List D → Mh → Prop), is.Ok g.G dp → (∀ k, dp = k + 1 → ∀ (a : Qa) (Q : D → Mh → Prop), a.Ok g.G k → Q a.co.d M → F__law_asked n [a.d, xg, nmD g, .non] M Q) → Q (acc ++ is.cos.ds) M →
    lcW (dgName 5) dYes (eAsked n) [some x0, some xg, some (nmD g), some .non, x4, none, x6] is.ds acc M Q
  | .nil, dp, acc, Q, _, _, k => by simpa [Qs.ds, Qs.cos, Cos.ds] using k
  | .non r, dp, acc, Q, h, hA, k => by
    simp [Qs.ds, eAsked]
    exact asked_lc x1 x3 x4 x6 (is := r) (dp := dp) _ Q (by cases dp <;> exact h) hA (by simpa [Qs.cos, Cos.ds, Co.d] using k)
  | .cons a r, 0, acc, Q, h, _, _ => h.elim
  | .cons a r, dp + 1, acc, Q, h, hA, k => by
    have hk : Q (acc ++ a.co.d :: r.cos.ds) M := by simpa [Qs.cos, Cos.ds] using k
    have go : ∀ acc', acc' = acc ++ [a.co.d] → lcW (dgName 5) dYes (eAsked n) [some x0, some xg, some (nmD g), some .non, x4, none, x6] r.ds acc' M Q := fun acc' e => by
      subst e
      exact asked_lc x1 x3 x4 x6 (is := r) (dp := dp + 1) _ Q h.2 hA (by simpa using hk)
    have hA1 := hA dp rfl a
    obtain ⟨w, m, is⟩ := a
    have h1 := h.1
    simp [Qs.ds, Qa.d, eAsked]
    have := hA1 (fun y M3 => lcW (dgName 5) dYes (eAsked n) [some x0, some xg, some (nmD g), some .non, x4, none, x6] r.ds (acc ++ [y]) M3 Q) h1 (go _ rfl)
    simpa [Qa.d, eAsked] using this
theorem rng_at {n i : Nat} (h : i < n) : (rngD n)[i]? = some (nD i) := by
  unfold rngD
  rw [List.getElem?_map, List.getElem?_range h]
  rfl
theorem cos_ds_l (cs : Cos) : cs.ds.length = cs.l.length := by rw [Cos.ds_l, List.length_map]
theorem str_ne {a b : Str} (h : decide (a = b) = false) : (a = b) = False := eq_false (of_decide_eq_false h)
theorem asked_step (hg : g.Ok) {xg : D} {n dp : Nat} (a : Qa) (h : a.Ok g.G dp) (hA : ∀ k, dp = k + 1 → ∀ (a : Qa) (Q : D → Mh → Prop), a.Ok g.G k → Q a.co.d M → F__law_asked n [a.d, xg, nmD g, .non] M Q) (k : R a.co.d M) : F__law_asked (n + 1) [a.d, xg, nmD g, .non] M R := by
  have n0 : ∀ {M : Mh} {Q : D → Mh → Prop}, gIx (nmD g) (.int 0) M Q = Q (.lst (rngD g.G.ps.length)) M := fun {M Q} => ix_nat (n := 0) rfl rfl
  have n1 : ∀ {M : Mh} {Q : D → Mh → Prop}, gIx (nmD g) (.int 1) M Q = Q (.lst (rngD g.G.ts.length)) M := fun {M Q} => ix_nat (n := 1) rfl rfl
  have n2 : ∀ {M : Mh} {Q : D → Mh → Prop}, gIx (nmD g) (.int 2) M Q = Q (.lst (rngD g.sg.length)) M := fun {M Q} => ix_nat (n := 2) rfl rfl
  obtain ⟨w, m, is⟩ := a
  have hv := h.1
  refine ⟨rfl, ?_⟩
  simp [-s_lcWS, dstart, N__law_asked, Qa.d]
  refine asked_lc (g := g) (n := n) none none none none (is := is) (dp := dp) [] _ h.2 hA ?_
  rw [List.nil_append]
  cases w with
  | dir =>
    have hr : (rngD g.G.ps.length)[m]? = some (nD m) := rng_at (List.getElem?_eq_some_iff.mp hv).1
    simp [Wd.t, numD, n0, ix_lst hr]
    simpa [Qa.co, Co.d, nD] using k
  | mak =>
    obtain ⟨t, ht, _⟩ := hv
    have hr : (rngD g.G.ts.length)[m]? = some (nD m) := rng_at (List.getElem?_eq_some_iff.mp ht).1
    have w1 := str_ne ne_make_direct
    simp [Wd.t, numD, n1, ix_lst hr, w1]
    simpa [Qa.co, Co.d, nD] using k
  | sin =>
    have hr : (rngD g.sg.length)[m]? = some (nD m) := rng_at (by rw [hg.sl]; exact hv.1)
    have w1 := str_ne ne_single_direct
    have w2 := str_ne ne_single_make
    simp [Wd.t, numD, n2, ix_lst hr, w1, w2]
    simpa [Qa.co, Co.d, nD] using k
  | snd =>
    have h1 := hv.2.1
    have hlen := cos_len is
    have w1 := str_ne ne_send_direct
    have w2 := str_ne ne_send_make
    have w3 := str_ne ne_send_single
    simp [Wd.t, numD, w1, w2, w3]
    cases is with
    | nil => exact absurd h1 (by show ¬ 1 ≤ 0; omega)
    | non r =>
      simp [Qs.cos, Cos.ds, gSlT, cut_1, w1, w2, w3]
      simpa [Qa.co, Co.d] using k
    | cons a r =>
      simp [Qs.cos, Cos.ds, gSlT, cut_1, w1, w2, w3]
      simpa [Qa.co, Co.d] using k
theorem asked_ok (hg : g.Ok) {xg : D} : ∀ (dp n : Nat) (a : Qa) (R : D → Mh → Prop), dp < n → a.Ok g.G dp → R a.co.d M → F__law_asked n [a.d, xg, nmD g, .non] M R := by
  intro dp
  induction dp with
  | zero => 
    intro n a R hn h k
    obtain ⟨n, rfl⟩ : ∃ m, n = m + 1 := ⟨n - 1, by omega⟩
    exact asked_step hg a h (fun k e => by omega) k
  | succ dp ih =>
    intro n a R hn h k
    obtain ⟨n, rfl⟩ : ∃ m, n = m + 1 := ⟨n - 1, by omega⟩
    refine asked_step hg a h (fun j e b Q hb q => ?_) k
    have ej : j = dp := by omega
    subst ej
    exact ih n b Q (by omega) hb q
end
end K70
set_option maxRecDepth 100000
set_option maxHeartbeats 1000000
namespace K70
open PySem PySem.Spec PyProof.Rows L2 DL
def AmOk (K : Cp) (l : List Nat) : Prop := asc (l.map fun t => ((t : Nat) : Int)) = true ∧ (∀ t ∈ l, t < K.ts.length) ∧ l.length ≤ sizeLine
section
variable {K : Cp} {a b c : Co} {s : Str} {n : Nat} {w : U1} {l : List Nat} {cs : Cos}
theorem al_unit : All0 K .unit ↔ True := by rw [all0_iff]; simp [Co.kids, fitP]
theorem al_truth {t : Bool} : All0 K (.truth t) ↔ True := by rw [all0_iff]; simp [Co.kids, fitP]
theorem al_un : All0 K (.un w a) ↔ All0 K a := by rw [all0_iff]; simp [Co.kids, fitP]
theorem al_once : All0 K (.once s a) ↔ okT s 1 = true ∧ All0 K a := by rw [all0_iff]; simp [Co.kids, fitP]
theorem al_among : All0 K (.among a l) ↔ AmOk K l ∧ All0 K a := by rw [all0_iff]; simp [Co.kids, fitP, AmOk]
theorem al_stop : All0 K (.stop a) ↔ All0 K a := by rw [all0_iff]; simp [Co.kids, fitP]
theorem al_slot : All0 K (.slot a) ↔ All0 K a := by rw [all0_iff]; simp [Co.kids, fitP]
theorem al_thn : All0 K (.thn a b) ↔ All0 K a ∧ All0 K b := by rw [all0_iff]; simp [Co.kids, fitP]
theorem al_op : All0 K (.op a b) ↔ All0 K a ∧ All0 K b := by rw [all0_iff]; simp [Co.kids, fitP]
theorem al_ife : All0 K (.ife a b c) ↔ All0 K a ∧ All0 K b ∧ All0 K c := by rw [all0_iff]; simp [Co.kids, fitP]
theorem al_lt : All0 K (.lt n a b) ↔ All0 K a ∧ All0 K b := by rw [all0_iff]; simp [Co.kids, fitP]
theorem al_fn : All0 K (.fn n a) ↔ All0 K a := by rw [all0_iff]; simp [Co.kids, fitP]
theorem al_app : All0 K (.app a cs) ↔ All0 K a ∧ ∀ k ∈ cs.l, All0 K k := by rw [all0_iff]; simp [Co.kids, fitP]
theorem al_snd : All0 K (.snd a s cs) ↔ okT s 1 = true ∧ All0 K a ∧ ∀ k ∈ cs.l, All0 K k := by rw [all0_iff]; simp [Co.kids, fitP]
variable {α : Type} {f : Co → Option α} (hf : Ign f) {x : α}
include hf
theorem hh_unit : H f .unit x ↔ False := by rw [h_iff]; simp [Co.kids, hf.unit]
theorem hh_truth {t : Bool} : H f (.truth t) x ↔ False := by rw [h_iff]; simp [Co.kids, hf.truth]
theorem hh_un : H f (.un w a) x ↔ H f a x := by rw [h_iff]; simp [Co.kids, hf.un]
theorem hh_once : H f (.once s a) x ↔ H f a x := by rw [h_iff]; simp [Co.kids, hf.once]
theorem hh_among : H f (.among a l) x ↔ H f a x := by rw [h_iff]; simp [Co.kids, hf.among]
theorem hh_stop : H f (.stop a) x ↔ H f a x := by rw [h_iff]; simp [Co.kids, hf.stop]
theorem hh_slot : H f (.slot a) x ↔ H f a x := by rw [h_iff]; simp [Co.kids, hf.slot]
theorem hh_thn : H f (.thn a b) x ↔ H f a x ∨ H f b x := by rw [h_iff]; simp [Co.kids, hf.thn]
theorem hh_op : H f (.op a b) x ↔ H f a x ∨ H f b x := by rw [h_iff]; simp [Co.kids, hf.op]
theorem hh_ife : H f (.ife a b c) x ↔ H f a x ∨ H f b x ∨ H f c x := by rw [h_iff]; simp [Co.kids, hf.ife]
theorem hh_lt : H f (.lt n a b) x ↔ H f a x ∨ H f b x := by rw [h_iff]; simp [Co.kids, hf.lt]
theorem hh_fill : H f (.fill a b) x ↔ H f a x ∨ H f b x := by rw [h_iff]; simp [Co.kids, hf.fill]
theorem hh_fn : H f (.fn n a) x ↔ H f a x := by rw [h_iff]; simp [Co.kids, hf.fn]
theorem hh_app : H f (.app a cs) x ↔ H f a x ∨ ∃ k ∈ cs.l, H f k x := by rw [h_iff]; simp [Co.kids, hf.app]
theorem hh_zz : H f (.snd a "zz" cs) x ↔ H f a x ∨ ∃ k ∈ cs.l, H f k x := by rw [h_iff]; simp [Co.kids, hf.zz]
end
def bCl : DS := (dSeq (dPar 10 11 (dCall F__law_draw (dCons (dVar 0) (dCons (dC (.int 16)) dNil))) (dTup (dCons (dC (.str "truth")) (dCons (dOp gEq (dCall F__law_draw (dCons (dVar 0) (dCons (dC (.int 2)) dNil))) (dC (.int 0))) dNil)))) (dSeq (dAsg (dCB gTuple (dCons (dLc mkF (dInQ (dVar 7)) (dgName 8) (dTst (dOp gGe (dOp gIx (dOp gIx (dVar 3) (dC (.int 1))) (dVar 8)) (dC (.int 0)))) (dOp gIx (dOp gIx (dVar 3) (dC (.int 1))) (dVar 8)) [8]) dNil)) (dgName 12)) (dIfS (dTst (dOp gLt (dVar 10) (dC (.int 3)))) (dAsg (dOp gIx (dLst mkF (dCons (dTup (dCons (dC (.str "then")) (dCons (dVar 9) (dCons (dVar 4) dNil)))) (dCons (dTup (dCons (dC (.str "then")) (dCons (dTup (dCons (dC (.str "show")) (dCons (dTup (dCons (dC (.str "among")) (dCons (dVar 9) (dCons (dVar 12) dNil)))) dNil))) (dCons (dVar 4) dNil)))) (dCons (dTup (dCons (dC (.str "if")) (dCons (dVar 11) (dCons (dVar 9) (dCons (dVar 4) dNil))))) dNil)))) (dVar 10)) (dgName 4)) (dIfS (dTst (dOp gLt (dVar 10) (dC (.int 6)))) (dAsg (dTup (dCons (dC (.str "then")) (dCons (dOp gIx (dLst mkF (dCons (dTup (dCons (dC (.str "late")) (dCons (dTup (dCons (dC (.str "show")) (dCons (dVar 9) dNil))) dNil))) (dCons (dTup (dCons (dC (.str "once")) (dCons (dC (.str "o")) (dCons (dTup (dCons (dC (.str "show")) (dCons (dVar 9) dNil))) dNil)))) (dCons (dTup (dCons (dC (.str "now")) (dCons (dTup (dCons (dC (.str "late")) (dCons (dVar 9) dNil))) dNil))) dNil)))) (dOp gSub (dVar 10) (dC (.int 3)))) (dCons (dVar 4) dNil)))) (dgName 4)) (dIfS (dTst (dOp gEq (dVar 10) (dC (.int 6)))) (dSeq (dAsg (dTup (dCons (dC (.str "let")) (dCons (dVar 5) (dCons (dTup (dCons (dC (.str "fun")) (dCons (dTup (dCons (dOp gAdd (dVar 5) (dC (.int 1))) dNil)) (dCons (dVar 9) dNil)))) (dCons (dVar 4) dNil))))) (dgName 4)) (dAsg (dOp gAdd (dVar 5) (dC (.int 2))) (dgName 5))) (dIfS (dTst (dOp gEq (dVar 10) (dC (.int 7)))) (dSeq (dAsg (dTup (dCons (dC (.str "apply")) (dCons (dTup (dCons (dC (.str "fun")) (dCons (dTup (dCons (dVar 5) dNil)) (dCons (dTup (dCons (dC (.str "then")) (dCons (dVar 9) (dCons (dVar 4) dNil)))) dNil)))) (dCons (dTup (dCons (dVar 6) dNil)) dNil)))) (dgName 4)) (dAsg (dOp gAdd (dVar 5) (dC (.int 1))) (dgName 5))) (dIfS (dTst (dOp gEq (dVar 10) (dC (.int 8)))) (dAsg (dTup (dCons (dC (.str "then")) (dCons (dTup (dCons (dC (.str "first")) (dCons (dTup (dCons (dC (.str "once")) (dCons (dC (.str "f")) (dCons (dVar 9) dNil)))) dNil))) (dCons (dVar 4) dNil)))) (dgName 4)) (dIfS (dTst (dOp gLt (dVar 10) (dC (.int 11)))) (dAsg (dIf (dTst (dOp gEq (dVar 10) (dC (.int 9)))) (dTup (dCons (dC (.str "if")) (dCons (dTup (dCons (dC (.str "truth")) (dCons (dC (.bl true)) dNil))) (dCons (dVar 4) (dCons (dTup (dCons (dC (.str "stop")) (dCons (dC (.str "stop")) (dCons (dVar 9) dNil)))) dNil))))) (dTup (dCons (dC (.str "then")) (dCons (dTup (dCons (dC (.str "late")) (dCons (dTup (dCons (dC (.str "send")) (dCons (dVar 9) (dCons (dC (.str "zz")) (dCons (dTup (dCons (dVar 4) dNil)) dNil))))) dNil))) (dCons (dVar 6) dNil))))) (dgName 4)) (dIfS (dTst (dOp gLt (dVar 10) (dC (.int 14)))) (dSeq (dAsg (dOp gIx (dLst mkF (dCons (dTup (dCons (dC (.str "op")) (dCons (dC (.str "=")) (dCons (dVar 9) (dCons (dVar 9) dNil))))) (dCons (dTup (dCons (dC (.str "slot")) (dCons (dVar 9) (dCons (dC (.int 0)) dNil)))) (dCons (dTup (dCons (dC (.str "apply")) (dCons (dVar 9) (dCons (dTup (dCons (dVar 6) (dCons (dVar 9) dNil))) dNil)))) dNil)))) (dOp gSub (dVar 10) (dC (.int 11)))) (dgName 13)) (dAsg (dTup (dCons (dC (.str "then")) (dCons (dIf (dTst (dOp gIx (dVar 11) (dC (.int 1)))) (dTup (dCons (dC (.str "late")) (dCons (dVar 13) dNil))) (dVar 13)) (dCons (dVar 4) dNil)))) (dgName 4))) (dIfS (dTst (dOp gEq (dVar 10) (dC (.int 14)))) (dAsg (dIf (dTst (dOp gIx (dVar 11) (dC (.int 1)))) (dTup (dCons (dC (.str "if")) (dCons (dTup (dCons (dC (.str "among")) (dCons (dVar 9) (dCons (dVar 12) dNil)))) (dCons (dVar 6) (dCons (dVar 4) dNil))))) (dTup (dCons (dC (.str "if")) (dCons (dTup (dCons (dC (.str "among")) (dCons (dVar 9) (dCons (dVar 12) dNil)))) (dCons (dVar 4) (dCons (dVar 6) dNil)))))) (dgName 4)) (dSeq (dAsg (dTup (dCons (dC (.str "let")) (dCons (dVar 5) (dCons (dVar 9) (dCons (dVar 4) dNil))))) (dgName 4)) (dAsg (dOp gAdd (dVar 5) (dC (.int 1))) (dgName 5)))))))))))))
def bCe : DS := (dSeq (dIfS (dAnd (dTst (dOp gGt (dVar 2) (dC (.int 0)))) (dTst (dOp gEq (dCall F__law_draw (dCons (dVar 0) (dCons (dC (.int 3)) dNil))) (dC (.int 0))))) (dAsg (dTup (dCons (dC (.str "fill")) (dCons (dC (.int 0)) (dCons (dCall F__law_one (dCons (dVar 0) (dCons (dOp (gCatL mkF) (dLst mkF (dCons (dVar 6) dNil)) (dCB (gList mkF) (dCons (dVar 1) dNil))) dNil))) (dCons (dVar 4) dNil))))) (dgName 4)) dNext) (dRet (dTup (dCons (dVar 4) (dCons (dOp gSub (dVar 5) (dVar 2)) dNil)))))
/-- one ask more, put around what is there -/
structure Stc (K : Cp) (one c : Co) (news : List Nat) (c' : Co) : Prop where
  all : All0 K one → All0 K c → All0 K c'
  dep : c'.dep ≤ max one.dep c.dep + 4
  sz : c'.sz ≤ 2 * one.sz + c.sz + 12
  bs : one.bs = [] → c'.bs = news ++ c.bs
  has : ∀ {α : Type} (f : Co → Option α), Ign f → ∀ x, H f c' x ↔ H f one x ∨ H f c x
theorem ok_o : okT "o" 1 = true := by decide +kernel
theorem ok_f : okT "f" 1 = true := by decide +kernel
theorem ok_zz : okT "zz" 1 = true := by decide +kernel
section
variable {K : Cp} {one c : Co} {l : List Nat} {n : Nat} {t : Bool}
theorem st0 : Stc K one c [] (.thn one c) := by
  refine ⟨fun h1 h2 => ?_, ?_, ?_, fun h => ?_, fun f hf x => ?_⟩
  · simp [al_thn, h1, h2]
  · simp only [Co.dep]; omega
  · simp only [Co.sz]; omega
  · simp [Co.bs, h]
  · simp [hh_thn hf]
theorem st1 (hl : AmOk K l) : Stc K one c [] (.thn (.un .shw (.among one l)) c) := by
  refine ⟨fun h1 h2 => ?_, ?_, ?_, fun h => ?_, fun f hf x => ?_⟩
  · simp [al_unit, al_truth, al_un, al_once, al_among, al_stop, al_slot, al_thn, al_op, al_ife, al_lt, al_fn, al_app, al_snd, Cos.l, ok_o, ok_f, ok_zz, h1, h2, hl]
  · simp only [Co.dep, Cos.dep]; omega
  · simp only [Co.sz, Cos.sz]; omega
  · simp [Co.bs, Cos.bs, h]
  · simp only [hh_unit hf, hh_truth hf, hh_un hf, hh_once hf, hh_among hf, hh_stop hf, hh_slot hf, hh_thn hf, hh_op hf, hh_ife hf, hh_lt hf, hh_fn hf, hh_app hf, hh_zz hf, Cos.l, List.mem_cons, List.not_mem_nil, or_false, false_or, exists_eq_or_imp, exists_eq_left, or_self] <;> grind
theorem st2 : Stc K one c [] (.ife (.truth t) one c) := by
  refine ⟨fun h1 h2 => ?_, ?_, ?_, fun h => ?_, fun f hf x => ?_⟩
  · simp [al_unit, al_truth, al_un, al_once, al_among, al_stop, al_slot, al_thn, al_op, al_ife, al_lt, al_fn, al_app, al_snd, Cos.l, ok_o, ok_f, ok_zz, h1, h2]
  · simp only [Co.dep, Cos.dep]; omega
  · simp only [Co.sz, Cos.sz]; omega
  · simp [Co.bs, Cos.bs, h]
  · simp only [hh_unit hf, hh_truth hf, hh_un hf, hh_once hf, hh_among hf, hh_stop hf, hh_slot hf, hh_thn hf, hh_op hf, hh_ife hf, hh_lt hf, hh_fn hf, hh_app hf, hh_zz hf, Cos.l, List.mem_cons, List.not_mem_nil, or_false, false_or, exists_eq_or_imp, exists_eq_left, or_self] <;> grind
theorem st3 : Stc K one c [] (.thn (.un .late (.un .shw one)) c) := by
  refine ⟨fun h1 h2 => ?_, ?_, ?_, fun h => ?_, fun f hf x => ?_⟩
  · simp [al_unit, al_truth, al_un, al_once, al_among, al_stop, al_slot, al_thn, al_op, al_ife, al_lt, al_fn, al_app, al_snd, Cos.l, ok_o, ok_f, ok_zz, h1, h2]
  · simp only [Co.dep, Cos.dep]; omega
  · simp only [Co.sz, Cos.sz]; omega
  · simp [Co.bs, Cos.bs, h]
  · simp only [hh_unit hf, hh_truth hf, hh_un hf, hh_once hf, hh_among hf, hh_stop hf, hh_slot hf, hh_thn hf, hh_op hf, hh_ife hf, hh_lt hf, hh_fn hf, hh_app hf, hh_zz hf, Cos.l, List.mem_cons, List.not_mem_nil, or_false, false_or, exists_eq_or_imp, exists_eq_left, or_self] <;> grind
theorem st4 : Stc K one c [] (.thn (.once "o" (.un .shw one)) c) := by
  refine ⟨fun h1 h2 => ?_, ?_, ?_, fun h => ?_, fun f hf x => ?_⟩
  · simp [al_unit, al_truth, al_un, al_once, al_among, al_stop, al_slot, al_thn, al_op, al_ife, al_lt, al_fn, al_app, al_snd, Cos.l, ok_o, ok_f, ok_zz, h1, h2]
  · simp only [Co.dep, Cos.dep]; omega
  · simp only [Co.sz, Cos.sz]; omega
  · simp [Co.bs, Cos.bs, h]
  · simp only [hh_unit hf, hh_truth hf, hh_un hf, hh_once hf, hh_among hf, hh_stop hf, hh_slot hf, hh_thn hf, hh_op hf, hh_ife hf, hh_lt hf, hh_fn hf, hh_app hf, hh_zz hf, Cos.l, List.mem_cons, List.not_mem_nil, or_false, false_or, exists_eq_or_imp, exists_eq_left, or_self] <;> grind
theorem st5 : Stc K one c [] (.thn (.un .now (.un .late one)) c) := by
  refine ⟨fun h1 h2 => ?_, ?_, ?_, fun h => ?_, fun f hf x => ?_⟩
  · simp [al_unit, al_truth, al_un, al_once, al_among, al_stop, al_slot, al_thn, al_op, al_ife, al_lt, al_fn, al_app, al_snd, Cos.l, ok_o, ok_f, ok_zz, h1, h2]
  · simp only [Co.dep, Cos.dep]; omega
  · simp only [Co.sz, Cos.sz]; omega
  · simp [Co.bs, Cos.bs, h]
  · simp only [hh_unit hf, hh_truth hf, hh_un hf, hh_once hf, hh_among hf, hh_stop hf, hh_slot hf, hh_thn hf, hh_op hf, hh_ife hf, hh_lt hf, hh_fn hf, hh_app hf, hh_zz hf, Cos.l, List.mem_cons, List.not_mem_nil, or_false, false_or, exists_eq_or_imp, exists_eq_left, or_self] <;> grind
theorem st6 : Stc K one c [n, n + 1] (.lt n (.fn (n + 1) one) c) := by
  refine ⟨fun h1 h2 => ?_, ?_, ?_, fun h => ?_, fun f hf x => ?_⟩
  · simp [al_unit, al_truth, al_un, al_once, al_among, al_stop, al_slot, al_thn, al_op, al_ife, al_lt, al_fn, al_app, al_snd, Cos.l, ok_o, ok_f, ok_zz, h1, h2]
  · simp only [Co.dep, Cos.dep]; omega
  · simp only [Co.sz, Cos.sz]; omega
  · simp [Co.bs, Cos.bs, h]
  · simp only [hh_unit hf, hh_truth hf, hh_un hf, hh_once hf, hh_among hf, hh_stop hf, hh_slot hf, hh_thn hf, hh_op hf, hh_ife hf, hh_lt hf, hh_fn hf, hh_app hf, hh_zz hf, Cos.l, List.mem_cons, List.not_mem_nil, or_false, false_or, exists_eq_or_imp, exists_eq_left, or_self] <;> grind
theorem st7 : Stc K one c [n] (.app (.fn n (.thn one c)) (.cons .unit .nil)) := by
  refine ⟨fun h1 h2 => ?_, ?_, ?_, fun h => ?_, fun f hf x => ?_⟩
  · simp [al_unit, al_truth, al_un, al_once, al_among, al_stop, al_slot, al_thn, al_op, al_ife, al_lt, al_fn, al_app, al_snd, Cos.l, ok_o, ok_f, ok_zz, h1, h2]
  · simp only [Co.dep, Cos.dep]; omega
  · simp only [Co.sz, Cos.sz]; omega
  · simp [Co.bs, Cos.bs, h]
  · simp only [hh_unit hf, hh_truth hf, hh_un hf, hh_once hf, hh_among hf, hh_stop hf, hh_slot hf, hh_thn hf, hh_op hf, hh_ife hf, hh_lt hf, hh_fn hf, hh_app hf, hh_zz hf, Cos.l, List.mem_cons, List.not_mem_nil, or_false, false_or, exists_eq_or_imp, exists_eq_left, or_self] <;> grind
theorem st8 : Stc K one c [] (.thn (.un .fst (.once "f" one)) c) := by
  refine ⟨fun h1 h2 => ?_, ?_, ?_, fun h => ?_, fun f hf x => ?_⟩
  · simp [al_unit, al_truth, al_un, al_once, al_among, al_stop, al_slot, al_thn, al_op, al_ife, al_lt, al_fn, al_app, al_snd, Cos.l, ok_o, ok_f, ok_zz, h1, h2]
  · simp only [Co.dep, Cos.dep]; omega
  · simp only [Co.sz, Cos.sz]; omega
  · simp [Co.bs, Cos.bs, h]
  · simp only [hh_unit hf, hh_truth hf, hh_un hf, hh_once hf, hh_among hf, hh_stop hf, hh_slot hf, hh_thn hf, hh_op hf, hh_ife hf, hh_lt hf, hh_fn hf, hh_app hf, hh_zz hf, Cos.l, List.mem_cons, List.not_mem_nil, or_false, false_or, exists_eq_or_imp, exists_eq_left, or_self] <;> grind
theorem st9 : Stc K one c [] (.ife (.truth true) c (.stop one)) := by
  refine ⟨fun h1 h2 => ?_, ?_, ?_, fun h => ?_, fun f hf x => ?_⟩
  · simp [al_unit, al_truth, al_un, al_once, al_among, al_stop, al_slot, al_thn, al_op, al_ife, al_lt, al_fn, al_app, al_snd, Cos.l, ok_o, ok_f, ok_zz, h1, h2]
  · simp only [Co.dep, Cos.dep]; omega
  · simp only [Co.sz, Cos.sz]; omega
  · simp [Co.bs, Cos.bs, h]
  · simp only [hh_unit hf, hh_truth hf, hh_un hf, hh_once hf, hh_among hf, hh_stop hf, hh_slot hf, hh_thn hf, hh_op hf, hh_ife hf, hh_lt hf, hh_fn hf, hh_app hf, hh_zz hf, Cos.l, List.mem_cons, List.not_mem_nil, or_false, false_or, exists_eq_or_imp, exists_eq_left, or_self] <;> grind
theorem st10 : Stc K one c [] (.thn (.un .late (.snd one "zz" (.cons c .nil))) .unit) := by
  refine ⟨fun h1 h2 => ?_, ?_, ?_, fun h => ?_, fun f hf x => ?_⟩
  · simp [al_unit, al_truth, al_un, al_once, al_among, al_stop, al_slot, al_thn, al_op, al_ife, al_lt, al_fn, al_app, al_snd, Cos.l, ok_o, ok_f, ok_zz, h1, h2]
  · simp only [Co.dep, Cos.dep]; omega
  · simp only [Co.sz, Cos.sz]; omega
  · simp [Co.bs, Cos.bs, h]
  · simp only [hh_unit hf, hh_truth hf, hh_un hf, hh_once hf, hh_among hf, hh_stop hf, hh_slot hf, hh_thn hf, hh_op hf, hh_ife hf, hh_lt hf, hh_fn hf, hh_app hf, hh_zz hf, Cos.l, List.mem_cons, List.not_mem_nil, or_false, false_or, exists_eq_or_imp, exists_eq_left, or_self] <;> grind
theorem st11 : Stc K one c [] (.thn (.un .late (.op one one)) c) := by
  refine ⟨fun h1 h2 => ?_, ?_, ?_, fun h => ?_, fun f hf x => ?_⟩
  · simp [al_unit, al_truth, al_un, al_once, al_among, al_stop, al_slot, al_thn, al_op, al_ife, al_lt, al_fn, al_app, al_snd, Cos.l, ok_o, ok_f, ok_zz, h1, h2]
  · simp only [Co.dep, Cos.dep]; omega
  · simp only [Co.sz, Cos.sz]; omega
  · simp [Co.bs, Cos.bs, h]
  · simp only [hh_unit hf, hh_truth hf, hh_un hf, hh_once hf, hh_among hf, hh_stop hf, hh_slot hf, hh_thn hf, hh_op hf, hh_ife hf, hh_lt hf, hh_fn hf, hh_app hf, hh_zz hf, Cos.l, List.mem_cons, List.not_mem_nil, or_false, false_or, exists_eq_or_imp, exists_eq_left, or_self] <;> grind
theorem st11b : Stc K one c [] (.thn (.op one one) c) := by
  refine ⟨fun h1 h2 => ?_, ?_, ?_, fun h => ?_, fun f hf x => ?_⟩
  · simp [al_unit, al_truth, al_un, al_once, al_among, al_stop, al_slot, al_thn, al_op, al_ife, al_lt, al_fn, al_app, al_snd, Cos.l, ok_o, ok_f, ok_zz, h1, h2]
  · simp only [Co.dep, Cos.dep]; omega
  · simp only [Co.sz, Cos.sz]; omega
  · simp [Co.bs, Cos.bs, h]
  · simp only [hh_unit hf, hh_truth hf, hh_un hf, hh_once hf, hh_among hf, hh_stop hf, hh_slot hf, hh_thn hf, hh_op hf, hh_ife hf, hh_lt hf, hh_fn hf, hh_app hf, hh_zz hf, Cos.l, List.mem_cons, List.not_mem_nil, or_false, false_or, exists_eq_or_imp, exists_eq_left, or_self] <;> grind
theorem st12 : Stc K one c [] (.thn (.un .late (.slot one)) c) := by
  refine ⟨fun h1 h2 => ?_, ?_, ?_, fun h => ?_, fun f hf x => ?_⟩
  · simp [al_unit, al_truth, al_un, al_once, al_among, al_stop, al_slot, al_thn, al_op, al_ife, al_lt, al_fn, al_app, al_snd, Cos.l, ok_o, ok_f, ok_zz, h1, h2]
  · simp only [Co.dep, Cos.dep]; omega
  · simp only [Co.sz, Cos.sz]; omega
  · simp [Co.bs, Cos.bs, h]
  · simp only [hh_unit hf, hh_truth hf, hh_un hf, hh_once hf, hh_among hf, hh_stop hf, hh_slot hf, hh_thn hf, hh_op hf, hh_ife hf, hh_lt hf, hh_fn hf, hh_app hf, hh_zz hf, Cos.l, List.mem_cons, List.not_mem_nil, or_false, false_or, exists_eq_or_imp, exists_eq_left, or_self] <;> grind
theorem st12b : Stc K one c [] (.thn (.slot one) c) := by
  refine ⟨fun h1 h2 => ?_, ?_, ?_, fun h => ?_, fun f hf x => ?_⟩
  · simp [al_unit, al_truth, al_un, al_once, al_among, al_stop, al_slot, al_thn, al_op, al_ife, al_lt, al_fn, al_app, al_snd, Cos.l, ok_o, ok_f, ok_zz, h1, h2]
  · simp only [Co.dep, Cos.dep]; omega
  · simp only [Co.sz, Cos.sz]; omega
  · simp [Co.bs, Cos.bs, h]
  · simp only [hh_unit hf, hh_truth hf, hh_un hf, hh_once hf, hh_among hf, hh_stop hf, hh_slot hf, hh_thn hf, hh_op hf, hh_ife hf, hh_lt hf, hh_fn hf, hh_app hf, hh_zz hf, Cos.l, List.mem_cons, List.not_mem_nil, or_false, false_or, exists_eq_or_imp, exists_eq_left, or_self] <;> grind
theorem st13 : Stc K one c [] (.thn (.un .late (.app one (.cons .unit (.cons one .nil)))) c) := by
  refine ⟨fun h1 h2 => ?_, ?_, ?_, fun h => ?_, fun f hf x => ?_⟩
  · simp [al_unit, al_truth, al_un, al_once, al_among, al_stop, al_slot, al_thn, al_op, al_ife, al_lt, al_fn, al_app, al_snd, Cos.l, ok_o, ok_f, ok_zz, h1, h2]
  · simp only [Co.dep, Cos.dep]; omega
  · simp only [Co.sz, Cos.sz]; omega
  · simp [Co.bs, Cos.bs, h]
  · simp only [hh_unit hf, hh_truth hf, hh_un hf, hh_once hf, hh_among hf, hh_stop hf, hh_slot hf, hh_thn hf, hh_op hf, hh_ife hf, hh_lt hf, hh_fn hf, hh_app hf, hh_zz hf, Cos.l, List.mem_cons, List.not_mem_nil, or_false, false_or, exists_eq_or_imp, exists_eq_left, or_self] <;> grind
theorem st13b : Stc K one c [] (.thn (.app one (.cons .unit (.cons one .nil))) c) := by
  refine ⟨fun h1 h2 => ?_, ?_, ?_, fun h => ?_, fun f hf x => ?_⟩
  · simp [al_unit, al_truth, al_un, al_once, al_among, al_stop, al_slot, al_thn, al_op, al_ife, al_lt, al_fn, al_app, al_snd, Cos.l, ok_o, ok_f, ok_zz, h1, h2]
  · simp only [Co.dep, Cos.dep]; omega
  · simp only [Co.sz, Cos.sz]; omega
  · simp [Co.bs, Cos.bs, h]
  · simp only [hh_unit hf, hh_truth hf, hh_un hf, hh_once hf, hh_among hf, hh_stop hf, hh_slot hf, hh_thn hf, hh_op hf, hh_ife hf, hh_lt hf, hh_fn hf, hh_app hf, hh_zz hf, Cos.l, List.mem_cons, List.not_mem_nil, or_false, false_or, exists_eq_or_imp, exists_eq_left, or_self] <;> grind
theorem st14 (hl : AmOk K l) : Stc K one c [] (.ife (.among one l) .unit c) := by
  refine ⟨fun h1 h2 => ?_, ?_, ?_, fun h => ?_, fun f hf x => ?_⟩
  · simp [al_unit, al_truth, al_un, al_once, al_among, al_stop, al_slot, al_thn, al_op, al_ife, al_lt, al_fn, al_app, al_snd, Cos.l, ok_o, ok_f, ok_zz, h1, h2, hl]
  · simp only [Co.dep, Cos.dep]; omega
  · simp only [Co.sz, Cos.sz]; omega
  · simp [Co.bs, Cos.bs, h]
  · simp only [hh_unit hf, hh_truth hf, hh_un hf, hh_once hf, hh_among hf, hh_stop hf, hh_slot hf, hh_thn hf, hh_op hf, hh_ife hf, hh_lt hf, hh_fn hf, hh_app hf, hh_zz hf, Cos.l, List.mem_cons, List.not_mem_nil, or_false, false_or, exists_eq_or_imp, exists_eq_left, or_self] <;> grind
theorem st14b (hl : AmOk K l) : Stc K one c [] (.ife (.among one l) c .unit) := by
  refine ⟨fun h1 h2 => ?_, ?_, ?_, fun h => ?_, fun f hf x => ?_⟩
  · simp [al_unit, al_truth, al_un, al_once, al_among, al_stop, al_slot, al_thn, al_op, al_ife, al_lt, al_fn, al_app, al_snd, Cos.l, ok_o, ok_f, ok_zz, h1, h2, hl]
  · simp only [Co.dep, Cos.dep]; omega
  · simp only [Co.sz, Cos.sz]; omega
  · simp [Co.bs, Cos.bs, h]
  · simp only [hh_unit hf, hh_truth hf, hh_un hf, hh_once hf, hh_among hf, hh_stop hf, hh_slot hf, hh_thn hf, hh_op hf, hh_ife hf, hh_lt hf, hh_fn hf, hh_app hf, hh_zz hf, Cos.l, List.mem_cons, List.not_mem_nil, or_false, false_or, exists_eq_or_imp, exists_eq_left, or_self] <;> grind
theorem st15 : Stc K one c [n] (.lt n one c) := by
  refine ⟨fun h1 h2 => ?_, ?_, ?_, fun h => ?_, fun f hf x => ?_⟩
  · simp [al_unit, al_truth, al_un, al_once, al_among, al_stop, al_slot, al_thn, al_op, al_ife, al_lt, al_fn, al_app, al_snd, Cos.l, ok_o, ok_f, ok_zz, h1, h2]
  · simp only [Co.dep, Cos.dep]; omega
  · simp only [Co.sz, Cos.sz]; omega
  · simp [Co.bs, Cos.bs, h]
  · simp only [hh_unit hf, hh_truth hf, hh_un hf, hh_once hf, hh_among hf, hh_stop hf, hh_slot hf, hh_thn hf, hh_op hf, hh_ife hf, hh_lt hf, hh_fn hf, hh_app hf, hh_zz hf, Cos.l, List.mem_cons, List.not_mem_nil, or_false, false_or, exists_eq_or_imp, exists_eq_left, or_self] <;> grind
end
structure CInv (g : Gr) (bs : List D) (first : Nat) (done : List Co) (num : Nat) (c : Co) : Prop where
  all : All0 (gcp g bs) c
  dep : c.dep ≤ 4 + 4 * done.length
  sz : c.sz ≤ 1 + 600 * done.length
  lo : first ≤ num
  hi : num ≤ first + 2 * done.length
  nd : c.bs.Nodup
  mem : ∀ m, m ∈ c.bs ↔ first ≤ m ∧ m < num
  len : c.bs.length = num - first
  has : ∀ {α : Type} (f : Co → Option α), Ign f → ∀ x, H f c x ↔ ∃ l ∈ done, H f l x
theorem CInv.step {g : Gr} {bs : List D} {first num num' : Nat} {done : List Co} {nw : List Nat} {one c c' : Co} (h : CInv g bs first done num c) (ho : CoOk g bs 3 one) (st : Stc (gcp g bs) one c nw c') (hn : (nw = [] ∧ num' = num) ∨ (nw = [num] ∧ num' = num + 1) ∨ (nw = [num, num + 1] ∧ num' = num + 2)) : CInv g bs first (one :: done) num' c' := by
  have e := st.bs ho.bs
  have h1 := h.dep
  have h2 := h.sz
  have h3 := h.lo
  have h4 := h.hi
  have h5 := h.mem
  have h6 := h.len
  have o1 := ho.dep
  have o2 := ho.sz
  have s1 := st.dep
  have s2 := st.sz
  have p : (4 : Nat) ^ (3 + 1) = 256 := by decide
  have hl : (one :: done).length = done.length + 1 := rfl
  refine ⟨st.all ho.all h.all, by omega, by omega, by omega, by omega, ?_, fun m => ?_, ?_, fun f hf x => ?_⟩
  · rw [e]
    rcases hn with ⟨rfl, _⟩ | ⟨rfl, _⟩ | ⟨rfl, _⟩
    · exact h.nd
    · refine List.nodup_cons.mpr ⟨fun hm => ?_, h.nd⟩
      have := (h5 _).mp hm; omega
    · refine List.nodup_cons.mpr ⟨fun hm => ?_, List.nodup_cons.mpr ⟨fun hm => ?_, h.nd⟩⟩
      · rcases List.mem_cons.mp hm with hm | hm
        · omega
        · have := (h5 _).mp hm; omega
      · have := (h5 _).mp hm; omega
  · rw [e, List.mem_append, h5]
    rcases hn with ⟨rfl, rfl⟩ | ⟨rfl, rfl⟩ | ⟨rfl, rfl⟩ <;> simp <;> omega
  · rw [e, List.length_append, h6]
    rcases hn with ⟨rfl, rfl⟩ | ⟨rfl, rfl⟩ | ⟨rfl, rfl⟩ <;> simp <;> omega
  · rw [st.has f hf x, h.has f hf x]
    simp
theorem ixL0 {x : D} {r : List D} {M : Mh} {Q : D → Mh → Prop} : gIx (.lst (x :: r)) (.int 0) M Q = Q x M := ix_nat (n := 0) rfl rfl
theorem ixL1 {x y : D} {r : List D} {M : Mh} {Q : D → Mh → Prop} : gIx (.lst (x :: y :: r)) (.int 1) M Q = Q y M := ix_nat (n := 1) rfl rfl
theorem ixL2 {x y z : D} {r : List D} {M : Mh} {Q : D → Mh → Prop} : gIx (.lst (x :: y :: z :: r)) (.int 2) M Q = Q z M := ix_nat (n := 2) rfl rfl
section
variable {M : Mh} {R : D → Mh → Prop} {g : Gr} {f : Addr} {B : Nat}
theorem nm1 {M : Mh} {Q : D → Mh → Prop} : gIx (nmD g) (.int 1) M Q = Q (.lst (rngD g.G.ts.length)) M := ix_nat (n := 1) rfl rfl
theorem tabs_lc (y0 y1 y2 y4 y5 y6 y7 y9 y10 y11 y12 y13 : Option D) : ∀ (am : List Nat) (acc : List D) (Q : List D → Mh → Prop), (∀ t ∈ am, t < g.G.ts.length) → Q (acc ++ am.map nD) M →
    lcW (dgName 8) (dTst (dOp gGe (dOp gIx (dOp gIx (dVar 3) (dC (.int 1))) (dVar 8)) (dC (.int 0)))) (dOp gIx (dOp gIx (dVar 3) (dC (.int 1))) (dVar 8)) [y0, y1, y2, some (nmD g), y4, y5, y6, y7, none, y9, y10, y11, y12, y13] (am.map nD) acc M Q := by
  intro am
  induction am with
  | nil => intro acc Q _ k; simpa using k
  | cons t am ih =>
    intro acc Q h k
    have hr : (rngD g.G.ts.length)[t]? = some (nD t) := rng_at (h t List.mem_cons_self)
    rw [List.map_cons, s_lcWS]
    simp [-s_lcWS, nm1, nD_int t, ix_lst hr]
    exact ih _ Q (fun u hu => h u (List.mem_cons_of_mem _ hu)) (by simpa [nD] using k)
theorem c_step (hB : B ≤ 10000000) {bs : List D} {am : List Nat} (ham : AmOk (gcp g bs) am) {first : Nat} (x1 : Option D) (E : DEnds) (one c : Co) (num N : Nat) (M : Mh) (x8 x10 x11 x12 x13 : Option D) (hN : N + 2 < 2 ^ 40) (hf : Fd B N M f)
    (k : ∀ (nw : List Nat) (c' : Co) (cd : D) (num' : Nat) (ni : Int) (M' : Mh) (x8 x10 x11 x12 x13 : Option D), Stc (gcp g bs) one c nw c' → cd = c'.d → ni = ((num' : Nat) : Int) → ((nw = [] ∧ num' = num) ∨ (nw = [num] ∧ num' = num + 1) ∨ (nw = [num, num + 1] ∧ num' = num + 2)) → Fd B (N + 2) M' f → (∀ p, p ≠ f → M' p = M p) →
      E.nx [some (.ptr f), x1, some (.int (first : Nat)), some (nmD g), some cd, some (.int ni), some (.tup [.str "unit"]), some (.lst (am.map nD)), x8, some one.d, x10, x11, x12, x13] M') :
    bCl E [some (.ptr f), x1, some (.int (first : Nat)), some (nmD g), some c.d, some (.int (num : Nat)), some (.tup [.str "unit"]), some (.lst (am.map nD)), x8, some one.d, x10, x11, x12, x13] M := by
  simp [-s_lcWS, bCl]
  refine draw_ok hB (by omega) hf (by decide) (by decide) fun v M1 v0 v1 f1 h1 => ?_
  refine draw_ok hB (by omega) f1 (by decide) (by decide) fun u M2 u0 u1 f2 h2 => ?_
  have hM : ∀ p, p ≠ f → M2 p = M p := fun p hp => by rw [h2 p hp, h1 p hp]
  have f2 : Fd B (N + 2) M2 f := f2
  simp [-s_lcWS]
  refine tabs_lc _ _ _ _ _ _ _ _ _ _ _ _ am [] _ (fun t ht => ham.2.1 t ht) ?_
  rw [List.nil_append]
  have e0 := fun (c' : Co) (cd : D) (x8 x10 x11 x12 x13 : Option D) (st : Stc (gcp g bs) one c [] c') (h : cd = c'.d) => k [] c' cd num _ M2 x8 x10 x11 x12 x13 st h rfl (.inl ⟨rfl, rfl⟩) f2 hM
  have e1 := fun (c' : Co) (cd : D) (ni : Int) (x8 x10 x11 x12 x13 : Option D) (st : Stc (gcp g bs) one c [num] c') (h : cd = c'.d) (hn : ni = ((num + 1 : Nat) : Int)) => k [num] c' cd (num + 1) ni M2 x8 x10 x11 x12 x13 st h hn (.inr (.inl ⟨rfl, rfl⟩)) f2 hM
  have e2 := fun (c' : Co) (cd : D) (ni : Int) (x8 x10 x11 x12 x13 : Option D) (st : Stc (gcp g bs) one c [num, num + 1] c') (h : cd = c'.d) (hn : ni = ((num + 2 : Nat) : Int)) => k [num, num + 1] c' cd (num + 2) ni M2 x8 x10 x11 x12 x13 st h hn (.inr (.inr ⟨rfl, rfl⟩)) f2 hM
  have eam : (am.map fun t => D.int ((t : Nat) : Int)) = am.map nD := rfl
  have hv : v = 0 ∨ v = 1 ∨ v = 2 ∨ v = 3 ∨ v = 4 ∨ v = 5 ∨ v = 6 ∨ v = 7 ∨ v = 8 ∨ v = 9 ∨ v = 10 ∨ v = 11 ∨ v = 12 ∨ v = 13 ∨ v = 14 ∨ v = 15 := by omega
  rcases hv with rfl | rfl | rfl | rfl | rfl | rfl | rfl | rfl | rfl | rfl | rfl | rfl | rfl | rfl | rfl | rfl
  · simp [ixL0]
    exact e0 _ _ _ _ _ _ _ st0 (by simp [Co.d])
  · simp [ixL1]
    exact e0 _ _ _ _ _ _ _ (st1 ham) (by simp [Co.d, U1.w, nD])
  · simp [ixL2]
    exact e0 _ _ _ _ _ _ _ (st2 (t := decide (u = 0))) (by simp [Co.d])
  · simp [ixL0]
    exact e0 _ _ _ _ _ _ _ st3 (by simp [Co.d, U1.w])
  · simp [ixL1]
    exact e0 _ _ _ _ _ _ _ st4 (by simp [Co.d, U1.w])
  · simp [ixL2]
    exact e0 _ _ _ _ _ _ _ st5 (by simp [Co.d, U1.w])
  · simp
    exact e2 _ _ _ _ _ _ _ _ st6 (by simp [Co.d]) (by simp)
  · simp
    exact e1 _ _ _ _ _ _ _ _ st7 (by simp [Co.d, Cos.ds]) (by simp)
  · simp
    exact e0 _ _ _ _ _ _ _ st8 (by simp [Co.d, U1.w])
  · simp
    exact e0 _ _ _ _ _ _ _ st9 (by simp [Co.d])
  · simp
    exact e0 _ _ _ _ _ _ _ st10 (by simp [Co.d, U1.w, Cos.ds])
  · simp [ixL0]
    by_cases hu : u = 0
    · simp [hu]
      exact e0 _ _ _ _ _ _ _ st11 (by simp [Co.d, U1.w])
    · simp [hu]
      exact e0 _ _ _ _ _ _ _ st11b (by simp [Co.d, U1.w])
  · simp [ixL1]
    by_cases hu : u = 0
    · simp [hu]
      exact e0 _ _ _ _ _ _ _ st12 (by simp [Co.d, U1.w])
    · simp [hu]
      exact e0 _ _ _ _ _ _ _ st12b (by simp [Co.d, U1.w])
  · simp [ixL2]
    by_cases hu : u = 0
    · simp [hu]
      exact e0 _ _ _ _ _ _ _ st13 (by simp [Co.d, U1.w, Cos.ds])
    · simp [hu]
      exact e0 _ _ _ _ _ _ _ st13b (by simp [Co.d, U1.w, Cos.ds])
  · simp
    by_cases hu : u = 0
    · simp [hu]
      exact e0 _ _ _ _ _ _ _ (st14 ham) (by simp [Co.d, nD])
    · simp [hu]
      exact e0 _ _ _ _ _ _ _ (st14b ham) (by simp [Co.d, nD])
  · simp
    exact e1 _ _ _ _ _ _ _ _ st15 (by simp [Co.d]) (by simp)
theorem c_loop (hB : B ≤ 10000000) {bs : List D} {am : List Nat} (ham : AmOk (gcp g bs) am) {first : Nat} (x1 : Option D) (E : DEnds) : ∀ (os done : List Co) (num : Nat) (c : Co) (N : Nat) (M : Mh) (x8 x9 x10 x11 x12 x13 : Option D), N + 2 * os.length < 2 ^ 40 → Fd B N M f → (∀ o ∈ os, CoOk g bs 3 o) → CInv g bs first done num c →
    (∀ (num : Nat) (c : Co) M' (x8 x9 x10 x11 x12 x13 : Option D), CInv g bs first (os.reverse ++ done) num c → Fd B (N + 2 * os.length) M' f → (∀ p, p ≠ f → M' p = M p) → E.nx [some (.ptr f), x1, some (.int (first : Nat)), some (nmD g), some c.d, some (.int (num : Nat)), some (.tup [.str "unit"]), some (.lst (am.map nD)), x8, x9, x10, x11, x12, x13] M') →
    forW (dgName 9) bCl (os.map Co.d) E [some (.ptr f), x1, some (.int (first : Nat)), some (nmD g), some c.d, some (.int (num : Nat)), some (.tup [.str "unit"]), some (.lst (am.map nD)), x8, x9, x10, x11, x12, x13] M := by
  intro os
  induction os with
  | nil => intro done num c N M x8 x9 x10 x11 x12 x13 hN hf _ hc k; exact k num c M _ _ _ _ _ _ hc hf (fun _ _ => rfl)
  | cons one os ih =>
    intro done num c N M x8 x9 x10 x11 x12 x13 hN hf ho hc k
    rw [List.length_cons] at hN
    have ho1 := ho one List.mem_cons_self
    have ho2 : ∀ o ∈ os, CoOk g bs 3 o := fun o h => ho o (List.mem_cons_of_mem _ h)
    rw [List.map_cons, forW_cons, s_gname]
    refine c_step hB ham _ _ one c num N M _ _ _ _ _ (by omega) hf fun nw c' cd num' ni M1 y8 y10 y11 y12 y13 st e1 e2 hn f1 h1 => ?_
    subst e1
    subst e2
    refine ih (one :: done) num' c' (N + 2) M1 _ _ _ _ _ _ (by omega) f1 ho2 (hc.step ho1 st hn) fun num2 c2 M2 z8 z9 z10 z11 z12 z13 d1 d2 d3 => ?_
    exact k num2 c2 M2 _ _ _ _ _ _ (by simpa using d1) (by rw [List.length_cons]; exact fd_le d2 (by omega)) fun p hp => by rw [d3 p hp, h1 p hp]
theorem among_lc (hB : B ≤ 10000000) (y1 y2 y3 y4 y5 y6 y7 y9 y10 y11 y12 y13 : Option D) : ∀ (ns : List Nat) (acc : List D) (N : Nat) (M : Mh) (Q : List D → Mh → Prop), N + ns.length < 2 ^ 40 → Fd B N M f →
    (∀ (am : List Nat) M', am.Sublist ns → Fd B (N + ns.length) M' f → (∀ p, p ≠ f → M' p = M p) → Q (acc ++ am.map nD) M') →
    lcW (dgName 8) (dTst (dOp gEq (dCall F__law_draw (dCons (dVar 0) (dCons (dC (.int 2)) dNil))) (dC (.int 0)))) (dVar 8) [some (.ptr f), y1, y2, y3, y4, y5, y6, y7, none, y9, y10, y11, y12, y13] (ns.map nD) acc M Q := by
  intro ns
  induction ns with
  | nil => intro acc N M Q hN hf k; simpa using k [] M (List.Sublist.refl _) hf (fun _ _ => rfl)
  | cons n ns ih =>
    intro acc N M Q hN hf k
    rw [List.length_cons] at hN
    rw [List.map_cons, s_lcWS]
    simp [-s_lcWS]
    refine draw_ok hB (by omega) hf (by decide) (by decide) fun v M1 v0 v1 f1 h1 => ?_
    simp [-s_lcWS]
    by_cases hv : v = 0
    · simp [-s_lcWS, hv]
      refine ih _ (N + 1) M1 Q (by omega) f1 fun am M2 a1 a2 a3 => ?_
      have := k (n :: am) M2 (a1.cons_cons n) (by rw [List.length_cons]; exact fd_le a2 (by omega)) fun p hp => by rw [a3 p hp, h1 p hp]
      simpa using this
    · simp [-s_lcWS, hv]
      refine ih _ (N + 1) M1 Q (by omega) f1 fun am M2 a1 a2 a3 => ?_
      exact k am M2 (a1.cons n) (by rw [List.length_cons]; exact fd_le a2 (by omega)) fun p hp => by rw [a3 p hp, h1 p hp]
structure CRes (g : Gr) (bs : List D) (first : Nat) (cs : List Co) (num : Nat) (c : Co) : Prop where
  ok : Okc (gcp g bs) first true 1 c
  sz : c.sz ≤ 100000
  lo : first ≤ num
  hi : num ≤ first + 2 * cs.length
  nd : c.bs.Nodup
  mem : ∀ m, m ∈ c.bs ↔ first ≤ m ∧ m < num
  len : c.bs.length = num - first
  has : ∀ {α : Type} (f : Co → Option α), Ign f → ∀ x, H f c x ↔ ∃ l ∈ cs, H f l x
theorem CInv.res {bs : List D} {first num : Nat} {cs done : List Co} {c : Co} (h : CInv g bs first done num c) (hd : ∀ l, l ∈ done ↔ l ∈ cs) (hl : done.length = cs.length) (hc : cs.length ≤ 4) : CRes g bs first cs num c := by
  have h1 := h.dep
  have h2 := h.sz
  have h3 := h.hi
  refine ⟨okc_all _ (Nat.le_refl _) (by omega) h.all, by omega, h.lo, by omega, h.nd, h.mem, h.len, fun f hf x => ?_⟩
  rw [h.has f hf x]
  simp only [hd]
theorem CInv.fill {bs : List D} {first num : Nat} {cs done : List Co} {c a : Co} (h : CInv g bs first done num c) (hd : ∀ l, l ∈ done ↔ l ∈ cs) (hl : done.length = cs.length) (hc : cs.length ≤ 4) (hp : 0 < first) (ha : a = .unit ∨ a ∈ cs) (ho : ∀ o ∈ cs, CoOk g bs 3 o) : CRes g bs first cs num (.fill a c) := by
  have h1 := h.dep
  have h2 := h.sz
  have h3 := h.hi
  have a1 : All0 (gcp g bs) a := by
    rcases ha with rfl | ha
    · exact unit_all
    · exact (ho a ha).all
  have a2 : a.dep ≤ 4 := by
    rcases ha with rfl | ha
    · simp [Co.dep]
    · exact (ho a ha).dep
  have a3 : a.sz ≤ 256 := by
    rcases ha with rfl | ha
    · simp [Co.sz]
    · exact (ho a ha).sz
  have a4 : a.bs = [] := by
    rcases ha with rfl | ha
    · simp [Co.bs]
    · exact (ho a ha).bs
  have eb : (Co.fill a c).bs = c.bs := by simp [Co.bs, a4]
  refine ⟨⟨by omega, ⟨rfl, by omega⟩, fun k hk => ?_⟩, by simp only [Co.sz]; omega, h.lo, by omega, by rw [eb]; exact h.nd, by rw [eb]; exact h.mem, by rw [eb]; exact h.len, fun f hf x => ?_⟩
  · simp only [Co.kids, List.mem_cons, List.not_mem_nil, or_false] at hk
    rcases hk with rfl | rfl
    · exact okc_all _ (Nat.le_refl _) (by omega) a1
    · exact okc_all _ (Nat.le_refl _) (by omega) h.all
  · rw [hh_fill hf, h.has f hf x]
    simp only [hd]
    constructor
    · rintro (h | h)
      · rcases ha with rfl | ha
        · exact absurd h (h_unit hf)
        · exact ⟨a, ha, h⟩
      · exact h
    · exact .inr
theorem c_ok (hB : B ≤ 10000000) (hg : g.Ok) {bs : List D} {cs : List Co} (ho : ∀ o ∈ cs, CoOk g bs 3 o) (hc : cs.length ≤ 4) {first N : Nat} (hf1 : first ≤ 2) (hN : N + 200 < 2 ^ 40) (hf : Fd B N M f)
    (k : ∀ (num : Nat) (c : Co) M', CRes g bs first cs num c → Fd B (N + 200) M' f → (∀ p, p ≠ f → M' p = M p) → R (.tup [c.d, .int ((num - first : Nat) : Int)]) M') : F__law_c [.ptr f, .lst (cs.map Co.d), .int (first : Nat), nmD g] M R := by
  have hsl := sizeLine_eq
  have ht4 := hg.t4
  have e0 : cs.map Co.d = (cs.reverse.map Co.d).reverse := by rw [← List.map_reverse, List.reverse_reverse]
  refine ⟨rfl, ?_⟩
  show (dSeq (dPar3 4 5 6 (dTup (dCons (dC (.str "unit")) dNil)) (dVar 2) (dTup (dCons (dC (.str "unit")) dNil))) (dSeq (dAsg (dLc mkF (dInR (dCB gLen (dCons (dOp gIx (dVar 3) (dC (.int 1))) dNil))) (dgName 8) (dTst (dOp gEq (dCall F__law_draw (dCons (dVar 0) (dCons (dC (.int 2)) dNil))) (dC (.int 0)))) (dVar 8) [8]) (dgName 7)) (dSeq (dFor (dInQ (dRevL mkF (dVar 1))) (dgName 9) bCl) bCe))) _ _ _
  simp [-s_lcWS, dstart, N__law_c, nm1, rngD]
  refine ⟨by omega, ?_⟩
  refine among_lc hB _ _ _ _ _ _ _ _ _ _ _ _ (List.range g.G.ts.length) [] N M _ (by simp; omega) hf fun am M1 a1 a2 a3 => ?_
  rw [List.length_range] at a2
  have ham : AmOk (gcp g bs) am := by
    refine ⟨?_, fun t ht => List.mem_range.mp (a1.subset ht), ?_⟩
    · rw [asc_iff, List.pairwise_map]
      exact (List.Pairwise.sublist a1 List.pairwise_lt_range).imp fun {a b} q => by omega
    · have := a1.length_le
      rw [List.length_range] at this
      omega
  show forW (dgName 9) bCl (cs.map Co.d).reverse _ _ M1
  have e1 : (cs.map Co.d).reverse = cs.reverse.map Co.d := by rw [List.map_reverse]
  rw [e1, List.nil_append]
  have init : CInv g bs first [] first .unit := ⟨unit_all, by simp [Co.dep], by simp [Co.sz], Nat.le_refl _, by simp, by simp [Co.bs], fun m => by simp [Co.bs], by simp [Co.bs], fun f hf x => by simp [h_unit hf]⟩
  refine c_loop hB ham _ _ cs.reverse [] first .unit (N + g.G.ts.length) M1 _ _ _ _ _ _ (by simp; omega) a2 (fun o h => ho o (by simpa using h)) init fun num c M2 y8 y9 y10 y11 y12 y13 c1 c2 c3 => ?_
  rw [List.reverse_reverse, List.append_nil] at c1
  rw [List.length_reverse] at c2
  have hM2 : ∀ p, p ≠ f → M2 p = M p := fun p hp => by rw [c3 p hp, a3 p hp]
  have hlo := c1.lo
  have esub : ((num : Nat) : Int) - ((first : Nat) : Int) = ((num - first : Nat) : Int) := by omega
  have fin : ∀ (c : Co) M', CRes g bs first cs num c → Fd B (N + 200) M' f → (∀ p, p ≠ f → M' p = M p) → R (.tup [c.d, .int ((num : Int) - (first : Int))]) (keepM M M') := fun c M' r1 r2 r3 => by
    rw [keep_fd hf r3, esub]
    exact k num c M' r1 r2 r3
  have plain := c1.res (cs := cs) (fun l => Iff.rfl) rfl hc
  simp [bCe]
  by_cases hp : 0 < first
  · simp [hp]
    refine draw_ok hB (by omega) c2 (by decide) (by decide) fun u M3 u0 u1 f3 h3 => ?_
    simp
    by_cases hu : u = 0
    · simp [hu]
      refine gCatL_F (by simp; omega) ?_
      refine one_ok hB (by omega) f3 (by simp) (by simp; omega) fun x hx M4 f4 h4 => ?_
      obtain ⟨a, ha, rfl⟩ : ∃ a : Co, (a = .unit ∨ a ∈ cs) ∧ x = a.d := by
        rcases List.mem_append.mp hx with hx | hx
        · exact ⟨.unit, .inl rfl, by simpa [Co.d] using hx⟩
        · obtain ⟨a, ha, rfl⟩ := List.mem_map.mp hx
          exact ⟨a, .inr ha, rfl⟩
      have := fin (.fill a c) M4 (c1.fill (cs := cs) (fun l => Iff.rfl) rfl hc hp ha ho) (fd_le f4 (by omega)) (fun p hp => by rw [h4 p hp, h3 p hp, hM2 p hp])
      simpa [Co.d] using this
    · simp [hu]
      exact fin c M3 plain (fd_le f3 (by omega)) fun p hp => by rw [h3 p hp, hM2 p hp]
  · simp [hp]
    exact fin c M2 plain (fd_le c2 (by omega)) hM2
end
end K70
set_option maxRecDepth 100000
set_option maxHeartbeats 1000000
namespace K70
open PySem PySem.Spec PyProof.Rows L2 DL
def bCore : DS := (dSeq (dAsg (dCall F__law_c (dCons (dVar 0) (dCons (dLc mkF (dInQ (dOp gIx (dVar 3) (dVar 9))) (dgName 12) dYes (dCall (F__law_asked 4) (dCons (dVar 12) (dCons (dVar 1) (dCons (dVar 7) (dCons (dC .non) dNil))))) [12]) (dCons (dOp gIx (dVar 2) (dVar 9)) (dCons (dVar 7) dNil))))) (dgTup 2 (dgCons (dgName 10) (dgCons (dgName 11) dgNil)))) (dDrop (dBM gAppend (dVar 8) (dCons (dTup (dCons (dOp gIx (dVar 2) (dVar 9)) (dCons (dVar 11) (dCons (dVar 10) dNil)))) dNil))))
structure BRes (g : Gr) (row : List Qa) (p : Nat) (x : Nat × Nat × Co) : Prop where
  hp : x.1 = p
  hc : CRes g [] p (row.map Qa.co) (p + x.2.1) x.2.2
section
variable {M : Mh} {R : D → Mh → Prop} {g : Gr} {f : Addr} {B : Nat}
theorem row_lc (hg : g.Ok) {ρ : DV} (h12 : ∀ d, lk (ρ.set 12 (some d)) 12 = some d) (h1 : ∀ d, lk (ρ.set 12 (some d)) 1 = some g.d) (h7 : ∀ d, lk (ρ.set 12 (some d)) 7 = some (nmD g)) : ∀ (row : List Qa) (acc : List D) (Q : List D → Mh → Prop), (∀ a ∈ row, a.Ok g.G 3) → Q (acc ++ (row.map Qa.co).map Co.d) M →
    lcW (dgName 12) dYes (dCall (F__law_asked 4) (dCons (dVar 12) (dCons (dVar 1) (dCons (dVar 7) (dCons (dC .non) dNil))))) ρ (row.map Qa.d) acc M Q := by
  intro row
  induction row with
  | nil => intro acc Q _ k; simpa using k
  | cons a row ih =>
    intro acc Q h k
    rw [List.map_cons, s_lcWS, s_gname, s_yes]
    simp only [if_true]
    rw [s_call, s_cons, s_var (h12 _), s_cons, s_var (h1 _), s_cons, s_var (h7 _), s_cons, s_C, s_nil]
    refine asked_ok hg 3 4 a _ (by decide) (h a List.mem_cons_self) ?_
    exact ih _ Q (fun b hb => h b (List.mem_cons_of_mem _ hb)) (by simpa using k)
theorem core_loop (hB : B ≤ 10000000) (hg : g.Ok) {a : Addr} (hfa : f ≠ a) (E : DEnds) (x6 x13 x14 x15 : Option D) : ∀ (ns : List Nat) (bd : List (Nat × Nat × Co)) (N : Nat) (M : Mh) (x9 x10 x11 x12 : Option D), N + ns.length * 200 < 2 ^ 40 → bd.length + ns.length ≤ 1000 → Fd B N M f → M a = some (.lst (bd.map bodyD)) → (∀ n ∈ ns, n < g.G.ps.length) →
    (∀ (us : List (Nat × Nat × Co)) M' (x9 x10 x11 x12 : Option D), us.length = ns.length → (∀ (i n : Nat) x row p, ns[i]? = some n → us[i]? = some x → g.asks[n]? = some row → g.G.ps[n]? = some p → BRes g row p x) → Fd B (N + ns.length * 200) M' f → M' a = some (.lst ((bd ++ us).map bodyD)) → (∀ p, p ≠ f → p ≠ a → M' p = M p) →
      E.nx [some (.ptr f), some g.d, some g.G.psD, some (.lst (g.asks.map rowD2)), some g.G.tsD, some (g.G.sgD g.sg), x6, some (nmD g), some (.ptr a), x9, x10, x11, x12, x13, x14, x15] M') →
    forW (dgName 9) bCore (ns.map nD) E [some (.ptr f), some g.d, some g.G.psD, some (.lst (g.asks.map rowD2)), some g.G.tsD, some (g.G.sgD g.sg), x6, some (nmD g), some (.ptr a), x9, x10, x11, x12, x13, x14, x15] M := by
  intro ns
  induction ns with
  | nil => intro bd N M x9 x10 x11 x12 hN hl hf ha _ k; simpa using k [] M x9 x10 x11 x12 rfl (by simp) (by simpa using hf) (by simpa using ha) (fun _ _ _ => rfl)
  | cons n ns ih =>
    intro bd N M x9 x10 x11 x12 hN hl hf ha hn k
    rw [List.length_cons, Nat.succ_mul] at hN
    rw [List.length_cons] at hl
    have hsl := sizeLine_eq
    have hn0 := hn n List.mem_cons_self
    obtain ⟨p, hp⟩ : ∃ p, g.G.ps[n]? = some p := ⟨_, List.getElem?_eq_getElem hn0⟩
    obtain ⟨row, hr⟩ : ∃ row, g.asks[n]? = some row := ⟨_, List.getElem?_eq_getElem (by rw [hg.al]; exact hn0)⟩
    obtain ⟨hr1, hr2⟩ := hg.ar row (List.mem_of_getElem? hr)
    have hp2 := hg.fit.p2 p (List.mem_of_getElem? hp)
    have i1 : (g.asks.map rowD2)[n]? = some (rowD2 row) := by rw [List.getElem?_map, hr]; rfl
    have i2 : (g.G.ps.map nD)[n]? = some (nD p) := by rw [List.getElem?_map, hp]; rfl
    have i3 : ∀ {M : Mh} {Q : D → Mh → Prop}, gIx g.G.psD (.int (n : Nat)) M Q = Q (nD p) M := fun {M Q} => by rw [Gp.psD, ix_lst i2]
    rw [List.map_cons, forW_cons, s_gname]
    simp [-s_lcWS, bCore, nD_int n, ix_lst i1]
    simp [-s_lcWS, rowD2]
    refine row_lc hg (fun d => rfl) (fun d => rfl) (fun d => rfl) row [] _ hr2 ?_
    rw [List.nil_append]
    simp [-s_lcWS, i3, -List.map_map]
    refine c_ok hB hg (bs := []) (cs := row.map Qa.co) (fun o ho => ?_) (by simpa using hr1) (N := N) hp2 (by omega) hf fun num c M1 c1 f1 h1 => ?_
    · obtain ⟨q, hq, rfl⟩ := List.mem_map.mp ho
      exact co_all hg (hr2 q hq)
    · have ha1 : M1 a = some (.lst (bd.map bodyD)) := by rw [h1 a hfa.symm]; exact ha
      simp [isPL_at ha1, append_at ha1, i3]
      refine ⟨by omega, ?_⟩
      have hlo := c1.lo
      have e1 : (bd.map bodyD ++ [D.tup [nD p, .int ((num - p : Nat) : Int), c.d]]) = (bd ++ [(p, num - p, c)]).map bodyD := by simp [bodyD, nD]
      rw [e1]
      refine ih (bd ++ [(p, num - p, c)]) (N + 200) _ _ _ _ _ (by omega) (by simp; omega) (fd_mup f1 hfa) mup_same (fun m hm => hn m (List.mem_cons_of_mem _ hm)) fun us M' z9 z10 z11 z12 u1 u2 u3 u4 u5 => ?_
      refine k ((p, num - p, c) :: us) M' z9 z10 z11 z12 (by simp [u1]) (fun i m x row' p' j1 j2 j3 j4 => ?_) (by rw [List.length_cons, Nat.succ_mul]; exact fd_le u3 (by omega)) (by rw [u4]; simp) fun q hq hqa => by rw [u5 q hq hqa, mup_ne hqa, h1 q hq]
      cases i with
      | zero =>
        simp at j1 j2
        subst j1
        subst j2
        rw [hr] at j3
        rw [hp] at j4
        cases j3
        cases j4
        exact ⟨rfl, by rw [show p + (num - p) = num by omega]; exact c1⟩
      | succ i => exact u2 i m x row' p' (by simpa using j1) (by simpa using j2) j3 j4
theorem tabrows_lc {ρ : DV} (h14 : ∀ x y, lk ((ρ.set 14 (some x)).set 15 (some y)) 14 = some x) (h15 : ∀ x y, lk ((ρ.set 14 (some x)).set 15 (some y)) 15 = some y) : ∀ (ts : List (List (Str × Nat) × Nat)) (acc : List D) (Q : List D → Mh → Prop), Q (acc ++ ts.map tabD) M →
    lcW (dgTup 2 (dgCons (dgName 14) (dgCons (dgName 15) dgNil))) dYes (dTup (dCons (dC (.str "T")) (dCons (dC .non) (dCons (dTup dNil) (dCons (dTup dNil) (dCons (dCB gTuple (dCons (dVar 14) dNil)) (dCons (dVar 15) dNil))))))) ρ (ts.map rwD) acc M Q := by
  intro ts
  induction ts with
  | nil => intro acc Q k; simpa using k
  | cons t ts ih =>
    intro acc Q k
    rw [List.map_cons, s_lcWS]
    simp only [rwD, s_gtup, s_gcons, s_gname, s_gnil, s_yes, if_true, s_tup, s_cons, s_C, s_nil, s_cb]
    refine ⟨rfl, ?_⟩
    rw [s_var (h14 _ _), g_tupL, s_var (h15 _ _)]
    exact ih _ Q (by simpa [tabD, nD] using k)
theorem sgs_lc {ρ : DV} (h9 : ∀ x, lk (ρ.set 9 (some x)) 9 = some x) : ∀ (sg : List Nat) (acc : List D) (Q : List D → Mh → Prop), Q (acc ++ sg.map sgD) M →
    lcW (dgName 9) dYes (dTup (dCons (dVar 9) (dCons (dC (.str "s")) dNil))) ρ (sg.map nD) acc M Q := by
  intro sg
  induction sg with
  | nil => intro acc Q k; simpa using k
  | cons t ts ih =>
    intro acc Q k
    rw [List.map_cons, s_lcWS]
    simp only [s_gname, s_yes, if_true, s_tup, s_cons, s_C, s_nil]
    rw [s_var (h9 _)]
    exact ih _ Q (by simpa [sgD, nD] using k)
def kOf (g : Gr) (bd : List (Nat × Nat × Co)) : Core := ⟨g.G.ts, bd, g.sg, g.main⟩
def BdOk (g : Gr) (bd : List (Nat × Nat × Co)) : Prop := bd.length = g.G.ps.length ∧ ∀ (i : Nat) x row p, bd[i]? = some x → g.asks[i]? = some row → g.G.ps[i]? = some p → BRes g row p x
theorem core_ok (hB : B ≤ 10000000) (hg : g.Ok) {N : Nat} (hN : N + 2100 < 2 ^ 40) (hf : Fd B N M f) (k : ∀ (bd : List (Nat × Nat × Co)) M', BdOk g bd → Fd B (N + 2100) M' f → (∀ p, p ≠ f → M' p = M p) → R (kOf g bd).d M') : F__law_core [.ptr f, g.d] M R := by
  have lp : ∀ {M : Mh} {Q : D → Mh → Prop}, gLen [g.G.psD] M Q = Q (.int (g.G.ps.length : Nat)) M := fun {M Q} => by simp [Gp.psD]
  have lt : ∀ {M : Mh} {Q : D → Mh → Prop}, gLen [g.G.tsD] M Q = Q (.int (g.G.ts.length : Nat)) M := fun {M Q} => by simp [Gp.tsD]
  have ls : ∀ {M : Mh} {Q : D → Mh → Prop}, gLen [g.G.sgD g.sg] M Q = Q (.int (g.sg.length : Nat)) M := fun {M Q} => by simp [Gp.sgD]
  have hsl := sizeLine_eq
  have h10 := hg.p10
  have ht4 := hg.t4
  have hs3 := hg.s3
  have hsl2 := hg.sl
  have iq : ∀ {ρ : DV} {i : Nat} {M : Mh} {Q : List D → Mh → Prop}, lk ρ i = some g.G.tsD → Q (g.G.ts.map rwD) M → dInQ (dVar i) ρ M Q := fun e q => by
    rw [s_inQ, s_var e]
    exact q
  have iq2 : ∀ {ρ : DV} {i : Nat} {M : Mh} {Q : List D → Mh → Prop}, lk ρ i = some (g.G.sgD g.sg) → Q (g.sg.map nD) M → dInQ (dVar i) ρ M Q := fun e q => by
    rw [s_inQ, s_var e]
    exact q
  refine ⟨rfl, ?_⟩
  show (dSeq (dAsg (dVar 1) (dgTup 5 (dgCons (dgName 2) (dgCons (dgName 3) (dgCons (dgName 4) (dgCons (dgName 5) (dgCons (dgName 6) dgNil))))))) (dSeq (dAsg (dLst mkF (dCons (dLstRg mkF (dCB gLen (dCons (dVar 2) dNil))) (dCons (dLstRg mkF (dCB gLen (dCons (dVar 4) dNil))) (dCons (dLstRg mkF (dCB gLen (dCons (dVar 5) dNil))) dNil)))) (dgName 7)) (dSeq (dAsg (dLst mkP dNil) (dgName 8)) (dSeq (dFor (dInR (dCB gLen (dCons (dVar 2) dNil))) (dgName 9) bCore) (dSeq (dAsg (dLc mkF (dInQ (dVar 4)) (dgTup 2 (dgCons (dgName 14) (dgCons (dgName 15) dgNil))) dYes (dTup (dCons (dC (.str "T")) (dCons (dC .non) (dCons (dTup dNil) (dCons (dTup dNil) (dCons (dCB gTuple (dCons (dVar 14) dNil)) (dCons (dVar 15) dNil))))))) [14, 15]) (dgName 13)) (dRet (dTup (dCons (dCB gTuple (dCons (dVar 13) dNil)) (dCons (dCB gTuple (dCons (dVar 8) dNil)) (dCons (dCB gTuple (dCons (dLc mkF (dInQ (dVar 5)) (dgName 9) dYes (dTup (dCons (dVar 9) (dCons (dC (.str "s")) dNil))) [9]) dNil)) (dCons (dVar 6) dNil))))))))))) _ _ _
  simp [-s_lcWS, dstart, N__law_core, Gr.d, lp, lt, ls, -s_inQ]
  refine ⟨by omega, by omega, by omega, fun a ha => ⟨by omega, ?_⟩⟩
  have hfa := fd_ne hf ha
  refine core_loop hB hg hfa _ _ _ _ _ (List.range g.G.ps.length) [] N _ _ _ _ _ (by rw [List.length_range]; omega) (by simp; omega) (fd_mup hf hfa) mup_same (fun n hn => List.mem_range.mp hn) fun us M' y9 y10 y11 y12 u1 u2 u3 u4 u5 => ?_
  rw [List.length_range] at u1 u3
  have gt : ∀ {Q : D → Mh → Prop}, gTuple [.ptr a] M' Q = Q (.tup (us.map bodyD)) M' := fun {Q} => by simp [gTuple, asQ, mlst_at u4]
  have hM : ∀ p, p ≠ f → p ≠ a → M' p = M p := fun p hp hpa => by rw [u5 p hp hpa, mup_ne hpa]
  simp [-s_lcWS, -s_inQ]
  refine iq (by rfl) ?_
  refine tabrows_lc (fun x y => rfl) (fun x y => rfl) g.G.ts [] _ ?_
  simp [-s_lcWS, -s_inQ, gt]
  refine iq2 (by rfl) ?_
  refine sgs_lc (fun x => rfl) g.sg [] _ ?_
  simp
  have hk : ∀ p, p ≠ f → keepM M M' p = M p := fun p hp => by
    unfold keepM
    cases e : M p with
    | none => rfl
    | some o =>
      have hpa : p ≠ a := ne_m e ha
      rw [hM p hp hpa, e]
      rfl
  have hkf : Fd B (N + 2100) (keepM M M') f := by
    obtain ⟨x, y, z, h0, h1⟩ := u3
    obtain ⟨x', y', z', h0', _⟩ := hf
    obtain ⟨h1, h2, h3, h4, h5, h6⟩ := h1
    exact ⟨x, y, z, by unfold keepM; rw [h0']; exact h0, h1, h2, h3, h4, h5, by omega⟩
  refine k us _ ⟨u1, fun i x row p j1 j2 j3 => ?_⟩ hkf hk
  have hi : i < g.G.ps.length := (List.getElem?_eq_some_iff.mp j3).1
  exact u2 i i x row p (List.getElem?_range hi) j1 j2 j3
end
end K70
set_option maxRecDepth 100000
set_option maxHeartbeats 1000000
namespace K70
open PySem PySem.Spec PyProof.Rows L2 DL
theorem fit_bs {g : Gr} {b1 b2 : List D} {P : Int} {may : Bool} : ∀ {c : Co}, fitP (gcp g b1) P may c → fitP (gcp g b2) P may c := by
  intro c h
  cases c <;> exact h
theorem okc_bs {g : Gr} {b1 b2 : List D} {P : Int} {may : Bool} {w : Nat} {c : Co} (h : Okc (gcp g b1) P may w c) : Okc (gcp g b2) P may w c := by
  induction h with
  | mk hw hf hk ih => exact ⟨hw, fit_bs hf, ih⟩
section
variable {g : Gr} {bd : List (Nat × Nat × Co)}
theorem bd_at (hg : g.Ok) (hb : BdOk g bd) {i : Nat} {x : Nat × Nat × Co} (h : bd[i]? = some x) : ∃ row p, g.asks[i]? = some row ∧ g.G.ps[i]? = some p ∧ BRes g row p x := by
  have hi : i < g.G.ps.length := by rw [← hb.1]; exact (List.getElem?_eq_some_iff.mp h).1
  obtain ⟨p, hp⟩ : ∃ p, g.G.ps[i]? = some p := ⟨_, List.getElem?_eq_getElem hi⟩
  obtain ⟨row, hr⟩ : ∃ row, g.asks[i]? = some row := ⟨_, List.getElem?_eq_getElem (by rw [hg.al]; exact hi)⟩
  exact ⟨row, p, hr, hp, hb.2 i x row p h hr hp⟩
theorem ps_eq (hg : g.Ok) (hb : BdOk g bd) : (bd.map fun x => ((x.1 : Nat) : Int)) = g.G.ps.map fun p => ((p : Nat) : Int) := by
  refine List.ext_getElem? fun i => ?_
  rw [List.getElem?_map, List.getElem?_map]
  cases h : bd[i]? with
  | none =>
    have : g.G.ps.length ≤ i := by rw [← hb.1]; exact List.getElem?_eq_none_iff.mp h
    rw [List.getElem?_eq_none this]
    rfl
  | some x =>
    obtain ⟨row, p, _, hp, r⟩ := bd_at hg hb h
    rw [hp]
    simp [r.hp]
theorem cp_eq (hg : g.Ok) (hb : BdOk g bd) : (kOf g bd).cp = gcp g (bd.map bodyD) := by
  unfold Core.cp gcp kOf
  simp only [ps_eq hg hb]
theorem sels_ok {z : Str} (h : z ∈ sels) : okT z 1 = true ∧ z ≠ "zz" := by
  have : ∀ z ∈ sels, okT z 1 = true ∧ decide (z = ("zz" : Str)) = false := by
    intro z hz
    simp only [sels, List.mem_cons, List.not_mem_nil, or_false] at hz
    rcases hz with rfl | rfl | rfl | rfl
    · exact ⟨by decide +kernel, by decide +kernel⟩
    · exact ⟨by decide +kernel, by decide +kernel⟩
    · exact ⟨by decide +kernel, by decide +kernel⟩
    · exact ⟨by decide +kernel, by decide +kernel⟩
  exact ⟨(this z h).1, of_decide_eq_false (this z h).2⟩
theorem zip_all {α : Type} {r : α → α → Bool} : ∀ {l : List α}, l.Pairwise (fun a b => r a b = true) → ((l.zip l.tail).all fun p => r p.1 p.2) = true
  | [], _ => rfl
  | [a], _ => rfl
  | a :: b :: l, h => by
    have h2 := List.pairwise_cons.mp h
    have ih := zip_all (l := b :: l) h2.2
    simp only [List.tail_cons, List.zip_cons_cons, List.all_cons, Bool.and_eq_true] at ih ⊢
    exact ⟨h2.1 b List.mem_cons_self, ih⟩
theorem sels_asc : sels.Pairwise (fun a b => ltT a b = true) := by
  simp only [sels, List.pairwise_cons, List.mem_cons, List.not_mem_nil, or_false]
  refine ⟨fun b hb => ?_, fun b hb => ?_, fun b hb => ?_, fun b hb => hb.elim, List.Pairwise.nil⟩
  · rcases hb with rfl | rfl | rfl <;> decide +kernel
  · rcases hb with rfl | rfl <;> decide +kernel
  · rcases hb with rfl; decide +kernel
theorem sels_nodup : sels.Nodup := by
  simp only [sels, List.nodup_cons, List.mem_cons, List.not_mem_nil, or_false, List.nodup_nil, not_or, and_true, not_false_eq_true]
  refine ⟨⟨?_, ?_, ?_⟩, ⟨?_, ?_⟩, ?_⟩ <;> exact of_decide_eq_false (by decide +kernel)
theorem rows_ok {ps : List Nat} {rs : List (Str × Nat)} (h : RwOk ps rs) : RowsOk (ps.map fun p => ((p : Nat) : Int)) rs := by
  refine ⟨fun r hr => ⟨(sels_ok (h.1.subset (List.mem_map_of_mem hr))).1, ?_⟩, ?_⟩
  · obtain ⟨p, h1, h2⟩ := h.2 r hr
    exact ⟨p, by rw [List.getElem?_map, h1]; rfl, by omega⟩
  · have hp : rs.Pairwise (fun a b => ltT a.1 b.1 = true) := by
      have := List.Pairwise.sublist h.1 sels_asc
      rwa [List.pairwise_map] at this
    exact zip_all (r := fun a b : Str × Nat => ltT a.1 b.1) hp
theorem wf_ok (hg : g.Ok) (hb : BdOk g bd) : (kOf g bd).Wf := by
  have ecp := cp_eq hg hb
  have eps : (kOf g bd).cp.ps = g.G.ps.map fun p => ((p : Nat) : Int) := by rw [ecp]; rfl
  have pat : ∀ {i p : Nat}, g.G.ps[i]? = some p → (kOf g bd).cp.ps[i]? = some ((p : Nat) : Int) := fun {i p} h => by
    rw [eps, List.getElem?_map, h]; rfl
  have h10 := hg.p10
  have h4 := hg.t4
  have h3 := hg.s3
  have hsl := hg.sl
  refine ⟨by show g.G.ts.length ≤ 60; omega, by show bd.length ≤ 60; rw [hb.1]; omega, by show g.sg.length ≤ 60; omega, fun t ht => ⟨?_, ?_, ?_⟩, fun s hs => pat (hg.sg0 s hs), pat hg.mn, fun x hx => ?_⟩
  · rw [eps]; exact rows_ok (hg.rw_ t ht)
  · have := rw_len (hg.rw_ t ht); omega
  · obtain ⟨p, h1, h2⟩ := hg.fit.tp t ht
    exact ⟨_, pat h1, by omega⟩
  · obtain ⟨i, hi⟩ := List.getElem?_of_mem hx
    obtain ⟨row, p, hr, hp, r⟩ := bd_at hg hb hi
    have hp2 := hg.fit.p2 p (List.mem_of_getElem? hp)
    have c := r.hc
    have e := r.hp
    have hhi := c.hi
    have hrl := (hg.ar row (List.mem_of_getElem? hr)).1
    rw [List.length_map] at hhi
    refine ⟨by omega, by omega, ?_, c.nd, fun m hm => ?_, ?_, c.sz⟩
    · rw [ecp, e]
      exact okc_bs c.ok
    · have := (c.mem m).mp hm
      omega
    · rw [c.len]; omega
end
end K70
set_option maxRecDepth 100000
set_option maxHeartbeats 1000000
namespace K70
open PySem PySem.Spec PyProof.Rows L2 DL
def sndZ : Co → Option Str | .snd _ s _ => if s = ("zz" : Str) then none else some s | _ => none
def qMak : Qa → Option Nat | .mk .mak n _ => some n | _ => none
def qDir : Qa → Option Nat | .mk .dir n _ => some n | _ => none
def qSin : Qa → Option Nat | .mk .sin n _ => some n | _ => none
def qSnd : Qa → Option Str | .mk .snd n _ => some (sel n) | _ => none
theorem ig_mak : Ign makOf := ⟨rfl, fun _ => rfl, fun _ _ => rfl, fun _ _ => rfl, fun _ _ => rfl, fun _ => rfl, fun _ => rfl, fun _ _ => rfl, fun _ _ => rfl, fun _ _ _ => rfl, fun _ _ _ => rfl, fun _ _ => rfl, fun _ _ => rfl, fun _ _ => rfl, fun _ _ => rfl⟩
theorem ig_dir : Ign dirOf := ⟨rfl, fun _ => rfl, fun _ _ => rfl, fun _ _ => rfl, fun _ _ => rfl, fun _ => rfl, fun _ => rfl, fun _ _ => rfl, fun _ _ => rfl, fun _ _ _ => rfl, fun _ _ _ => rfl, fun _ _ => rfl, fun _ _ => rfl, fun _ _ => rfl, fun _ _ => rfl⟩
theorem ig_sg : Ign sgOf := ⟨rfl, fun _ => rfl, fun _ _ => rfl, fun _ _ => rfl, fun _ _ => rfl, fun _ => rfl, fun _ => rfl, fun _ _ => rfl, fun _ _ => rfl, fun _ _ _ => rfl, fun _ _ _ => rfl, fun _ _ => rfl, fun _ _ => rfl, fun _ _ => rfl, fun _ _ => rfl⟩
theorem ig_snd : Ign sndZ := ⟨rfl, fun _ => rfl, fun _ _ => rfl, fun _ _ => rfl, fun _ _ => rfl, fun _ => rfl, fun _ => rfl, fun _ _ => rfl, fun _ _ => rfl, fun _ _ _ => rfl, fun _ _ _ => rfl, fun _ _ => rfl, fun _ _ => rfl, fun _ _ => rfl, fun _ _ => by simp [sndZ]⟩
theorem sel_mem (n : Nat) : sel n ∈ sels := by
  match n with
  | 0 => exact List.mem_cons_self
  | 1 => exact List.mem_cons_of_mem _ List.mem_cons_self
  | 2 => exact List.mem_cons_of_mem _ (List.mem_cons_of_mem _ List.mem_cons_self)
  | n + 3 => exact List.mem_cons_of_mem _ (List.mem_cons_of_mem _ (List.mem_cons_of_mem _ List.mem_cons_self))
theorem q_mak {G : Gp} (a : Qa) (dp : Nat) (h : a.Ok G dp) : makOf a.co = qMak a := by
  obtain ⟨w, n, is⟩ := a
  cases w
  case snd => cases is <;> simp [Qa.co, makOf, qMak]
  all_goals simp [Qa.co, makOf, qMak]
theorem q_dir {G : Gp} (a : Qa) (dp : Nat) (h : a.Ok G dp) : dirOf a.co = qDir a := by
  obtain ⟨w, n, is⟩ := a
  cases w
  case snd => cases is <;> simp [Qa.co, dirOf, qDir]
  all_goals simp [Qa.co, dirOf, qDir]
theorem q_sin {G : Gp} (a : Qa) (dp : Nat) (h : a.Ok G dp) : sgOf a.co = qSin a := by
  obtain ⟨w, n, is⟩ := a
  cases w
  case snd => cases is <;> simp [Qa.co, sgOf, qSin]
  all_goals simp [Qa.co, sgOf, qSin]
theorem q_snd {G : Gp} (a : Qa) (dp : Nat) (h : a.Ok G dp) : sndZ a.co = qSnd a := by
  obtain ⟨w, n, is⟩ := a
  cases w
  case snd =>
    have h2 := h.1.2.1
    have hz := (sels_ok (sel_mem n)).2
    cases is
    case nil => exact absurd h2 (by show ¬ 1 ≤ 0; omega)
    all_goals simp [Qa.co, sndZ, qSnd, hz]
  all_goals simp [Qa.co, sndZ, qSnd]
section
variable {g : Gr} {bd : List (Nat × Nat × Co)} {A : List Ak}
theorem has_row (hg : g.Ok) {row : List Qa} (hr : row ∈ g.asks) {p : Nat} {x : Nat × Nat × Co} (r : BRes g row p x) {α : Type} {f : Co → Option α} (hf : Ign f) {q : Qa → Option α} (hq : ∀ (a : Qa) dp, a.Ok g.G dp → f a.co = q a) {n : α} : H f x.2.2 n ↔ ∃ l ∈ row, HQ q l n := by
  rw [r.hc.has f hf n]
  have ho := (hg.ar row hr).2
  constructor
  · rintro ⟨c, hc, h⟩
    obtain ⟨l, hl, rfl⟩ := List.mem_map.mp hc
    exact ⟨l, hl, (h_co hf hq _ (Nat.le_refl _) (ho l hl)).mp h⟩
  · rintro ⟨l, hl, h⟩
    exact ⟨l.co, List.mem_map_of_mem hl, (h_co hf hq _ (Nat.le_refl _) (ho l hl)).mpr h⟩
theorem hq_d {α : Type} {q : Qa → Option α} {l d : Qa} {n : α} (h : QSub d l) (e : q d = some n) : HQ q l n := ⟨d, h, e⟩
theorem find_row {rs : List (Str × Nat)} (hn : (rs.map (·.1)).Nodup) {r : Str × Nat} (hr : r ∈ rs) : rs.find? (fun q => decide (q.1 = r.1)) = some r := by
  induction rs with
  | nil => cases hr
  | cons q rs ih =>
    rw [List.map_cons, List.nodup_cons] at hn
    rcases List.mem_cons.mp hr with rfl | hr
    · simp
    · have : ¬ q.1 = r.1 := fun e => hn.1 (e ▸ List.mem_map_of_mem hr)
      simp [this]
      exact ih hn.2 hr
theorem closed_iff (hg : g.Ok) (hb : BdOk g bd) (hA : AkAll (kOf g bd) bd A) {B T : Nat → Prop} : Closed (kOf g bd) A B T ↔ GCl g B T := by
  have rowN : ∀ {t}, t ∈ g.G.ts → (t.1.map (·.1)).Nodup := fun {t} ht => (hg.rw_ t ht).1.nodup sels_nodup
  constructor
  · intro hC n row hr hn l hl d hd
    obtain ⟨x, hx⟩ : ∃ x, bd[n]? = some x := ⟨_, List.getElem?_eq_getElem (by rw [hb.1, ← hg.al]; exact (List.getElem?_eq_some_iff.mp hr).1)⟩
    obtain ⟨a, ha⟩ : ∃ a, A[n]? = some a := ⟨_, List.getElem?_eq_getElem (by rw [hA.len]; exact (List.getElem?_eq_some_iff.mp hx).1)⟩
    obtain ⟨x', hx', ho⟩ := hA.at_ ha
    rw [hx] at hx'
    cases hx'
    obtain ⟨row', p, hr', hp, r⟩ := bd_at hg hb hx
    rw [hr] at hr'
    cases hr'
    have hrm := List.mem_of_getElem? hr
    obtain ⟨c1, c2⟩ := hC n a hn ha
    obtain ⟨dp, hdo⟩ := qsub_ok hd ((hg.ar row hrm).2 l hl)
    obtain ⟨w, m, is⟩ := d
    cases w with
    | dir =>
      have : m ∈ a.e := (ho.asks.e m).mpr ((has_row hg hrm r ig_dir q_dir).mpr ⟨l, hl, hq_d hd rfl⟩)
      exact c2 m (.inr (.inl this))
    | mak =>
      have : m ∈ a.m := (ho.asks.m m).mpr ((has_row hg hrm r ig_mak q_mak).mpr ⟨l, hl, hq_d hd rfl⟩)
      exact ⟨c1 m this, fun t ht => c2 t.2 (.inl ⟨m, this, by unfold bgOf kOf; simp [ht]⟩)⟩
    | sin =>
      have : m ∈ a.s := (ho.asks.s m).mpr ((has_row hg hrm r ig_sg q_sin).mpr ⟨l, hl, hq_d hd rfl⟩)
      exact fun s hs => c2 s (.inr (.inr (.inl ⟨m, this, by unfold sgAt kOf; simp [hs]⟩)))
    | snd =>
      have hz : sel m ∈ a.t := by
        obtain ⟨e, he1, he2⟩ := (has_row hg hrm r ig_snd q_snd).mpr ⟨l, hl, hq_d (n := sel m) hd rfl⟩
        refine (ho.asks.t _).mpr ⟨e, he1, ?_⟩
        cases e <;> simp [sndZ] at he2
        exact congrArg some he2.2
      intro j t ht hj rr hrr e
      refine c2 rr.2 (.inr (.inr (.inr ⟨sel m, hz, j, hj, ?_⟩)))
      have hts : t ∈ g.G.ts := List.mem_of_getElem? ht
      unfold rwOf kOf
      simp only [ht, Option.bind_some]
      unfold rowOf
      rw [← e, find_row (rowN hts) hrr]
      rfl
  · intro hG i a hi ha
    obtain ⟨x, hx, ho⟩ := hA.at_ ha
    obtain ⟨row, p, hr, hp, r⟩ := bd_at hg hb hx
    have hrm := List.mem_of_getElem? hr
    have cl := hG i row hr hi
    have okd : ∀ {l d : Qa}, l ∈ row → QSub d l → ∃ dp, d.Ok g.G dp := fun hl hd => qsub_ok hd ((hg.ar row hrm).2 _ hl)
    have gm : ∀ n ∈ a.m, ∃ l ∈ row, ∃ is, QSub (.mk .mak n is) l := fun n hn => by
      obtain ⟨l, hl, ⟨w, m, is⟩, hd, e⟩ := (has_row hg hrm r ig_mak q_mak).mp ((ho.asks.m n).mp hn)
      cases w <;> simp [qMak] at e
      subst e
      exact ⟨l, hl, is, hd⟩
    refine ⟨fun n hn => ?_, fun n hn => ?_⟩
    · obtain ⟨l, hl, is, hd⟩ := gm n hn
      exact (cl l hl _ hd).1
    · rcases hn with ⟨m, hm, e⟩ | hn | ⟨m, hm, e⟩ | ⟨z, hz, j, hj, e⟩
      · obtain ⟨l, hl, is, hd⟩ := gm m hm
        obtain ⟨dp, hdo⟩ := okd hl hd
        obtain ⟨t, ht, _⟩ := hdo.1
        have := (cl l hl _ hd).2 t ht
        unfold bgOf kOf at e
        simp [ht] at e
        rwa [← e]
      · obtain ⟨l, hl, ⟨w, m, is⟩, hd, e⟩ := (has_row hg hrm r ig_dir q_dir).mp ((ho.asks.e n).mp hn)
        cases w <;> simp [qDir] at e
        subst e
        exact cl l hl _ hd
      · obtain ⟨l, hl, ⟨w, k, is⟩, hd, e2⟩ := (has_row hg hrm r ig_sg q_sin).mp ((ho.asks.s m).mp hm)
        cases w <;> simp [qSin] at e2
        subst e2
        obtain ⟨dp, hdo⟩ := okd hl hd
        obtain ⟨s, hs⟩ : ∃ s, g.sg[k]? = some s := ⟨_, List.getElem?_eq_getElem (by rw [hg.sl]; exact hdo.1.1)⟩
        have := cl l hl _ hd s hs
        unfold sgAt kOf at e
        simp [hs] at e
        rwa [← e]
      · unfold rwOf kOf at e
        simp only [] at e
        cases ht : g.G.ts[j]? with
        | none => rw [ht] at e; cases e
        | some t =>
          rw [ht] at e
          simp only [Option.bind_some] at e
          unfold rowOf at e
          rw [Option.map_eq_some_iff] at e
          obtain ⟨rr, hrr, e3⟩ := e
          have hrm2 := List.mem_of_find?_eq_some hrr
          have hrz : rr.1 = z := by simpa using List.find?_some hrr
          have hts : t ∈ g.G.ts := List.mem_of_getElem? ht
          have hzs : z ∈ sels := by
            rw [← hrz]
            exact (hg.rw_ t hts).1.subset (List.mem_map_of_mem hrm2)
          obtain ⟨c, hc1, hc2⟩ := (ho.asks.t z).mp hz
          have hH : H sndZ x.2.2 z := ⟨c, hc1, by
            cases c <;> simp [sndOf] at hc2
            subst hc2
            simp [sndZ, (sels_ok hzs).2]⟩
          obtain ⟨l, hl, ⟨w, m, is⟩, hd, e4⟩ := (has_row hg hrm r ig_snd q_snd).mp hH
          cases w <;> simp [qSnd] at e4
          subst e4
          rw [← e3]
          exact cl l hl _ hd j t ht hj rr hrm2 hrz
end
end K70
set_option maxRecDepth 100000
set_option maxHeartbeats 1000000
namespace K70
open PySem PySem.Spec PyProof.Rows L2 DL
/-! ### equal by data -/
def pN (l : List Nat) : PyData := .tuple (l.map fun n => .int ((n : Nat) : Int))
theorem pyAll_nat : ∀ l : List Nat, PyAll (l.map nD) (l.map fun n => .int ((n : Nat) : Int))
  | [] => .nil
  | n :: l => .cons (.int _) (pyAll_nat l)
theorem py_nat (l : List Nat) : Py (.tup (l.map nD)) (pN l) := .tup (pyAll_nat l)
theorem lay_nat : ∀ l : List Nat, PyData.canLayAll0 (l.map fun n => PyData.int ((n : Nat) : Int)) = true
  | [] => rfl
  | n :: l => by simp [PyData.canLayAll0, PyData.canLay0]; exact lay_nat l
theorem dep_nat : ∀ l : List Nat, PyData.depthAll (l.map fun n => PyData.int ((n : Nat) : Int)) ≤ 1
  | [] => by simp [PyData.depthAll]
  | n :: l => by
    have := dep_nat l
    simp only [List.map_cons, PyData.depthAll, PyData.depth]
    omega
theorem eqvAll_nat : ∀ l l' : List Nat, PyData.eqvAll (l.map fun n => PyData.int ((n : Nat) : Int)) (l'.map fun n => PyData.int ((n : Nat) : Int)) = decide (l = l')
  | [], [] => by simp [PyData.eqvAll]
  | [], _ :: _ => by simp [PyData.eqvAll]
  | _ :: _, [] => by simp [PyData.eqvAll]
  | n :: l, m :: l' => by
    have e : ((n : Int) == (m : Int)) = decide (n = m) := by
      rw [Bool.beq_eq_decide_eq, decide_eq_decide]
      omega
    rw [List.map_cons, List.map_cons, PyData.eqvAll, eqvAll_nat l l', PyData.eqv, e, ← Bool.decide_and]
    exact decide_eq_decide.mpr (by rw [List.cons.injEq])
theorem eqv_nat (l l' : List Nat) : PyData.eqv (pN l) (pN l') = decide (l = l') := by
  unfold pN
  rw [PyData.eqv, eqvAll_nat]
theorem shaped_nat (l : List Nat) : SeqAt.shaped (pN l) = true := by
  have h := dep_nat l
  have e : (pN l).depth = PyData.depthAll (l.map fun n => PyData.int ((n : Nat) : Int)) + 1 := by unfold pN; rw [PyData.depth]
  have c : (pN l).canLay0 = true := by unfold pN; rw [PyData.canLay0]; exact lay_nat l
  unfold SeqAt.shaped
  rw [c, e, Bool.true_and]
  exact decide_eq_true (by omega)
theorem neD_nat {l l' : List Nat} {M : Mh} {Q : D → Mh → Prop} (q : Q (.bl (!decide (l = l'))) M) : gNeD (.tup (l.map nD)) (.tup (l'.map nD)) M Q := ⟨_, _, py_nat l, py_nat l', shaped_nat l, shaped_nat l', by rw [eqv_nat]; exact q⟩
def pP (b t : List Nat) : PyData := .tuple [pN b, pN t]
def prD (b t : List Nat) : D := .tup [.tup (b.map nD), .tup (t.map nD)]
theorem py_pr (b t : List Nat) : Py (prD b t) (pP b t) := .tup (.cons (py_nat b) (.cons (py_nat t) .nil))
theorem shaped_pr (b t : List Nat) : SeqAt.shaped (pP b t) = true := by
  have h1 := dep_nat b
  have h2 := dep_nat t
  have e : ∀ l, (pN l).depth = PyData.depthAll (l.map fun n => PyData.int ((n : Nat) : Int)) + 1 := fun l => by unfold pN; rw [PyData.depth]
  have c : ∀ l, (pN l).canLay0 = true := fun l => by unfold pN; rw [PyData.canLay0]; exact lay_nat l
  have ep : (pP b t).depth = max (pN b).depth (max (pN t).depth 0) + 1 := by unfold pP; rw [PyData.depth, PyData.depthAll, PyData.depthAll, PyData.depthAll]
  have cp : (pP b t).canLay0 = true := by unfold pP; rw [PyData.canLay0, PyData.canLayAll0, PyData.canLayAll0, PyData.canLayAll0, c, c]; rfl
  unfold SeqAt.shaped
  rw [cp, ep, e, e, Bool.true_and]
  exact decide_eq_true (by omega)
theorem eqv_pr (b t b' t' : List Nat) : PyData.eqv (pP b t) (pP b' t') = decide (b = b' ∧ t = t') := by
  unfold pP
  rw [PyData.eqv, PyData.eqvAll, PyData.eqvAll, PyData.eqvAll, eqv_nat, eqv_nat, Bool.and_true, ← Bool.decide_and]
theorem neD_pr {b t b' t' : List Nat} {M : Mh} {Q : D → Mh → Prop} (q : Q (.bl (!decide (b = b' ∧ t = t'))) M) : gNeD (prD b t) (prD b' t') M Q := ⟨_, _, py_pr b t, py_pr b' t', shaped_pr b t, shaped_pr b' t', by rw [eqv_pr]; exact q⟩
theorem eqD_pr {b t b' t' : List Nat} {M : Mh} {Q : D → Mh → Prop} (q : Q (.bl (decide (b = b' ∧ t = t'))) M) : gEqD (prD b t) (prD b' t') M Q := ⟨_, _, py_pr b t, py_pr b' t', shaped_pr b t, shaped_pr b' t', by rw [eqv_pr]; exact q⟩
/-! ### slices -/
theorem cut_to {xs : List D} {n : Nat} (h : n ≤ xs.length) : DL.cutD xs none (some (n : Int)) = xs.take n := by
  unfold DL.cutD
  rw [HT.sIx_nat, HT.sIx_none]
  simp [Nat.min_eq_left h]
theorem cut_from {xs : List D} {n : Nat} (h : n ≤ xs.length) : DL.cutD xs (some (n : Int)) none = xs.drop n := by
  unfold DL.cutD
  rw [HT.sIx_nat, HT.sIx_none, Nat.min_eq_left h]
  rw [List.take_of_length_le]
  rw [List.length_drop]
  omega
theorem cut_last {xs : List D} : DL.cutD xs (some (-1)) none = xs.drop (xs.length - 1) := by
  unfold DL.cutD
  have e : HT.sIx xs.length 0 (some (-1)) = xs.length - 1 := by
    show (if (-1 : Int) < 0 then ((-1 : Int) + (xs.length : Nat)).toNat else min (-1 : Int).toNat xs.length) = _
    rw [if_pos (by decide)]
    omega
  rw [e, HT.sIx_none, List.take_of_length_le]
  rw [List.length_drop]
  omega
/-! ### objects that are none -/
def Wr (K : Core) (C : Addr) (x : D) : Prop := ∀ (M : Mh) (R : D → Mh → Prop), R (.bl false) M → F_reach_holds C [K.d, x] M R
section
variable {K : Core} {C : Addr} {A : List Ak} {bl tl : List Nat}
theorem wr_form (h : K.Wf) {x : D} (hx : Np x) (hl : ∀ xs, x = .tup xs → xs.length ≠ 2) : Wr K C x := fun M R k => holds_form h hx hl k
theorem wr_asc (h : K.Wf) {x y : D} (hx : Tame x) (hy : Tame y) (hf : ascD x ((K.bd.length : Int) - 1) = false ∨ ascD y ((K.ts.length : Int) - 1) = false) : Wr K C (.tup [x, y]) := fun M R k => holds_asc h hx hy hf k
theorem tame_tup {xs : List D} (h1 : ∀ y ∈ xs, Np y) (h2 : xs.length ≤ sizeLine) : Tame (.tup xs) := ⟨True.intro, fun ys e => by cases e; exact ⟨h1, h2⟩⟩
theorem tame_lst {xs : List D} : Tame (.lst xs) := ⟨True.intro, fun ys e => by cases e⟩
theorem np_nat {l : List Nat} : ∀ y ∈ l.map nD, Np y := fun y hy => by obtain ⟨n, _, rfl⟩ := List.mem_map.mp hy; exact True.intro
structure Sm (K : Core) (bl tl : List Nat) : Prop where
  b : bl.length ≤ 60
  t : tl.length ≤ 60
theorem lst_sm (h : K.Wf) (L : Lst K A bl tl) : Sm K bl tl := ⟨by
  have := nodup_le L.g.b L.g.bl
  have := h.bl
  omega, by
  have := nodup_le L.g.t L.g.tl
  have := h.tl
  omega⟩
theorem asc_false {l : List Nat} {n : Nat} (h : ¬ (l.Pairwise (· < ·) ∧ ∀ x ∈ l, x < n)) : ascD (.tup (l.map nD)) ((n : Int) - 1) = false := by
  cases e : ascD (.tup (l.map nD)) ((n : Int) - 1) with
  | false => rfl
  | true => exact absurd (ascD_nat.mp e) h
theorem asc_bad {xs : List D} {n : Int} {y : D} (hy : y ∈ xs) (hc : cnt y n = false) : ascD (.tup xs) n = false := by
  have : xs.all (cnt · n) = false := by
    rw [List.all_eq_false]
    exact ⟨y, hy, by rw [hc]; decide⟩
  show (_ && _) = false
  rw [this]
  rfl
theorem wr_pair (h : K.Wf) {b t : List Nat} (hb : b.length ≤ 100) (ht : t.length ≤ 100) (hf : ¬ (b.Pairwise (· < ·) ∧ ∀ x ∈ b, x < K.bd.length) ∨ ¬ (t.Pairwise (· < ·) ∧ ∀ x ∈ t, x < K.ts.length)) : Wr K C (prD b t) := by
  have hs := sizeLine_eq
  refine wr_asc h (tame_nat (by omega)) (tame_nat (by omega)) ?_
  rcases hf with hf | hf
  · exact .inl (asc_false hf)
  · exact .inr (asc_false hf)
theorem wr_less (h : K.Wf) (hA : AkAll K K.bd A) (L : Lst K A bl tl) {b t : List Nat} (hb : b.length ≤ 100) (ht : t.length ≤ 100) (hn : ¬ ((∀ n ∈ bl, n ∈ b) ∧ ∀ n ∈ tl, n ∈ t)) : Wr K C (prD b t) := by
  by_cases h1 : b.Pairwise (· < ·) ∧ ∀ x ∈ b, x < K.bd.length
  · by_cases h2 : t.Pairwise (· < ·) ∧ ∀ x ∈ t, x < K.ts.length
    · refine fun M R k => holds_ok h hA h1.1 h2.1 h1.2 h2.2 fun v hv => ?_
      cases v with
      | false => exact k
      | true =>
        obtain ⟨m1, m2⟩ := hv.mp rfl
        exact absurd (L.least _ _ m2 m1) hn
    · exact wr_pair h hb ht (.inr h2)
  · exact wr_pair h hb ht (.inl h1)
theorem not_rev {l : List Nat} (hl : 1 < l.length) (h : l.Pairwise (· < ·)) : ¬ l.reverse.Pairwise (· < ·) := by
  match l, hl with
  | a :: b :: r, _ =>
    intro q
    rw [List.pairwise_reverse] at q
    have h1 := (List.pairwise_cons.mp h).1 b List.mem_cons_self
    have h2 := (List.pairwise_cons.mp q).1 b List.mem_cons_self
    omega
theorem not_mem_cut {l : List Nat} (h : l.Pairwise (· < ·)) {i : Nat} (hi : i < l.length) : l[i] ∉ l.take i ++ l.drop (i + 1) := by
  intro hm
  have e : l = l.take i ++ l[i] :: l.drop (i + 1) := by
    rw [List.getElem_cons_drop, List.take_append_drop]
  have h' : (l.take i ++ l[i] :: l.drop (i + 1)).Pairwise (· < ·) := by rw [← e]; exact h
  rw [List.pairwise_append] at h'
  obtain ⟨_, h2, h3⟩ := h'
  rcases List.mem_append.mp hm with hm | hm
  · have := h3 _ hm _ List.mem_cons_self; omega
  · have := (List.pairwise_cons.mp h2).1 _ hm; omega
end
end K70
set_option maxRecDepth 100000
set_option maxHeartbeats 1000000
namespace K70
open PySem PySem.Spec PyProof.Rows L2 DL
def bO1 : DS := (dDrop (dBM gAppend (dVar 3) (dCons (dTup (dCons (dOp gCatT (dSl gSlT (dVar 1) dNo (dPart (dVar 4))) (dSl gSlT (dVar 1) (dPart (dOp gAdd (dVar 4) (dC (.int 1)))) dNo)) (dCons (dVar 2) dNil))) dNil)))
def bO2 : DS := (dDrop (dBM gAppend (dVar 3) (dCons (dTup (dCons (dVar 1) (dCons (dOp gCatT (dSl gSlT (dVar 2) dNo (dPart (dVar 4))) (dSl gSlT (dVar 2) (dPart (dOp gAdd (dVar 4) (dC (.int 1)))) dNo)) dNil))) dNil)))
def bT4 : DS := (dSeq (dFor (dInR (dCB gLen (dCons (dVar 2) dNil))) (dgName 4) bO2) (dRet (dFrz (dVar 3))))
def bT3 : DS := (dSeq (dFor (dInR (dCB gLen (dCons (dVar 1) dNil))) (dgName 4) bO1) bT4)
def bT2 : DS := (dSeq (dIfS (dTst (dOp gGt (dCB gLen (dCons (dVar 2) dNil)) (dC (.int 1)))) (dDrop (dBM gAppend (dVar 3) (dCons (dTup (dCons (dVar 1) (dCons (dRevT (dVar 2)) dNil))) dNil))) dNext) bT3)
def bT1 : DS := (dSeq (dIfS (dTst (dOp gGt (dCB gLen (dCons (dVar 1) dNil)) (dC (.int 1)))) (dDrop (dBM gAppend (dVar 3) (dCons (dTup (dCons (dRevT (dVar 1)) (dCons (dVar 2) dNil))) dNil))) dNext) bT2)
section
variable {K : Core} {C : Addr} {A : List Ak} {bl tl : List Nat}
theorem wr_b (h : K.Wf) (hA : AkAll K K.bd A) (L : Lst K A bl tl) {i : Nat} (hi : i < bl.length) : Wr K C (prD (bl.take i ++ bl.drop (i + 1)) tl) := by
  have s := lst_sm h L
  have := s.b
  have := s.t
  refine wr_less h hA L (by simp; omega) (by omega) fun q => ?_
  exact not_mem_cut L.sb hi (q.1 _ (List.getElem_mem hi))
theorem wr_t (h : K.Wf) (hA : AkAll K K.bd A) (L : Lst K A bl tl) {i : Nat} (hi : i < tl.length) : Wr K C (prD bl (tl.take i ++ tl.drop (i + 1))) := by
  have s := lst_sm h L
  have := s.b
  have := s.t
  refine wr_less h hA L (by omega) (by simp; omega) fun q => ?_
  exact not_mem_cut L.st hi (q.2 _ (List.getElem_mem hi))
theorem o1_loop (h : K.Wf) (hA : AkAll K K.bd A) (L : Lst K A bl tl) {a : Addr} (E : DEnds) (x0 : Option D) : ∀ (ns : List Nat) (xs : List D) (M : Mh) (x4 : Option D), (∀ n ∈ ns, n < bl.length) → xs.length + ns.length ≤ 1000 → M a = some (.lst xs) → (∀ x ∈ xs, Wr K C x) →
    (∀ (ys : List D) (M' : Mh) (x4 : Option D), ys.length = xs.length + ns.length → M' a = some (.lst ys) → (∀ x ∈ ys, Wr K C x) → (∀ p, p ≠ a → M' p = M p) → E.nx [x0, some (.tup (bl.map nD)), some (.tup (tl.map nD)), some (.ptr a), x4] M') →
    forW (dgName 4) bO1 (ns.map nD) E [x0, some (.tup (bl.map nD)), some (.tup (tl.map nD)), some (.ptr a), x4] M := by
  intro ns
  induction ns with
  | nil => intro xs M x4 _ _ ha hx k; exact k xs M x4 rfl ha hx fun _ _ => rfl
  | cons n ns ih =>
    intro xs M x4 hn hl ha hx k
    rw [List.length_cons] at hl
    have hn0 := hn n List.mem_cons_self
    have hs := sizeLine_eq
    have sm := lst_sm h L
    have h1 := sm.b
    have e1 : ((n : Int) + 1) = ((n + 1 : Nat) : Int) := by omega
    have c1 : DL.cutD (bl.map nD) none (some (n : Int)) = (bl.map nD).take n := cut_to (by simp; omega)
    have c2 : DL.cutD (bl.map nD) (some ((n : Int) + 1)) none = (bl.map nD).drop (n + 1) := by rw [e1]; exact cut_from (by simp; omega)
    rw [List.map_cons, forW_cons, s_gname]
    simp [-List.map_take, -List.map_drop, bO1, isPL_at ha, nD_int n, gSlT, c1, c2, gCatT, append_at ha]
    refine ⟨by omega, by omega, ?_⟩
    have e2 : D.tup [D.tup ((bl.map nD).take n ++ (bl.map nD).drop (n + 1)), D.tup (tl.map nD)] = prD (bl.take n ++ bl.drop (n + 1)) tl := by simp [prD]
    rw [e2]
    refine ih _ _ _ (fun m hm => hn m (List.mem_cons_of_mem _ hm)) (by rw [List.length_append, List.length_singleton]; omega) mup_same (fun x hx' => ?_) fun ys M' y4 q1 q2 q3 q4 => k ys M' y4 (by rw [q1, List.length_append, List.length_singleton, List.length_cons]; omega) q2 q3 fun p hp => by rw [q4 p hp, mup_ne hp]
    rcases List.mem_append.mp hx' with hx' | hx'
    · exact hx x hx'
    · rw [List.mem_singleton.mp hx']
      exact wr_b h hA L hn0
theorem o2_loop (h : K.Wf) (hA : AkAll K K.bd A) (L : Lst K A bl tl) {a : Addr} (E : DEnds) (x0 : Option D) : ∀ (ns : List Nat) (xs : List D) (M : Mh) (x4 : Option D), (∀ n ∈ ns, n < tl.length) → xs.length + ns.length ≤ 1000 → M a = some (.lst xs) → (∀ x ∈ xs, Wr K C x) →
    (∀ (ys : List D) (M' : Mh) (x4 : Option D), ys.length = xs.length + ns.length → M' a = some (.lst ys) → (∀ x ∈ ys, Wr K C x) → (∀ p, p ≠ a → M' p = M p) → E.nx [x0, some (.tup (bl.map nD)), some (.tup (tl.map nD)), some (.ptr a), x4] M') →
    forW (dgName 4) bO2 (ns.map nD) E [x0, some (.tup (bl.map nD)), some (.tup (tl.map nD)), some (.ptr a), x4] M := by
  intro ns
  induction ns with
  | nil => intro xs M x4 _ _ ha hx k; exact k xs M x4 rfl ha hx fun _ _ => rfl
  | cons n ns ih =>
    intro xs M x4 hn hl ha hx k
    rw [List.length_cons] at hl
    have hn0 := hn n List.mem_cons_self
    have hs := sizeLine_eq
    have sm := lst_sm h L
    have h1 := sm.t
    have e1 : ((n : Int) + 1) = ((n + 1 : Nat) : Int) := by omega
    have c1 : DL.cutD (tl.map nD) none (some (n : Int)) = (tl.map nD).take n := cut_to (by simp; omega)
    have c2 : DL.cutD (tl.map nD) (some ((n : Int) + 1)) none = (tl.map nD).drop (n + 1) := by rw [e1]; exact cut_from (by simp; omega)
    rw [List.map_cons, forW_cons, s_gname]
    simp [-List.map_take, -List.map_drop, bO2, isPL_at ha, nD_int n, gSlT, c1, c2, gCatT, append_at ha]
    refine ⟨by omega, by omega, ?_⟩
    have e2 : D.tup [D.tup (bl.map nD), D.tup ((tl.map nD).take n ++ (tl.map nD).drop (n + 1))] = prD bl (tl.take n ++ tl.drop (n + 1)) := by simp [prD]
    rw [e2]
    refine ih _ _ _ (fun m hm => hn m (List.mem_cons_of_mem _ hm)) (by rw [List.length_append, List.length_singleton]; omega) mup_same (fun x hx' => ?_) fun ys M' y4 q1 q2 q3 q4 => k ys M' y4 (by rw [q1, List.length_append, List.length_singleton, List.length_cons]; omega) q2 q3 fun p hp => by rw [q4 p hp, mup_ne hp]
    rcases List.mem_append.mp hx' with hx' | hx'
    · exact hx x hx'
    · rw [List.mem_singleton.mp hx']
      exact wr_t h hA L hn0
theorem wr_small (h : K.Wf) {x : D} (hx : x = .non ∨ x = .int 0 ∨ (∃ y, x = .lst y) ∨ ∃ y, x = .tup y ∧ y.length ≠ 2) : Wr K C x := by
  refine wr_form h ?_ fun xs e => ?_
  · rcases hx with rfl | rfl | ⟨y, rfl⟩ | ⟨y, rfl, _⟩ <;> exact True.intro
  · rcases hx with rfl | rfl | ⟨y, rfl⟩ | ⟨y, rfl, h⟩ <;> cases e
    exact h
theorem t4_ok (h : K.Wf) (hA : AkAll K K.bd A) (L : Lst K A bl tl) {a : Addr} (E : DEnds) (x0 x4 : Option D) (xs : List D) (M : Mh) (hl : xs.length ≤ 200) (ha : M a = some (.lst xs)) (hx : ∀ x ∈ xs, Wr K C x) (k : ∀ ys M', (∀ x ∈ ys, Wr K C x) → M' a = some (.lst ys) → (∀ p, p ≠ a → M' p = M p) → E.rt (.lst ys) (mdel M' a)) :
    bT4 E [x0, some (.tup (bl.map nD)), some (.tup (tl.map nD)), some (.ptr a), x4] M := by
  have sm := lst_sm h L
  have h2 := sm.t
  simp [bT4]
  refine ⟨by omega, ?_⟩
  refine o2_loop h hA L _ _ (List.range tl.length) xs M _ (fun n hn => List.mem_range.mp hn) (by rw [List.length_range]; omega) ha hx fun ys M' y4 q1 q2 q3 q4 => ?_
  simp [mlst_at q2]
  exact k ys M' q3 q2 q4
theorem t3_ok (h : K.Wf) (hA : AkAll K K.bd A) (L : Lst K A bl tl) {a : Addr} (E : DEnds) (x0 x4 : Option D) (xs : List D) (M : Mh) (hl : xs.length ≤ 100) (ha : M a = some (.lst xs)) (hx : ∀ x ∈ xs, Wr K C x) (k : ∀ ys M', (∀ x ∈ ys, Wr K C x) → M' a = some (.lst ys) → (∀ p, p ≠ a → M' p = M p) → E.rt (.lst ys) (mdel M' a)) :
    bT3 E [x0, some (.tup (bl.map nD)), some (.tup (tl.map nD)), some (.ptr a), x4] M := by
  have sm := lst_sm h L
  have h2 := sm.b
  simp [bT3]
  refine ⟨by omega, ?_⟩
  refine o1_loop h hA L _ _ (List.range bl.length) xs M _ (fun n hn => List.mem_range.mp hn) (by rw [List.length_range]; omega) ha hx fun ys M' y4 q1 q2 q3 q4 => ?_
  rw [List.length_range] at q1
  exact t4_ok h hA L _ _ _ ys M' (by omega) q2 q3 fun zs M2 r1 r2 r3 => k zs M2 r1 r2 fun p hp => by rw [r3 p hp, q4 p hp]
theorem app_wr {xs : List D} {x : D} (hx : ∀ y ∈ xs, Wr K C y) (h : Wr K C x) : ∀ y ∈ xs ++ [x], Wr K C y := fun y hy => by
  rcases List.mem_append.mp hy with hy | hy
  · exact hx y hy
  · rw [List.mem_singleton.mp hy]; exact h
theorem t2_ok (h : K.Wf) (hA : AkAll K K.bd A) (L : Lst K A bl tl) {a : Addr} (E : DEnds) (x0 x4 : Option D) (xs : List D) (M : Mh) (hl : xs.length ≤ 90) (ha : M a = some (.lst xs)) (hx : ∀ x ∈ xs, Wr K C x) (k : ∀ ys M', (∀ x ∈ ys, Wr K C x) → M' a = some (.lst ys) → (∀ p, p ≠ a → M' p = M p) → E.rt (.lst ys) (mdel M' a)) :
    bT2 E [x0, some (.tup (bl.map nD)), some (.tup (tl.map nD)), some (.ptr a), x4] M := by
  have sm := lst_sm h L
  have h1 := sm.b
  have h2 := sm.t
  have hs := sizeLine_eq
  simp [bT2]
  by_cases hc : (1 : Int) < (tl.length : Int)
  · have hw : Wr K C (prD bl tl.reverse) := wr_pair h (by omega) (by simp; omega) (.inr fun q => not_rev (by omega) L.st q.1)
    have e1 : D.tup [D.tup (bl.map nD), D.tup ((tl.map nD).reverse)] = prD bl tl.reverse := by simp [prD]
    rw [if_pos hc]
    simp [isPL_at ha, append_at ha]
    refine ⟨by omega, ?_⟩
    refine t3_ok h hA L _ _ _ _ _ (by simp; omega) mup_same (app_wr hx ?_) fun ys M' r1 r2 r3 => k ys M' r1 r2 fun p hp => by rw [r3 p hp, mup_ne hp]
    rw [e1]
    exact hw
  · rw [if_neg hc]
    exact t3_ok h hA L _ _ _ _ _ (by omega) ha hx k
theorem t1_ok (h : K.Wf) (hA : AkAll K K.bd A) (L : Lst K A bl tl) {a : Addr} (E : DEnds) (x0 x4 : Option D) (xs : List D) (M : Mh) (hl : xs.length ≤ 80) (ha : M a = some (.lst xs)) (hx : ∀ x ∈ xs, Wr K C x) (k : ∀ ys M', (∀ x ∈ ys, Wr K C x) → M' a = some (.lst ys) → (∀ p, p ≠ a → M' p = M p) → E.rt (.lst ys) (mdel M' a)) :
    bT1 E [x0, some (.tup (bl.map nD)), some (.tup (tl.map nD)), some (.ptr a), x4] M := by
  have sm := lst_sm h L
  have h1 := sm.b
  have h2 := sm.t
  have hs := sizeLine_eq
  simp [bT1]
  by_cases hc : (1 : Int) < (bl.length : Int)
  · have hw : Wr K C (prD bl.reverse tl) := wr_pair h (by simp; omega) (by omega) (.inl fun q => not_rev (by omega) L.sb q.1)
    have e1 : D.tup [D.tup ((bl.map nD).reverse), D.tup (tl.map nD)] = prD bl.reverse tl := by simp [prD]
    rw [if_pos hc]
    simp [isPL_at ha, append_at ha]
    refine ⟨by omega, ?_⟩
    refine t2_ok h hA L _ _ _ _ _ (by simp; omega) mup_same (app_wr hx ?_) fun ys M' r1 r2 r3 => k ys M' r1 r2 fun p hp => by rw [r3 p hp, mup_ne hp]
    rw [e1]
    exact hw
  · rw [if_neg hc]
    exact t2_ok h hA L _ _ _ _ _ (by omega) ha hx k
theorem others_ok {g : Gr} {bd : List (Nat × Nat × Co)} (hg : g.Ok) (hb : BdOk g bd) (h : (kOf g bd).Wf) (hA : AkAll (kOf g bd) bd A) (L : Lst (kOf g bd) A bl tl) {M : Mh} {R : D → Mh → Prop} (k : ∀ xs, (∀ x ∈ xs, Wr (kOf g bd) C x) → R (.lst xs) M) : F__law_others [g.d, .tup (bl.map nD), .tup (tl.map nD)] M R := by
  have lp : ∀ {M : Mh} {Q : D → Mh → Prop}, gLen [g.G.psD] M Q = Q (.int (g.G.ps.length : Nat)) M := fun {M Q} => by simp [Gp.psD]
  have lt : ∀ {M : Mh} {Q : D → Mh → Prop}, gLen [g.G.tsD] M Q = Q (.int (g.G.ts.length : Nat)) M := fun {M Q} => by simp [Gp.tsD]
  have g0 : ∀ {M : Mh} {Q : D → Mh → Prop}, gIx g.d (.int 0) M Q = Q g.G.psD M := fun {M Q} => ixT0
  have g2 : ∀ {M : Mh} {Q : D → Mh → Prop}, gIx g.d (.int 2) M Q = Q g.G.tsD M := fun {M Q} => ixT2
  have sm := lst_sm h L
  have h1 := sm.b
  have h2 := sm.t
  have hs := sizeLine_eq
  have hbl : 0 < bl.length := List.length_pos_of_mem L.main
  have ebd : (kOf g bd).bd.length = g.G.ps.length := hb.1
  have ets : (kOf g bd).ts.length = g.G.ts.length := rfl
  have cl : DL.cutD (bl.map nD) (some (-1)) none = (bl.drop (bl.length - 1)).map nD := by rw [cut_last, List.length_map, List.map_drop]
  refine ⟨rfl, ?_⟩
  show (dSeq (dAsg (dLst mkP (dCons (dC .non) (dCons (dTup dNil) (dCons (dTup (dCons (dVar 1) dNil)) (dCons (dTup (dCons (dCB (gList mkF) (dCons (dVar 1) dNil)) (dCons (dVar 2) dNil))) (dCons (dTup (dCons (dVar 1) (dCons (dCB (gList mkF) (dCons (dVar 2) dNil)) dNil))) (dCons (dLst mkF (dCons (dVar 1) (dCons (dVar 2) dNil))) (dCons (dTup (dCons (dVar 1) (dCons (dVar 2) (dCons (dTup dNil) dNil)))) (dCons (dTup (dCons (dOp gCatT (dVar 1) (dSl gSlT (dVar 1) (dPart (dNeg (dC (.int 1)))) dNo)) (dCons (dVar 2) dNil))) (dCons (dTup (dCons (dOp gCatT (dVar 1) (dTup (dCons (dCB gLen (dCons (dOp gIx (dVar 0) (dC (.int 0))) dNil)) dNil))) (dCons (dVar 2) dNil))) (dCons (dTup (dCons (dVar 1) (dCons (dOp gCatT (dVar 2) (dTup (dCons (dCB gLen (dCons (dOp gIx (dVar 0) (dC (.int 2))) dNil)) dNil))) dNil))) (dCons (dTup (dCons (dOp gCatT (dTup (dCons (dNeg (dC (.int 1))) dNil)) (dVar 1)) (dCons (dVar 2) dNil))) (dCons (dTup (dCons (dOp gCatT (dTup (dCons (dC (.bl true)) dNil)) (dVar 1)) (dCons (dVar 2) dNil))) (dCons (dIf (dTst (dOp gNeD (dVar 2) (dVar 1))) (dTup (dCons (dVar 2) (dCons (dVar 1) dNil))) (dC (.int 0))) (dCons (dTup (dCons (dVar 1) (dCons (dOp gCatT (dVar 2) (dTup (dCons (dC (.str "0")) dNil))) dNil))) dNil))))))))))))))) (dgName 3)) bT1) _ _ _
  simp [-List.map_drop, dstart, N__law_others, g0, g2, lp, lt, gSlT, cl, gCatT]
  have tn : ∀ {l : List Nat}, l.length ≤ 100 → Tame (.tup (l.map nD)) := fun hl => tame_nat (by omega)
  have tb := tn (l := bl) (by omega)
  have tt := tn (l := tl) (by omega)
  have al : ∀ x, (∀ y ∈ [x], Np y) → Tame (.tup (bl.map nD ++ [x])) := fun x hx => tame_tup (fun y hy => by
    rcases List.mem_append.mp hy with hy | hy
    · exact np_nat y hy
    · exact hx y hy) (by simp; omega)
  have al2 : ∀ x, (∀ y ∈ [x], Np y) → Tame (.tup (tl.map nD ++ [x])) := fun x hx => tame_tup (fun y hy => by
    rcases List.mem_append.mp hy with hy | hy
    · exact np_nat y hy
    · exact hx y hy) (by simp; omega)
  have al3 : ∀ x, (∀ y ∈ [x], Np y) → Tame (.tup (x :: bl.map nD)) := fun x hx => tame_tup (fun y hy => by
    rcases List.mem_cons.mp hy with rfl | hy
    · exact hx _ (by simp)
    · exact np_nat y hy) (by simp; omega)
  have np1 : ∀ (i : Int), ∀ y ∈ [D.int i], Np y := fun i y hy => by rw [List.mem_singleton.mp hy]; exact True.intro
  have np2 : ∀ (b : Bool), ∀ y ∈ [D.bl b], Np y := fun i y hy => by rw [List.mem_singleton.mp hy]; exact True.intro
  have np3 : ∀ (z : Str), ∀ y ∈ [D.str z], Np y := fun i y hy => by rw [List.mem_singleton.mp hy]; exact True.intro
  have all : ∀ y, Wr (kOf g bd) C y → ∀ x ∈ [D.non, D.tup [], D.tup [D.tup (List.map nD bl)], D.tup [D.lst (List.map nD bl), D.tup (List.map nD tl)], D.tup [D.tup (List.map nD bl), D.lst (List.map nD tl)], D.lst [D.tup (List.map nD bl), D.tup (List.map nD tl)], D.tup [D.tup (List.map nD bl), D.tup (List.map nD tl), D.tup []],
      D.tup [D.tup (List.map nD bl ++ List.map nD (List.drop (bl.length - 1) bl)), D.tup (List.map nD tl)], D.tup [D.tup (List.map nD bl ++ [D.int (g.G.ps.length : Nat)]), D.tup (List.map nD tl)], D.tup [D.tup (List.map nD bl), D.tup (List.map nD tl ++ [D.int (g.G.ts.length : Nat)])],
      D.tup [D.tup (D.int (-1) :: List.map nD bl), D.tup (List.map nD tl)], D.tup [D.tup (D.bl true :: List.map nD bl), D.tup (List.map nD tl)], y, D.tup [D.tup (List.map nD bl), D.tup (List.map nD tl ++ [D.str "0"])]], Wr (kOf g bd) C x := fun y hy x hx => by
    simp only [List.mem_cons, List.not_mem_nil, or_false] at hx
    rcases hx with rfl | rfl | rfl | rfl | rfl | rfl | rfl | rfl | rfl | rfl | rfl | rfl | rfl | rfl
    · exact wr_small h (.inl rfl)
    · exact wr_small h (.inr (.inr (.inr ⟨_, rfl, by simp⟩)))
    · exact wr_small h (.inr (.inr (.inr ⟨_, rfl, by simp⟩)))
    · exact wr_asc h tame_lst tt (.inl rfl)
    · exact wr_asc h tb tame_lst (.inr rfl)
    · exact wr_small h (.inr (.inr (.inl ⟨_, rfl⟩)))
    · exact wr_small h (.inr (.inr (.inr ⟨_, rfl, by simp⟩)))
    · rw [← List.map_append]
      refine wr_pair h (by simp; omega) (by omega) (.inl fun q => ?_)
      have q1 := (List.pairwise_append.mp q.1).2.2
      have hm : bl[bl.length - 1] ∈ bl.drop (bl.length - 1) := by
        rw [List.drop_eq_getElem_cons (by omega)]
        exact List.mem_cons_self
      have := q1 _ (List.getElem_mem (by omega : bl.length - 1 < bl.length)) _ hm
      omega
    · exact wr_asc h (al _ (np1 _)) tt (.inl (asc_bad (y := .int (g.G.ps.length : Nat)) (by simp) (by rw [ebd]; simp [cnt]; omega)))
    · exact wr_asc h tb (al2 _ (np1 _)) (.inr (asc_bad (y := .int (g.G.ts.length : Nat)) (by simp) (by rw [ets]; simp [cnt]; omega)))
    · exact wr_asc h (al3 _ (np1 _)) tt (.inl (asc_bad (y := .int (-1)) (by simp) (by simp [cnt])))
    · exact wr_asc h (al3 _ (np2 _)) tt (.inl (asc_bad (y := .bl true) (by simp) rfl))
    · exact hy
    · exact wr_asc h tb (al2 _ (np3 _)) (.inr (asc_bad (y := .str "0") (by simp) rfl))
  have fin : ∀ (y : D) (xs : List D), xs.length ≤ 80 → (∀ x ∈ xs, Wr (kOf g bd) C x) → ∀ a, M a = none → bT1 { nx := fun x M' => R D.non (keepM M M'), rt := fun x M' => R x (keepM M M') } [some g.d, some (D.tup (List.map nD bl)), some (D.tup (List.map nD tl)), some (D.ptr a), none] (mup M a (.lst xs)) := fun y xs hl hx a ha => by
    refine t1_ok h hA L _ _ _ xs _ hl mup_same hx fun ys M' r1 r2 r3 => ?_
    show R (.lst ys) (keepM M (mdel M' a))
    rw [keep_of]
    · exact k ys r1
    · intro p o hp
      have hpa := ne_m hp ha
      simp [mdel, hpa]
      rw [r3 p hpa, mup_ne hpa]
      exact hp
  refine ⟨by omega, by omega, by omega, by omega, neD_nat ?_⟩
  by_cases he : tl = bl
  · simp only [he, decide_true, Bool.not_true, Bool.false_eq_true, if_false]
    refine ⟨by omega, fun a ha => ?_⟩
    have := fin (.int 0) _ (by simp) (all (.int 0) (wr_small h (.inr (.inl rfl)))) a ha
    simpa only [he] using this
  · simp only [he, decide_false, Bool.not_false, if_true]
    refine ⟨by omega, fun a ha => ?_⟩
    refine fin (prD tl bl) _ (by simp) (all (prD tl bl) (wr_less h hA L (by omega) (by omega) fun q => he ?_)) a ha
    have p := (List.perm_ext_iff_of_nodup L.g.t L.g.b).mpr fun n => ⟨q.2 n, q.1 n⟩
    exact p.eq_of_pairwise (fun a b _ _ h1 h2 => by omega) L.st L.sb
end
end K70
set_option maxRecDepth 100000
set_option maxHeartbeats 1000000
namespace K70
open PySem PySem.Spec PyProof.Rows L2 DL
def bRtb (C : Addr) : DS := (dSeq (dPar 10 11 (dCall F__law_drawn (dCons (dVar 0) (dCons (dVar 5) (dCons (dOp gIx (dVar 4) (dC (.int 0))) dNil)))) (dCall F__law_drawn (dCons (dVar 0) (dCons (dVar 6) (dCons (dOp gIx (dVar 4) (dC (.int 1))) dNil))))) (dSeq (dAsg (dOp gEqD (dCall F__law_closure (dCons (dVar 1) (dCons (dVar 10) (dCons (dVar 11) dNil)))) (dTup (dCons (dVar 10) (dCons (dVar 11) dNil)))) (dgName 12)) (dSeq (dAsg (dCall (F_reach_holds C) (dCons (dVar 2) (dCons (dTup (dCons (dVar 10) (dCons (dVar 11) dNil))) dNil))) (dgName 13)) (dSeq (dIfS (dOr (dNot (dTst (dIsT .bool (dVar 13)))) (dTst (dOp gNe (dVar 13) (dVar 12)))) (dRet (dC (.bl false))) dNext) (dIfS (dTst (dOp gNotB (dCall (F_reach_holds C) (dCons (dVar 2) (dCons (dCall F__law_closure (dCons (dVar 1) (dCons (dVar 10) (dCons (dVar 11) dNil)))) dNil))) (dC (.bl true)))) (dRet (dC (.bl false))) dNext)))))
def bRob (C : Addr) : DS := (dIfS (dTst (dOp gNotB (dCall (F_reach_holds C) (dCons (dVar 2) (dCons (dVar 8) dNil))) (dC (.bl false)))) (dRet (dC (.bl false))) dNext)
def bRt (C : Addr) : DS := (dSeq (dFor (dInR (dC (.int 4))) (dgName 9) (bRtb C)) (dRet (dOp gEqD (dCall (F_reach C) (dCons (dVar 2) dNil)) (dVar 4))))
def bRo (C : Addr) : DS := (dSeq (dFor (dInQ (dCall F__law_others (dCons (dVar 1) (dCons (dOp gIx (dVar 4) (dC (.int 0))) (dCons (dOp gIx (dVar 4) (dC (.int 1))) dNil))))) (dgName 8) (bRob C)) (bRt C))
def bRh (C : Addr) : DS := (dSeq (dIfS (dOr (dTst (dOp gNotB (dCall (F_reach_holds C) (dCons (dVar 2) (dCons (dVar 4) dNil))) (dC (.bl true)))) (dTst (dOp gNotB (dCall (F_reach_holds C) (dCons (dVar 2) (dCons (dVar 7) dNil))) (dC (.bl true))))) (dRet (dC (.bl false))) dNext) (bRo C))
def bRs (C : Addr) : DS := (dSeq (dIfS (dOr (dTst (dOp gNeD (dCall (F_reach C) (dCons (dVar 2) dNil)) (dVar 4))) (dNot (dTst (dIsT .tuple (dCall (F_reach C) (dCons (dVar 2) dNil)))))) (dRet (dC (.bl false))) dNext) (dSeq (dPar 5 6 (dCB gLen (dCons (dOp gIx (dVar 1) (dC (.int 0))) dNil)) (dCB gLen (dCons (dOp gIx (dVar 1) (dC (.int 2))) dNil))) (dSeq (dAsg (dTup (dCons (dTupRg (dVar 5)) (dCons (dTupRg (dVar 6)) dNil))) (dgName 7)) (bRh C))))
theorem sorted_eq {l l' : List Nat} (h : l.Pairwise (· < ·)) (h' : l'.Pairwise (· < ·)) (e : ∀ n, n ∈ l ↔ n ∈ l') : l = l' := by
  have p := (List.perm_ext_iff_of_nodup (h.imp fun {a b} q => by omega) (h'.imp fun {a b} q => by omega)).mpr e
  exact p.eq_of_pairwise (fun a b _ _ h1 h2 => by omega) h h'
section
variable {g : Gr} {bd : List (Nat × Nat × Co)} {A : List Ak} {bl tl b2 t2 : List Nat} {C : Addr}
theorem main_lt (hg : g.Ok) : g.main < g.G.ps.length := (List.getElem?_eq_some_iff.mp hg.mn).1
theorem due_eq (hg : g.Ok) (hb : BdOk g bd) (hA : AkAll (kOf g bd) bd A) (L : Lst (kOf g bd) A b2 t2) (GL : GLst g [g.main] [] bl tl) : b2 = bl ∧ t2 = tl := by
  have c1 := (closed_iff hg hb hA).mp L.cl
  have c2 := (closed_iff hg hb hA).mpr GL.cl
  have hm : g.main ∈ b2 := L.main
  obtain ⟨u1, u2⟩ := GL.least _ _ c1 (fun n hn => by rw [List.mem_singleton.mp hn]; exact hm) (fun n hn => by cases hn)
  obtain ⟨u3, u4⟩ := L.least _ _ c2 (GL.b0 g.main (by simp) (main_lt hg))
  exact ⟨sorted_eq L.sb GL.sb fun n => ⟨u3 n, u1 n⟩, sorted_eq L.st GL.st fun n => ⟨u4 n, u2 n⟩⟩
/-- the given, once a core is built -/
structure Set_ (g : Gr) (bd : List (Nat × Nat × Co)) (A : List Ak) (bl tl : List Nat) : Prop where
  ok : g.Ok
  b : BdOk g bd
  w : (kOf g bd).Wf
  ak : AkAll (kOf g bd) bd A
  ls : Lst (kOf g bd) A bl tl
  gl : GLst g [g.main] [] bl tl
theorem hold_iff (S : Set_ g bd A bl tl) {M : Mh} {R : D → Mh → Prop} {b t : List Nat} (sb : b.Pairwise (· < ·)) (st : t.Pairwise (· < ·)) (hb : ∀ n ∈ b, n < g.G.ps.length) (ht : ∀ n ∈ t, n < g.G.ts.length) (hm : g.main ∈ b) (k : ∀ v : Bool, (v = true ↔ GCl g (· ∈ b) (· ∈ t)) → R (.bl v) M) : F_reach_holds C [(kOf g bd).d, prD b t] M R :=
  holds_ok S.w S.ak sb st (fun n hn => by show n < bd.length; rw [S.b.1]; exact hb n hn) ht fun v hv => k v (by
    rw [hv, closed_iff S.ok S.b S.ak]
    exact ⟨fun h => h.2, fun h => ⟨hm, h⟩⟩)
theorem reach_is (S : Set_ g bd A bl tl) {M : Mh} {R : D → Mh → Prop} (k : R (prD bl tl) M) : F_reach C [(kOf g bd).d] M R :=
  reach_ok S.w fun A' b' t' hA' L' => by
    obtain ⟨rfl, rfl⟩ := due_eq S.ok S.b hA' L' S.gl
    exact k
theorem whole_cl (S : Set_ g bd A bl tl) : GCl g (· ∈ List.range g.G.ps.length) (· ∈ List.range g.G.ts.length) := by
  refine (closed_iff S.ok S.b S.ak).mp fun i a hi ha => ?_
  obtain ⟨x, hx, ho⟩ := S.ak.at_ ha
  have hbx := S.w.bd x (List.mem_of_getElem? hx)
  refine ⟨fun n hn => List.mem_range.mpr (ask_m hbx ho hn), fun n hn => List.mem_range.mpr ?_⟩
  have := cs_lt S.w S.ak ha (fun j hj => List.mem_range.mp hj) hn
  have e : (kOf g bd).bd.length = g.G.ps.length := S.b.1
  omega
theorem turn_eq (S : Set_ g bd A bl tl) {l1 l2 : List Nat} (s1 : l1.Pairwise (· < ·)) (s2 : l2.Pairwise (· < ·)) (h1 : ∀ n ∈ l1, n < g.G.ps.length) (h2 : ∀ n ∈ l2, n < g.G.ts.length) (GL : GLst g l1 l2 b2 t2) : (b2 = l1 ∧ t2 = l2) ↔ GCl g (· ∈ l1) (· ∈ l2) := by
  constructor
  · rintro ⟨rfl, rfl⟩
    exact GL.cl
  · intro hc
    obtain ⟨u1, u2⟩ := GL.least _ _ hc (fun _ h => h) (fun _ h => h)
    exact ⟨sorted_eq GL.sb s1 fun n => ⟨u1 n, fun h => GL.b0 n h (h1 n h)⟩, sorted_eq GL.st s2 fun n => ⟨u2 n, fun h => GL.m0 n h (h2 n h)⟩⟩
theorem rob_loop {K : Core} {M : Mh} (E : DEnds) (x0 x1 x3 x4 x5 x6 x7 x9 x10 x11 x12 x13 : Option D) : ∀ (xs : List D) (x8 : Option D), (∀ x ∈ xs, Wr K C x) → (∀ x8, E.nx [x0, x1, some K.d, x3, x4, x5, x6, x7, x8, x9, x10, x11, x12, x13] M) →
    forW (dgName 8) (bRob C) xs E [x0, x1, some K.d, x3, x4, x5, x6, x7, x8, x9, x10, x11, x12, x13] M := by
  intro xs
  induction xs with
  | nil => intro x8 _ k; exact k x8
  | cons x xs ih =>
    intro x8 h k
    rw [forW_cons, s_gname]
    simp [bRob]
    refine h x List.mem_cons_self M _ ?_
    simp
    exact ih _ (fun y hy => h y (List.mem_cons_of_mem _ hy)) k
theorem rtb_loop (S : Set_ g bd A bl tl) {f : Addr} {B : Nat} (hB : B ≤ 10000000) (E : DEnds) (x7 x8 x3 : Option D) : ∀ (ns : List D) (N : Nat) (M : Mh) (x9 x10 x11 x12 x13 : Option D), N + ns.length * 100 < 2 ^ 40 → Fd B N M f →
    (∀ M' (x9 x10 x11 x12 x13 : Option D), (∀ p, p ≠ f → M' p = M p) → E.nx [some (.ptr f), some g.d, some (kOf g bd).d, x3, some (prD bl tl), some (.int (g.G.ps.length : Nat)), some (.int (g.G.ts.length : Nat)), x7, x8, x9, x10, x11, x12, x13] M') →
    forW (dgName 9) (bRtb C) ns E [some (.ptr f), some g.d, some (kOf g bd).d, x3, some (prD bl tl), some (.int (g.G.ps.length : Nat)), some (.int (g.G.ts.length : Nat)), x7, x8, x9, x10, x11, x12, x13] M := by
  intro ns
  induction ns with
  | nil => intro N M x9 x10 x11 x12 x13 _ _ k; exact k M _ _ _ _ _ fun _ _ => rfl
  | cons z ns ih =>
    intro N M x9 x10 x11 x12 x13 hN hf k
    rw [List.length_cons, Nat.succ_mul] at hN
    have h10 := S.ok.p10
    have h4 := S.ok.t4
    have d0 : ∀ {M : Mh} {Q : D → Mh → Prop}, gIx (prD bl tl) (.int 0) M Q = Q (.tup (bl.map nD)) M := fun {M Q} => ixT0
    have d1 : ∀ {M : Mh} {Q : D → Mh → Prop}, gIx (prD bl tl) (.int 1) M Q = Q (.tup (tl.map nD)) M := fun {M Q} => ixT1
    rw [forW_cons, s_gname]
    simp [bRtb, d0]
    refine drawn_ok hB (by omega) (by omega) hf fun l1 M1 s1 b1 c1 f1 e1 => ?_
    simp [d1]
    refine drawn_ok hB (by omega) (by omega) f1 fun l2 M2 s2 b2 c2 f2 e2 => ?_
    have hm : g.main ∈ l1 := c1 _ (S.gl.b0 g.main (by simp) (main_lt S.ok)) (main_lt S.ok)
    refine closure_ok S.ok (.inr rfl) (.inr rfl) fun b3 t3 G3 => ?_
    show gEqD (prD b3 t3) (prD l1 l2) M2 _
    refine eqD_pr ?_
    simp
    refine hold_iff S s1 s2 b1 b2 hm fun v hv => ?_
    have ev : decide (b3 = l1 ∧ t3 = l2) = v := by
      have := turn_eq S s1 s2 b1 b2 G3
      cases v with
      | true => exact decide_eq_true (this.mpr (hv.mp rfl))
      | false => exact decide_eq_false fun h => absurd (hv.mpr (this.mp h)) (by decide)
    have ev2 : (decide (b3 = l1) && decide (t3 = l2)) = v := by rw [← Bool.decide_and]; exact ev
    simp [ev2]
    refine closure_ok S.ok (.inr rfl) (.inr rfl) fun b4 t4 G4 => ?_
    refine hold_iff S G4.sb G4.st G4.lb G4.lt (G4.b0 _ hm (main_lt S.ok)) fun v4 hv4 => ?_
    have e4 : v4 = true := hv4.mpr G4.cl
    simp [e4]
    refine ih (N + 100) M2 _ _ _ _ _ (by omega) (fd_le f2 (by omega)) fun M' y9 y10 y11 y12 y13 hM => k M' _ _ _ _ _ fun p hp => by rw [hM p hp, e2 p hp, e1 p hp]
theorem bRt_ok (S : Set_ g bd A bl tl) {f : Addr} {B N : Nat} {M : Mh} (hB : B ≤ 10000000) (hN : N + 1000 < 2 ^ 40) (hf : Fd B N M f) (E : DEnds) (x3 x7 x8 x9 x10 x11 x12 x13 : Option D) (k : ∀ M', (∀ p, p ≠ f → M' p = M p) → E.rt (.bl true) M') :
    bRt C E [some (.ptr f), some g.d, some (kOf g bd).d, x3, some (prD bl tl), some (.int (g.G.ps.length : Nat)), some (.int (g.G.ts.length : Nat)), x7, x8, x9, x10, x11, x12, x13] M := by
  simp [bRt]
  refine rtb_loop S hB _ _ _ _ (rngD 4) N M _ _ _ _ _ (by simp [rngD]; omega) hf fun M' y9 y10 y11 y12 y13 hM => ?_
  simp
  refine reach_is S ?_
  refine eqD_pr ?_
  simp
  exact k M' hM
theorem bRo_ok (S : Set_ g bd A bl tl) {f : Addr} {B N : Nat} {M : Mh} (hB : B ≤ 10000000) (hN : N + 1000 < 2 ^ 40) (hf : Fd B N M f) (E : DEnds) (x3 x7 x8 x9 x10 x11 x12 x13 : Option D) (k : ∀ M', (∀ p, p ≠ f → M' p = M p) → E.rt (.bl true) M') :
    bRo C E [some (.ptr f), some g.d, some (kOf g bd).d, x3, some (prD bl tl), some (.int (g.G.ps.length : Nat)), some (.int (g.G.ts.length : Nat)), x7, x8, x9, x10, x11, x12, x13] M := by
  have d0 : ∀ {M : Mh} {Q : D → Mh → Prop}, gIx (prD bl tl) (.int 0) M Q = Q (.tup (bl.map nD)) M := fun {M Q} => ixT0
  have d1 : ∀ {M : Mh} {Q : D → Mh → Prop}, gIx (prD bl tl) (.int 1) M Q = Q (.tup (tl.map nD)) M := fun {M Q} => ixT1
  simp [bRo, d0, d1]
  refine others_ok (C := C) S.ok S.b S.w S.ak S.ls fun xs hx => ?_
  simp
  refine rob_loop _ _ _ _ _ _ _ _ _ _ _ _ _ xs _ hx fun x8 => ?_
  exact bRt_ok S hB hN hf _ _ _ _ _ _ _ _ _ k
theorem bRh_ok (S : Set_ g bd A bl tl) {f : Addr} {B N : Nat} {M : Mh} (hB : B ≤ 10000000) (hN : N + 1000 < 2 ^ 40) (hf : Fd B N M f) (E : DEnds) (x3 x8 x9 x10 x11 x12 x13 : Option D) (k : ∀ M', (∀ p, p ≠ f → M' p = M p) → E.rt (.bl true) M') :
    bRh C E [some (.ptr f), some g.d, some (kOf g bd).d, x3, some (prD bl tl), some (.int (g.G.ps.length : Nat)), some (.int (g.G.ts.length : Nat)), some (prD (List.range g.G.ps.length) (List.range g.G.ts.length)), x8, x9, x10, x11, x12, x13] M := by
  have hm : g.main ∈ bl := S.gl.b0 g.main (by simp) (main_lt S.ok)
  simp [bRh]
  refine hold_iff S S.gl.sb S.gl.st S.gl.lb S.gl.lt hm fun v hv => ?_
  have e1 : v = true := hv.mpr S.gl.cl
  simp [e1]
  refine hold_iff S List.pairwise_lt_range List.pairwise_lt_range (fun n hn => List.mem_range.mp hn) (fun n hn => List.mem_range.mp hn) (List.mem_range.mpr (main_lt S.ok)) fun v2 hv2 => ?_
  have e2 : v2 = true := hv2.mpr (whole_cl S)
  simp [e2]
  exact bRo_ok S hB hN hf _ _ _ _ _ _ _ _ _ k
theorem right_ok {f : Addr} {B N : Nat} {M : Mh} {R : D → Mh → Prop} (hB : B ≤ 10000000) (hN : N + 20000 < 2 ^ 40) (hf : Fd B N M f) (k : ∀ M', (∀ p, p ≠ f → M' p = M p) → R (.bl true) M') : F__law_right C [.ptr f] M R := by
  refine ⟨rfl, ?_⟩
  show (dSeq (dAsg (dCall F__law_graph (dCons (dVar 0) dNil)) (dgName 1)) (dSeq (dPar 2 3 (dCall F__law_core (dCons (dVar 0) (dCons (dVar 1) dNil))) (dOp gIx (dVar 1) (dC (.int 4)))) (dSeq (dAsg (dCall F__law_closure (dCons (dVar 1) (dCons (dLst mkF (dCons (dVar 3) dNil)) (dCons (dLst mkF dNil) dNil)))) (dgName 4)) (bRs C)))) _ _ _
  simp [dstart, N__law_right]
  refine graph_ok hB (by omega) hf fun g M1 hg f1 h1 => ?_
  have g0 : ∀ {M : Mh} {Q : D → Mh → Prop}, gIx g.d (.int 0) M Q = Q g.G.psD M := fun {M Q} => ixT0
  have g2 : ∀ {M : Mh} {Q : D → Mh → Prop}, gIx g.d (.int 2) M Q = Q g.G.tsD M := fun {M Q} => ixT2
  have g4 : ∀ {M : Mh} {Q : D → Mh → Prop}, gIx g.d (.int 4) M Q = Q (nD g.main) M := fun {M Q} => ixT4
  have lp : ∀ {M : Mh} {Q : D → Mh → Prop}, gLen [g.G.psD] M Q = Q (.int (g.G.ps.length : Nat)) M := fun {M Q} => by simp [Gp.psD]
  have lt : ∀ {M : Mh} {Q : D → Mh → Prop}, gLen [g.G.tsD] M Q = Q (.int (g.G.ts.length : Nat)) M := fun {M Q} => by simp [Gp.tsD]
  have h10 := hg.p10
  have h4 := hg.t4
  refine core_ok hB hg (by omega) f1 fun bd M2 hb f2 h2 => ?_
  simp [g4]
  refine closure_ok (b := [g.main]) (m := []) hg (.inl rfl) (.inl rfl) fun bl tl GL => ?_
  have hW := wf_ok hg hb
  simp [bRs]
  refine reach_ok hW fun A b' t' hA L => ?_
  obtain ⟨rfl, rfl⟩ := due_eq hg hb hA L GL
  have S : Set_ g bd A b' t' := ⟨hg, hb, hW, hA, L, GL⟩
  refine neD_pr (b := b') (t := t') ?_
  simp
  refine reach_is S ?_
  simp [prD, g0, lp, g2, lt]
  refine ⟨by omega, by omega, ?_⟩
  have hM2 : ∀ p, p ≠ f → M2 p = M p := fun p hp => by rw [h2 p hp, h1 p hp]
  refine bRh_ok S hB (N := N + 14200 + 2100) (by omega) f2 _ _ _ _ _ _ _ _ fun M' hM' => ?_
  have hM : ∀ p, p ≠ f → M' p = M p := fun p hp => by rw [hM' p hp, hM2 p hp]
  show R (.bl true) (keepM M M')
  rw [keep_fd hf hM]
  exact k M' hM
end
end K70
set_option maxRecDepth 100000
set_option maxHeartbeats 1000000
namespace K70
open PySem PySem.Spec PyProof.Rows L2 DL
def bFd : DS := (dRet (dLst mkP (dCons (dCB (gII fun i j => if j > i then j else i) (dCons (dC (.int 0)) (dCons (dOp gSub (dVar 2) (dOp gPow (dC (.int 10)) (dC (.int 18)))) dNil))) (dCons (dOp gMod (dCB gInt (dCons (dOp gAdd (dOp gMulX (dVar 2) (dC (.int 19))) (dOp gMulX (dC (.int 7)) (dVar 1))) dNil)) (dOp gAdd (dOp gPow (dC (.int 10)) (dC (.int 39))) (dC (.int 23)))) (dCons (dC (.int 0)) dNil)))))
theorem cut_one {xs : List D} : DL.cutD xs none (some 1) = xs.take 1 := by
  unfold DL.cutD
  have e : HT.sIx xs.length xs.length (some 1) = min 1 xs.length := HT.sIx_nat _ _ 1
  rw [HT.sIx_none, e]
  cases xs with
  | nil => rfl
  | cons x r => simp
section
variable {M : Mh} {R : D → Mh → Prop}
theorem feed_ok {ns : List Int} {b : Nat} (hb : b ≤ 2000000) (hb2 : 64 ≤ b) (hl : ns.length ≤ 63) (hn : ∀ z ∈ ns, z.natAbs < 2 ^ b) {k : Nat} (hk : k ≤ 62) (q : ∀ a M', Fd (b + 2) 0 M' a → R (.ptr a) M') : F__law_feed [.scr ns, .int (k : Nat)] M R := by
  have hP : 2 ^ 64 ≤ 2 ^ b := Nat.pow_le_pow_right (by decide) hb2
  have e1 : 2 ^ (b + 1) = 2 * 2 ^ b := by rw [Nat.pow_succ, Nat.mul_comm]
  have e2 : 2 ^ (b + 2) = 4 * 2 ^ b := by rw [Nat.pow_succ, Nat.pow_succ]; omega
  have hs0 : ((ns.map D.int).take 1) = (ns.take 1).map D.int := by rw [List.map_take]
  have hsum : (ns.take 1).sum.natAbs < 2 ^ b := by
    cases ns with
    | nil => simp; omega
    | cons x r => simpa using hn x List.mem_cons_self
  refine ⟨rfl, ?_⟩
  have sl : ∀ {M : Mh} {Q : D → Mh → Prop}, gSlL mkF (.scr ns) none (some 1) M Q = Q (.lst ((ns.take 1).map D.int)) M := fun {M Q} => by
    unfold gSlL asLS
    simp only [cut_one, hs0]
    rfl
  have sm : ∀ {M : Mh} {Q : D → Mh → Prop}, gSum [.lst ((ns.take 1).map D.int)] M Q = Q (.int (ns.take 1).sum) M := fun {M Q} => by
    unfold gSum oneLS asLS onI
    simp only [DL.ints_map]
  have p1 : CMulX 977 (k : Int) := mulx_ok (a := 64) (b := 64) (by decide) (by omega) (by decide)
  have p2 : CMulX 7 (k : Int) := mulx_ok (a := 64) (b := 64) (by decide) (by omega) (by decide)
  have x1 : CPow 10 18 := ⟨by decide, by decide, by decide⟩
  have x2 : CPow 10 39 := ⟨by decide, by decide, by decide⟩
  have fin : ∀ cell : Int, cell.natAbs < 2 ^ (b + 1) → ∀ (y0 : Option D) (E : DEnds), (∀ x M', R x M' → E.rt x M') → bFd E [y0, some (.int (k : Nat)), some (.int cell)] M := fun cell hc y0 E hE => by
    have gi : ∀ {M : Mh} {i : Int} (Q : D → Mh → Prop), gInt [.int i] M Q = Q (.int i) M := fun Q => rfl
    have gx : ∀ {M : Mh} {i j : Int} (Q : D → Mh → Prop), gII (fun i j => if j > i then j else i) [.int i, .int j] M Q = Q (.int (if j > i then j else i)) M := fun Q => rfl
    have p3 : CMulX cell 19 := mulx_ok (a := b + 1) (b := 20) hc (by decide) (by omega)
    simp [bFd, gi, gx]
    refine ⟨x1, p3, p2, x2, fun a ha => hE _ _ (q a _ ⟨_, _, 0, mup_same, ?_, ?_, ?_, ?_, by decide, by decide⟩)⟩
    · split <;> omega
    · rw [e1] at hc
      rw [e2]
      generalize 2 ^ b = P at *
      split <;> omega
    · exact Int.emod_nonneg _ (by decide)
    · exact Int.lt_trans (Int.emod_lt_of_pos _ (by decide)) (by decide)
  show (dSeq (dAsg (dOp gAdd (dOp gMulX (dC (.int 977)) (dVar 1)) (dCB gSum (dCons (dSl (gSlL mkF) (dVar 0) dNo (dPart (dC (.int 1)))) dNil))) (dgName 2)) (dSeq (dIfS (dTst (dOp gLt (dVar 1) (dCB gLen (dCons (dVar 0) dNil)))) (dAsg (dOp gIx (dVar 0) (dVar 1)) (dgName 2)) dNext) bFd)) _ _ _
  simp [-List.map_take, dstart, N__law_feed, sl, sm]
  refine ⟨p1, ?_⟩
  by_cases hlt : k < ns.length
  · have hi : (ns.map D.int)[k]? = some (.int ns[k]) := by rw [List.getElem?_map, List.getElem?_eq_getElem hlt]; rfl
    have ix : ∀ {M : Mh} {Q : D → Mh → Prop}, gIx (.scr ns) (.int (k : Nat)) M Q = Q (.int ns[k]) M := fun {M Q} => ix_nat rfl hi
    rw [if_pos hlt, ix]
    exact fin _ (by have := hn _ (List.getElem_mem hlt); omega) _ _ fun _ _ q => q
  · rw [if_neg hlt]
    exact fin _ (by omega) _ _ fun _ _ q => q
theorem law_loop {C : Addr} {ns : List Int} {b : Nat} (hb : b ≤ 2000000) (hb2 : 64 ≤ b) (hl : ns.length ≤ 63) (hn : ∀ z ∈ ns, z.natAbs < 2 ^ b) (E : DEnds) : ∀ (ks : List Nat) (M : Mh) (x1 : Option D), (∀ k ∈ ks, k ≤ 62) → (∀ M' x1, E.nx [some (.scr ns), x1] M') →
    forW (dgName 1) (dIfS (dNot (dTst (dCall (F__law_right C) (dCons (dCall F__law_feed (dCons (dVar 0) (dCons (dVar 1) dNil))) dNil)))) (dRet (dC (.bl false))) dNext) (ks.map nD) E [some (.scr ns), x1] M := by
  intro ks
  induction ks with
  | nil => intro M x1 _ k; exact k M x1
  | cons n ks ih =>
    intro M x1 h k
    rw [List.map_cons, forW_cons, s_gname]
    simp
    refine feed_ok hb hb2 hl hn (h n List.mem_cons_self) fun a M1 f1 => ?_
    refine right_ok (B := b + 2) (N := 0) (by omega) (by decide) f1 fun M2 _ => ?_
    simp
    exact ih M2 _ (fun m hm => h m (List.mem_cons_of_mem _ hm)) k
theorem law_ok {C : Addr} {ns : List Int} {b : Nat} (hb : b ≤ 2000000) (hb2 : 64 ≤ b) (hl : ns.length ≤ 63) (hn : ∀ z ∈ ns, z.natAbs < 2 ^ b) (k : ∀ M', R (.bl true) M') : F_law C [.scr ns] M R := by
  have gx : ∀ {M : Mh} {i j : Int} (Q : D → Mh → Prop), gII (fun i j => if j > i then j else i) [.int i, .int j] M Q = Q (.int (if j > i then j else i)) M := fun Q => rfl
  have gm : ∀ {M : Mh} {i j : Int} (Q : D → Mh → Prop), gII (fun i j => if j < i then j else i) [.int i, .int j] M Q = Q (.int (if j < i then j else i)) M := fun Q => rfl
  obtain ⟨m, hm, em⟩ : ∃ m : Nat, m ≤ 2 ∧ (if (if (2 : Int) < (ns.length : Int) then (2 : Int) else (ns.length : Int)) > 1 then (if (2 : Int) < (ns.length : Int) then (2 : Int) else (ns.length : Int)) else 1) = ((m : Nat) : Int) := by
    refine ⟨(if (if (2 : Int) < (ns.length : Int) then (2 : Int) else (ns.length : Int)) > 1 then (if (2 : Int) < (ns.length : Int) then (2 : Int) else (ns.length : Int)) else 1).toNat, ?_, ?_⟩
    · split <;> split <;> omega
    · split <;> split <;> omega
  refine ⟨rfl, ?_⟩
  show rd_law C _ [some (.scr ns), none] M
  simp only [rd_law, s_seq, s_forD, s_inR, s_cb, s_cons, s_C, s_nil]
  rw [s_var (i := 0) (d := .scr ns) rfl]
  rw [s_lenS]
  rw [gm, gx, em]
  refine ⟨by omega, by omega, ?_⟩
  rw [Int.toNat_natCast]
  refine law_loop hb hb2 hl hn _ (List.range m) M _ (fun n hn => by have := List.mem_range.mp hn; omega) fun M' x1 => ?_
  simp
  exact k _
end
end K70
set_option maxRecDepth 100000
set_option maxHeartbeats 1000000
namespace K70
open PySem PySem.Spec PyProof.Rows L2 DL
section
variable {K : PySem.W.Frag} {h : Heap} {mg : Str → Option Value} {w : World}
theorem kb_of {ps : List Str} {x qual : Str} {params : Arguments} {body : List Stmt} {scope : Scope} {kws : List (Str × V)} {f : Addr} {fd : FuncData} (F : FunD K x qual params body scope [] kws f fd)
    (hb : ∀ (kV doc pm : Value) (an : Option Addr) (cdv ct : Value) (us : List Value), us.length = ps.length → bindArgs (PySem.W.fnOf x qual params body scope .none kV doc pm an cdv ct) ⟨[], ps.zip us⟩ = pure (ps.zip us)) (s : Shared) (us : List Value) (_ : K.In s.heap) (hl : us.length = ps.length) : BindsTo s fd ⟨[], ps.zip us⟩ (ps.zip us) := by
  obtain ⟨p1, p2, dV, kV, doc, pm, an, cdv, ct, p3, e, _, _, z, _⟩ := F.ex
  subst e
  rcases z with z | z
  · obtain ⟨_, e⟩ := z
    subst e
    exact .of_eq (hb kV doc pm an cdv ct us hl)
  · exact absurd rfl z.1
variable (X : K.In h) (G : h.Ns mainGlobals mg) (c : He.SaysX fa fn ts [] ex w h K)
include X G c
theorem mk_inner_cs : Nonempty (DefF K mg "inner_cs" s_inner_cs ["c"]) := by
  obtain ⟨fd, F⟩ := c.t.d.def_ 0 (d := d_inner_cs) rfl
  exact ⟨⟨_, fd, F, He.glo_ok X G (c.t.d.fact 2 (f := .glo "inner_cs") rfl), FunD.bindsN F (fun _ _ _ _ _ _ us hl => match us, hl with | [_], _ => rfl), kb_of F (fun _ _ _ _ _ _ us hl => match us, hl with | [_], _ => rfl)⟩⟩
theorem mk_all_cs : Nonempty (DefF K mg "all_cs" s_all_cs ["c"]) := by
  obtain ⟨fd, F⟩ := c.t.d.def_ 1 (d := d_all_cs) rfl
  exact ⟨⟨_, fd, F, He.glo_ok X G (c.t.d.fact 3 (f := .glo "all_cs") rfl), FunD.bindsN F (fun _ _ _ _ _ _ us hl => match us, hl with | [_], _ => rfl), kb_of F (fun _ _ _ _ _ _ us hl => match us, hl with | [_], _ => rfl)⟩⟩
theorem mk_asked_in : Nonempty (DefF K mg "asked_in" s_asked_in ["c"]) := by
  obtain ⟨fd, F⟩ := c.t.d.def_ 2 (d := d_asked_in) rfl
  exact ⟨⟨_, fd, F, He.glo_ok X G (c.t.d.fact 4 (f := .glo "asked_in") rfl), FunD.bindsN F (fun _ _ _ _ _ _ us hl => match us, hl with | [_], _ => rfl), kb_of F (fun _ _ _ _ _ _ us hl => match us, hl with | [_], _ => rfl)⟩⟩
theorem mk_row_body : Nonempty (DefF K mg "row_body" s_row_body ["table", "selector"]) := by
  obtain ⟨fd, F⟩ := c.t.d.def_ 3 (d := d_row_body) rfl
  exact ⟨⟨_, fd, F, He.glo_ok X G (c.t.d.fact 5 (f := .glo "row_body") rfl), FunD.bindsN F (fun _ _ _ _ _ _ us hl => match us, hl with | [_, _], _ => rfl), kb_of F (fun _ _ _ _ _ _ us hl => match us, hl with | [_, _], _ => rfl)⟩⟩
theorem mk_bodies_asked : Nonempty (DefF K mg "bodies_asked" s_bodies_asked ["core", "asked", "made"]) := by
  obtain ⟨fd, F⟩ := c.t.d.def_ 4 (d := d_bodies_asked) rfl
  exact ⟨⟨_, fd, F, He.glo_ok X G (c.t.d.fact 6 (f := .glo "bodies_asked") rfl), FunD.bindsN F (fun _ _ _ _ _ _ us hl => match us, hl with | [_, _, _], _ => rfl), kb_of F (fun _ _ _ _ _ _ us hl => match us, hl with | [_, _, _], _ => rfl)⟩⟩
theorem mk_reach_in : Nonempty (DefF K mg "reach_in" s_reach_in ["core"]) := by
  obtain ⟨fd, F⟩ := c.t.d.def_ 5 (d := d_reach_in) rfl
  exact ⟨⟨_, fd, F, He.glo_ok X G (c.t.d.fact 7 (f := .glo "reach_in") rfl), FunD.bindsN F (fun _ _ _ _ _ _ us hl => match us, hl with | [_], _ => rfl), kb_of F (fun _ _ _ _ _ _ us hl => match us, hl with | [_], _ => rfl)⟩⟩
theorem mk_is_closed_reach : Nonempty (DefF K mg "is_closed_reach" s_is_closed_reach ["core", "bodies", "tables"]) := by
  obtain ⟨fd, F⟩ := c.t.d.def_ 6 (d := d_is_closed_reach) rfl
  exact ⟨⟨_, fd, F, He.glo_ok X G (c.t.d.fact 8 (f := .glo "is_closed_reach") rfl), FunD.bindsN F (fun _ _ _ _ _ _ us hl => match us, hl with | [_, _, _], _ => rfl), kb_of F (fun _ _ _ _ _ _ us hl => match us, hl with | [_, _, _], _ => rfl)⟩⟩
theorem mk_is_whole : Nonempty (DefF K mg "is_whole" s_is_whole ["thing"]) := by
  obtain ⟨fd, F⟩ := c.t.d.def_ 7 (d := d_is_whole) rfl
  exact ⟨⟨_, fd, F, He.glo_ok X G (c.t.d.fact 11 (f := .glo "is_whole") rfl), FunD.bindsN F (fun _ _ _ _ _ _ us hl => match us, hl with | [_], _ => rfl), kb_of F (fun _ _ _ _ _ _ us hl => match us, hl with | [_], _ => rfl)⟩⟩
theorem mk_is_count : Nonempty (DefF K mg "is_count" s_is_count ["thing", "most"]) := by
  obtain ⟨fd, F⟩ := c.t.d.def_ 8 (d := d_is_count) rfl
  exact ⟨⟨_, fd, F, He.glo_ok X G (c.t.d.fact 12 (f := .glo "is_count") rfl), FunD.bindsN F (fun _ _ _ _ _ _ us hl => match us, hl with | [_, _], _ => rfl), kb_of F (fun _ _ _ _ _ _ us hl => match us, hl with | [_, _], _ => rfl)⟩⟩
theorem mk_is_core_text : Nonempty (DefF K mg "is_core_text" s_is_core_text ["thing", "least"]) := by
  obtain ⟨fd, F⟩ := c.t.d.def_ 9 (d := d_is_core_text) rfl
  exact ⟨⟨_, fd, F, He.glo_ok X G (c.t.d.fact 24 (f := .glo "is_core_text") rfl), FunD.bindsN F (fun _ _ _ _ _ _ us hl => match us, hl with | [_, _], _ => rfl), kb_of F (fun _ _ _ _ _ _ us hl => match us, hl with | [_, _], _ => rfl)⟩⟩
theorem mk_is_row : Nonempty (DefF K mg "is_row" s_is_row ["thing", "most"]) := by
  obtain ⟨fd, F⟩ := c.t.d.def_ 10 (d := d_is_row) rfl
  exact ⟨⟨_, fd, F, He.glo_ok X G (c.t.d.fact 25 (f := .glo "is_row") rfl), FunD.bindsN F (fun _ _ _ _ _ _ us hl => match us, hl with | [_, _], _ => rfl), kb_of F (fun _ _ _ _ _ _ us hl => match us, hl with | [_, _], _ => rfl)⟩⟩
theorem mk_is_text_row : Nonempty (DefF K mg "is_text_row" s_is_text_row ["thing"]) := by
  obtain ⟨fd, F⟩ := c.t.d.def_ 11 (d := d_is_text_row) rfl
  exact ⟨⟨_, fd, F, He.glo_ok X G (c.t.d.fact 26 (f := .glo "is_text_row") rfl), FunD.bindsN F (fun _ _ _ _ _ _ us hl => match us, hl with | [_], _ => rfl), kb_of F (fun _ _ _ _ _ _ us hl => match us, hl with | [_], _ => rfl)⟩⟩
theorem mk_is_number_row : Nonempty (DefF K mg "is_number_row" s_is_number_row ["thing", "most"]) := by
  obtain ⟨fd, F⟩ := c.t.d.def_ 12 (d := d_is_number_row) rfl
  exact ⟨⟨_, fd, F, He.glo_ok X G (c.t.d.fact 27 (f := .glo "is_number_row") rfl), FunD.bindsN F (fun _ _ _ _ _ _ us hl => match us, hl with | [_, _], _ => rfl), kb_of F (fun _ _ _ _ _ _ us hl => match us, hl with | [_, _], _ => rfl)⟩⟩
theorem mk_is_ascending : Nonempty (DefF K mg "is_ascending" s_is_ascending ["thing", "most"]) := by
  obtain ⟨fd, F⟩ := c.t.d.def_ 13 (d := d_is_ascending) rfl
  exact ⟨⟨_, fd, F, He.glo_ok X G (c.t.d.fact 28 (f := .glo "is_ascending") rfl), FunD.bindsN F (fun _ _ _ _ _ _ us hl => match us, hl with | [_, _], _ => rfl), kb_of F (fun _ _ _ _ _ _ us hl => match us, hl with | [_, _], _ => rfl)⟩⟩
theorem mk_is_body : Nonempty (DefF K mg "is_body" s_is_body ["thing"]) := by
  obtain ⟨fd, F⟩ := c.t.d.def_ 14 (d := d_is_body) rfl
  exact ⟨⟨_, fd, F, He.glo_ok X G (c.t.d.fact 29 (f := .glo "is_body") rfl), FunD.bindsN F (fun _ _ _ _ _ _ us hl => match us, hl with | [_], _ => rfl), kb_of F (fun _ _ _ _ _ _ us hl => match us, hl with | [_], _ => rfl)⟩⟩
theorem mk_is_entry : Nonempty (DefF K mg "is_entry" s_is_entry ["thing", "bodies"]) := by
  obtain ⟨fd, F⟩ := c.t.d.def_ 15 (d := d_is_entry) rfl
  exact ⟨⟨_, fd, F, He.glo_ok X G (c.t.d.fact 30 (f := .glo "is_entry") rfl), FunD.bindsN F (fun _ _ _ _ _ _ us hl => match us, hl with | [_, _], _ => rfl), kb_of F (fun _ _ _ _ _ _ us hl => match us, hl with | [_, _], _ => rfl)⟩⟩
theorem mk_is_start : Nonempty (DefF K mg "is_start" s_is_start ["thing", "bodies"]) := by
  obtain ⟨fd, F⟩ := c.t.d.def_ 16 (d := d_is_start) rfl
  exact ⟨⟨_, fd, F, He.glo_ok X G (c.t.d.fact 31 (f := .glo "is_start") rfl), FunD.bindsN F (fun _ _ _ _ _ _ us hl => match us, hl with | [_, _], _ => rfl), kb_of F (fun _ _ _ _ _ _ us hl => match us, hl with | [_, _], _ => rfl)⟩⟩
theorem mk_are_sends : Nonempty (DefF K mg "are_sends" s_are_sends ["thing", "bodies"]) := by
  obtain ⟨fd, F⟩ := c.t.d.def_ 17 (d := d_are_sends) rfl
  exact ⟨⟨_, fd, F, He.glo_ok X G (c.t.d.fact 32 (f := .glo "are_sends") rfl), FunD.bindsN F (fun _ _ _ _ _ _ us hl => match us, hl with | [_, _], _ => rfl), kb_of F (fun _ _ _ _ _ _ us hl => match us, hl with | [_, _], _ => rfl)⟩⟩
theorem mk_is_table : Nonempty (DefF K mg "is_table" s_is_table ["thing", "bodies"]) := by
  obtain ⟨fd, F⟩ := c.t.d.def_ 18 (d := d_is_table) rfl
  exact ⟨⟨_, fd, F, He.glo_ok X G (c.t.d.fact 33 (f := .glo "is_table") rfl), FunD.bindsN F (fun _ _ _ _ _ _ us hl => match us, hl with | [_, _], _ => rfl), kb_of F (fun _ _ _ _ _ _ us hl => match us, hl with | [_, _], _ => rfl)⟩⟩
theorem mk_is_single : Nonempty (DefF K mg "is_single" s_is_single ["thing", "bodies"]) := by
  obtain ⟨fd, F⟩ := c.t.d.def_ 19 (d := d_is_single) rfl
  exact ⟨⟨_, fd, F, He.glo_ok X G (c.t.d.fact 34 (f := .glo "is_single") rfl), FunD.bindsN F (fun _ _ _ _ _ _ us hl => match us, hl with | [_, _], _ => rfl), kb_of F (fun _ _ _ _ _ _ us hl => match us, hl with | [_, _], _ => rfl)⟩⟩
theorem mk_has_form : Nonempty (DefF K mg "has_form" s_has_form ["thing"]) := by
  obtain ⟨fd, F⟩ := c.t.d.def_ 20 (d := d_has_form) rfl
  exact ⟨⟨_, fd, F, He.glo_ok X G (c.t.d.fact 35 (f := .glo "has_form") rfl), FunD.bindsN F (fun _ _ _ _ _ _ us hl => match us, hl with | [_], _ => rfl), kb_of F (fun _ _ _ _ _ _ us hl => match us, hl with | [_], _ => rfl)⟩⟩
theorem mk_fits_alone : Nonempty (DefF K mg "fits_alone" s_fits_alone ["c"]) := by
  obtain ⟨fd, F⟩ := c.t.d.def_ 21 (d := d_fits_alone) rfl
  exact ⟨⟨_, fd, F, He.glo_ok X G (c.t.d.fact 36 (f := .glo "fits_alone") rfl), FunD.bindsN F (fun _ _ _ _ _ _ us hl => match us, hl with | [_], _ => rfl), kb_of F (fun _ _ _ _ _ _ us hl => match us, hl with | [_], _ => rfl)⟩⟩
theorem mk_core_is_right : Nonempty (DefF K mg "core_is_right" s_core_is_right ["thing"]) := by
  obtain ⟨fd, F⟩ := c.t.d.def_ 27 (d := d_core_is_right) rfl
  exact ⟨⟨_, fd, F, He.glo_ok X G (c.t.d.fact 51 (f := .glo "core_is_right") rfl), FunD.bindsN F (fun _ _ _ _ _ _ us hl => match us, hl with | [_], _ => rfl), kb_of F (fun _ _ _ _ _ _ us hl => match us, hl with | [_], _ => rfl)⟩⟩
theorem mk_need_core : Nonempty (DefF K mg "need_core" s_need_core ["thing"]) := by
  obtain ⟨fd, F⟩ := c.t.d.def_ 28 (d := d_need_core) rfl
  exact ⟨⟨_, fd, F, He.glo_ok X G (c.t.d.fact 52 (f := .glo "need_core") rfl), FunD.bindsN F (fun _ _ _ _ _ _ us hl => match us, hl with | [_], _ => rfl), kb_of F (fun _ _ _ _ _ _ us hl => match us, hl with | [_], _ => rfl)⟩⟩
theorem mk_reach : Nonempty (DefF K mg "reach" s_reach ["core"]) := by
  obtain ⟨fd, F⟩ := c.t.d.def_ 29 (d := d_reach) rfl
  exact ⟨⟨_, fd, F, He.glo_ok X G (c.t.d.fact 53 (f := .glo "reach") rfl), FunD.bindsN F (fun _ _ _ _ _ _ us hl => match us, hl with | [_], _ => rfl), kb_of F (fun _ _ _ _ _ _ us hl => match us, hl with | [_], _ => rfl)⟩⟩
theorem mk_reach_holds : Nonempty (DefF K mg "reach_holds" s_reach_holds ["core", "thing"]) := by
  obtain ⟨fd, F⟩ := c.t.d.def_ 30 (d := d_reach_holds) rfl
  exact ⟨⟨_, fd, F, He.glo_ok X G (c.t.d.fact 54 (f := .glo "reach_holds") rfl), FunD.bindsN F (fun _ _ _ _ _ _ us hl => match us, hl with | [_, _], _ => rfl), kb_of F (fun _ _ _ _ _ _ us hl => match us, hl with | [_, _], _ => rfl)⟩⟩
theorem mk__law_feed : Nonempty (DefF K mg "_law_feed" s__law_feed ["_law_script", "_law_k"]) := by
  obtain ⟨fd, F⟩ := c.t.d.def_ 31 (d := d__law_feed) rfl
  exact ⟨⟨_, fd, F, He.glo_ok X G (c.t.d.fact 55 (f := .glo "_law_feed") rfl), FunD.bindsN F (fun _ _ _ _ _ _ us hl => match us, hl with | [_, _], _ => rfl), kb_of F (fun _ _ _ _ _ _ us hl => match us, hl with | [_, _], _ => rfl)⟩⟩
theorem mk__law_draw : Nonempty (DefF K mg "_law_draw" s__law_draw ["_law_feed_here", "_law_many"]) := by
  obtain ⟨fd, F⟩ := c.t.d.def_ 32 (d := d__law_draw) rfl
  exact ⟨⟨_, fd, F, He.glo_ok X G (c.t.d.fact 56 (f := .glo "_law_draw") rfl), FunD.bindsN F (fun _ _ _ _ _ _ us hl => match us, hl with | [_, _], _ => rfl), kb_of F (fun _ _ _ _ _ _ us hl => match us, hl with | [_, _], _ => rfl)⟩⟩
theorem mk__law_one : Nonempty (DefF K mg "_law_one" s__law_one ["_law_feed_here", "_law_things"]) := by
  obtain ⟨fd, F⟩ := c.t.d.def_ 33 (d := d__law_one) rfl
  exact ⟨⟨_, fd, F, He.glo_ok X G (c.t.d.fact 57 (f := .glo "_law_one") rfl), FunD.bindsN F (fun _ _ _ _ _ _ us hl => match us, hl with | [_, _], _ => rfl), kb_of F (fun _ _ _ _ _ _ us hl => match us, hl with | [_, _], _ => rfl)⟩⟩
theorem mk__law_ask : Nonempty (DefF K mg "_law_ask" s__law_ask ["_law_feed_here", "_law_know", "_law_deep"]) := by
  obtain ⟨fd, F⟩ := c.t.d.def_ 34 (d := d__law_ask) rfl
  exact ⟨⟨_, fd, F, He.glo_ok X G (c.t.d.fact 58 (f := .glo "_law_ask") rfl), FunD.bindsN F (fun _ _ _ _ _ _ us hl => match us, hl with | [_, _, _], _ => rfl), kb_of F (fun _ _ _ _ _ _ us hl => match us, hl with | [_, _, _], _ => rfl)⟩⟩
theorem mk__law_graph : Nonempty (DefF K mg "_law_graph" s__law_graph ["_law_feed_here"]) := by
  obtain ⟨fd, F⟩ := c.t.d.def_ 35 (d := d__law_graph) rfl
  exact ⟨⟨_, fd, F, He.glo_ok X G (c.t.d.fact 59 (f := .glo "_law_graph") rfl), FunD.bindsN F (fun _ _ _ _ _ _ us hl => match us, hl with | [_], _ => rfl), kb_of F (fun _ _ _ _ _ _ us hl => match us, hl with | [_], _ => rfl)⟩⟩
theorem mk__law_flat : Nonempty (DefF K mg "_law_flat" s__law_flat ["_law_asks"]) := by
  obtain ⟨fd, F⟩ := c.t.d.def_ 36 (d := d__law_flat) rfl
  exact ⟨⟨_, fd, F, He.glo_ok X G (c.t.d.fact 60 (f := .glo "_law_flat") rfl), FunD.bindsN F (fun _ _ _ _ _ _ us hl => match us, hl with | [_], _ => rfl), kb_of F (fun _ _ _ _ _ _ us hl => match us, hl with | [_], _ => rfl)⟩⟩
theorem mk__law_closure : Nonempty (DefF K mg "_law_closure" s__law_closure ["_law_graph_here", "_law_begun", "_law_made"]) := by
  obtain ⟨fd, F⟩ := c.t.d.def_ 37 (d := d__law_closure) rfl
  exact ⟨⟨_, fd, F, He.glo_ok X G (c.t.d.fact 61 (f := .glo "_law_closure") rfl), FunD.bindsN F (fun _ _ _ _ _ _ us hl => match us, hl with | [_, _, _], _ => rfl), kb_of F (fun _ _ _ _ _ _ us hl => match us, hl with | [_, _, _], _ => rfl)⟩⟩
theorem mk__law_only : Nonempty (DefF K mg "_law_only" s__law_only ["_law_graph_here", "_law_least", "_law_selector", "_law_count"]) := by
  obtain ⟨fd, F⟩ := c.t.d.def_ 38 (d := d__law_only) rfl
  exact ⟨⟨_, fd, F, He.glo_ok X G (c.t.d.fact 62 (f := .glo "_law_only") rfl), FunD.bindsN F (fun _ _ _ _ _ _ us hl => match us, hl with | [_, _, _, _], _ => rfl), kb_of F (fun _ _ _ _ _ _ us hl => match us, hl with | [_, _, _, _], _ => rfl)⟩⟩
theorem mk__law_asked : Nonempty (DefF K mg "_law_asked" s__law_asked ["_law_ask_here", "_law_graph_here", "_law_names", "_law_least"]) := by
  obtain ⟨fd, F⟩ := c.t.d.def_ 39 (d := d__law_asked) rfl
  exact ⟨⟨_, fd, F, He.glo_ok X G (c.t.d.fact 63 (f := .glo "_law_asked") rfl), FunD.bindsN F (fun _ _ _ _ _ _ us hl => match us, hl with | [_, _, _, _], _ => rfl), kb_of F (fun _ _ _ _ _ _ us hl => match us, hl with | [_, _, _, _], _ => rfl)⟩⟩
theorem mk__law_c : Nonempty (DefF K mg "_law_c" s__law_c ["_law_feed_here", "_law_cs", "_law_first", "_law_names"]) := by
  obtain ⟨fd, F⟩ := c.t.d.def_ 40 (d := d__law_c) rfl
  exact ⟨⟨_, fd, F, He.glo_ok X G (c.t.d.fact 64 (f := .glo "_law_c") rfl), FunD.bindsN F (fun _ _ _ _ _ _ us hl => match us, hl with | [_, _, _, _], _ => rfl), kb_of F (fun _ _ _ _ _ _ us hl => match us, hl with | [_, _, _, _], _ => rfl)⟩⟩
theorem mk__law_core : Nonempty (DefF K mg "_law_core" s__law_core ["_law_feed_here", "_law_graph_here"]) := by
  obtain ⟨fd, F⟩ := c.t.d.def_ 41 (d := d__law_core) rfl
  exact ⟨⟨_, fd, F, He.glo_ok X G (c.t.d.fact 65 (f := .glo "_law_core") rfl), FunD.bindsN F (fun _ _ _ _ _ _ us hl => match us, hl with | [_, _], _ => rfl), kb_of F (fun _ _ _ _ _ _ us hl => match us, hl with | [_, _], _ => rfl)⟩⟩
theorem mk__law_drawn : Nonempty (DefF K mg "_law_drawn" s__law_drawn ["_law_feed_here", "_law_whole", "_law_least"]) := by
  obtain ⟨fd, F⟩ := c.t.d.def_ 42 (d := d__law_drawn) rfl
  exact ⟨⟨_, fd, F, He.glo_ok X G (c.t.d.fact 66 (f := .glo "_law_drawn") rfl), FunD.bindsN F (fun _ _ _ _ _ _ us hl => match us, hl with | [_, _, _], _ => rfl), kb_of F (fun _ _ _ _ _ _ us hl => match us, hl with | [_, _, _], _ => rfl)⟩⟩
theorem mk__law_others : Nonempty (DefF K mg "_law_others" s__law_others ["_law_graph_here", "_law_bodies", "_law_tables"]) := by
  obtain ⟨fd, F⟩ := c.t.d.def_ 43 (d := d__law_others) rfl
  exact ⟨⟨_, fd, F, He.glo_ok X G (c.t.d.fact 67 (f := .glo "_law_others") rfl), FunD.bindsN F (fun _ _ _ _ _ _ us hl => match us, hl with | [_, _, _], _ => rfl), kb_of F (fun _ _ _ _ _ _ us hl => match us, hl with | [_, _, _], _ => rfl)⟩⟩
theorem mk__law_right : Nonempty (DefF K mg "_law_right" s__law_right ["_law_feed_here"]) := by
  obtain ⟨fd, F⟩ := c.t.d.def_ 44 (d := d__law_right) rfl
  exact ⟨⟨_, fd, F, He.glo_ok X G (c.t.d.fact 68 (f := .glo "_law_right") rfl), FunD.bindsN F (fun _ _ _ _ _ _ us hl => match us, hl with | [_], _ => rfl), kb_of F (fun _ _ _ _ _ _ us hl => match us, hl with | [_], _ => rfl)⟩⟩
theorem mk_law : Nonempty (DefF K mg "law" s_law ["_law_script"]) := by
  obtain ⟨fd, F⟩ := c.t.d.def_ 45 (d := d_law) rfl
  exact ⟨⟨_, fd, F, He.glo_ok X G (c.t.d.fact 69 (f := .glo "law") rfl), FunD.bindsN F (fun _ _ _ _ _ _ us hl => match us, hl with | [_], _ => rfl), kb_of F (fun _ _ _ _ _ _ us hl => match us, hl with | [_], _ => rfl)⟩⟩
theorem mk_BodyLook_init : ∃ v : IniF K "__init__" "BodyLook.__init__" s_BodyLook_init ["self", "core", "number"], v.f = He.ma K (He.ga K "BodyLook") "__init__" := by
  obtain ⟨fd, F⟩ := c.t.d.def_ 22 (d := d_BodyLook_init) rfl
  exact ⟨⟨_, fd, F, FunD.bindsN F (fun _ _ _ _ _ _ us hl => match us, hl with | [_, _, _], _ => rfl)⟩, rfl⟩
theorem mk_BodyLook_is_right : Nonempty (MetF K (He.ga K "BodyLook") "BodyLook" "is_right" "BodyLook.is_right" s_BodyLook_is_right ["self"]) := by
  obtain ⟨fd, F⟩ := c.t.d.def_ 23 (d := d_BodyLook_is_right) rfl
  exact ⟨⟨_, fd, F, He.meth_ok (c.t.d.fact 40 (f := .meth "BodyLook" "is_right") rfl), FunD.bindsN F (fun _ _ _ _ _ _ us hl => match us, hl with | [_], _ => rfl)⟩⟩
theorem mk_BodyLook_seen_in : Nonempty (MetF K (He.ga K "BodyLook") "BodyLook" "seen_in" "BodyLook.seen_in" s_BodyLook_seen_in ["self", "c", "at", "seen"]) := by
  obtain ⟨fd, F⟩ := c.t.d.def_ 24 (d := d_BodyLook_seen_in) rfl
  exact ⟨⟨_, fd, F, He.meth_ok (c.t.d.fact 41 (f := .meth "BodyLook" "seen_in") rfl), FunD.bindsN F (fun _ _ _ _ _ _ us hl => match us, hl with | [_, _, _, _], _ => rfl)⟩⟩
theorem mk_BodyLook_binds : Nonempty (MetF K (He.ga K "BodyLook") "BodyLook" "binds" "BodyLook.binds" s_BodyLook_binds ["self", "numbers"]) := by
  obtain ⟨fd, F⟩ := c.t.d.def_ 25 (d := d_BodyLook_binds) rfl
  exact ⟨⟨_, fd, F, He.meth_ok (c.t.d.fact 42 (f := .meth "BodyLook" "binds") rfl), FunD.bindsN F (fun _ _ _ _ _ _ us hl => match us, hl with | [_, _], _ => rfl)⟩⟩
theorem mk_BodyLook_fits : Nonempty (MetF K (He.ga K "BodyLook") "BodyLook" "fits" "BodyLook.fits" s_BodyLook_fits ["self", "c", "seen", "may_fill"]) := by
  obtain ⟨fd, F⟩ := c.t.d.def_ 26 (d := d_BodyLook_fits) rfl
  exact ⟨⟨_, fd, F, He.meth_ok (c.t.d.fact 43 (f := .meth "BodyLook" "fits") rfl), FunD.bindsN F (fun _ _ _ _ _ _ us hl => match us, hl with | [_, _, _, _], _ => rfl)⟩⟩
omit X G c
theorem scal_rep {q : He.Dv} {u : Value} {d : D} (r : RelV (q.v K) u) (e : ∀ Hi, Rep K Hi d (q.v K)) : WRep K d u := ⟨_, r, e⟩
theorem no_of {x : Str} {ks : List Str} (e : noIn K x ks = true) {z : Str} (hz : z ∈ ks) : PySem.W.nsIn K (He.ga K x) z = some none := He.eqO_ok (List.all_eq_true.mp e z hz)
theorem dv_all : ∀ {vs : List He.Dv} {ds : List D}, (∀ Hi, Reps K Hi ds (vs.map (He.Dv.v K))) → ∀ Hi, Reps K Hi ds (vs.map (He.Dv.v K)) := fun q Hi => q Hi
theorem tup_of {x k : Str} {vs : List He.Dv} {ds : List D} (e : tupIn K x k vs = true) (hr : ∀ Hi, Reps K Hi ds (vs.map (He.Dv.v K))) : ∃ u, PySem.W.nsIn K (He.ga K x) k = some (some u) ∧ WRep K (.tup ds) u := by
  obtain ⟨e1, e2⟩ := He.ba e
  refine ⟨_, He.eqO_ok e1, .ref (dicAt x k K), rfl, fun Hi => .tup ?_ (hr Hi)⟩
  cases hq : K.lookup (dicAt x k K) with
  | none => rw [hq] at e2; cases e2
  | some ob =>
    obtain ⟨ocl, odi, dat, sls⟩ := ob
    rw [hq] at e2
    cases ocl with
    | type cn =>
      cases dat with
      | seq its nn =>
        obtain ⟨f1, f2⟩ := He.ba e2
        obtain ⟨f3, f4⟩ := He.ba f2
        have g1 := of_decide_eq_true f1
        have g3 := of_decide_eq_true f3
        have g4 := He.relAll_ok f4
        subst g1
        exact .inr ⟨_, its, nn, hq, rfl, rfl, g3, g4⟩
      | _ => cases e2
    | _ => cases dat <;> cases e2
theorem ex_at {b : Bool} (hx : ex K = true) (hb : b ∈ exs K) : b = true := List.all_eq_true.mp hx b hb
variable (X : K.In h) (G : h.Ns mainGlobals mg) (c : He.SaysX fa fn ts [] ex w h K)
include X G c
theorem wd_PLACES : WD K w (He.ga K "PLACES") tb_PLACES := by
  refine ⟨c.t.tab 0, ?_⟩
  have hn : noIn K "PLACES" ["unit", "int", "text", "truth", "local", "direct", "make", "single"] = true := ex_at c.more (List.mem_of_getElem? (i := 22) rfl)
  unfold tb_PLACES
  simp only [List.forall_mem_cons]
  refine ⟨tup_of (vs := [.int 1]) (ex_at c.more (List.mem_of_getElem? (i := 0) rfl)) fun _ => (.cons (.int _) .nil), tup_of (vs := [.int 2, .int 3]) (ex_at c.more (List.mem_of_getElem? (i := 1) rfl)) fun _ => (.cons (.int _) (.cons (.int _) .nil)), tup_of (vs := [.int 1]) (ex_at c.more (List.mem_of_getElem? (i := 2) rfl)) fun _ => (.cons (.int _) .nil), tup_of (vs := [.int 1]) (ex_at c.more (List.mem_of_getElem? (i := 3) rfl)) fun _ => (.cons (.int _) .nil), tup_of (vs := [.int 1]) (ex_at c.more (List.mem_of_getElem? (i := 4) rfl)) fun _ => (.cons (.int _) .nil), tup_of (vs := [.int 2]) (ex_at c.more (List.mem_of_getElem? (i := 5) rfl)) fun _ => (.cons (.int _) .nil), tup_of (vs := [.int 1]) (ex_at c.more (List.mem_of_getElem? (i := 6) rfl)) fun _ => (.cons (.int _) .nil), tup_of (vs := [.int 2]) (ex_at c.more (List.mem_of_getElem? (i := 7) rfl)) fun _ => (.cons (.int _) .nil), tup_of (vs := [.int 1]) (ex_at c.more (List.mem_of_getElem? (i := 8) rfl)) fun _ => (.cons (.int _) .nil), tup_of (vs := [.int 1, .int 2, .int 3]) (ex_at c.more (List.mem_of_getElem? (i := 9) rfl)) fun _ => (.cons (.int _) (.cons (.int _) (.cons (.int _) .nil))), tup_of (vs := [.int 2, .int 3]) (ex_at c.more (List.mem_of_getElem? (i := 10) rfl)) fun _ => (.cons (.int _) (.cons (.int _) .nil)), tup_of (vs := [.int 1]) (ex_at c.more (List.mem_of_getElem? (i := 11) rfl)) fun _ => (.cons (.int _) .nil), tup_of (vs := [.int 1]) (ex_at c.more (List.mem_of_getElem? (i := 12) rfl)) fun _ => (.cons (.int _) .nil), tup_of (vs := [.int 1, .int 2]) (ex_at c.more (List.mem_of_getElem? (i := 13) rfl)) fun _ => (.cons (.int _) (.cons (.int _) .nil)), tup_of (vs := [.int 2, .int 3]) (ex_at c.more (List.mem_of_getElem? (i := 14) rfl)) fun _ => (.cons (.int _) (.cons (.int _) .nil)), tup_of (vs := [.int 2]) (ex_at c.more (List.mem_of_getElem? (i := 15) rfl)) fun _ => (.cons (.int _) .nil), no_of hn (by simp), no_of hn (by simp), no_of hn (by simp), no_of hn (by simp), no_of hn (by simp), no_of hn (by simp), no_of hn (by simp), no_of hn (by simp), fun _ h => by cases h⟩
theorem wd_ROWS : WD K w (He.ga K "ROWS") tb_ROWS := by
  refine ⟨c.t.tab 1, ?_⟩
  have hn : noIn K "ROWS" ["unit", "int", "text", "truth", "local", "slot", "fill", "single", "late", "now", "once", "first", "fun", "if", "let", "among", "show", "then", "op", "stop"] = true := ex_at c.more (List.mem_of_getElem? (i := 23) rfl)
  have hv : He.valsB K (He.ga K "ROWS") [("send", .int 3), ("direct", .int 2), ("make", .int 2), ("apply", .int 2)] = true := ex_at c.more (List.mem_of_getElem? (i := 16) rfl)
  unfold tb_ROWS
  simp only [List.forall_mem_cons]
  refine ⟨?_, ?_, ?_, ?_, no_of hn (by simp), no_of hn (by simp), no_of hn (by simp), no_of hn (by simp), no_of hn (by simp), no_of hn (by simp), no_of hn (by simp), no_of hn (by simp), no_of hn (by simp), no_of hn (by simp), no_of hn (by simp), no_of hn (by simp), no_of hn (by simp), no_of hn (by simp), no_of hn (by simp), no_of hn (by simp), no_of hn (by simp), no_of hn (by simp), no_of hn (by simp), no_of hn (by simp), fun _ h => by cases h⟩
  · obtain ⟨u, u1, u2⟩ := He.valsB_ok hv (q := ("send", .int 3)) (by simp)
    exact ⟨u, u1, scal_rep u2 fun _ => by constructor⟩
  · obtain ⟨u, u1, u2⟩ := He.valsB_ok hv (q := ("direct", .int 2)) (by simp)
    exact ⟨u, u1, scal_rep u2 fun _ => by constructor⟩
  · obtain ⟨u, u1, u2⟩ := He.valsB_ok hv (q := ("make", .int 2)) (by simp)
    exact ⟨u, u1, scal_rep u2 fun _ => by constructor⟩
  · obtain ⟨u, u1, u2⟩ := He.valsB_ok hv (q := ("apply", .int 2)) (by simp)
    exact ⟨u, u1, scal_rep u2 fun _ => by constructor⟩
theorem wd_SIZES : WD K w (He.ga K "SIZES") tb_SIZES := by
  refine ⟨c.t.tab 2, ?_⟩
  have hv : He.valsB K (He.ga K "SIZES") [("int", .int 2), ("text", .int 2), ("truth", .int 2), ("unit", .int 1), ("local", .int 2), ("slot", .int 3), ("fill", .int 4), ("send", .int 4), ("direct", .int 3), ("make", .int 3), ("single", .int 2), ("late", .int 2), ("now", .int 2), ("once", .int 3), ("first", .int 2), ("fun", .int 3), ("apply", .int 3), ("if", .int 4), ("let", .int 4), ("among", .int 3), ("show", .int 2), ("then", .int 3), ("op", .int 4), ("stop", .int 3)] = true := ex_at c.more (List.mem_of_getElem? (i := 17) rfl)
  unfold tb_SIZES
  simp only [List.forall_mem_cons]
  refine ⟨?_, ?_, ?_, ?_, ?_, ?_, ?_, ?_, ?_, ?_, ?_, ?_, ?_, ?_, ?_, ?_, ?_, ?_, ?_, ?_, ?_, ?_, ?_, ?_, fun _ h => by cases h⟩
  · obtain ⟨u, u1, u2⟩ := He.valsB_ok hv (q := ("int", .int 2)) (by simp)
    exact ⟨u, u1, scal_rep u2 fun _ => by constructor⟩
  · obtain ⟨u, u1, u2⟩ := He.valsB_ok hv (q := ("text", .int 2)) (by simp)
    exact ⟨u, u1, scal_rep u2 fun _ => by constructor⟩
  · obtain ⟨u, u1, u2⟩ := He.valsB_ok hv (q := ("truth", .int 2)) (by simp)
    exact ⟨u, u1, scal_rep u2 fun _ => by constructor⟩
  · obtain ⟨u, u1, u2⟩ := He.valsB_ok hv (q := ("unit", .int 1)) (by simp)
    exact ⟨u, u1, scal_rep u2 fun _ => by constructor⟩
  · obtain ⟨u, u1, u2⟩ := He.valsB_ok hv (q := ("local", .int 2)) (by simp)
    exact ⟨u, u1, scal_rep u2 fun _ => by constructor⟩
  · obtain ⟨u, u1, u2⟩ := He.valsB_ok hv (q := ("slot", .int 3)) (by simp)
    exact ⟨u, u1, scal_rep u2 fun _ => by constructor⟩
  · obtain ⟨u, u1, u2⟩ := He.valsB_ok hv (q := ("fill", .int 4)) (by simp)
    exact ⟨u, u1, scal_rep u2 fun _ => by constructor⟩
  · obtain ⟨u, u1, u2⟩ := He.valsB_ok hv (q := ("send", .int 4)) (by simp)
    exact ⟨u, u1, scal_rep u2 fun _ => by constructor⟩
  · obtain ⟨u, u1, u2⟩ := He.valsB_ok hv (q := ("direct", .int 3)) (by simp)
    exact ⟨u, u1, scal_rep u2 fun _ => by constructor⟩
  · obtain ⟨u, u1, u2⟩ := He.valsB_ok hv (q := ("make", .int 3)) (by simp)
    exact ⟨u, u1, scal_rep u2 fun _ => by constructor⟩
  · obtain ⟨u, u1, u2⟩ := He.valsB_ok hv (q := ("single", .int 2)) (by simp)
    exact ⟨u, u1, scal_rep u2 fun _ => by constructor⟩
  · obtain ⟨u, u1, u2⟩ := He.valsB_ok hv (q := ("late", .int 2)) (by simp)
    exact ⟨u, u1, scal_rep u2 fun _ => by constructor⟩
  · obtain ⟨u, u1, u2⟩ := He.valsB_ok hv (q := ("now", .int 2)) (by simp)
    exact ⟨u, u1, scal_rep u2 fun _ => by constructor⟩
  · obtain ⟨u, u1, u2⟩ := He.valsB_ok hv (q := ("once", .int 3)) (by simp)
    exact ⟨u, u1, scal_rep u2 fun _ => by constructor⟩
  · obtain ⟨u, u1, u2⟩ := He.valsB_ok hv (q := ("first", .int 2)) (by simp)
    exact ⟨u, u1, scal_rep u2 fun _ => by constructor⟩
  · obtain ⟨u, u1, u2⟩ := He.valsB_ok hv (q := ("fun", .int 3)) (by simp)
    exact ⟨u, u1, scal_rep u2 fun _ => by constructor⟩
  · obtain ⟨u, u1, u2⟩ := He.valsB_ok hv (q := ("apply", .int 3)) (by simp)
    exact ⟨u, u1, scal_rep u2 fun _ => by constructor⟩
  · obtain ⟨u, u1, u2⟩ := He.valsB_ok hv (q := ("if", .int 4)) (by simp)
    exact ⟨u, u1, scal_rep u2 fun _ => by constructor⟩
  · obtain ⟨u, u1, u2⟩ := He.valsB_ok hv (q := ("let", .int 4)) (by simp)
    exact ⟨u, u1, scal_rep u2 fun _ => by constructor⟩
  · obtain ⟨u, u1, u2⟩ := He.valsB_ok hv (q := ("among", .int 3)) (by simp)
    exact ⟨u, u1, scal_rep u2 fun _ => by constructor⟩
  · obtain ⟨u, u1, u2⟩ := He.valsB_ok hv (q := ("show", .int 2)) (by simp)
    exact ⟨u, u1, scal_rep u2 fun _ => by constructor⟩
  · obtain ⟨u, u1, u2⟩ := He.valsB_ok hv (q := ("then", .int 3)) (by simp)
    exact ⟨u, u1, scal_rep u2 fun _ => by constructor⟩
  · obtain ⟨u, u1, u2⟩ := He.valsB_ok hv (q := ("op", .int 4)) (by simp)
    exact ⟨u, u1, scal_rep u2 fun _ => by constructor⟩
  · obtain ⟨u, u1, u2⟩ := He.valsB_ok hv (q := ("stop", .int 3)) (by simp)
    exact ⟨u, u1, scal_rep u2 fun _ => by constructor⟩
theorem wd_OPS : WD K w (He.ga K "OPS") tb_OPS := by
  refine ⟨c.t.tab 3, ?_⟩
  have hv : He.valsB K (He.ga K "OPS") [("+", .bl true), ("-", .bl true), ("*", .bl true), ("<", .bl true), ("=", .bl true), ("join", .bl true)] = true := ex_at c.more (List.mem_of_getElem? (i := 18) rfl)
  unfold tb_OPS
  simp only [List.forall_mem_cons]
  refine ⟨?_, ?_, ?_, ?_, ?_, ?_, fun _ h => by cases h⟩
  · obtain ⟨u, u1, u2⟩ := He.valsB_ok hv (q := ("+", .bl true)) (by simp)
    exact ⟨u, u1, scal_rep u2 fun _ => by constructor⟩
  · obtain ⟨u, u1, u2⟩ := He.valsB_ok hv (q := ("-", .bl true)) (by simp)
    exact ⟨u, u1, scal_rep u2 fun _ => by constructor⟩
  · obtain ⟨u, u1, u2⟩ := He.valsB_ok hv (q := ("*", .bl true)) (by simp)
    exact ⟨u, u1, scal_rep u2 fun _ => by constructor⟩
  · obtain ⟨u, u1, u2⟩ := He.valsB_ok hv (q := ("<", .bl true)) (by simp)
    exact ⟨u, u1, scal_rep u2 fun _ => by constructor⟩
  · obtain ⟨u, u1, u2⟩ := He.valsB_ok hv (q := ("=", .bl true)) (by simp)
    exact ⟨u, u1, scal_rep u2 fun _ => by constructor⟩
  · obtain ⟨u, u1, u2⟩ := He.valsB_ok hv (q := ("join", .bl true)) (by simp)
    exact ⟨u, u1, scal_rep u2 fun _ => by constructor⟩
theorem wd_STOPS : WD K w (He.ga K "STOPS") tb_STOPS := by
  refine ⟨c.t.tab 4, ?_⟩
  have hv : He.valsB K (He.ga K "STOPS") [("stop", .bl true), ("unmatched", .bl true)] = true := ex_at c.more (List.mem_of_getElem? (i := 19) rfl)
  unfold tb_STOPS
  simp only [List.forall_mem_cons]
  refine ⟨?_, ?_, fun _ h => by cases h⟩
  · obtain ⟨u, u1, u2⟩ := He.valsB_ok hv (q := ("stop", .bl true)) (by simp)
    exact ⟨u, u1, scal_rep u2 fun _ => by constructor⟩
  · obtain ⟨u, u1, u2⟩ := He.valsB_ok hv (q := ("unmatched", .bl true)) (by simp)
    exact ⟨u, u1, scal_rep u2 fun _ => by constructor⟩
theorem wd_CLOSED : WD K w (He.ga K "CLOSED") tb_CLOSED := by
  refine ⟨c.t.tab 5, ?_⟩
  have hn : noIn K "CLOSED" ["unit", "int", "text", "truth", "local", "slot", "fill", "send", "direct", "make", "single", "now", "first", "apply", "if", "let", "among", "show", "then", "op", "stop"] = true := ex_at c.more (List.mem_of_getElem? (i := 24) rfl)
  have hv : He.valsB K (He.ga K "CLOSED") [("late", .bl true), ("once", .bl true), ("fun", .bl true)] = true := ex_at c.more (List.mem_of_getElem? (i := 20) rfl)
  unfold tb_CLOSED
  simp only [List.forall_mem_cons]
  refine ⟨?_, ?_, ?_, no_of hn (by simp), no_of hn (by simp), no_of hn (by simp), no_of hn (by simp), no_of hn (by simp), no_of hn (by simp), no_of hn (by simp), no_of hn (by simp), no_of hn (by simp), no_of hn (by simp), no_of hn (by simp), no_of hn (by simp), no_of hn (by simp), no_of hn (by simp), no_of hn (by simp), no_of hn (by simp), no_of hn (by simp), no_of hn (by simp), no_of hn (by simp), no_of hn (by simp), no_of hn (by simp), fun _ h => by cases h⟩
  · obtain ⟨u, u1, u2⟩ := He.valsB_ok hv (q := ("late", .bl true)) (by simp)
    exact ⟨u, u1, scal_rep u2 fun _ => by constructor⟩
  · obtain ⟨u, u1, u2⟩ := He.valsB_ok hv (q := ("once", .bl true)) (by simp)
    exact ⟨u, u1, scal_rep u2 fun _ => by constructor⟩
  · obtain ⟨u, u1, u2⟩ := He.valsB_ok hv (q := ("fun", .bl true)) (by simp)
    exact ⟨u, u1, scal_rep u2 fun _ => by constructor⟩
theorem wd_ALONE : WD K w (He.ga K "ALONE") tb_ALONE := by
  refine ⟨c.t.tab 6, ?_⟩
  have hn : noIn K "ALONE" ["unit", "local", "fill", "direct", "make", "single", "late", "now", "first", "fun", "apply", "if", "let", "among", "show", "then"] = true := ex_at c.more (List.mem_of_getElem? (i := 25) rfl)
  have hv : He.valsB K (He.ga K "ALONE") [("int", .bl true), ("text", .bl true), ("truth", .bl true), ("slot", .bl true), ("send", .bl true), ("once", .bl true), ("op", .bl true), ("stop", .bl true)] = true := ex_at c.more (List.mem_of_getElem? (i := 21) rfl)
  unfold tb_ALONE
  simp only [List.forall_mem_cons]
  refine ⟨?_, ?_, ?_, ?_, ?_, ?_, ?_, ?_, no_of hn (by simp), no_of hn (by simp), no_of hn (by simp), no_of hn (by simp), no_of hn (by simp), no_of hn (by simp), no_of hn (by simp), no_of hn (by simp), no_of hn (by simp), no_of hn (by simp), no_of hn (by simp), no_of hn (by simp), no_of hn (by simp), no_of hn (by simp), no_of hn (by simp), no_of hn (by simp), fun _ h => by cases h⟩
  · obtain ⟨u, u1, u2⟩ := He.valsB_ok hv (q := ("int", .bl true)) (by simp)
    exact ⟨u, u1, scal_rep u2 fun _ => by constructor⟩
  · obtain ⟨u, u1, u2⟩ := He.valsB_ok hv (q := ("text", .bl true)) (by simp)
    exact ⟨u, u1, scal_rep u2 fun _ => by constructor⟩
  · obtain ⟨u, u1, u2⟩ := He.valsB_ok hv (q := ("truth", .bl true)) (by simp)
    exact ⟨u, u1, scal_rep u2 fun _ => by constructor⟩
  · obtain ⟨u, u1, u2⟩ := He.valsB_ok hv (q := ("slot", .bl true)) (by simp)
    exact ⟨u, u1, scal_rep u2 fun _ => by constructor⟩
  · obtain ⟨u, u1, u2⟩ := He.valsB_ok hv (q := ("send", .bl true)) (by simp)
    exact ⟨u, u1, scal_rep u2 fun _ => by constructor⟩
  · obtain ⟨u, u1, u2⟩ := He.valsB_ok hv (q := ("once", .bl true)) (by simp)
    exact ⟨u, u1, scal_rep u2 fun _ => by constructor⟩
  · obtain ⟨u, u1, u2⟩ := He.valsB_ok hv (q := ("op", .bl true)) (by simp)
    exact ⟨u, u1, scal_rep u2 fun _ => by constructor⟩
  · obtain ⟨u, u1, u2⟩ := He.valsB_ok hv (q := ("stop", .bl true)) (by simp)
    exact ⟨u, u1, scal_rep u2 fun _ => by constructor⟩
theorem phi_ok : Nonempty (Phi K mg w) := by
  obtain ⟨v_inner_cs⟩ := mk_inner_cs X G c
  obtain ⟨v_all_cs⟩ := mk_all_cs X G c
  obtain ⟨v_asked_in⟩ := mk_asked_in X G c
  obtain ⟨v_row_body⟩ := mk_row_body X G c
  obtain ⟨v_bodies_asked⟩ := mk_bodies_asked X G c
  obtain ⟨v_reach_in⟩ := mk_reach_in X G c
  obtain ⟨v_is_closed_reach⟩ := mk_is_closed_reach X G c
  obtain ⟨v_is_whole⟩ := mk_is_whole X G c
  obtain ⟨v_is_count⟩ := mk_is_count X G c
  obtain ⟨v_is_core_text⟩ := mk_is_core_text X G c
  obtain ⟨v_is_row⟩ := mk_is_row X G c
  obtain ⟨v_is_text_row⟩ := mk_is_text_row X G c
  obtain ⟨v_is_number_row⟩ := mk_is_number_row X G c
  obtain ⟨v_is_ascending⟩ := mk_is_ascending X G c
  obtain ⟨v_is_body⟩ := mk_is_body X G c
  obtain ⟨v_is_entry⟩ := mk_is_entry X G c
  obtain ⟨v_is_start⟩ := mk_is_start X G c
  obtain ⟨v_are_sends⟩ := mk_are_sends X G c
  obtain ⟨v_is_table⟩ := mk_is_table X G c
  obtain ⟨v_is_single⟩ := mk_is_single X G c
  obtain ⟨v_has_form⟩ := mk_has_form X G c
  obtain ⟨v_fits_alone⟩ := mk_fits_alone X G c
  obtain ⟨v_core_is_right⟩ := mk_core_is_right X G c
  obtain ⟨v_need_core⟩ := mk_need_core X G c
  obtain ⟨v_reach⟩ := mk_reach X G c
  obtain ⟨v_reach_holds⟩ := mk_reach_holds X G c
  obtain ⟨v__law_feed⟩ := mk__law_feed X G c
  obtain ⟨v__law_draw⟩ := mk__law_draw X G c
  obtain ⟨v__law_one⟩ := mk__law_one X G c
  obtain ⟨v__law_ask⟩ := mk__law_ask X G c
  obtain ⟨v__law_graph⟩ := mk__law_graph X G c
  obtain ⟨v__law_flat⟩ := mk__law_flat X G c
  obtain ⟨v__law_closure⟩ := mk__law_closure X G c
  obtain ⟨v__law_only⟩ := mk__law_only X G c
  obtain ⟨v__law_asked⟩ := mk__law_asked X G c
  obtain ⟨v__law_c⟩ := mk__law_c X G c
  obtain ⟨v__law_core⟩ := mk__law_core X G c
  obtain ⟨v__law_drawn⟩ := mk__law_drawn X G c
  obtain ⟨v__law_others⟩ := mk__law_others X G c
  obtain ⟨v__law_right⟩ := mk__law_right X G c
  obtain ⟨v_law⟩ := mk_law X G c
  obtain ⟨v_BodyLook_init, e_BodyLook_init⟩ := mk_BodyLook_init X G c
  obtain ⟨v_BodyLook_is_right⟩ := mk_BodyLook_is_right X G c
  obtain ⟨v_BodyLook_seen_in⟩ := mk_BodyLook_seen_in X G c
  obtain ⟨v_BodyLook_binds⟩ := mk_BodyLook_binds X G c
  obtain ⟨v_BodyLook_fits⟩ := mk_BodyLook_fits X G c
  obtain ⟨t_MOST_BODIES, i_MOST_BODIES⟩ := He.int_ok X G (c.t.d.fact 15 (f := .int "MOST_BODIES" 600) rfl)
  obtain ⟨t_MOST_LOCALS, i_MOST_LOCALS⟩ := He.int_ok X G (c.t.d.fact 16 (f := .int "MOST_LOCALS" 400) rfl)
  obtain ⟨t_MOST_SIGNS, i_MOST_SIGNS⟩ := He.int_ok X G (c.t.d.fact 18 (f := .int "MOST_SIGNS" 80) rfl)
  obtain ⟨t_MOST_SINGLES, i_MOST_SINGLES⟩ := He.int_ok X G (c.t.d.fact 14 (f := .int "MOST_SINGLES" 60) rfl)
  obtain ⟨t_MOST_TABLES, i_MOST_TABLES⟩ := He.int_ok X G (c.t.d.fact 13 (f := .int "MOST_TABLES" 60) rfl)
  obtain ⟨t_MOST_WITHIN, i_MOST_WITHIN⟩ := He.int_ok X G (c.t.d.fact 17 (f := .int "MOST_WITHIN" 240) rfl)
  exact ⟨{ inner_cs := v_inner_cs, all_cs := v_all_cs, asked_in := v_asked_in, row_body := v_row_body, bodies_asked := v_bodies_asked, reach_in := v_reach_in, is_closed_reach := v_is_closed_reach, is_whole := v_is_whole, is_count := v_is_count, is_core_text := v_is_core_text, is_row := v_is_row, is_text_row := v_is_text_row, is_number_row := v_is_number_row, is_ascending := v_is_ascending, is_body := v_is_body, is_entry := v_is_entry, is_start := v_is_start, are_sends := v_are_sends, is_table := v_is_table, is_single := v_is_single, has_form := v_has_form, fits_alone := v_fits_alone, core_is_right := v_core_is_right, need_core := v_need_core, reach := v_reach, reach_holds := v_reach_holds, _law_feed := v__law_feed, _law_draw := v__law_draw, _law_one := v__law_one, _law_ask := v__law_ask, _law_graph := v__law_graph, _law_flat := v__law_flat, _law_closure := v__law_closure, _law_only := v__law_only, _law_asked := v__law_asked, _law_c := v__law_c, _law_core := v__law_core, _law_drawn := v__law_drawn, _law_others := v__law_others, _law_right := v__law_right, law := v_law, C := He.ga K "BodyLook", g_BodyLook := He.glo_ok X G (c.t.d.fact 37 (f := .glo "BodyLook") rfl), cls := He.cls_ok (c.t.d.fact 38 (f := .cls "BodyLook") rfl), BodyLook_init := v_BodyLook_init, BodyLook_is_right := v_BodyLook_is_right, BodyLook_seen_in := v_BodyLook_seen_in, BodyLook_binds := v_BodyLook_binds, BodyLook_fits := v_BodyLook_fits, mkr := (by rw [e_BodyLook_init]; exact He.mkr_ok (c.t.d.fact 39 (f := .mkr "BodyLook") rfl)), na_bodies := He.noat_ok (c.t.d.fact 44 (f := .noat "BodyLook" "bodies") rfl), na_bound := He.noat_ok (c.t.d.fact 45 (f := .noat "BodyLook" "bound") rfl), na_c := He.noat_ok (c.t.d.fact 46 (f := .noat "BodyLook" "c") rfl), na_further := He.noat_ok (c.t.d.fact 47 (f := .noat "BodyLook" "further") rfl), na_params := He.noat_ok (c.t.d.fact 48 (f := .noat "BodyLook" "params") rfl), na_singles := He.noat_ok (c.t.d.fact 49 (f := .noat "BodyLook" "singles") rfl), na_tables := He.noat_ok (c.t.d.fact 50 (f := .noat "BodyLook" "tables") rfl), n_all := He.free_ok X G (c.t.d.fact 77 (f := .free "all") rfl), n_bool := He.free_ok X G (c.t.d.fact 76 (f := .free "bool") rfl), n_enumerate := He.free_ok X G (c.t.d.fact 80 (f := .free "enumerate") rfl), n_int := He.free_ok X G (c.t.d.fact 75 (f := .free "int") rfl), n_isinstance := He.free_ok X G (c.t.d.fact 71 (f := .free "isinstance") rfl), n_len := He.free_ok X G (c.t.d.fact 70 (f := .free "len") rfl), n_list := He.free_ok X G (c.t.d.fact 73 (f := .free "list") rfl), n_max := He.free_ok X G (c.t.d.fact 84 (f := .free "max") rfl), n_min := He.free_ok X G (c.t.d.fact 85 (f := .free "min") rfl), n_range := He.free_ok X G (c.t.d.fact 81 (f := .free "range") rfl), n_set := He.free_ok X G (c.t.d.fact 79 (f := .free "set") rfl), n_sorted := He.free_ok X G (c.t.d.fact 82 (f := .free "sorted") rfl), n_str := He.free_ok X G (c.t.d.fact 74 (f := .free "str") rfl), n_sum := He.free_ok X G (c.t.d.fact 83 (f := .free "sum") rfl), n_tuple := He.free_ok X G (c.t.d.fact 72 (f := .free "tuple") rfl), n_zip := He.free_ok X G (c.t.d.fact 78 (f := .free "zip") rfl), t_MOST_BODIES := t_MOST_BODIES, i_MOST_BODIES := i_MOST_BODIES, t_MOST_LOCALS := t_MOST_LOCALS, i_MOST_LOCALS := i_MOST_LOCALS, t_MOST_SIGNS := t_MOST_SIGNS, i_MOST_SIGNS := i_MOST_SIGNS, t_MOST_SINGLES := t_MOST_SINGLES, i_MOST_SINGLES := i_MOST_SINGLES, t_MOST_TABLES := t_MOST_TABLES, i_MOST_TABLES := i_MOST_TABLES, t_MOST_WITHIN := t_MOST_WITHIN, i_MOST_WITHIN := i_MOST_WITHIN, d_PLACES := He.ga K "PLACES", g_PLACES := He.glo_ok X G (c.t.d.fact 0 (f := .glo "PLACES") rfl), W_PLACES := wd_PLACES X G c, d_ROWS := He.ga K "ROWS", g_ROWS := He.glo_ok X G (c.t.d.fact 1 (f := .glo "ROWS") rfl), W_ROWS := wd_ROWS X G c, d_SIZES := He.ga K "SIZES", g_SIZES := He.glo_ok X G (c.t.d.fact 19 (f := .glo "SIZES") rfl), W_SIZES := wd_SIZES X G c, d_OPS := He.ga K "OPS", g_OPS := He.glo_ok X G (c.t.d.fact 20 (f := .glo "OPS") rfl), W_OPS := wd_OPS X G c, d_STOPS := He.ga K "STOPS", g_STOPS := He.glo_ok X G (c.t.d.fact 21 (f := .glo "STOPS") rfl), W_STOPS := wd_STOPS X G c, d_CLOSED := He.ga K "CLOSED", g_CLOSED := He.glo_ok X G (c.t.d.fact 22 (f := .glo "CLOSED") rfl), W_CLOSED := wd_CLOSED X G c, d_ALONE := He.ga K "ALONE", g_ALONE := He.glo_ok X G (c.t.d.fact 23 (f := .glo "ALONE") rfl), W_ALONE := wd_ALONE X G c }⟩
end
end K70
set_option maxRecDepth 100000
set_option maxHeartbeats 1000000
namespace K70
open PySem PySem.Spec PyProof.Rows L2 DL
theorem bits_lt {z : Int} {b : Nat} (h : Builtin.Int.intBits z ≤ b) (hb : 0 < b) : z.natAbs < 2 ^ b := by
  unfold Builtin.Int.intBits at h
  by_cases e : z = 0
  · subst e
    exact Nat.pow_pos (by decide)
  · have e0 : z.natAbs ≠ 0 := by omega
    have e1 : (z == 0) = false := by simpa using e
    rw [e1] at h
    simp only [Bool.false_eq_true, if_false] at h
    exact (Nat.log2_lt e0).mp (by omega)
theorem says_ok {K : PySem.W.Frag} {C : Addr} {b : Nat} (hb : b ≤ 2000000) (hb2 : 64 ≤ b) (H : Hp) (a : Addr) (ns : List Int) (hl : ns.length ≤ 63) (hz : ∀ z ∈ ns, Builtin.Int.intBits z ≤ b) (hS : SqL K H a (ns.map V.int)) : spD K (F_law C) [.ref a] H (fun v _ => v = .bl true) fun _ _ _ => False := by
  refine ⟨H, fun _ => none, [.scr ns], fun x _ => x = .bl true, ⟨Sub.refl _, fun _ _ e => by cases e⟩, .cons (.scr hS) .nil, law_ok hb hb2 hl (fun z hzm => bits_lt (hz z hzm) (by omega)) fun _ => rfl, fun x M' e Hi' v H' _ _ r => ?_⟩
  subst e
  cases r
  rfl
end K70
open PySem PySem.W PySem.Calls PyProof.Rows
theorem PySem.Challenge.cw_linearmix_k70_reach_holds : PySem.Challenge.rw_linearmix_k70_reach.Holds := by
  w_on; o_law
  refine HandSHeadRun.head_any (r := K70.R) (q := view K70.R.prog [63]) (H := K70.hk) (ob := K70.ob) (M := 8000) (loose := K70.loose) (d := HandSHeadRun.topDef K70.R.prog 63) (kwd := []) K70.ob_eq
    (by kernel_rfl) (fun s => by kernel_rfl) K70.run (by kernel_rfl) (by kernel_rfl) (by kernel_rfl) (by rfl) (by first | assumption | decide +kernel) (by decide +kernel) ⟨rfl, rfl, rfl, rfl, rfl, by decide +kernel⟩ ?hw ?hc
  case hw => w_witness2
  case hc =>
    refine LamX.walk_ofTsE (l := PySem.Challenge.rw_linearmix_k70_reach) (n := 63) (k := 11) (x := "_law_script") (CX := fun _ => L2.CX0) rfl (by decide) (by kernel_rfl) ⟨rfl, by decide, by decide⟩ ?F (fun _ _ _ _ _ z => z)
    intro w mg fa h Y G hmg0
    obtain ⟨K, KX, c⟩ := Y
    have hmg : mg ("law" : PySem.Str) = some (.ref fa) := by
      have e : (HandSHeadRun.topDef K70.R.prog 63).name = ("law" : PySem.Str) := by kernel_rfl
      rw [← e]
      exact hmg0
    obtain ⟨Φ⟩ := K70.phi_ok KX G c
    have ef := hmg.symm.trans Φ.law.g
    cases ef
    refine ⟨K, KX, Φ.law.fd, [], DL.spD K (K70.F_law Φ.C), fun p hp => (by cases hp), fun p hp => (by cases hp), fun p hp => (by cases hp), fun s u => L2.FunD.bindsA (ps := ["_law_script"]) Φ.law.F (fun _ _ _ _ _ _ us hl => match us, hl with | [_], _ => rfl) s [u] rfl, fun H a ns hl hz _ hS => K70.says_ok (b := 1048576) (by decide) (by decide) H a ns hl hz hS, fun base _ _ _ => K70.ok_law Φ⟩
