import PyProof.Rows.All
import Wide.All
import OpenK.AllK
import Wide.FinOn
import HandS.ForMost
import HandS.ForExc
import HandS.TupAny
import HandS.IsInst
import HandS.Deep
import HandS.More
import HandS.Small
import HandS.CallLocal
import HandS.Set
import HandS.SetFor
import HandS.Strs
import PyProof.Rows.SortShellAny
import HandS.Style
import PyProof.EnumMake
import PyProof.Draws
import KE.GoesMore
import HandS.RaiseMore
import HandS.TryOnly
import HandS.WordsExc
import PyProof.InstEq
import KE.KExcSuper
import HandS.ExcInit
import HandS.Nested
import HandS.ExcField
import HandS.TryMany
import HandS.TupMul
import HandS.Text
import HandS.Iter
import HandS.ExcIs
import PySem.Challenge.RW_putoffpiles_k04_whole_texts_there_and_ba
set_option Elab.async false
set_option linter.all false
set_option maxRecDepth 100000
set_option maxHeartbeats 4000000
/-! DL1: values as data (D), what represents them (Rep), what stays (Stay), readings over data lifted to the hand layer's. -/
namespace DL
open PySem PySem.Spec L2

inductive D where
  | non | bl (b : Bool) | int (i : Int) | str (x : Str) | tup (ds : List D) | lst (ds : List D) | dic (kvs : List (Key × D)) | obj (C : Addr) (fs : List (Str × D)) | ref (a : Addr) | ty (n : String) | scr (ns : List Int) | exc (a C : Addr) (od : Option Addr) (fs : List (Str × D))

/-- what is known of an object that may change -/
inductive GO where
  | lst (ds : List D) | dic (kvs : List (Key × D)) | ins (C : Addr) (fs : List (Str × D))
abbrev Gh := Addr → Option GO
def gup (G : Gh) (a : Addr) (o : GO) : Gh := fun b => if b = a then some o else G b
theorem gup_same {G : Gh} {a : Addr} {o : GO} : gup G a o a = some o := by unfold gup; rw [if_pos rfl]
theorem gup_ne {G : Gh} {a b : Addr} {o : GO} (h : b ≠ a) : gup G a o b = G b := by unfold gup; rw [if_neg h]
theorem gup_gup {G : Gh} {a : Addr} {o u : GO} : gup (gup G a o) a u = gup G a u := by
  funext b; unfold gup; split <;> rfl
theorem gup_id {G : Gh} {a : Addr} {o : GO} (h : G a = some o) : gup G a o = G := by
  funext b; unfold gup; split
  · rename_i e; rw [e, h]
  · rfl

/-- what is frozen; what is guarded while something runs -/
structure FP where
  fz : Addr → Prop
  pr : Addr → Prop
def FP.has (F : FP) (a : Addr) : Prop := F.fz a ∨ F.pr a
def FP.add (F : FP) (p : Addr) : FP := ⟨fun a => F.fz a ∨ a = p, F.pr⟩
def FP.guard (F : FP) (p : Addr) : FP := ⟨F.fz, fun a => F.pr a ∨ a = p⟩
def FP.free (F : FP) (p : Addr) : FP := ⟨F.fz, fun a => F.pr a ∧ a ≠ p⟩
/-- the script: a list that nobody may change -/
def ScrOk (K : PySem.W.Frag) (H : Hp) (F : FP) (a : Addr) (ns : List Int) : Prop :=
  ns.length ≤ sizeLine ∧ ((F.fz a ∧ Rd H a (.lst (ns.map .int))) ∨ ∀ H', SqL K H' a (ns.map .int))
section
variable (K : PySem.W.Frag)
mutual
inductive Rep (H : Hp) (F : FP) : D → V → Prop
  | non : Rep H F .non .non
  | bl (b : Bool) : Rep H F (.bl b) (.bl b)
  | int (i : Int) : Rep H F (.int i) (.int i)
  | str (x : Str) (h : x.length ≤ sizeLine) : Rep H F (.str x) (.str x)
  | ref (a : Addr) : Rep H F (.ref a) (.ref a)
  | ty (n : String) : Rep H F (.ty n) (.ty n)
  | scr {a : Addr} {ns : List Int} (h : ScrOk K H F a ns) : Rep H F (.scr ns) (.ref a)
  | tup {a : Addr} {vs : List V} {ds : List D} (h : SqT K H a vs) (hl : ds.length ≤ sizeLine) (r : Reps H F ds vs) : Rep H F (.tup ds) (.ref a)
  | lst {a : Addr} {vs : List V} {ds : List D} (f : F.fz a) (h : H a = some (.lst vs)) (hl : ds.length ≤ sizeLine) (r : Reps H F ds vs) : Rep H F (.lst ds) (.ref a)
  | dic {a : Addr} {ks : List (Key × V)} {kvs : List (Key × D)} (f : F.fz a) (h : H a = some (.dK ks)) (hl : kvs.length ≤ sizeLine) (r : RepK H F kvs ks) : Rep H F (.dic kvs) (.ref a)
  | obj {a C dx : Addr} {vs : List (Str × V)} {fs : List (Str × D)} (f : F.fz a) (h : H a = some (.ins C dx vs)) (r : RepF H F fs vs) : Rep H F (.obj C fs) (.ref a)
  | exc0 {a C : Addr} : Rep H F (.exc a C none []) (.ref a)
  | exc {a C dx : Addr} {vs : List (Str × V)} {fs : List (Str × D)} (f : F.fz dx) (h : H dx = some (.xd vs)) (r : RepF H F fs vs) : Rep H F (.exc a C (some dx) fs) (.ref a)
inductive Reps (H : Hp) (F : FP) : List D → List V → Prop
  | nil : Reps H F [] []
  | cons {d : D} {v : V} {ds : List D} {vs : List V} (r : Rep H F d v) (t : Reps H F ds vs) : Reps H F (d :: ds) (v :: vs)
inductive RepK (H : Hp) (F : FP) : List (Key × D) → List (Key × V) → Prop
  | nil : RepK H F [] []
  | cons {k : Key} {d : D} {v : V} {ds : List (Key × D)} {vs : List (Key × V)} (r : Rep H F d v) (t : RepK H F ds vs) : RepK H F ((k, d) :: ds) ((k, v) :: vs)
inductive RepF (H : Hp) (F : FP) : List (Str × D) → List (Str × V) → Prop
  | nil : RepF H F [] []
  | cons {k : Str} {d : D} {v : V} {ds : List (Str × D)} {vs : List (Str × V)} (r : Rep H F d v) (t : RepF H F ds vs) : RepF H F ((k, d) :: ds) ((k, v) :: vs)
end
/-- tuples and what is frozen stay -/
structure StayF (H : Hp) (F : FP) (H' : Hp) (F' : FP) : Prop where
  tup : ∀ a vs, SqT K H a vs → SqT K H' a vs
  fz : ∀ a, F.fz a → F'.fz a
  at_ : ∀ a, F.fz a → H' a = H a
/-- .. and what is guarded -/
structure Stay (H : Hp) (F : FP) (H' : Hp) (F' : FP) : Prop extends StayF K H F H' F' where
  pr : ∀ a, F.pr a → F'.pr a ∧ H' a = H a
end

section
variable {K : PySem.W.Frag} {H H' H'' : Hp} {F F' F'' : FP}
theorem Stay.refl : Stay K H F H F := ⟨⟨fun _ _ h => h, fun _ h => h, fun _ _ => rfl⟩, fun _ h => ⟨h, rfl⟩⟩
theorem Stay.trans (a : Stay K H F H' F') (b : Stay K H' F' H'' F'') : Stay K H F H'' F'' :=
  ⟨⟨fun x vs h => b.tup x vs (a.tup x vs h), fun x h => b.fz x (a.fz x h), fun x h => (b.at_ x (a.fz x h)).trans (a.at_ x h)⟩, fun x h => ⟨(b.pr x (a.pr x h).1).1, (b.pr x (a.pr x h).1).2.trans (a.pr x h).2⟩⟩
theorem ScrOk.stayF (s : StayF K H F H' F') {a : Addr} {ns : List Int} (h : ScrOk K H F a ns) : ScrOk K H' F' a ns :=
  ⟨h.1, h.2.imp (fun ⟨f, r⟩ => ⟨s.fz a f, r.imp (fun e => (s.at_ a f).trans e) fun ⟨o, e⟩ => ⟨o, (s.at_ a f).trans e⟩⟩) id⟩
mutual
theorem Rep.stayF (s : StayF K H F H' F') : ∀ {d : D} {v : V}, Rep K H F d v → Rep K H' F' d v
  | _, _, .non => .non
  | _, _, .bl b => .bl b
  | _, _, .int i => .int i
  | _, _, .str x h => .str x h
  | _, _, .ref a => .ref a
  | _, _, .ty n => .ty n
  | _, _, .scr h => .scr (h.stayF s)
  | _, _, .tup h hl r => .tup (s.tup _ _ h) hl (Reps.stayF s r)
  | _, _, .lst f h hl r => .lst (s.fz _ f) ((s.at_ _ f).trans h) hl (Reps.stayF s r)
  | _, _, .dic f h hl r => .dic (s.fz _ f) ((s.at_ _ f).trans h) hl (RepK.stayF s r)
  | _, _, .obj f h r => .obj (s.fz _ f) ((s.at_ _ f).trans h) (RepF.stayF s r)
  | _, _, .exc0 => .exc0
  | _, _, .exc f h r => .exc (s.fz _ f) ((s.at_ _ f).trans h) (RepF.stayF s r)
theorem Reps.stayF (s : StayF K H F H' F') : ∀ {ds : List D} {vs : List V}, Reps K H F ds vs → Reps K H' F' ds vs
  | _, _, .nil => .nil
  | _, _, .cons r t => .cons (Rep.stayF s r) (Reps.stayF s t)
theorem RepK.stayF (s : StayF K H F H' F') : ∀ {ds : List (Key × D)} {vs : List (Key × V)}, RepK K H F ds vs → RepK K H' F' ds vs
  | _, _, .nil => .nil
  | _, _, .cons r t => .cons (Rep.stayF s r) (RepK.stayF s t)
theorem RepF.stayF (s : StayF K H F H' F') : ∀ {ds : List (Str × D)} {vs : List (Str × V)}, RepF K H F ds vs → RepF K H' F' ds vs
  | _, _, .nil => .nil
  | _, _, .cons r t => .cons (Rep.stayF s r) (RepF.stayF s t)
end

theorem Rep.stay (s : Stay K H F H' F') {d : D} {v : V} (r : Rep K H F d v) : Rep K H' F' d v := r.stayF s.toStayF
theorem Reps.stay (s : Stay K H F H' F') {d : List D} {v : List V} (r : Reps K H F d v) : Reps K H' F' d v := r.stayF s.toStayF
theorem RepK.stay (s : Stay K H F H' F') {d : List (Key × D)} {v : List (Key × V)} (r : RepK K H F d v) : RepK K H' F' d v := r.stayF s.toStayF
theorem RepF.stay (s : Stay K H F H' F') {d : List (Str × D)} {v : List (Str × V)} (r : RepF K H F d v) : RepF K H' F' d v := r.stayF s.toStayF

theorem Reps.length : ∀ {ds : List D} {vs : List V}, Reps K H F ds vs → ds.length = vs.length
  | _, _, .nil => rfl
  | _, _, .cons _ t => by simp [Reps.length t]
theorem Reps.get : ∀ {ds : List D} {vs : List V} {i : Nat} {d : D}, Reps K H F ds vs → ds[i]? = some d → ∃ v, vs[i]? = some v ∧ Rep K H F d v
  | _, _, _, _, .nil, e => by simp at e
  | _, _, 0, _, .cons r _, e => by simp at e; subst e; exact ⟨_, rfl, r⟩
  | _, _, i + 1, d, .cons _ t, e => by
    obtain ⟨v, h1, h2⟩ := Reps.get (i := i) (d := d) t (by simpa using e)
    exact ⟨v, by simpa using h1, h2⟩
theorem Reps.append : ∀ {ds es : List D} {vs ws : List V}, Reps K H F ds vs → Reps K H F es ws → Reps K H F (ds ++ es) (vs ++ ws)
  | _, _, _, _, .nil, s => s
  | _, _, _, _, .cons r t, s => .cons r (Reps.append t s)
theorem Reps.set {d : D} {v : V} (r : Rep K H F d v) : ∀ {ds : List D} {vs : List V} (i : Nat), Reps K H F ds vs → Reps K H F (ds.set i d) (vs.set i v)
  | _, _, _, .nil => .nil
  | _, _, 0, .cons _ t => .cons r t
  | _, _, i + 1, .cons q t => .cons q (Reps.set r i t)
theorem Reps.take : ∀ {ds : List D} {vs : List V} (n : Nat), Reps K H F ds vs → Reps K H F (ds.take n) (vs.take n)
  | _, _, 0, _ => .nil
  | _, _, _ + 1, .nil => .nil
  | _, _, n + 1, .cons r t => .cons r (Reps.take n t)
theorem Reps.drop : ∀ {ds : List D} {vs : List V} (n : Nat), Reps K H F ds vs → Reps K H F (ds.drop n) (vs.drop n)
  | _, _, 0, r => r
  | _, _, _ + 1, .nil => .nil
  | _, _, n + 1, .cons _ t => Reps.drop n t
theorem Reps.snoc {ds : List D} {vs : List V} {d : D} {v : V} (t : Reps K H F ds vs) (r : Rep K H F d v) : Reps K H F (ds ++ [d]) (vs ++ [v]) := t.append (.cons r .nil)
theorem Reps.reverse {ds : List D} {vs : List V} (t : Reps K H F ds vs) : Reps K H F ds.reverse vs.reverse := by
  induction ds generalizing vs with
  | nil => cases t; exact .nil
  | cons d ds ih => cases t with | cons r t => rw [List.reverse_cons, List.reverse_cons]; exact (ih t).snoc r
theorem Reps.ints : ∀ {ns : List Int} {vs : List V}, Reps K H F (ns.map D.int) vs → vs = ns.map V.int
  | [], _, .nil => rfl
  | n :: ns, _, .cons r t => by cases r; rw [Reps.ints t]; rfl
theorem Reps.of_ints : ∀ (ns : List Int), Reps K H F (ns.map D.int) (ns.map V.int)
  | [] => .nil
  | n :: ns => .cons (.int n) (Reps.of_ints ns)
theorem RepF.lookup (f : Str) : ∀ {ds : List (Str × D)} {vs : List (Str × V)}, RepF K H F ds vs → (∀ d, ds.lookup f = some d → ∃ v, vs.lookup f = some v ∧ Rep K H F d v) ∧ (ds.lookup f = none → vs.lookup f = none)
  | _, _, .nil => ⟨fun _ e => (by simp at e), fun _ => rfl⟩
  | _, _, .cons (k := k) r t => by
    obtain ⟨h1, h2⟩ := RepF.lookup f t
    by_cases e : f = k
    · subst e
      refine ⟨fun d q => ?_, fun q => ?_⟩
      · rw [List.lookup_cons_self] at q; cases q
        exact ⟨_, List.lookup_cons_self, r⟩
      · rw [List.lookup_cons_self] at q; cases q
    · have eb : (f == k) = false := beq_eq_false_iff_ne.mpr e
      refine ⟨fun d q => ?_, fun q => ?_⟩
      · simp only [List.lookup_cons, eb] at q ⊢
        exact h1 d q
      · simp only [List.lookup_cons, eb] at q ⊢
        exact h2 q
theorem RepK.length : ∀ {ds : List (Key × D)} {vs : List (Key × V)}, RepK K H F ds vs → ds.length = vs.length
  | _, _, .nil => rfl
  | _, _, .cons _ t => by simp [RepK.length t]
end

/-! ### slots, the objects that may change -/
abbrev DSt := List (Option D)
section
variable (K : PySem.W.Frag)
inductive RelSt (H : Hp) (F : FP) : DSt → St → Prop
  | nil : RelSt H F [] []
  | no {o : Option V} {sd : DSt} {sv : St} (t : RelSt H F sd sv) : RelSt H F (none :: sd) (o :: sv)
  | so {d : D} {v : V} {sd : DSt} {sv : St} (r : Rep K H F d v) (t : RelSt H F sd sv) : RelSt H F (some d :: sd) (some v :: sv)
def GOk (H : Hp) (F : FP) (a : Addr) : GO → Prop
  | .lst ds => ds.length ≤ sizeLine ∧ ∃ vs, H a = some (.lst vs) ∧ Reps K H F ds vs
  | .dic kvs => kvs.length ≤ sizeLine ∧ ∃ ks, H a = some (.dK ks) ∧ RepK K H F kvs ks
  | .ins C fs => ∃ dx vs, H a = some (.ins C dx vs) ∧ RepF K H F fs vs
structure RelG (H : Hp) (F : FP) (G : Gh) : Prop where
  fo : ∀ a, F.has a → ∃ u, H a = some u
  dj : ∀ a, F.fz a → ¬ F.pr a
  g : ∀ a o, G a = some o → ¬ F.has a ∧ GOk K H F a o
end
section
variable {K : PySem.W.Frag} {H H' : Hp} {F F' : FP} {G : Gh} {sd : DSt} {sv : St}
theorem RelSt.stayF (s : StayF K H F H' F') {sd : DSt} {sv : St} (h : RelSt K H F sd sv) : RelSt K H' F' sd sv := by
  induction h with
  | nil => exact .nil
  | no _ ih => exact .no ih
  | so r _ ih => exact .so (r.stayF s) ih
theorem RelSt.stay (s : Stay K H F H' F') {sd : DSt} {sv : St} (h : RelSt K H F sd sv) : RelSt K H' F' sd sv := h.stayF s.toStayF
theorem RelSt.get {sd : DSt} {sv : St} (h : RelSt K H F sd sv) : ∀ {i : Nat} {d : D}, sd[i]? = some (some d) → ∃ v, sv[i]? = some (some v) ∧ Rep K H F d v := by
  induction h with
  | nil => intro i d e; simp at e
  | no _ ih =>
    intro i d e
    cases i with
    | zero => simp at e
    | succ i => simpa using ih (by simpa using e)
  | so r _ ih =>
    intro i d e
    cases i with
    | zero => simp at e; subst e; exact ⟨_, rfl, r⟩
    | succ i => simpa using ih (by simpa using e)
theorem RelSt.set {d : D} {v : V} (r : Rep K H F d v) {sd : DSt} {sv : St} (h : RelSt K H F sd sv) : ∀ (i : Nat), RelSt K H F (sd.set i (some d)) (sv.set i (some v)) := by
  induction h with
  | nil => intro i; exact .nil
  | no t ih =>
    intro i
    cases i with
    | zero => exact .so r t
    | succ i => exact .no (ih i)
  | so q t ih =>
    intro i
    cases i with
    | zero => exact .so r t
    | succ i => exact .so q (ih i)
theorem RelSt.clear {sd : DSt} {sv : St} (h : RelSt K H F sd sv) : ∀ (i : Nat) (o : Option V), RelSt K H F (sd.set i none) (sv.set i o) := by
  induction h with
  | nil => intro i o; exact .nil
  | no t ih =>
    intro i o
    cases i with
    | zero => exact .no t
    | succ i => exact .no (ih i o)
  | so q t ih =>
    intro i o
    cases i with
    | zero => exact .no t
    | succ i => exact .so q (ih i o)
theorem RelSt.start : ∀ {ds : List D} {vs : List V}, Reps K H F ds vs → ∀ n, RelSt K H F (ds.map some ++ List.replicate n none) (vs.map some ++ List.replicate n none)
  | _, _, .nil, n => by
    induction n with
    | zero => exact .nil
    | succ n ih => exact .no ih
  | _, _, .cons r t, n => .so r (RelSt.start t n)
/-- a heap where what F and G know is as it was -/
theorem RelG.keep (g : RelG K H F G) (s : StayF K H F H' F') (fo : ∀ a, F'.has a → ∃ u, H' a = some u) (dj : ∀ a, F'.fz a → ¬ F'.pr a) (k : ∀ a o, G a = some o → H' a = H a ∧ ¬ F'.has a) : RelG K H' F' G := ⟨fo, dj, fun a o e => by
  obtain ⟨nf, q⟩ := g.g a o e
  obtain ⟨k1, k2⟩ := k a o e
  refine ⟨k2, ?_⟩
  cases o with
  | lst ds => obtain ⟨hl, vs, h, r⟩ := q; exact ⟨hl, vs, k1.trans h, r.stayF s⟩
  | dic kvs => obtain ⟨hl, vs, h, r⟩ := q; exact ⟨hl, vs, k1.trans h, r.stayF s⟩
  | ins C fs => obtain ⟨dx, vs, h, r⟩ := q; exact ⟨dx, vs, k1.trans h, r.stayF s⟩⟩
theorem GOk.there {a : Addr} {o : GO} (q : GOk K H F a o) : ∃ u, H a = some u := by
  cases o with
  | lst ds => obtain ⟨_, vs, h, _⟩ := q; exact ⟨_, h⟩
  | dic kvs => obtain ⟨_, vs, h, _⟩ := q; exact ⟨_, h⟩
  | ins C fs => obtain ⟨dx, vs, h, _⟩ := q; exact ⟨_, h⟩
theorem RelG.there (g : RelG K H F G) {a : Addr} {o : GO} (e : G a = some o) : ∃ u, H a = some u := (g.g a o e).2.there
theorem RelG.gnone (g : RelG K H F G) {a : Addr} (h : H a = none) : G a = none := by
  cases e : G a with
  | none => rfl
  | some o => obtain ⟨u, q⟩ := g.there e; rw [h] at q; cases q
/-- fewer objects known -/
def Sub (G0 G : Gh) : Prop := ∀ a o, G0 a = some o → G a = some o
theorem Sub.refl {G : Gh} : Sub G G := fun _ _ h => h
theorem Sub.trans {A B C : Gh} (h : Sub A B) (k : Sub B C) : Sub A C := fun a o e => k a o (h a o e)
theorem Sub.up {G0 G : Gh} {p : Addr} {o : GO} (h : Sub G0 G) (n : G0 p = none) : Sub G0 (gup G p o) := fun a u e => by
  by_cases q : a = p
  · subst q; rw [n] at e; cases e
  · rw [gup_ne q]; exact h a u e
theorem RelG.sub {G0 : Gh} (g : RelG K H F G) (s : Sub G0 G) : RelG K H F G0 := ⟨g.fo, g.dj, fun a o e => g.g a o (s a o e)⟩
/-- a new object is laid -/
theorem Stay.laid {p : Addr} {o : HO} (n : H p = none) (nf : ¬ F.has p) : Stay K H F (upd H p o) F := by
  refine ⟨⟨fun a vs h => ?_, fun _ h => h, fun a h => ?_⟩, fun a h => ⟨h, ?_⟩⟩
  · rcases h with (h | ⟨ob, h⟩) | h
    · exact .inl (.inl (by rw [upd_ne (ne_of_none h n)]; exact h))
    · exact .inl (.inr ⟨ob, by rw [upd_ne (ne_of_none h n)]; exact h⟩)
    · exact .inr h
  · exact upd_ne (fun e => nf (e ▸ .inl h))
  · exact upd_ne (fun e => nf (e ▸ .inr h))
end
end DL

/-! DL2: readings over data, lifted; expressions. -/
namespace DL
open PySem PySem.Spec L2

abbrev DQ := D → Gh → Prop
abbrev DE := DSt → Gh → DQ → Prop
abbrev DT := DSt → Gh → (Bool → Gh → Prop) → Prop
abbrev DA := DSt → Gh → (List D → Gh → Prop) → Prop
section
variable {α β : Type} (K : PySem.W.Frag) (R : Hp → FP → α → β → Prop)
/-- what is wanted over data is enough for what is wanted over the heap -/
def Kt (H : Hp) (F : FP) (Qd : α → Gh → Prop) (Q : β → Hp → Prop) : Prop :=
  ∀ F' a G' b H', Stay K H F H' F' → R H' F' a b → RelG K H' F' G' → Qd a G' → Q b H'
def liftG (t : DSt → Gh → (α → Gh → Prop) → Prop) : L2.St → Hp → (β → Hp → Prop) → Prop := fun σ H Q => ∃ F σd G Qd, RelSt K H F σd σ ∧ RelG K H F G ∧ t σd G Qd ∧ Kt K R H F Qd Q
end
abbrev REq {α : Type} : Hp → FP → α → α → Prop := fun _ _ a b => a = b
abbrev lift (K : PySem.W.Frag) (t : DE) : TE := liftG K (Rep K) t
abbrev liftT (K : PySem.W.Frag) (t : DT) : TT := liftG K REq t
abbrev liftA (K : PySem.W.Frag) (t : DA) : TA := liftG K (Reps K) t
section
variable {α β : Type} {K : PySem.W.Frag} {R : Hp → FP → α → β → Prop} {H H' : Hp} {F F' : FP} {Qd : α → Gh → Prop} {Q : β → Hp → Prop}
theorem Kt.go (k : Kt K R H F Qd Q) (s : Stay K H F H' F') : Kt K R H' F' Qd Q := fun F2 a G2 b H2 s2 r g q => k F2 a G2 b H2 (s.trans s2) r g q
theorem Kt.here (k : Kt K R H F Qd Q) {a : α} {b : β} {G : Gh} (r : R H F a b) (g : RelG K H F G) (q : Qd a G) : Q b H := k F a G b H .refl r g q
/-- the first of two: its wish over data -/
theorem lift_bind {t : DSt → Gh → (α → Gh → Prop) → Prop} {σd : DSt} {σ : L2.St} {G : Gh} (hs : RelSt K H F σd σ) (hg : RelG K H F G) (h : t σd G Qd)
    (k : ∀ F' a G' b H', Stay K H F H' F' → RelSt K H' F' σd σ → R H' F' a b → RelG K H' F' G' → Qd a G' → Q b H') : liftG K R t σ H Q :=
  ⟨F, σd, G, Qd, hs, hg, h, fun F' a G' b H' s r g q => k F' a G' b H' s (hs.stay s) r g q⟩
end
section
variable {X : Cx} {e a b c : Expr} {t ta tb tc : DE} {pos : Pos}
theorem PE.weak {T U : TE} (h : PE X e T) (i : ∀ σ H Q, U σ H Q → T σ H Q) : PE X e U := ⟨fun pins s σ H Q I q => h.run pins s σ H Q I (i σ H Q q)⟩
theorem PT.weak {T U : TT} (h : PT X e T) (i : ∀ σ H Q, U σ H Q → T σ H Q) : PT X e U := ⟨fun pins s σ H Q I q => h.run pins s σ H Q I (i σ H Q q)⟩
theorem PS.weak {st : Stmt} {T U : TS} (h : PS X st T) (i : ∀ D σ H, U D σ H → T D σ H) : PS X st U := ⟨fun pins s σ H D I q => h.run pins s σ H D I (i D σ H q)⟩
theorem PSs.weak {st : List Stmt} {T U : TS} (h : PSs X st T) (i : ∀ D σ H, U D σ H → T D σ H) : PSs X st U := ⟨fun pins s σ H D I q => h.run pins s σ H D I (i D σ H q)⟩

/-! ### names, constants -/
def slot (σ : DSt) (i : Nat) : Option D := (σ[i]?).join
def wVar (i : Nat) : DE := fun σ G Q => match slot σ i with | some d => Q d G | none => False
def wC (d : D) : DE := fun _ G Q => Q d G
theorem slot_some {σ : DSt} {i : Nat} {d : D} (h : slot σ i = some d) : σ[i]? = some (some d) := by
  unfold slot at h
  cases q : σ[i]? with
  | none => rw [q] at h; cases h
  | some o => rw [q] at h; cases o with
    | none => cases h
    | some u => simp at h; subst h; rfl
theorem dv (i : Nat) {x : Str} {pos : Pos} (hN : X.N[i]? = some x := by rfl) (hv : Vis X.env.scope x := by first | exact Or.inl rfl | exact Or.inr (Or.inl rfl) | exact Or.inr (Or.inr rfl)) (hd : (x == ("__debug__" : Str)) = false := by decide)
    (hcd : (x == ("__classdict__" : Str)) = false := by decide) : PE X (.Name x pos) (lift X.K (wVar i)) := by
  refine PE.weak (pe_var hN hv hd hcd) fun σ H Q h => ?_
  obtain ⟨F, σd, G, Qd, hs, hg, h, k⟩ := h
  unfold wVar at h
  split at h
  · rename_i d e
    obtain ⟨v, e1, r⟩ := hs.get (slot_some e)
    exact ⟨v, e1, k.here r hg h⟩
  · exact h.elim
theorem PE.ofC {d : D} {v : V} (h : PE X e (tC v)) (r : ∀ H F, Rep X.K H F d v) : PE X e (lift X.K (wC d)) :=
  PE.weak h fun σ H Q ⟨F, σd, G, Qd, hs, hg, h, k⟩ => k.here (r _ _) hg h
theorem de_int {i j pos} : PE X (.Constant (.int i) j pos) (lift X.K (wC (.int i))) := PE.ofC pe_int fun _ _ => .int i
theorem de_bl {b j pos} : PE X (.Constant (.bool b) j pos) (lift X.K (wC (.bl b))) := PE.ofC pe_bl fun _ _ => .bl b
theorem de_non {j pos} : PE X (.Constant .none j pos) (lift X.K (wC .non)) := PE.ofC pe_non fun _ _ => .non
theorem de_str {x j pos} (h : x.length ≤ sizeLine := by decide +kernel) : PE X (.Constant (.str x) j pos) (lift X.K (wC (.str x))) := PE.ofC pe_str fun _ _ => .str x h
/-- a module's constant -/
theorem de_gint {x : Str} {i : Int} {tk : Tok} {pos : Pos} (hg : Gl X x) (hm : X.mg x = some (.int i tk)) (hd : (x == ("__debug__" : Str)) = false := by decide) : PE X (.Name x pos) (lift X.K (wC (.int i))) := PE.ofC (pe_glob (v := .int i) hg hm ⟨tk, rfl⟩ hd) fun _ _ => .int i
theorem de_gstr {x y : Str} {tk : Tok} {pos : Pos} (hg : Gl X x) (hm : X.mg x = some (.str y tk)) (hl : y.length ≤ sizeLine := by decide +kernel) (hd : (x == ("__debug__" : Str)) = false := by decide) : PE X (.Name x pos) (lift X.K (wC (.str y))) := PE.ofC (pe_glob (v := .str y) hg hm ⟨tk, rfl⟩ hd) fun _ _ => .str y hl
/-- a def, a class of the module as a value -/
theorem de_gref {x : Str} {f : Addr} {pos : Pos} (hg : Gl X x) (hm : X.mg x = some (.ref f)) (hd : (x == ("__debug__" : Str)) = false := by decide) : PE X (.Name x pos) (lift X.K (wC (.ref f))) := PE.ofC (pe_glob (v := .ref f) hg hm rfl hd) fun _ _ => .ref f
/-- a built-in class as a value -/
theorem de_bty {x : Str} {n : String} {pos : Pos} (hg : Gl X x) (hm : X.mg x = none) (hv : bootBuiltins x = some (.type n)) (hn : x ≠ "__name__" := by decide) (hd : (x == ("__debug__" : Str)) = false := by decide) : PE X (.Name x pos) (lift X.K (wC (.ty n))) :=
  PE.ofC (pe_bltn (v := .ty n) hg hm hv rfl hn hd) fun _ _ => .ty n

/-! ### operators by values -/
abbrev DR2 := D → D → Gh → DQ → Prop
def OpD (K : PySem.W.Frag) (R : R2) (r : DR2) : Prop := ∀ F H G x y v w Qd Q, Rep K H F x v → Rep K H F y w → RelG K H F G → r x y G Qd → Kt K (Rep K) H F Qd Q → R v w H Q
def wOp (r : DR2) (ta tb : DE) : DE := fun σ G Q => ta σ G fun x G1 => tb σ G1 fun y G2 => r x y G2 Q
theorem tOp_lift {K : PySem.W.Frag} {R : R2} {r : DR2} (hr : OpD K R r) {σ H Q} (h : lift K (wOp r ta tb) σ H Q) : tOp R (lift K ta) (lift K tb) σ H Q := by
  obtain ⟨F, σd, G, Qd, hs, hg, h, k⟩ := h
  exact lift_bind hs hg h fun F1 x G1 v H1 s1 hs1 r1 g1 q1 => lift_bind hs1 g1 q1 fun F2 y G2 u H2 s2 hs2 r2 g2 q2 => hr F2 H2 G2 x y v u Qd Q (r1.stay s2) r2 g2 q2 (k.go (s1.trans s2))
theorem de_op {op : Operator} {R : R2} {r : DR2} (ho : OpR X (binaryOp op) R) (hr : OpD X.K R r) (ha : PE X a (lift X.K ta)) (hb : PE X b (lift X.K tb)) : PE X (.BinOp a op b pos) (lift X.K (wOp r ta tb)) :=
  PE.weak (pe_op ho ha hb) fun _ _ _ => tOp_lift hr
theorem de_cmp {op : CmpOp} {R : R2} {r : DR2} (ho : OpR X (compareOp op) R) (hr : OpD X.K R r) (ha : PE X a (lift X.K ta)) (hb : PE X b (lift X.K tb)) (hm : behindInMarks op b = false) : PE X (.Compare a [op] [b] pos) (lift X.K (wOp r ta tb)) :=
  PE.weak (pe_cmpR ho ha hb hm) fun _ _ _ => tOp_lift hr
/-- a value that is a bool, as a test -/
def wB (t : DE) : DT := fun σ G Q => t σ G fun x G1 => match x with | .bl k => Q k G1 | _ => False
theorem tTest_lift {K : PySem.W.Frag} {T : TE} (h : ∀ σ H Q, lift K t σ H Q → T σ H Q) {σ H Q} (q : liftT K (wB t) σ H Q) : tTest T σ H Q := by
  obtain ⟨F, σd, G, Qd, hs, hg, q, k⟩ := q
  refine h _ _ _ (lift_bind hs hg q fun F1 x G1 v H1 s1 hs1 r1 g1 q1 => ?_)
  cases r1 with
  | bl c => exact ⟨c, rfl, (k.go s1).here rfl g1 q1⟩
  | _ => exact q1.elim
theorem dt_cmp {op : CmpOp} {R : R2} {r : DR2} (ho : OpR X (compareOp op) R) (hr : OpD X.K R r) (ha : PE X a (lift X.K ta)) (hb : PE X b (lift X.K tb)) (hm : behindInMarks op b = false) : PT X (.Compare a [op] [b] pos) (liftT X.K (wB (wOp r ta tb))) :=
  PT.weak (pt_cmpR ho ha hb hm) fun _ _ _ => tTest_lift fun _ _ _ => tOp_lift hr
theorem dt_val (h : PE X e (lift X.K t)) (he : ∀ whole, isTrue e X.env whole = (do let v ← whole; standAt e.pos; holding [v] (truthy v)) := by intro _; rfl) : PT X e (liftT X.K (wB t)) :=
  PT.weak (pt_val h he) fun _ _ _ => tTest_lift (T := lift X.K t) fun _ _ _ q => q
/-- a < b < c -/
def wChain (r r' : DR2) (ta tb tc : DE) : DE := fun σ G Q => ta σ G fun x G1 => tb σ G1 fun y G2 => r x y G2 fun z G3 => match z with
  | .bl true => tc σ G3 fun u G4 => r' y u G4 Q
  | .bl false => Q (.bl false) G3
  | _ => False
theorem tChain_lift {K : PySem.W.Frag} {R R' : R2} {r r' : DR2} (hr : OpD K R r) (hr' : OpD K R' r') {σ H Q} (h : lift K (wChain r r' ta tb tc) σ H Q) : tChain R R' (lift K ta) (lift K tb) (lift K tc) σ H Q := by
  obtain ⟨F, σd, G, Qd, hs, hg, h, k⟩ := h
  refine lift_bind hs hg h fun F1 x G1 v H1 s1 hs1 r1 g1 q1 => lift_bind hs1 g1 q1 fun F2 y G2 u H2 s2 hs2 r2 g2 q2 => hr F2 H2 G2 x y v u _ _ (r1.stay s2) r2 g2 q2 fun F3 z G3 z' H3 s3 r3 g3 q3 => ?_
  cases r3 with
  | bl c =>
    refine ⟨c, rfl, ?_⟩
    cases c with
    | true =>
      exact iteT (lift_bind (hs2.stay s3) g3 q3 fun F4 z G4 z' H4 s4 hs4 r4 g4 q4 => hr' F4 H4 G4 y z u z' Qd Q ((r2.stay s3).stay s4) r4 g4 q4 (k.go (((s1.trans s2).trans s3).trans s4)))
    | false => exact iteF ((k.go ((s1.trans s2).trans s3)).here (.bl false) g3 q3)
  | _ => exact q3.elim
theorem de_chain {op op' : CmpOp} {R R' : R2} {r r' : DR2} (ho : OpR X (compareOp op) R) (ho' : OpR X (compareOp op') R') (hr : OpD X.K R r) (hr' : OpD X.K R' r') (ha : PE X a (lift X.K ta)) (hb : PE X b (lift X.K tb)) (hc : PE X c (lift X.K tc))
    (hm : lastMarks [op, op'] [b, c] = false := by with_unfolding_all rfl) : PE X (.Compare a [op, op'] [b, c] pos) (lift X.K (wChain r r' ta tb tc)) :=
  PE.weak (pe_chain ho ho' ha hb hc hm) fun _ _ _ => tChain_lift hr hr'
theorem dt_chain {op op' : CmpOp} {R R' : R2} {r r' : DR2} (ho : OpR X (compareOp op) R) (ho' : OpR X (compareOp op') R') (hr : OpD X.K R r) (hr' : OpD X.K R' r') (ha : PE X a (lift X.K ta)) (hb : PE X b (lift X.K tb)) (hc : PE X c (lift X.K tc))
    (hm : lastMarks [op, op'] [b, c] = false := by with_unfolding_all rfl) : PT X (.Compare a [op, op'] [b, c] pos) (liftT X.K (wB (wChain r r' ta tb tc))) :=
  PT.weak (pt_chain ho ho' ha hb hc hm) fun _ _ _ => tTest_lift fun _ _ _ => tChain_lift hr hr'

/-! ### and, or, not, if -/
variable {tA tB' : DT} {rest : List Expr}
def wAnd (t u : DT) : DT := fun σ G Q => t σ G fun c G1 => if c = true then u σ G1 Q else Q false G1
def wOr (t u : DT) : DT := fun σ G Q => t σ G fun c G1 => if c = true then Q true G1 else u σ G1 Q
def wNot (t : DT) : DT := fun σ G Q => t σ G fun c G1 => Q (!c) G1
theorem dw_and1 (ha : PT X a (liftT X.K tA)) : PW X (.BoolOp .And [a] pos) (liftT X.K tA) := pw_and1 ha
theorem dw_or1 (ha : PT X a (liftT X.K tA)) : PW X (.BoolOp .Or [a] pos) (liftT X.K tA) := pw_or1 ha
theorem PW.weak {T U : TT} (h : PW X e T) (i : ∀ σ H Q, U σ H Q → T σ H Q) : PW X e U := ⟨fun wh pins s σ H Q I q => h.run wh pins s σ H Q I (i σ H Q q)⟩
theorem dw_and (ha : PT X a (liftT X.K tA)) (hb : PW X (.BoolOp .And (b :: rest) pos) (liftT X.K tB')) : PW X (.BoolOp .And (a :: b :: rest) pos) (liftT X.K (wAnd tA tB')) :=
  PW.weak (pw_and ha hb) fun σ H Q ⟨F, σd, G, Qd, hs, hg, h, k⟩ => lift_bind hs hg h fun F1 x G1 v H1 s1 hs1 r1 g1 q1 => by
    subst r1
    cases x with
    | true => rw [if_pos rfl] at q1; exact iteT ⟨F1, σd, G1, Qd, hs1, g1, q1, k.go s1⟩
    | false => rw [if_neg Bool.false_ne_true] at q1; exact iteF ((k.go s1).here rfl g1 q1)
theorem dw_or (ha : PT X a (liftT X.K tA)) (hb : PW X (.BoolOp .Or (b :: rest) pos) (liftT X.K tB')) : PW X (.BoolOp .Or (a :: b :: rest) pos) (liftT X.K (wOr tA tB')) :=
  PW.weak (pw_or ha hb) fun σ H Q ⟨F, σd, G, Qd, hs, hg, h, k⟩ => lift_bind hs hg h fun F1 x G1 v H1 s1 hs1 r1 g1 q1 => by
    subst r1
    cases x with
    | true => rw [if_pos rfl] at q1; exact iteT ((k.go s1).here rfl g1 q1)
    | false => rw [if_neg Bool.false_ne_true] at q1; exact iteF ⟨F1, σd, G1, Qd, hs1, g1, q1, k.go s1⟩
theorem dt_not (ha : PT X a (liftT X.K tA)) : PT X (.UnaryOp .Not a pos) (liftT X.K (wNot tA)) :=
  PT.weak (pt_not ha) fun σ H Q ⟨F, σd, G, Qd, hs, hg, h, k⟩ => lift_bind hs hg h fun F1 x G1 v H1 s1 hs1 r1 g1 q1 => by
    subst r1
    exact (k.go s1).here rfl g1 q1
/-- .. as values -/
def wAndV (ta tb : DE) : DE := fun σ G Q => ta σ G fun x G1 => match x with | .bl true => tb σ G1 Q | .bl false => Q (.bl false) G1 | _ => False
def wOrV (ta tb : DE) : DE := fun σ G Q => ta σ G fun x G1 => match x with | .bl true => Q (.bl true) G1 | .bl false => tb σ G1 Q | _ => False
def wNotV (ta : DE) : DE := fun σ G Q => ta σ G fun x G1 => match x with | .bl c => Q (.bl (!c)) G1 | _ => False
theorem de_one {op} (h : PE X a (lift X.K t)) : PE X (.BoolOp op [a] pos) (lift X.K t) := pe_one h
theorem de_and (ha : PE X a (lift X.K ta)) (hb : PE X (.BoolOp .And (b :: rest) pos) (lift X.K tb)) : PE X (.BoolOp .And (a :: b :: rest) pos) (lift X.K (wAndV ta tb)) :=
  PE.weak (pe_and ha hb) fun σ H Q ⟨F, σd, G, Qd, hs, hg, h, k⟩ => lift_bind hs hg h fun F1 x G1 v H1 s1 hs1 r1 g1 q1 => by
    cases r1 with
    | bl c =>
      refine ⟨c, rfl, ?_⟩
      cases c with
      | true => exact iteT ⟨F1, σd, G1, Qd, hs1, g1, q1, k.go s1⟩
      | false => exact iteF ((k.go s1).here (.bl false) g1 q1)
    | _ => exact q1.elim
theorem de_or (ha : PE X a (lift X.K ta)) (hb : PE X (.BoolOp .Or (b :: rest) pos) (lift X.K tb)) : PE X (.BoolOp .Or (a :: b :: rest) pos) (lift X.K (wOrV ta tb)) :=
  PE.weak (pe_or ha hb) fun σ H Q ⟨F, σd, G, Qd, hs, hg, h, k⟩ => lift_bind hs hg h fun F1 x G1 v H1 s1 hs1 r1 g1 q1 => by
    cases r1 with
    | bl c =>
      refine ⟨c, rfl, ?_⟩
      cases c with
      | true => exact iteT ((k.go s1).here (.bl true) g1 q1)
      | false => exact iteF ⟨F1, σd, G1, Qd, hs1, g1, q1, k.go s1⟩
    | _ => exact q1.elim
theorem de_not (ha : PE X a (lift X.K ta)) : PE X (.UnaryOp .Not a pos) (lift X.K (wNotV ta)) :=
  PE.weak (pe_not ha) fun σ H Q ⟨F, σd, G, Qd, hs, hg, h, k⟩ => lift_bind hs hg h fun F1 x G1 v H1 s1 hs1 r1 g1 q1 => by
    cases r1 with
    | bl c => exact ⟨c, rfl, (k.go s1).here (.bl _) g1 q1⟩
    | _ => exact q1.elim
def wIf (t : DT) (ta tb : DE) : DE := fun σ G Q => t σ G fun c G1 => if c = true then ta σ G1 Q else tb σ G1 Q
theorem de_if (hc : PT X c (liftT X.K tA)) (ha : PE X a (lift X.K ta)) (hb : PE X b (lift X.K tb)) : PE X (.IfExp c a b pos) (lift X.K (wIf tA ta tb)) :=
  PE.weak (pe_ifExp hc ha hb) fun σ H Q ⟨F, σd, G, Qd, hs, hg, h, k⟩ => lift_bind hs hg h fun F1 x G1 v H1 s1 hs1 r1 g1 q1 => by
    subst r1
    cases x with
    | true => rw [if_pos rfl] at q1; exact iteT ⟨F1, σd, G1, Qd, hs1, g1, q1, k.go s1⟩
    | false => rw [if_neg Bool.false_ne_true] at q1; exact iteF ⟨F1, σd, G1, Qd, hs1, g1, q1, k.go s1⟩

/-! ### arguments, displays -/
variable {es : List Expr} {u : DA}
def wNil : DA := fun _ G Q => Q [] G
def wCons (ta : DE) (tr : DA) : DA := fun σ G Q => ta σ G fun x G1 => tr σ G1 fun xs G2 => Q (x :: xs) G2
theorem PA.weak {T U : TA} (h : PA X es T) (i : ∀ σ H Q, U σ H Q → T σ H Q) : PA X es U := ⟨fun p pins s σ H Q I q => h.run p pins s σ H Q I (i σ H Q q)⟩
theorem da_nil : PA X [] (liftA X.K wNil) := PA.weak pa_nil fun σ H Q ⟨F, σd, G, Qd, hs, hg, h, k⟩ => k.here .nil hg h
theorem da_cons (ha : PE X e (lift X.K t)) (hr : PA X es (liftA X.K u)) (hs : starEach (e :: es) X.env = (false, eval e X.env) :: starEach es X.env := by rfl) : PA X (e :: es) (liftA X.K (wCons t u)) :=
  PA.weak (pa_cons ha hr hs) fun σ H Q ⟨F, σd, G, Qd, hs, hg, h, k⟩ => lift_bind hs hg h fun F1 x G1 v H1 s1 hs1 r1 g1 q1 => lift_bind hs1 g1 q1 fun F2 y G2 w H2 s2 hs2 r2 g2 q2 =>
    (k.go (s1.trans s2)).here (.cons (r1.stay s2) r2) g2 q2
theorem RelG.tupled {K : PySem.W.Frag} {H : Hp} {F : FP} {G : Gh} (g : RelG K H F G) {p : Addr} {o : HO} (n : H p = none) : ¬ F.has p ∧ Stay K H F (upd H p o) F ∧ RelG K (upd H p o) F G := by
  have nf : ¬ F.has p := fun f => by obtain ⟨u, q⟩ := g.fo p f; rw [n] at q; cases q
  have s : Stay K H F (upd H p o) F := .laid n nf
  refine ⟨nf, s, g.keep s.toStayF (fun a f => ?_) g.dj fun a ob e => ⟨upd_ne fun q => ?_, (g.g a ob e).1⟩⟩
  · obtain ⟨u, q⟩ := g.fo a f
    exact ⟨u, by rw [upd_ne (ne_of_none q n)]; exact q⟩
  · obtain ⟨u, z⟩ := g.there e
    rw [q, n] at z; cases z
theorem Rep.newTup {K : PySem.W.Frag} {H : Hp} {F : FP} {p : Addr} {ds : List D} {vs : List V} (s : Stay K H F (upd H p (.tup vs)) F) (hl : ds.length ≤ sizeLine) (r : Reps K H F ds vs) : Rep K (upd H p (.tup vs)) F (.tup ds) (.ref p) :=
  .tup (SqT.of upd_same) hl (r.stay s)
/-- (a, b, ..) -/
def wTup (t : DA) : DE := fun σ G Q => t σ G fun xs G1 => xs.length ≤ sizeLine ∧ Q (.tup xs) G1
theorem de_tup {x1} (h : PA X es (liftA X.K u)) : PE X (.Tuple es x1 pos) (lift X.K (wTup u)) :=
  PE.weak (pe_tup h) fun σ H Q ⟨F, σd, G, Qd, hs, hg, h, k⟩ => lift_bind hs hg h fun F1 x G1 v H1 s1 hs1 r1 g1 q1 => by
    refine ⟨by rw [← r1.length]; exact q1.1, fun p hp => ?_⟩
    obtain ⟨nf, s, g⟩ := g1.tupled (o := .tup v) hp
    exact k _ _ _ _ _ (s1.trans s) (.newTup s q1.1 r1) g q1.2
/-- a new object is taken into G -/
theorem RelG.made {K : PySem.W.Frag} {H : Hp} {F : FP} {G : Gh} (g : RelG K H F G) {p : Addr} {o : HO} {u : GO} (n : H p = none) (q : GOk K (upd H p o) F p u) : RelG K (upd H p o) F (gup G p u) := by
  obtain ⟨nf, s, g'⟩ := g.tupled (o := o) n
  refine ⟨g'.fo, g'.dj, fun a ob e => ?_⟩
  by_cases z : a = p
  · subst z; rw [gup_same] at e; cases e; exact ⟨nf, q⟩
  · rw [gup_ne z] at e; exact g'.g a ob e
/-- [a, b, ..] that may change -/
def wLst (t : DA) : DE := fun σ G Q => t σ G fun xs G1 => xs.length ≤ sizeLine ∧ ∀ p, G1 p = none → Q (.ref p) (gup G1 p (.lst xs))
theorem de_lst (h : PA X es (liftA X.K u)) : PE X (.List es pos) (lift X.K (wLst u)) :=
  PE.weak (pe_lst h) fun σ H Q ⟨F, σd, G, Qd, hs, hg, h, k⟩ => lift_bind hs hg h fun F1 x G1 v H1 s1 hs1 r1 g1 q1 => by
    refine ⟨by rw [← r1.length]; exact q1.1, fun p hp => ?_⟩
    obtain ⟨nf, s, g⟩ := g1.tupled (o := .lst v) hp
    exact k _ _ _ _ _ (s1.trans s) (.ref p) (g1.made (u := .lst x) hp ⟨q1.1, v, upd_same, r1.stay s⟩) (q1.2 p (g1.gnone hp))
/-- what is frozen: one more -/
theorem Stay.froze {K : PySem.W.Frag} {H : Hp} {F : FP} {p : Addr} : Stay K H F H (F.add p) := ⟨⟨fun _ _ h => h, fun _ h => .inl h, fun _ _ => rfl⟩, fun _ h => ⟨h, rfl⟩⟩
theorem RelG.froze {K : PySem.W.Frag} {H : Hp} {F : FP} {G : Gh} (g : RelG K H F G) {p : Addr} {u : HO} (n : G p = none) (q : H p = some u) (np : ¬ F.pr p) : RelG K H (F.add p) G :=
  g.keep Stay.froze.toStayF (fun a h => by
    rcases h with (h | h) | h
    · exact g.fo a (.inl h)
    · exact ⟨u, h ▸ q⟩
    · exact g.fo a (.inr h)) (fun a h => h.elim (g.dj a) fun e => e ▸ np) fun a o e => ⟨rfl, fun h => by
    rcases h with (h | h) | h
    · exact (g.g a o e).1 (.inl h)
    · rw [h, n] at e; cases e
    · exact (g.g a o e).1 (.inr h)⟩
/-- [a, b, ..] that is never changed: a value -/
def wLstV (t : DA) : DE := fun σ G Q => t σ G fun xs G1 => xs.length ≤ sizeLine ∧ Q (.lst xs) G1
theorem froze_list {K : PySem.W.Frag} {H : Hp} {F : FP} {G : Gh} (g : RelG K H F G) {p : Addr} {ds : List D} {vs : List V} (n : H p = none) (hl : ds.length ≤ sizeLine) (r : Reps K H F ds vs) :
    Stay K H F (upd H p (.lst vs)) (F.add p) ∧ Rep K (upd H p (.lst vs)) (F.add p) (.lst ds) (.ref p) ∧ RelG K (upd H p (.lst vs)) (F.add p) G := by
  obtain ⟨nf, s, g'⟩ := g.tupled (o := .lst vs) n
  have s2 := s.trans (Stay.froze (K := K) (p := p))
  exact ⟨s2, .lst (.inr rfl) upd_same hl (r.stay s2), g'.froze (g.gnone n) upd_same fun z => nf (.inr z)⟩
theorem de_lstV (h : PA X es (liftA X.K u)) : PE X (.List es pos) (lift X.K (wLstV u)) :=
  PE.weak (pe_lst h) fun σ H Q ⟨F, σd, G, Qd, hs, hg, h, k⟩ => lift_bind hs hg h fun F1 x G1 v H1 s1 hs1 r1 g1 q1 => by
    refine ⟨by rw [← r1.length]; exact q1.1, fun p hp => ?_⟩
    obtain ⟨s, r, g⟩ := froze_list g1 hp q1.1 r1
    exact k _ _ _ _ _ (s1.trans s) r g q1.2
end
end DL

/-! DL3: operators and built-in calls by values. -/
namespace DL
open PySem PySem.Spec L2

/-! ### what a thing holds -/
def goL : Option GO → Option (List D)
  | some (.lst ds) => some ds
  | _ => none
def goK : Option GO → Option (List (Key × D))
  | some (.dic kvs) => some kvs
  | _ => none
def listOf (G : Gh) : D → Option (List D)
  | .lst ds => some ds
  | .ref a => goL (G a)
  | _ => none
def itemsOf (G : Gh) : D → Option (List D)
  | .tup ds => some ds
  | .lst ds => some ds
  | .ref a => goL (G a)
  | _ => none
def dictOf (G : Gh) : D → Option (List (Key × D))
  | .dic kvs => some kvs
  | .ref a => goK (G a)
  | _ => none
def keyOf : D → Option Key
  | .int i => some (.inl i)
  | .str x => some (.inr x)
  | _ => none
def valD (kvs : List (Key × D)) (k : Key) : Option D := (kvs.find? fun kv => decide (kv.1 = k)).map (·.2)
section
variable {K : PySem.W.Frag} {H : Hp} {F : FP} {G : Gh}
theorem goL_some {o : Option GO} {ds : List D} (h : goL o = some ds) : o = some (.lst ds) := by
  cases o with
  | none => cases h
  | some u => cases u <;> cases h; rfl
theorem goK_some {o : Option GO} {ds : List (Key × D)} (h : goK o = some ds) : o = some (.dic ds) := by
  cases o with
  | none => cases h
  | some u => cases u <;> cases h; rfl
theorem list_rep {d : D} {v : V} {ds : List D} (r : Rep K H F d v) (g : RelG K H F G) (h : listOf G d = some ds) : ds.length ≤ sizeLine ∧ ∃ a vs, v = .ref a ∧ H a = some (.lst vs) ∧ Reps K H F ds vs := by
  cases r with
  | lst f h1 h2 h3 => cases h; exact ⟨h2, _, _, rfl, h1, h3⟩
  | ref a =>
    obtain ⟨_, hl, vs, q1, q2⟩ := g.g a _ (goL_some h)
    exact ⟨hl, _, _, rfl, q1, q2⟩
  | _ => cases h
theorem items_rep {d : D} {v : V} {ds : List D} (r : Rep K H F d v) (g : RelG K H F G) (h : itemsOf G d = some ds) : ds.length ≤ sizeLine ∧ ∃ a vs, v = .ref a ∧ (SqL K H a vs ∨ SqT K H a vs) ∧ Reps K H F ds vs := by
  cases r with
  | tup h1 h2 h3 => cases h; exact ⟨h2, _, _, rfl, .inr h1, h3⟩
  | lst f h1 h2 h3 => cases h; exact ⟨h2, _, _, rfl, .inl (SqL.of h1), h3⟩
  | ref a =>
    obtain ⟨_, hl, vs, q1, q2⟩ := g.g a _ (goL_some h)
    exact ⟨hl, _, _, rfl, .inl (SqL.of q1), q2⟩
  | _ => cases h
theorem dict_rep {d : D} {v : V} {kvs : List (Key × D)} (r : Rep K H F d v) (g : RelG K H F G) (h : dictOf G d = some kvs) : kvs.length ≤ sizeLine ∧ ∃ a ks, v = .ref a ∧ H a = some (.dK ks) ∧ RepK K H F kvs ks := by
  cases r with
  | dic f h1 h2 h3 => cases h; exact ⟨h2, _, _, rfl, h1, h3⟩
  | ref a =>
    obtain ⟨_, hl, vs, q1, q2⟩ := g.g a _ (goK_some h)
    exact ⟨hl, _, _, rfl, q1, q2⟩
  | _ => cases h
theorem key_rep {d : D} {v : V} {k : Key} (r : Rep K H F d v) (h : keyOf d = some k) : v = kV k := by
  cases r <;> cases h <;> rfl
theorem repK_val {kvs : List (Key × D)} {ks : List (Key × V)} (r : RepK K H F kvs ks) (k : Key) : (∀ d, valD kvs k = some d → ∃ v, valV ks k = some v ∧ Rep K H F d v) ∧ (valD kvs k = none → valV ks k = none) := by
  induction kvs generalizing ks with
  | nil => cases r; exact ⟨fun d e => (by cases e), fun _ => rfl⟩
  | cons p t ih =>
    cases r with
    | @cons k' d' v' _ vs' r1 r2 =>
      obtain ⟨h1, h2⟩ := ih r2
      by_cases e : k' = k
      · refine ⟨fun d q => ?_, fun q => ?_⟩
        · have : valD ((k', d') :: t) k = some d' := by simp [valD, List.find?_cons, e]
          rw [this] at q; cases q
          exact ⟨v', valV_pos (p := (k', v')) e, r1⟩
        · have : valD ((k', d') :: t) k = some d' := by simp [valD, List.find?_cons, e]
          rw [this] at q; cases q
      · have e1 : valD ((k', d') :: t) k = valD t k := by simp [valD, List.find?_cons, e]
        have e2 : valV ((k', v') :: vs') k = valV vs' k := valV_neg (p := (k', v')) e
        rw [e1, e2]
        exact ⟨h1, h2⟩
theorem repK_isSome {kvs : List (Key × D)} {ks : List (Key × V)} (r : RepK K H F kvs ks) (k : Key) : (valV ks k).isSome = (valD kvs k).isSome := by
  obtain ⟨h1, h2⟩ := repK_val r k
  cases e : valD kvs k with
  | none => rw [h2 e]; rfl
  | some d => obtain ⟨v, q, _⟩ := h1 d e; rw [q]; rfl
theorem atI_rep {ds : List D} {vs : List V} {i : Int} {d : D} (r : Reps K H F ds vs) (h : atI ds i = some d) : ∃ v, atI vs i = some v ∧ Rep K H F d v := by
  unfold atI at h ⊢
  rw [← r.length]
  cases e : ixN ds.length i with
  | none => rw [e] at h; cases h
  | some j =>
    rw [e] at h
    exact r.get h
end

/-! ### arithmetic -/
def rI2 (C : Int → Int → Prop) (g : Int → Int → D) : DR2 := fun x y G Q => match x, y with | .int i, .int j => C i j ∧ Q (g i j) G | _, _ => False
def lst2 (o u : Option (List D)) (P : List D → List D → Prop) : Prop := match o, u with | some xs, some ys => P xs ys | _, _ => False
def rAdd : DR2 := fun x y G Q => match x with
  | .int i => match y with | .int j => Q (.int (i + j)) G | _ => False
  | .str i => match y with | .str j => i.length + j.length ≤ sizeLine ∧ Q (.str (i ++ j)) G | _ => False
  | .tup xs => match y with | .tup ys => xs.length + ys.length ≤ sizeLine ∧ Q (.tup (xs ++ ys)) G | _ => False
  | x => lst2 (listOf G x) (listOf G y) fun xs ys => xs.length + ys.length ≤ sizeLine ∧ Q (.lst (xs ++ ys)) G
def rSub : DR2 := fun x y G Q => match x, y with | .int i, .int j => Q (.int (i - j)) G | _, _ => False
def rMul : DR2 := rI2 CMul fun i j => .int (i * j)
def rDiv : DR2 := rI2 CDiv fun i j => .int (i / j)
def rMod : DR2 := rI2 (fun _ j => 0 < j) fun i j => .int (i % j)
def rPow : DR2 := rI2 CPow fun i j => .int (i ^ j.toNat)
def rCmpI (p : Int → Int → Bool) : DR2 := fun x y G Q => match x, y with | .int i, .int j => Q (.bl (p i j)) G | _, _ => False
section
variable {K : PySem.W.Frag}
theorem od_I2 {C : Int → Int → Prop} {g : Int → Int → Int} : OpD K (rI C fun i j => .int (g i j)) (rI2 C fun i j => .int (g i j)) := by
  intro F H G x y v w Qd Q rx ry hg h k
  cases rx <;> cases ry <;> first | exact (show False from h).elim | exact ⟨_, _, rfl, rfl, h.1, k.here (.int _) hg h.2⟩
theorem od_sub : OpD K (rI0 fun i j => .int (i - j)) rSub := by
  intro F H G x y v w Qd Q rx ry hg h k
  cases rx <;> cases ry <;> first | exact (show False from h).elim | exact ⟨_, _, rfl, rfl, k.here (.int _) hg h⟩
theorem od_cmpI {p : Int → Int → Bool} : OpD K (rI0 fun i j => .bl (p i j)) (rCmpI p) := by
  intro F H G x y v w Qd Q rx ry hg h k
  cases rx <;> cases ry <;> first | exact (show False from h).elim | exact ⟨_, _, rfl, rfl, k.here (.bl _) hg h⟩
def rStrAdd : R2 := fun x y H Q => ∃ i j, x = .str i ∧ y = .str j ∧ i.length + j.length ≤ sizeLine ∧ Q (.str (i ++ j)) H
/-- two lists (tracked, locked or written): a new one -/
def rAddV (K : PySem.W.Frag) : R2 := fun x y H Q => rI0 (fun i j => .int (i + j)) x y H Q ∨ rStrAdd x y H Q ∨ rCatA K x y H Q ∨ rCat x y H Q
theorem op_addV {X : Cx} : OpR X (binaryOp .Add) (rAddV X.K) := op_add.or (op_add_str.or (op_catA.or op_cat))
/-- a tuple laid, or one that stands -/
theorem Kt.tup {H : Hp} {F : FP} {G : Gh} {Qd : DQ} {Q : VK} (k : Kt K (Rep K) H F Qd Q) (g : RelG K H F G) {ds : List D} {vs : List V} (hl : ds.length ≤ sizeLine) (r : Reps K H F ds vs) (q : Qd (.tup ds) G) : ∀ p, H p = none → Q (.ref p) (upd H p (.tup vs)) := fun p hp => by
  obtain ⟨nf, s, g'⟩ := g.tupled (o := .tup vs) hp
  exact k _ _ _ _ _ s (.newTup s hl r) g' q
theorem Kt.lst {H : Hp} {F : FP} {G : Gh} {Qd : DQ} {Q : VK} (k : Kt K (Rep K) H F Qd Q) (g : RelG K H F G) {ds : List D} {vs : List V} (hl : ds.length ≤ sizeLine) (r : Reps K H F ds vs) (q : Qd (.lst ds) G) : ∀ p, H p = none → Q (.ref p) (upd H p (.lst vs)) := fun p hp => by
  obtain ⟨s, r', g'⟩ := froze_list g hp hl r
  exact k _ _ _ _ _ s r' g' q
theorem od_add : OpD K (rAddV K) rAdd := by
  intro F H G x y v w Qd Q rx ry hg h k
  have hlist : (lst2 (listOf G x) (listOf G y) fun xs ys => xs.length + ys.length ≤ sizeLine ∧ Qd (.lst (xs ++ ys)) G) → rAddV K v w H Q := by
    intro h
    unfold lst2 at h
    split at h
    · rename_i xs ys e1 e2
      obtain ⟨l1, a, vs, rfl, h1, r1⟩ := list_rep rx hg e1
      obtain ⟨l2, b, ws, rfl, h2, r2⟩ := list_rep ry hg e2
      exact .inr (.inr (.inr ⟨a, b, vs, ws, rfl, rfl, h1, h2, by rw [← r1.length, ← r2.length]; exact h.1, k.lst hg (by rw [List.length_append]; exact h.1) (r1.append r2) h.2⟩))
    · exact h.elim
  cases rx with
  | int i => cases ry with
    | int j => exact .inl ⟨i, j, rfl, rfl, k.here (.int _) hg h⟩
    | _ => exact (show False from h).elim
  | str i hi => cases ry with
    | str j hj => exact .inr (.inl ⟨i, j, rfl, rfl, h.1, k.here (.str _ (by rw [Str.length_append]; exact h.1)) hg h.2⟩)
    | _ => exact (show False from h).elim
  | @tup a vs ds h1 hl1 r1 => cases ry with
    | @tup b ws es h2 hl2 r2 =>
      refine .inr (.inr (.inl ⟨a, b, vs, ws, rfl, rfl, h1, h2, by rw [← r1.length, ← r2.length]; exact h.1, fun e => ?_, fun _ e => ?_, fun _ _ => ?_⟩))
      · subst e; cases r1; exact k.here (.tup h2 hl2 r2) hg (by simpa using h.2)
      · subst e; cases r2; exact k.here (.tup h1 hl1 r1) hg (by simpa using h.2)
      · exact k.tup hg (by rw [List.length_append]; exact h.1) (r1.append r2) h.2
    | _ => exact (show False from h).elim
  | _ => exact hlist h

/-! ### equality -/
mutual
def toP : D → Option PyData
  | .non => some .none
  | .bl b => some (.bool b)
  | .int i => some (.int i)
  | .str x => some (.str x)
  | .tup ds => match toPs ds with | some ps => some (.tuple ps) | none => none
  | .lst ds => match toPs ds with | some ps => some (.list ps) | none => none
  | _ => none
def toPs : List D → Option (List PyData)
  | [] => some []
  | d :: ds => match toP d with | some p => (match toPs ds with | some ps => some (p :: ps) | none => none) | none => none
end
mutual
theorem toP_rep {H : Hp} {F : FP} : ∀ {d : D} {v : V} {p : PyData}, Rep K H F d v → toP d = some p → Dp K H v p
  | _, _, _, .non, e => by simp only [toP] at e; cases e; exact .non
  | _, _, _, .bl b, e => by simp only [toP] at e; cases e; exact .bl b
  | _, _, _, .int i, e => by simp only [toP] at e; cases e; exact .int i
  | _, _, _, .str x h, e => by simp only [toP] at e; cases e; exact .str x
  | _, _, _, .ref a, e => by simp only [toP] at e; cases e
  | _, _, _, .ty n, e => by simp only [toP] at e; cases e
  | _, _, _, .scr _, e => by simp only [toP] at e; cases e
  | _, _, _, .dic _ _ _ _, e => by simp only [toP] at e; cases e
  | _, _, _, .obj _ _ _, e => by simp only [toP] at e; cases e
  | _, _, _, .tup (ds := ds) h hl r, e => by
    simp only [toP] at e
    cases q : toPs ds with
    | none => rw [q] at e; cases e
    | some ps => rw [q] at e; cases e; exact .tup h (toPs_rep r q)
  | _, _, _, .lst (ds := ds) f h hl r, e => by
    simp only [toP] at e
    cases q : toPs ds with
    | none => rw [q] at e; cases e
    | some ps => rw [q] at e; cases e; exact .lst (SqL.of h) (toPs_rep r q)
theorem toPs_rep {H : Hp} {F : FP} : ∀ {ds : List D} {vs : List V} {ps : List PyData}, Reps K H F ds vs → toPs ds = some ps → DpAll K H vs ps
  | _, _, _, .nil, e => by simp only [toPs] at e; cases e; exact .nil
  | _, _, _, .cons (d := d) (ds := ds) r t, e => by
    simp only [toPs] at e
    cases q : toP d with
    | none => rw [q] at e; cases e
    | some p =>
      rw [q] at e
      cases q2 : toPs ds with
      | none => rw [q2] at e; cases e
      | some ps => rw [q2] at e; cases e; exact .cons (toP_rep r q) (toPs_rep t q2)
end
/-- x == y (neg: x != y) -/
def rEqB (neg : Bool) : DR2 := fun x y G Q => match x, y with
  | .int i, .int j => Q (.bl (neg ^^ decide (i = j))) G
  | .str i, .str j => Q (.bl (neg ^^ decide (i = j))) G
  | .bl i, .bl j => Q (.bl (neg ^^ decide (i = j))) G
  | .non, .non => Q (.bl (neg ^^ true)) G
  | x, y => ∃ p q, toP x = some p ∧ toP y = some q ∧ SeqAt.shaped p = true ∧ SeqAt.shaped q = true ∧ Q (.bl (neg ^^ PyData.eqv p q)) G
theorem op_eqA {X : Cx} (hu : X.A.units + 64 < cLine) : OpR X (compareOp .Eq) (fun x y H Q => L2.rEq x y H Q ∨ rEqD X.K x y H Q) := op_eq.or (op_eqD hu)
theorem op_neA {X : Cx} (hu : X.A.units + 64 < cLine) : OpR X (compareOp .NotEq) (fun x y H Q => L2.rNe x y H Q ∨ rNeD X.K x y H Q) := op_ne.or (op_neD hu)
theorem od_eq : OpD K (fun x y H Q => L2.rEq x y H Q ∨ rEqD K x y H Q) (rEqB false) := by
  intro F H G x y v w Qd Q rx ry hg h k
  unfold rEqB at h
  split at h
  · cases rx; cases ry; refine .inl ⟨rfl, k.here (.bl _) hg ?_⟩; rename_i i j; simpa using h
  · cases rx; cases ry; refine .inl ⟨rfl, k.here (.bl _) hg ?_⟩; rename_i i j _ _; simpa using h
  · cases rx; cases ry; refine .inl ⟨rfl, k.here (.bl _) hg ?_⟩; rename_i i j; simpa using h
  · cases rx; cases ry; refine .inl ⟨rfl, k.here (.bl _) hg ?_⟩; simpa using h
  · obtain ⟨p, q, e1, e2, s1, s2, h⟩ := h
    exact .inr ⟨p, q, toP_rep rx e1, toP_rep ry e2, s1, s2, k.here (.bl _) hg (by simpa using h)⟩
theorem od_ne : OpD K (fun x y H Q => L2.rNe x y H Q ∨ rNeD K x y H Q) (rEqB true) := by
  intro F H G x y v w Qd Q rx ry hg h k
  unfold rEqB at h
  split at h
  · cases rx; cases ry; refine .inl ⟨rfl, k.here (.bl _) hg ?_⟩; rename_i i j; simpa using h
  · cases rx; cases ry; refine .inl ⟨rfl, k.here (.bl _) hg ?_⟩; rename_i i j _ _; simpa using h
  · cases rx; cases ry; refine .inl ⟨rfl, k.here (.bl _) hg ?_⟩; rename_i i j; simpa using h
  · cases rx; cases ry; refine .inl ⟨rfl, k.here (.bl _) hg ?_⟩; simpa using h
  · obtain ⟨p, q, e1, e2, s1, s2, h⟩ := h
    exact .inr ⟨p, q, toP_rep rx e1, toP_rep ry e2, s1, s2, k.here (.bl _) hg (by simpa using h)⟩
/-- is None, is not None -/
def rIsN (neg : Bool) : DR2 := fun x y G Q => match y with
  | .non => (match x with | .non => Q (.bl (neg ^^ true)) G | _ => Q (.bl (neg ^^ false)) G)
  | _ => False
theorem isN_rep {H : Hp} {F : FP} {x : D} {v : V} (r : Rep K H F x v) (nx : x ≠ .non) : v ≠ .non := by
  cases r <;> first | exact (nx rfl).elim | exact fun e => nomatch e
theorem od_isN : OpD K (fun x y H Q => y = .non ∧ Q (.bl (decide (x = .non))) H) (rIsN false) := by
  intro F H G x y v w Qd Q rx ry hg h k
  cases ry with
  | non =>
    refine ⟨rfl, ?_⟩
    cases rx with
    | non => exact k.here (.bl _) hg (by simpa [rIsN] using h)
    | _ => exact k.here (.bl _) hg (by simpa [rIsN] using h)
  | _ => exact (show False from h).elim
theorem od_notN : OpD K (fun x y H Q => y = .non ∧ Q (.bl (!decide (x = .non))) H) (rIsN true) := by
  intro F H G x y v w Qd Q rx ry hg h k
  cases ry with
  | non =>
    refine ⟨rfl, ?_⟩
    cases rx with
    | non => exact k.here (.bl _) hg (by simpa [rIsN] using h)
    | _ => exact k.here (.bl _) hg (by simpa [rIsN] using h)
  | _ => exact (show False from h).elim

/-! ### in -/
def flatD : D → Bool
  | .non => true | .bl _ => true | .int _ => true | .str _ => true | _ => false
def toV : D → V
  | .non => .non | .bl b => .bl b | .int i => .int i | .str x => .str x | _ => .non
def eqF (x y : D) : Bool := eqV (toV x) (toV y)
def inF (x : D) (ds : List D) : Bool := ds.any fun y => eqF y x
theorem flat_rep {H : Hp} {F : FP} {x : D} {v : V} (r : Rep K H F x v) (f : flatD x = true) : flatV v = true ∧ toV x = v := by
  cases r <;> first | exact ⟨rfl, rfl⟩ | cases f
theorem flats_rep {H : Hp} {F : FP} : ∀ {ds : List D} {vs : List V}, Reps K H F ds vs → ds.all flatD = true → vs.all flatV = true ∧ ds.map toV = vs
  | _, _, .nil, _ => ⟨rfl, rfl⟩
  | _, _, .cons r t, h => by
    simp only [List.all_cons, Bool.and_eq_true] at h
    obtain ⟨h1, h2⟩ := flat_rep r h.1
    obtain ⟨h3, h4⟩ := flats_rep t h.2
    exact ⟨by simp [h1, h3], by simp [h2, h4]⟩
def rInS (neg : Bool) : DR2 := fun x y G Q => match itemsOf G y with
  | some ds => flatD x = true ∧ ds.all flatD = true ∧ Q (.bl (neg ^^ inF x ds)) G
  | none => False
theorem od_inS (neg : Bool) : OpD K (rIn K neg) (rInS neg) := by
  intro F H G x y v w Qd Q rx ry hg h k
  unfold rInS at h
  split at h
  · rename_i ds e
    obtain ⟨fx, fs, h⟩ := h
    obtain ⟨hl, a, vs, rfl, hs, r⟩ := items_rep ry hg e
    obtain ⟨f1, e1⟩ := flat_rep rx fx
    obtain ⟨f2, e2⟩ := flats_rep r fs
    refine ⟨a, vs, rfl, hs, f1, f2, k.here (.bl _) hg ?_⟩
    have : inV v vs = inF x ds := by
      subst e1 e2
      unfold inV inF eqF
      rw [List.any_map]; rfl
    rw [this]
    cases neg <;> simpa using h
  · exact h.elim
def rInSign (neg : Bool) : DR2 := fun x y G Q => match x, y with
  | .str c, .str z => ∃ n, c = ⟨#[n]⟩ ∧ Q (.bl (neg ^^ decide (n ∈ z.cps.toList))) G
  | _, _ => False
theorem od_inSign : OpD K (fun x y H Q => ∃ (c : Nat) (z : Str), x = .str ⟨#[c]⟩ ∧ y = .str z ∧ Q (.bl (decide (c ∈ z.cps.toList))) H) (rInSign false) := by
  intro F H G x y v w Qd Q rx ry hg h k
  unfold rInSign at h
  split at h
  · obtain ⟨n, e, h⟩ := h
    subst e
    cases rx; cases ry
    exact ⟨n, _, rfl, rfl, k.here (.bl _) hg (by simpa using h)⟩
  · exact h.elim

/-! ### x[i] -/
def ixSeq (o : Option (List D)) (i : Int) (P : D → Prop) : Prop := match o with
  | some ds => (match atI ds i with | some d => P d | none => False)
  | none => False
def rIx2 : DR2 := fun x y G Q => match y with
  | .int i => (match x with
    | .str z => z.length ≤ sizeLine ∧ ∃ c, atI z.cps.toList i = some c ∧ Q (.str ⟨#[c]⟩) G
    | x => ixSeq (itemsOf G x) i fun d => Q d G)
  | _ => False
theorem od_ix : OpD K (rIx K) rIx2 := by
  intro F H G x y v w Qd Q rx ry hg h k
  cases ry with
  | int i =>
    have seq : (ixSeq (itemsOf G x) i fun d => Qd d G) → rIx K v (.int i) H Q := by
      intro h
      unfold ixSeq at h
      split at h
      · rename_i ds e
        split at h
        · rename_i d e2
          obtain ⟨hl, a, vs, rfl, hs, r⟩ := items_rep rx hg e
          obtain ⟨u, e3, r2⟩ := atI_rep r e2
          rcases hs with hs | hs
          · exact .inl ⟨a, vs, i, u, rfl, rfl, hs, e3, k.here r2 hg h⟩
          · exact .inr (.inl ⟨a, vs, i, u, rfl, rfl, hs, e3, k.here r2 hg h⟩)
        · exact h.elim
      · exact h.elim
    cases rx with
    | str z hz =>
      obtain ⟨hl, c, e, h⟩ := h
      exact .inr (.inr ⟨z, i, c, rfl, rfl, hl, e, k.here (.str _ (by show 1 ≤ sizeLine; decide)) hg h⟩)
    | _ => exact seq h
  | _ => exact (show False from h).elim
/-- one operator for values: the reading of a subscript -/
theorem de_ix {X : Cx} {a b : Expr} {ta tb : DE} {pos : Pos} {R : R2} {r : DR2} (ho : IxR X R) (hr : OpD X.K R r) (ha : PE X a (lift X.K ta)) (hb : PE X b (lift X.K tb)) (hs : PlainIx b := by exact fun _ _ => rfl) : PE X (.Subscript a b pos) (lift X.K (wOp r ta tb)) :=
  PE.weak (pe_ix ho ha hb hs) fun _ _ _ => tOp_lift hr
end
end DL

/-! DL4: built-in calls, slices, methods, fields. -/
namespace DL
open PySem PySem.Spec L2

/-! ### calls by values -/
abbrev DC := List D → Gh → DQ → Prop
def CallD (K : PySem.W.Frag) (R : List V → Hp → VK → Prop) (r : DC) : Prop := ∀ F H G ds vs Qd Q, Reps K H F ds vs → RelG K H F G → r ds G Qd → Kt K (Rep K) H F Qd Q → R vs H Q
def wCall (r : DC) (t : DA) : DE := fun σ G Q => t σ G fun xs G1 => r xs G1 Q
section
variable {X : Cx} {e : Expr} {es : List Expr} {t : DA} {x : Str} {id T : String} {R : List V → Hp → VK → Prop} {r : DC} {p pos : Pos}
theorem tCB_lift {K : PySem.W.Frag} (hr : CallD K R r) {σ H Q} (h : lift K (wCall r t) σ H Q) : tCB R (liftA K t) σ H Q := by
  obtain ⟨F, σd, G, Qd, hs, hg, h, k⟩ := h
  exact lift_bind hs hg h fun F1 x G1 v H1 s1 hs1 r1 g1 q1 => hr F1 H1 G1 x v Qd Q r1 g1 q1 (k.go s1)
theorem de_callB (hc : CallR X (.builtin id) R) (hr : CallD X.K R r) (hg : Gl X x) (hm : X.mg x = none) (hv : bootBuiltins x = some (.builtin id)) (ha : PA X (e :: es) (liftA X.K t)) (hn : x ≠ "__name__" := by decide) (hdb : (x == ("__debug__" : Str)) = false := by decide)
    (he : starEach (e :: es) X.env = (false, eval e X.env) :: starEach es X.env := by rfl) (hpl : (backTo pos (starEach es X.env)).any (·.1) = false := by rfl) : PE X (.Call (.Name x p) (e :: es) [] pos) (lift X.K (wCall r t)) :=
  PE.weak (pe_callB hc hg hm hv ha hn hdb he hpl) fun _ _ _ => tCB_lift hr
theorem de_callTy (hc : CallR X (.type T) R) (hr : CallD X.K R r) (hg : Gl X x) (hm : X.mg x = none) (hv : bootBuiltins x = some (.type T)) (ha : PA X (e :: es) (liftA X.K t)) (hn : x ≠ "__name__" := by decide) (hdb : (x == ("__debug__" : Str)) = false := by decide)
    (he : starEach (e :: es) X.env = (false, eval e X.env) :: starEach es X.env := by rfl) (hpl : (backTo pos (starEach es X.env)).any (·.1) = false := by rfl) : PE X (.Call (.Name x p) (e :: es) [] pos) (lift X.K (wCall r t)) :=
  PE.weak (pe_callTy hc hg hm hv ha hn hdb he hpl) fun _ _ _ => tCB_lift hr
end
section
variable {K : PySem.W.Frag}
def rLen : DC := fun ds G Q => match ds with
  | [x] => (match x with
    | .str z => Q (.int z.length) G
    | x => (match itemsOf G x with | some xs => Q (.int xs.length) G | none => False))
  | _ => False
theorem cd_len : CallD K (fun xs H Q => ∃ x n, xs = [x] ∧ LenV K x H n ∧ Q (.int n) H) rLen := by
  intro F H G ds vs Qd Q rs hg h k
  cases rs with
  | nil => exact (show False from h).elim
  | cons r t =>
    cases t with
    | cons _ _ => exact (show False from h).elim
    | nil =>
      rename_i x v
      have seq : (match itemsOf G x with | some xs => Qd (.int xs.length) G | none => False) → ∃ y n, [v] = [y] ∧ LenV K y H n ∧ Q (.int n) H := by
        intro h
        split at h
        · rename_i xs e
          obtain ⟨hl, a, ws, rfl, hs, r2⟩ := items_rep r hg e
          refine ⟨_, xs.length, rfl, ?_, k.here (.int _) hg h⟩
          rcases hs with hs | hs
          · exact .inl ⟨ws, hs, r2.length⟩
          · exact .inr ⟨ws, hs, r2.length⟩
        · exact h.elim
      cases r with
      | str z hz => exact ⟨_, z.length, rfl, ⟨hz, rfl⟩, k.here (.int _) hg h⟩
      | _ => exact seq h
/-- the ints, the truths of a list -/
def intsOf : List D → Option (List Int)
  | [] => some []
  | .int i :: r => (intsOf r).map (i :: ·)
  | _ => none
def blsOf : List D → Option (List Bool)
  | [] => some []
  | .bl i :: r => (blsOf r).map (i :: ·)
  | _ => none
theorem intsOf_map (ns : List Int) : intsOf (ns.map D.int) = some ns := by
  induction ns with
  | nil => rfl
  | cons n ns ih => simp [intsOf, ih]
theorem blsOf_map (ns : List Bool) : blsOf (ns.map D.bl) = some ns := by
  induction ns with
  | nil => rfl
  | cons n ns ih => simp [blsOf, ih]
theorem intsOf_rep {H : Hp} {F : FP} : ∀ {ds : List D} {vs : List V} {ns : List Int}, Reps K H F ds vs → intsOf ds = some ns → vs = ns.map V.int
  | _, _, _, .nil, e => by cases e; rfl
  | _, _, _, .cons (d := d) (ds := ds) r t, e => by
    cases r with
    | int i =>
      simp only [intsOf] at e
      cases q : intsOf ds with
      | none => rw [q] at e; cases e
      | some ms => rw [q] at e; cases e; rw [intsOf_rep t q]; rfl
    | _ => cases e
theorem blsOf_rep {H : Hp} {F : FP} : ∀ {ds : List D} {vs : List V} {ns : List Bool}, Reps K H F ds vs → blsOf ds = some ns → vs = ns.map V.bl
  | _, _, _, .nil, e => by cases e; rfl
  | _, _, _, .cons (d := d) (ds := ds) r t, e => by
    cases r with
    | bl i =>
      simp only [blsOf] at e
      cases q : blsOf ds with
      | none => rw [q] at e; cases e
      | some ms => rw [q] at e; cases e; rw [blsOf_rep t q]; rfl
    | _ => cases e
/-- sum, all, any of a list -/
def rSum : DC := fun ds G Q => match ds with
  | [x] => ∃ xs ns, listOf G x = some xs ∧ intsOf xs = some ns ∧ Q (.int ns.sum) G
  | _ => False
def rAll : DC := fun ds G Q => match ds with
  | [x] => ∃ xs ns, listOf G x = some xs ∧ blsOf xs = some ns ∧ Q (.bl (ns.all id)) G
  | _ => False
def rAny : DC := fun ds G Q => match ds with
  | [x] => ∃ xs ns, listOf G x = some xs ∧ blsOf xs = some ns ∧ Q (.bl (ns.any id)) G
  | _ => False
theorem cd_sum : CallD K (L2.rSum K) rSum := by
  intro F H G ds vs Qd Q rs hg h k
  cases rs with
  | nil => exact (show False from h).elim
  | cons r t =>
    cases t with
    | cons _ _ => exact (show False from h).elim
    | nil =>
      obtain ⟨xs, ns, e1, e2, h⟩ := h
      obtain ⟨hl, a, ws, rfl, hs, r2⟩ := list_rep r hg e1
      have e3 := intsOf_rep r2 e2
      subst e3
      exact ⟨a, ns, rfl, SqL.of hs, k.here (.int _) hg h⟩
theorem cd_all : CallD K (L2.rAll K) rAll := by
  intro F H G ds vs Qd Q rs hg h k
  cases rs with
  | nil => exact (show False from h).elim
  | cons r t =>
    cases t with
    | cons _ _ => exact (show False from h).elim
    | nil =>
      obtain ⟨xs, ns, e1, e2, h⟩ := h
      obtain ⟨hl, a, ws, rfl, hs, r2⟩ := list_rep r hg e1
      have e3 := blsOf_rep r2 e2
      subst e3
      exact ⟨a, ns, rfl, SqL.of hs, k.here (.bl _) hg h⟩
theorem cd_any : CallD K (L2.rAny K) rAny := by
  intro F H G ds vs Qd Q rs hg h k
  cases rs with
  | nil => exact (show False from h).elim
  | cons r t =>
    cases t with
    | cons _ _ => exact (show False from h).elim
    | nil =>
      obtain ⟨xs, ns, e1, e2, h⟩ := h
      obtain ⟨hl, a, ws, rfl, hs, r2⟩ := list_rep r hg e1
      have e3 := blsOf_rep r2 e2
      subst e3
      exact ⟨a, ns, rfl, SqL.of hs, k.here (.bl _) hg h⟩
/-- tuple(x), list(x) -/
def rTuple : DC := fun ds G Q => match ds with
  | [x] => (match itemsOf G x with | some xs => Q (.tup xs) G | none => False)
  | _ => False
theorem cd_tuple : CallD K (fun xs H Q => ∃ p ys, xs = [.ref p] ∧ ((SqL K H p ys ∧ ∀ l, H l = none → Q (.ref l) (upd H l (.tup ys))) ∨ (SqT K H p ys ∧ Q (.ref p) H))) rTuple := by
  intro F H G ds vs Qd Q rs hg h k
  cases rs with
  | nil => exact (show False from h).elim
  | cons r t =>
    cases t with
    | cons _ _ => exact (show False from h).elim
    | nil =>
      unfold rTuple at h
      dsimp only at h
      split at h
      · rename_i xs e
        obtain ⟨hl, a, ws, rfl, hs, r2⟩ := items_rep r hg e
        refine ⟨a, ws, rfl, ?_⟩
        rcases hs with hs | hs
        · exact .inl ⟨hs, k.tup hg hl r2 h⟩
        · exact .inr ⟨hs, k.here (.tup hs hl r2) hg h⟩
      · exact h.elim
/-- list(x): a value -/
def rList : DC := fun ds G Q => match ds with
  | [x] => (match itemsOf G x with | some xs => Q (.lst xs) G | none => False)
  | _ => False
theorem cd_list : CallD K (fun xs H Q => ∃ p ys, xs = [.ref p] ∧ (SqL K H p ys ∨ SqT K H p ys) ∧ ∀ l, H l = none → Q (.ref l) (upd H l (.lst ys))) rList := by
  intro F H G ds vs Qd Q rs hg h k
  cases rs with
  | nil => exact (show False from h).elim
  | cons r t =>
    cases t with
    | cons _ _ => exact (show False from h).elim
    | nil =>
      unfold rList at h
      dsimp only at h
      split at h
      · rename_i xs e
        obtain ⟨hl, a, ws, rfl, hs, r2⟩ := items_rep r hg e
        exact ⟨a, ws, rfl, hs, k.lst hg hl r2 h⟩
      · exact h.elim
/-- abs, int of ints -/
def rAbs : DC := fun ds G Q => match ds with | [.int i] => Q (.int (if i < 0 then -i else i)) G | _ => False
theorem cd_abs : CallD K (fun xs H Q => ∃ i, xs = [.int i] ∧ Q (.int (if i < 0 then -i else i)) H) rAbs := by
  intro F H G ds vs Qd Q rs hg h k
  unfold rAbs at h
  split at h
  · cases rs with | cons r t => cases t; cases r; exact ⟨_, rfl, k.here (.int _) hg h⟩
  · exact h.elim
def rInt : DC := fun ds G Q => match ds with | [.int i] => Q (.int i) G | _ => False
theorem cd_int : CallD K (fun xs H Q => (∃ i, xs = [.int i] ∧ Q (.int i) H) ∨ ∃ k, xs = [.bl k] ∧ Q (.int (if k then 1 else 0)) H) rInt := by
  intro F H G ds vs Qd Q rs hg h k
  unfold rInt at h
  split at h
  · cases rs with | cons r t => cases t; cases r; exact .inl ⟨_, rfl, k.here (.int _) hg h⟩
  · exact h.elim

/-! ### isinstance -/
inductive Tg where | non | bl | int | str | tup | lst | dic
  deriving DecidableEq
def Tg.nm : Tg → String
  | .non => "NoneType" | .bl => "bool" | .int => "int" | .str => "str" | .tup => "tuple" | .lst => "list" | .dic => "dict"
def goTag : Option GO → Option (Tg ⊕ Addr)
  | some (.lst _) => some (.inl .lst)
  | some (.dic _) => some (.inl .dic)
  | some (.ins C _) => some (.inr C)
  | none => none
def tagOf (G : Gh) : D → Option (Tg ⊕ Addr)
  | .non => some (.inl .non) | .bl _ => some (.inl .bl) | .int _ => some (.inl .int) | .str _ => some (.inl .str)
  | .tup _ => some (.inl .tup) | .lst _ => some (.inl .lst) | .dic _ => some (.inl .dic)
  | .obj C _ => some (.inr C)
  | .ref a => goTag (G a)
  | .ty _ => none
  | .scr _ => none
  | .exc _ _ _ _ => none
structure ObjC (K : PySem.W.Frag) (C : Addr) : Prop where
  cl : Cls K C
  ha : PySem.W.findIn K (.ref C) "__class__" = some (some (.builtin "object.__class__"))
  hn : PySem.W.specialIn K (.builtin "object.__class__") "__get__" = some (some (.builtin "getset_descriptor.__get__"))
  ht : PySem.W.takesIn K (.builtin "object.__class__") = some true
  hm : PySem.W.mroIn K C (.type "object") = some true
def tagV : Tg ⊕ Addr → Value
  | .inl t => .type t.nm
  | .inr C => .ref C
/-- what isinstance(x, c) answers, by x's type -/
structure IsA (K : PySem.W.Frag) (c : V) (ans : Tg ⊕ Addr → Option Bool) : Prop where
  ok : ∃ cv, ClsV c cv ∧ ∀ t b, ans t = some b → PySem.W.kitOne K (tagV t) cv = some b ∧ ∀ C, t = .inr C → ObjC K C
theorem tag_rep {H : Hp} {F : FP} {G : Gh} {x : D} {v : V} {t : Tg ⊕ Addr} (r : Rep K H F x v) (hg : RelG K H F G) (e : tagOf G x = some t) (hC : ∀ C, t = .inr C → ObjC K C) : TyX K H v (tagV t) := by
  cases r with
  | non => cases e; exact .base .non
  | bl b => cases e; exact .base (.bl b)
  | int i => cases e; exact .base (.int i)
  | str x h => cases e; exact .base (.str x)
  | tup h _ _ =>
    cases e
    rcases h with (h | ⟨o, h⟩) | ⟨o, its, n, h1, h2, _⟩
    · exact .base (.tup h)
    · exact .fTuple h
    · exact .kTuple h1 h2
  | lst f h _ _ => cases e; exact .base (.lst h)
  | dic f h _ _ => cases e; exact .base (.dK h)
  | exc0 => cases e
  | exc _ _ _ => cases e
  | @obj a C dx vs fs f h _ =>
    cases e
    have o := hC C rfl
    exact .base (.ins h o.cl o.ha o.hn o.ht o.hm)
  | ref a =>
    have e : goTag (G a) = some t := e
    cases q : G a with
    | none => rw [q] at e; cases e
    | some u =>
      rw [q] at e
      obtain ⟨_, ok⟩ := hg.g a u q
      cases u with
      | lst ds => cases e; obtain ⟨_, vs, h, _⟩ := ok; exact .base (.lst h)
      | dic ds => cases e; obtain ⟨_, vs, h, _⟩ := ok; exact .base (.dK h)
      | ins C fs =>
        cases e
        obtain ⟨dx, vs, h, _⟩ := ok
        have o := hC C rfl
        exact .base (.ins h o.cl o.ha o.hn o.ht o.hm)
  | ty n => cases e
  | scr _ => cases e
def isK (o : Option Bool) (P : Bool → Prop) : Prop := match o with | some b => P b | none => False
/-- isinstance(x, c), c the class that stands written -/
def rIsi (ans : Tg ⊕ Addr → Option Bool) : DC := fun ds G Q => match ds with
  | [x, _] => isK ((tagOf G x).bind ans) fun b => Q (.bl b) G
  | _ => False
def isB (T n : Tg) : Bool := decide (T = n) || (decide (T = .bl) && decide (n = .int))
theorem kitB_is (T n : Tg) : kitB T.nm n.nm = some (isB T n) := by
  cases T <;> cases n <;> decide +kernel
/-- .. c a built-in class; OC: the own classes that may come -/
def ansB (n : Tg) (OC : Addr → Bool) : Tg ⊕ Addr → Option Bool
  | .inl t => some (isB t n)
  | .inr C => if OC C then some false else none
theorem isA_B {n : Tg} {OC : Addr → Bool} (h : ∀ C, OC C = true → ObjC K C ∧ PySem.W.kitOne K (.ref C) (.type n.nm) = some false) : IsA K (.ty n.nm) (ansB n OC) := by
  refine ⟨_, .ty _, fun t b e => ?_⟩
  cases t with
  | inl t => cases e; exact ⟨kit_ty (kitB_is t n), fun C z => nomatch z⟩
  | inr C =>
    have e : (if OC C then some false else none) = some b := e
    split at e
    · rename_i q
      cases e
      exact ⟨(h C q).2, fun C' z => by cases z; exact (h C q).1⟩
    · cases e
theorem cd_isi {c : D} {cv : V} {ans : Tg ⊕ Addr → Option Bool} (A : IsA K cv ans) {F : FP} {H : Hp} {G : Gh} {x : D} {v : V} {Qd : DQ} {Q : VK} (rx : Rep K H F x v) (hg : RelG K H F G) (h : rIsi ans [x, c] G Qd) (k : Kt K (Rep K) H F Qd Q) : L2.rIsi K [v, cv] H Q := by
  obtain ⟨cv', hc, A⟩ := A.ok
  have h : isK ((tagOf G x).bind ans) fun b => Qd (.bl b) G := h
  cases e : tagOf G x with
  | none => rw [e] at h; exact (show False from h).elim
  | some t =>
    rw [e] at h
    have h : isK (ans t) fun b => Qd (.bl b) G := h
    cases e2 : ans t with
    | none => rw [e2] at h; exact h.elim
    | some b =>
      rw [e2] at h
      obtain ⟨h1, h2⟩ := A t b e2
      exact ⟨v, cv, tagV t, cv', b, rfl, hc, tag_rep rx hg e h2, h1, k.here (.bl b) hg h⟩
end
end DL

/-! DL5: isinstance, slices, methods, fields, dicts as expressions. -/
namespace DL
open PySem PySem.Spec L2

section
variable {X : Cx} {a b c e : Expr} {es : List Expr} {ta tb tc t : DE} {p pos p2 : Pos}
def wIsi (ans : Tg ⊕ Addr → Option Bool) (ta : DE) : DE := fun σ G Q => ta σ G fun x G1 => isK ((tagOf G1 x).bind ans) fun b => Q (.bl b) G1
theorem de_isi {ans : Tg ⊕ Addr → Option Bool} {cv : V} (A : IsA X.K cv ans) (hg : Gl X "isinstance") (hm : X.mg "isinstance" = none) (ha : PE X a (lift X.K ta)) (hc : PE X c (tC cv))
    (h1 : starEach [a, c] X.env = (false, eval a X.env) :: starEach [c] X.env := by rfl) (h2 : starEach [c] X.env = (false, eval c X.env) :: starEach [] X.env := by rfl) (hpl : (backTo pos (starEach [c] X.env)).any (·.1) = false := by rfl) :
    PE X (.Call (.Name "isinstance" p) [a, c] [] pos) (lift X.K (wIsi ans ta)) := by
  refine PE.weak (pe_callB call_isi hg hm PyProof.Rows.boot_isinstance (pa_cons ha (pa_cons hc pa_nil h2) h1) (by decide) (by decide) h1 hpl) fun σ H Q h => ?_
  obtain ⟨F, σd, G, Qd, hs, hg, h, k⟩ := h
  exact lift_bind hs hg h fun F1 x G1 v H1 s1 hs1 r1 g1 q1 => cd_isi (c := .non) A r1 g1 q1 (k.go s1)

/-! ### slices -/
abbrev DO := DSt → Gh → (Option Int → Gh → Prop) → Prop
abbrev liftO (K : PySem.W.Frag) (t : DO) : TO := liftG K REq t
def wNoPart : DO := fun _ G Q => Q none G
def wPart (t : DE) : DO := fun σ G Q => t σ G fun x G1 => match x with | .int i => Q (some i) G1 | _ => False
theorem PO.weak {eo : Option Expr} {T U : TO} (h : PO X eo T) (i : ∀ σ H Q, U σ H Q → T σ H Q) : PO X eo U := ⟨fun pins s σ H Q I q => h.run pins s σ H Q I (i σ H Q q)⟩
theorem do_none : PO X none (liftO X.K wNoPart) := PO.weak po_none fun σ H Q ⟨F, σd, G, Qd, hs, hg, h, k⟩ => k.here rfl hg h
theorem do_some (h : PE X e (lift X.K t)) : PO X (some e) (liftO X.K (wPart t)) := PO.weak (po_some h) fun σ H Q ⟨F, σd, G, Qd, hs, hg, h, k⟩ => lift_bind hs hg h fun F1 x G1 v H1 s1 hs1 r1 g1 q1 => by
  cases r1 with
  | int i => exact ⟨i, rfl, (k.go s1).here rfl g1 q1⟩
  | _ => exact (show False from q1).elim
def cutD (xs : List D) (lo hi : Option Int) : List D := (xs.drop (HT.sIx xs.length 0 lo)).take (HT.sIx xs.length xs.length hi - HT.sIx xs.length 0 lo)
def wSl (te : DE) (tl th : DO) : DE := fun σ G Q => te σ G fun x G1 => tl σ G1 fun lo G2 => th σ G2 fun hi G3 => match x with
  | .tup ds => Q (.tup (cutD ds lo hi)) G3
  | .str z => Q (.str (cutS z lo hi)) G3
  | .scr ns => Q (.lst (cutD (ns.map .int) lo hi)) G3
  | x => (match listOf G3 x with | some ds => Q (.lst (cutD ds lo hi)) G3 | none => False)
theorem cut_rep {K : PySem.W.Frag} {H : Hp} {F : FP} {ds : List D} {vs : List V} (r : Reps K H F ds vs) (lo hi : Option Int) : Reps K H F (cutD ds lo hi) (cutV vs lo hi) := by
  unfold cutD cutV
  rw [r.length]
  exact (r.drop _).take _
theorem cutD_length (xs : List D) (lo hi : Option Int) : (cutD xs lo hi).length ≤ xs.length := by
  unfold cutD
  rw [List.length_take, List.length_drop]
  omega
def rSlAll (K : PySem.W.Frag) : V → Option Int → Option Int → Hp → VK → Prop := fun x lo hi H Q => rSlA K x lo hi H Q ∨ rSlL K x lo hi H Q ∨ rSlS x lo hi H Q
theorem sl_all : SlR X (rSlAll X.K) := sl_tupA.or (sl_list.or sl_str)
theorem cutS_le (z : Str) (lo hi : Option Int) : (cutS z lo hi).length ≤ z.length := by
  unfold cutS
  simp only [Str.length, List.size_toArray, List.length_take, List.length_drop, Array.length_toList]
  omega
theorem de_slice {lo hi : Option Expr} {tl th : DO} (he : PE X e (lift X.K t)) (hl : PO X lo (liftO X.K tl)) (hu : PO X hi (liftO X.K th)) : PE X (.Subscript e (.Slice lo hi none p2) pos) (lift X.K (wSl t tl th)) := by
  refine PE.weak (pe_slice sl_all he hl hu) fun σ H Q ⟨F, σd, G, Qd, hs, hg, h, k⟩ => ?_
  refine lift_bind hs hg h fun F1 x G1 v H1 s1 hs1 r1 g1 q1 => lift_bind hs1 g1 q1 fun F2 l G2 l' H2 s2 hs2 e2 g2 q2 => lift_bind hs2 g2 q2 fun F3 u G3 u' H3 s3 hs3 e3 g3 q3 => ?_
  subst e2 e3
  have k3 := k.go ((s1.trans s2).trans s3)
  have r3 := (r1.stay s2).stay s3
  have seq : (match listOf G3 x with | some ds => Qd (.lst (cutD ds l u)) G3 | none => False) → rSlAll X.K v l u H3 Q := by
    intro h
    split at h
    · rename_i ds e
      obtain ⟨hl, a, vs, rfl, hs, r⟩ := list_rep r3 g3 e
      exact .inr (.inl ⟨a, vs, rfl, SqL.of hs, k3.lst g3 (Nat.le_trans (cutD_length _ _ _) hl) (cut_rep r l u) h⟩)
    · exact h.elim
  cases r3 with
  | @tup a vs ds hs hl r =>
    refine .inl ⟨a, vs, rfl, hs, fun w => ?_, fun _ => k3.tup g3 (Nat.le_trans (cutD_length _ _ _) hl) (cut_rep r l u) q3⟩
    refine k3.here (.tup hs hl r) g3 ?_
    have : cutD ds l u = ds := by
      unfold cutD
      rw [r.length, w.1, w.2, List.drop_zero, Nat.sub_zero, ← r.length, List.take_length]
    have q4 : Qd (.tup (cutD ds l u)) G3 := q3
    rw [this] at q4
    exact q4
  | str z hz => exact .inr (.inr ⟨z, rfl, hz, k3.here (.str _ (Nat.le_trans (cutS_le z l u) hz)) g3 q3⟩)
  | @scr a ns h =>
    have hq : SqL X.K H3 a (ns.map .int) := h.2.elim (fun z => .inl z.2) fun z => z H3
    exact .inr (.inl ⟨a, _, rfl, hq, k3.lst g3 (Nat.le_trans (cutD_length _ _ _) (by rw [List.length_map]; exact h.1)) (cut_rep (Reps.of_ints ns) l u) q3⟩)
  | _ => exact seq q3

/-! ### what changes -/
section
variable {K : PySem.W.Frag} {H : Hp} {F : FP} {G : Gh} {q : Addr} {o o' : GO} {u : HO}
theorem GOk.mut {a : Addr} {o : GO} (h : GOk K H F a o) : ∃ u, H a = some u ∧ (∀ xs, u ≠ .tup xs) ∧ ∀ ob w, u ≠ .frz ob w := by
  cases o with
  | lst ds => obtain ⟨_, vs, h, _⟩ := h; exact ⟨_, h, (fun _ e => by cases e), (fun _ _ e => by cases e)⟩
  | dic kvs => obtain ⟨_, vs, h, _⟩ := h; exact ⟨_, h, (fun _ e => by cases e), (fun _ _ e => by cases e)⟩
  | ins C fs => obtain ⟨dx, vs, h, _⟩ := h; exact ⟨_, h, (fun _ e => by cases e), (fun _ _ e => by cases e)⟩
theorem RelG.wr (g : RelG K H F G) (e : G q = some o) : Stay K H F (upd H q u) F := by
  obtain ⟨nf, ok⟩ := g.g q o e
  obtain ⟨w, hw, n1, n2⟩ := ok.mut
  refine ⟨⟨fun a vs h => ?_, fun _ h => h, fun a h => upd_ne fun z => nf (z ▸ .inl h)⟩, fun a h => ⟨h, upd_ne fun z => nf (z ▸ .inr h)⟩⟩
  rcases h with (h | ⟨ob, h⟩) | h
  · exact .inl (.inl (by rw [upd_ne (fun z => by rw [z, hw] at h; cases h; exact n1 _ rfl)]; exact h))
  · exact .inl (.inr ⟨ob, by rw [upd_ne (fun z => by rw [z, hw] at h; cases h; exact n2 _ _ rfl)]; exact h⟩)
  · exact .inr h
theorem RelG.write (g : RelG K H F G) (e : G q = some o) (ok : GOk K (upd H q u) F q o') : RelG K (upd H q u) F (gup G q o') := by
  have s : Stay K H F (upd H q u) F := g.wr e
  have nf := (g.g q o e).1
  refine ⟨fun a f => ?_, g.dj, fun a ob e2 => ?_⟩
  · by_cases z : a = q
    · subst z; exact (nf f).elim
    · rw [upd_ne z]; exact g.fo a f
  · by_cases z : a = q
    · subst z; rw [gup_same] at e2; cases e2; exact ⟨nf, ok⟩
    · rw [gup_ne z] at e2
      obtain ⟨nf2, ok2⟩ := g.g a ob e2
      refine ⟨nf2, ?_⟩
      cases ob with
      | lst ds => obtain ⟨hl, vs, h, r⟩ := ok2; exact ⟨hl, vs, by rw [upd_ne z]; exact h, r.stay s⟩
      | dic kvs => obtain ⟨hl, vs, h, r⟩ := ok2; exact ⟨hl, vs, by rw [upd_ne z]; exact h, r.stay s⟩
      | ins C fs => obtain ⟨dx, vs, h, r⟩ := ok2; exact ⟨dx, vs, by rw [upd_ne z]; exact h, r.stay s⟩
end
/-- found.append(y), found.extend(ys): found may change -/
def wAppend (to ta : DE) : DE := fun σ G Q => to σ G fun x G1 => match x with
  | .ref q => (goL (G1 q)).isSome = true ∧ ta σ G1 fun y G2 => (match goL (G2 q) with | some ds => ds.length < sizeLine ∧ Q .non (gup G2 q (.lst (ds ++ [y]))) | none => False)
  | _ => False
def wExtend (to ta : DE) : DE := fun σ G Q => to σ G fun x G1 => match x with
  | .ref q => (goL (G1 q)).isSome = true ∧ ta σ G1 fun y G2 => (match goL (G2 q) with
    | some ds => (match listOf G2 y with | some ys => ds.length + ys.length ≤ sizeLine ∧ Q .non (gup G2 q (.lst (ds ++ ys))) | none => False)
    | none => False)
  | _ => False
theorem de_append {apos cpos : Pos} (ho : PE X a (lift X.K ta)) (hb : PE X b (lift X.K tb))
    (hbase : attributeBase a "append" X.env (eval a X.env) = eval a X.env := by rfl)
    (hfew : ((backTo cpos (starEach [b] X.env)).all (fun x => !x.1) && (backToKw cpos (keywordEach [] X.env)).all (fun x => x.1.isSome)
      && decide ([b].length + ([] : List Keyword).length + (if ([] : List Keyword).isEmpty then 0 else 1) < 30)) = true := by rfl)
    (hline : (apos.endLine == cpos.line) = true := by rfl) (hs : starEach [b] X.env = (false, eval b X.env) :: starEach [] X.env := by rfl) (hplain : (backTo cpos (starEach [] X.env)).any (·.1) = false := by rfl) :
    PE X (.Call (.Attribute a "append" apos) [b] [] cpos) (lift X.K (wAppend ta tb)) := by
  refine PE.weak (pe_bm PySem.F.plainAttrs_list PySem.F.slot_list_append PySem.F.type_list_append mt_append ho (pa_cons hb pa_nil hs) hbase hfew hline hs hplain) fun σ H Q ⟨F, σd, G, Qd, hs, hg, h, k⟩ => ?_
  refine lift_bind hs hg h fun F1 x G1 v H1 s1 hs1 r1 g1 q1 => ?_
  cases r1 with
  | ref q =>
    obtain ⟨e, q1⟩ := q1
    obtain ⟨ds, e⟩ := Option.isSome_iff_exists.mp e
    obtain ⟨nf, hl, vs, hq, r⟩ := g1.g q _ (goL_some e)
    refine ⟨.inl ⟨rfl, _, SqL.of hq⟩, ?_⟩
    refine lift_bind hs1 g1 q1 fun F2 y G2 w H2 s2 hs2 r2 g2 q2 => ?_
    split at q2
    · rename_i ds2 e2
      obtain ⟨nf2, hl2, vs2, hq2, r3⟩ := g2.g q _ (goL_some e2)
      refine ⟨q, vs2, w, rfl, rfl, hq2, by rw [← r3.length]; exact q2.1, ?_⟩
      have s3 : Stay X.K H2 F2 (upd H2 q (.lst (vs2 ++ [w]))) F2 := g2.wr (goL_some e2)
      exact k _ _ _ _ _ ((s1.trans s2).trans s3) .non (g2.write (o' := .lst (ds2 ++ [y])) (goL_some e2) ⟨by rw [List.length_append]; simp; omega, _, upd_same, (r3.snoc r2).stay s3⟩) q2.2
    · exact q2.elim
  | _ => exact (show False from q1).elim
theorem de_extend {apos cpos : Pos} (ho : PE X a (lift X.K ta)) (hb : PE X b (lift X.K tb))
    (hbase : attributeBase a "extend" X.env (eval a X.env) = eval a X.env := by rfl)
    (hfew : ((backTo cpos (starEach [b] X.env)).all (fun x => !x.1) && (backToKw cpos (keywordEach [] X.env)).all (fun x => x.1.isSome)
      && decide ([b].length + ([] : List Keyword).length + (if ([] : List Keyword).isEmpty then 0 else 1) < 30)) = true := by rfl)
    (hline : (apos.endLine == cpos.line) = true := by rfl) (hs : starEach [b] X.env = (false, eval b X.env) :: starEach [] X.env := by rfl) (hplain : (backTo cpos (starEach [] X.env)).any (·.1) = false := by rfl) :
    PE X (.Call (.Attribute a "extend" apos) [b] [] cpos) (lift X.K (wExtend ta tb)) := by
  refine PE.weak (pe_bm PySem.F.plainAttrs_list PySem.F.slot_list_extend PySem.F.type_list_extend mt_extend ho (pa_cons hb pa_nil hs) hbase hfew hline hs hplain) fun σ H Q ⟨F, σd, G, Qd, hs, hg, h, k⟩ => ?_
  refine lift_bind hs hg h fun F1 x G1 v H1 s1 hs1 r1 g1 q1 => ?_
  cases r1 with
  | ref q =>
    obtain ⟨e, q1⟩ := q1
    obtain ⟨ds, e⟩ := Option.isSome_iff_exists.mp e
    obtain ⟨nf, hl, vs, hq, r⟩ := g1.g q _ (goL_some e)
    refine ⟨.inl ⟨rfl, _, SqL.of hq⟩, ?_⟩
    refine lift_bind hs1 g1 q1 fun F2 y G2 w H2 s2 hs2 r2 g2 q2 => ?_
    split at q2
    · rename_i ds2 e2
      split at q2
      · rename_i ys e3
        obtain ⟨nf2, hl2, vs2, hq2, r3⟩ := g2.g q _ (goL_some e2)
        obtain ⟨hl3, b', ws, rfl, hb', r4⟩ := list_rep r2 g2 e3
        refine ⟨q, b', vs2, ws, rfl, rfl, hq2, hb', by rw [← r3.length, ← r4.length]; exact q2.1, ?_⟩
        have s3 : Stay X.K H2 F2 (upd H2 q (.lst (vs2 ++ ws))) F2 := g2.wr (goL_some e2)
        exact k _ _ _ _ _ ((s1.trans s2).trans s3) .non (g2.write (o' := .lst (ds2 ++ ys)) (goL_some e2) ⟨by rw [List.length_append]; exact q2.1, _, upd_same, (r3.append r4).stay s3⟩) q2.2
      · exact q2.elim
    · exact q2.elim
  | _ => exact (show False from q1).elim

/-! ### fields -/
def goI : Option GO → Option (Addr × List (Str × D))
  | some (.ins C fs) => some (C, fs)
  | _ => none
theorem goI_some {o : Option GO} {C : Addr} {fs : List (Str × D)} (h : goI o = some (C, fs)) : o = some (.ins C fs) := by
  cases o with
  | none => cases h
  | some u => cases u <;> cases h; rfl
def objOf (G : Gh) : D → Option (Addr × List (Str × D))
  | .obj C fs => some (C, fs)
  | .ref a => goI (G a)
  | _ => none
theorem obj_rep {K : PySem.W.Frag} {H : Hp} {F : FP} {G : Gh} {d : D} {v : V} {C : Addr} {fs : List (Str × D)} (r : Rep K H F d v) (g : RelG K H F G) (h : objOf G d = some (C, fs)) : ∃ a dx vs, v = .ref a ∧ H a = some (.ins C dx vs) ∧ RepF K H F fs vs := by
  cases r with
  | obj f h1 h2 => cases h; exact ⟨_, _, _, rfl, h1, h2⟩
  | ref a =>
    obtain ⟨_, dx, vs, q1, q2⟩ := g.g a _ (goI_some h)
    exact ⟨_, _, _, rfl, q1, q2⟩
  | _ => cases h
/-- o.f of an instance of the class at C -/
def wFld (C : Addr) (f : Str) (ta : DE) : DE := fun σ G Q => ta σ G fun x G1 => match objOf G1 x with
  | some (C', fs) => C' = C ∧ (match fs.lookup f with | some d => Q d G1 | none => False)
  | none => False
theorem de_fld {C : Addr} {f : Str} (c : Cls X.K C) (n : NoAttr X.K C f) (ha : PE X a (lift X.K ta)) (hb : attributeBase a f X.env (eval a X.env) = eval a X.env := by rfl) : PE X (.Attribute a f pos) (lift X.K (wFld C f ta)) := by
  refine PE.weak (pe_fld ha hb) fun σ H Q ⟨F, σd, G, Qd, hs, hg, h, k⟩ => ?_
  refine lift_bind hs hg h fun F1 x G1 v H1 s1 hs1 r1 g1 q1 => ?_
  split at q1
  · rename_i C' fs e
    obtain ⟨rfl, q1⟩ := q1
    obtain ⟨a', dx, vs, rfl, h1, h2⟩ := obj_rep r1 g1 e
    split at q1
    · rename_i d e2
      obtain ⟨v, e3, r⟩ := (h2.lookup f).1 d e2
      exact ⟨a', C', dx, vs, v, rfl, h1, c, n, e3, (k.go s1).here r g1 q1⟩
    · exact q1.elim
  · exact q1.elim

/-! ### dicts -/
def wDGet (td ty : DE) : DE := fun σ G Q => td σ G fun x G1 => ty σ G1 fun y G2 => ∃ kvs k d, dictOf G2 x = some kvs ∧ keyOf y = some k ∧ valD kvs k = some d ∧ Q d G2
def wDIn (neg : Bool) (ty td : DE) : DE := fun σ G Q => ty σ G fun y G1 => td σ G1 fun x G2 => ∃ kvs k, dictOf G2 x = some kvs ∧ keyOf y = some k ∧ Q (.bl (neg ^^ (valD kvs k).isSome)) G2
theorem de_dget (hu : X.A.units + 1 < cLine) (ho : PE X a (lift X.K ta)) (hi : PE X b (lift X.K tb)) (hs : NoSl b := by exact fun _ _ => rfl) : PE X (.Subscript a b pos) (lift X.K (wDGet ta tb)) := by
  refine PE.weak (pe_dget hu ho hi hs) fun σ H Q ⟨F, σd, G, Qd, hs, hg, h, k⟩ => ?_
  refine lift_bind hs hg h fun F1 x G1 v H1 s1 hs1 r1 g1 q1 => lift_bind hs1 g1 q1 fun F2 y G2 w H2 s2 hs2 r2 g2 q2 => ?_
  obtain ⟨kvs, kk, d, e1, e2, e3, q⟩ := q2
  obtain ⟨hl, a', ks, rfl, h1, h2⟩ := dict_rep (r1.stay s2) g2 e1
  have e4 := key_rep r2 e2
  subst e4
  obtain ⟨u, e5, r⟩ := (repK_val h2 kk).1 d e3
  exact ⟨a', u, rfl, by rw [← e5]; exact DGet.k h1, (k.go (s1.trans s2)).here r g2 q⟩
theorem de_din (hu : X.A.units + 1 < cLine) (hi : PE X b (lift X.K tb)) (ho : PE X a (lift X.K ta)) (h1 : behindInMarks .In a = false := by rfl) : PE X (.Compare b [.In] [a] pos) (lift X.K (wDIn false tb ta)) := by
  refine PE.weak (pe_cmp (pc_din hu hi ho) h1) fun σ H Q ⟨F, σd, G, Qd, hs, hg, h, k⟩ => ?_
  refine lift_bind hs hg h fun F1 x G1 v H1 s1 hs1 r1 g1 q1 => lift_bind hs1 g1 q1 fun F2 y G2 w H2 s2 hs2 r2 g2 q2 => ?_
  obtain ⟨kvs, kk, e1, e2, q⟩ := q2
  obtain ⟨hl, a', ks, rfl, h1, h2⟩ := dict_rep r2 g2 e1
  have e4 := key_rep (r1.stay s2) e2
  subst e4
  refine ⟨a', _, rfl, DGet.k h1, (k.go (s1.trans s2)).here (.bl _) g2 ?_⟩
  rw [repK_isSome h2 kk]
  simpa using q
theorem de_dnin (hu : X.A.units + 1 < cLine) (hi : PE X b (lift X.K tb)) (ho : PE X a (lift X.K ta)) (h1 : behindInMarks .NotIn a = false := by rfl) : PE X (.Compare b [.NotIn] [a] pos) (lift X.K (wDIn true tb ta)) := by
  refine PE.weak (pe_cmp (pc_dnotin hu hi ho) h1) fun σ H Q ⟨F, σd, G, Qd, hs, hg, h, k⟩ => ?_
  refine lift_bind hs hg h fun F1 x G1 v H1 s1 hs1 r1 g1 q1 => lift_bind hs1 g1 q1 fun F2 y G2 w H2 s2 hs2 r2 g2 q2 => ?_
  obtain ⟨kvs, kk, e1, e2, q⟩ := q2
  obtain ⟨hl, a', ks, rfl, h1, h2⟩ := dict_rep r2 g2 e1
  have e4 := key_rep (r1.stay s2) e2
  subst e4
  refine ⟨a', _, rfl, DGet.k h1, (k.go (s1.trans s2)).here (.bl _) g2 ?_⟩
  rw [repK_isSome h2 kk]
  simpa using q
/-- a dict that stands written in the module, text keys: tb its content -/
structure KDc (K : PySem.W.Frag) (w : World) (B : Addr) (tb : List (Str × D)) : Prop where
  ex : ∃ es n, KDict K w B es n
  at_ : ∀ z : Str, ∃ r, PySem.W.nsIn K B z = some r ∧ (match tb.lookup z with | none => r = none | some d => ∃ u v, r = some u ∧ RelV v u ∧ ∀ H F, Rep K H F d v)
def rKIn (neg : Bool) (B : Addr) (tb : List (Str × D)) : DR2 := fun x y G Q => match x with | .str z => (match y with | .ref a => a = B ∧ Q (.bl (neg ^^ (tb.lookup z).isSome)) G | _ => False) | _ => False
def rKGet (B : Addr) (tb : List (Str × D)) : DR2 := fun x y G Q => match x with | .ref a => (match y with | .str z => a = B ∧ (match tb.lookup z with | some d => Q d G | none => False) | _ => False) | _ => False
theorem od_kin {B : Addr} {tb : List (Str × D)} {w : World} {K : PySem.W.Frag} (T : KDc K w B tb) : OpD K (fun x y H Q => ∃ (z : Str) (r : Option Value), x = .str z ∧ y = .ref B ∧ PySem.W.nsIn K B z = some r ∧ Q (.bl r.isSome) H) (rKIn false B tb) := by
  intro F H G x y v u Qd Q rx ry hg h k
  cases rx with
  | str z hz => cases ry with
    | ref a =>
      obtain ⟨rfl, h⟩ := h
      obtain ⟨r, e, q⟩ := T.at_ z
      refine ⟨z, r, rfl, rfl, e, k.here (.bl _) hg ?_⟩
      cases l : tb.lookup z with
      | none => rw [l] at q h; rw [q]; exact h
      | some d => rw [l] at q h; obtain ⟨u, v, q, _⟩ := q; rw [q]; exact h
    | _ => exact (show False from h).elim
  | _ => exact (show False from h).elim
theorem od_knin {B : Addr} {tb : List (Str × D)} {w : World} {K : PySem.W.Frag} (T : KDc K w B tb) : OpD K (fun x y H Q => ∃ (z : Str) (r : Option Value), x = .str z ∧ y = .ref B ∧ PySem.W.nsIn K B z = some r ∧ Q (.bl (!r.isSome)) H) (rKIn true B tb) := by
  intro F H G x y v u Qd Q rx ry hg h k
  cases rx with
  | str z hz => cases ry with
    | ref a =>
      obtain ⟨rfl, h⟩ := h
      obtain ⟨r, e, q⟩ := T.at_ z
      refine ⟨z, r, rfl, rfl, e, k.here (.bl _) hg ?_⟩
      cases l : tb.lookup z with
      | none => rw [l] at q h; rw [q]; exact h
      | some d => rw [l] at q h; obtain ⟨u, v, q, _⟩ := q; rw [q]; exact h
    | _ => exact (show False from h).elim
  | _ => exact (show False from h).elim
theorem od_kget {B : Addr} {tb : List (Str × D)} {w : World} {K : PySem.W.Frag} (T : KDc K w B tb) : OpD K (rIxD K w) (rKGet B tb) := by
  intro F H G x y v u Qd Q rx ry hg h k
  cases rx with
  | ref a => cases ry with
    | str z hz =>
      obtain ⟨rfl, h⟩ := h
      obtain ⟨r, e, q⟩ := T.at_ z
      obtain ⟨es, n, D⟩ := T.ex
      cases l : tb.lookup z with
      | none => rw [l] at h; exact h.elim
      | some d =>
        rw [l] at q h
        obtain ⟨u, v, q, r1, r2⟩ := q
        exact ⟨a, z, v, rfl, rfl, ⟨es, n, u, D.at_, D.lit, by rw [e, q], r1⟩, k.here (r2 _ _) hg h⟩
    | _ => exact (show False from h).elim
  | _ => exact (show False from h).elim
end
end DL

/-! DL6: statements, loops, comprehensions. -/
namespace DL
open PySem PySem.Spec L2

/-- what an exception carries: nothing, or its own dict -/
def ExR (K : PySem.W.Frag) (H : Hp) (F : FP) (fs : List (Str × D)) (od : Option Addr) : Prop := (fs = [] ∧ od = none) ∨ ∃ d vs, od = some d ∧ F.fz d ∧ H d = some (.xd vs) ∧ RepF K H F fs vs
abbrev DXs := DSt → Addr → List (Str × D) → Gh → Prop
structure DEnds where
  nx : DSt → Gh → Prop
  rt : DQ
  bk : DSt → Gh → Prop := fun _ _ => False
  ct : DSt → Gh → Prop := fun _ _ => False
  ex : DXs := fun _ _ _ _ => False
abbrev DS := DEnds → DSt → Gh → Prop
section
variable (K : PySem.W.Frag) (W : WX)
structure KEnds (H : Hp) (F : FP) (Dd : DEnds) (D : Ends) : Prop where
  nx : Kt K (RelSt K) H F (fun σ G => Dd.nx σ G) (fun σ H => D.nx σ H)
  rt : Kt K (Rep K) H F Dd.rt D.rt
  bk : Kt K (RelSt K) H F (fun σ G => Dd.bk σ G) (fun σ H => D.bk σ H)
  ct : Kt K (RelSt K) H F (fun σ G => Dd.ct σ G) (fun σ H => D.ct σ H)
  ex : ∀ F' σd' C fs G' σ' H' od, Stay K H F H' F' → RelSt K H' F' σd' σ' → RelG K H' F' G' → ExR K H' F' fs od → Dd.ex σd' C fs G' → W (.ref C) od σ' H'
def liftS (t : DS) : TS := fun D σ H => ∃ F σd G Dd, RelSt K H F σd σ ∧ RelG K H F G ∧ t Dd σd G ∧ KEnds K W H F Dd D
end
section
variable {K : PySem.W.Frag} {H H' : Hp} {F F' : FP} {Dd : DEnds} {D : Ends}
theorem KEnds.go {W : WX} (k : KEnds K W H F Dd D) (s : Stay K H F H' F') : KEnds K W H' F' Dd D := ⟨k.nx.go s, k.rt.go s, k.bk.go s, k.ct.go s, fun F2 σ2 C fs G2 σ2' H2 od s2 => k.ex F2 σ2 C fs G2 σ2' H2 od (s.trans s2)⟩
end
section
variable {X : Cx} {W : WX} {st : Stmt} {rest : List Stmt} {t u : DS} {e : Expr} {te : DE} {pos : Pos}
def wNext : DS := fun D σ G => D.nx σ G
def wSeq (t u : DS) : DS := fun D σ G => t { D with nx := u D } σ G
theorem dss_nil : PSs X [] (liftS X.K W wNext) := PSs.weak pss_nil fun D σ H ⟨F, σd, G, Dd, hs, hg, h, k⟩ => k.nx.here hs hg h
theorem dss_cons (h1 : PS X st (liftS X.K W t)) (h2 : PSs X rest (liftS X.K W u)) : PSs X (st :: rest) (liftS X.K W (wSeq t u)) :=
  PSs.weak (pss_cons h1 h2) fun D σ H ⟨F, σd, G, Dd, hs, hg, h, k⟩ => ⟨F, σd, G, _, hs, hg, h, ⟨fun F1 σ1 G1 σ1' H1 s1 r1 g1 q1 => ⟨F1, σ1, G1, Dd, r1, g1, q1, k.go s1⟩, k.rt, k.bk, k.ct, k.ex⟩⟩
theorem dss_one (h1 : PS X st (liftS X.K W t)) : PSs X [st] (liftS X.K W t) := pss_one h1
def wBreak : DS := fun D σ G => D.bk σ G
def wCont : DS := fun D σ G => D.ct σ G
theorem ds_pass : PS X (.Pass pos) (liftS X.K W wNext) := PS.weak ps_pass fun D σ H ⟨F, σd, G, Dd, hs, hg, h, k⟩ => k.nx.here hs hg h
theorem ds_break : PS X (.Break pos) (liftS X.K W wBreak) := PS.weak ps_break fun D σ H ⟨F, σd, G, Dd, hs, hg, h, k⟩ => k.bk.here hs hg h
theorem ds_continue : PS X (.Continue pos) (liftS X.K W wCont) := PS.weak ps_continue fun D σ H ⟨F, σd, G, Dd, hs, hg, h, k⟩ => k.ct.here hs hg h
def wDrop (te : DE) : DS := fun D σ G => te σ G fun _ G1 => D.nx σ G1
theorem ds_expr (he : PE X e (lift X.K te)) (hs : swapsWith e none pos.line X.env = pure false := by rfl) : PS X (.Expr e pos) (liftS X.K W (wDrop te)) :=
  PS.weak (ps_expr he hs) fun D σ H ⟨F, σd, G, Dd, hs, hg, h, k⟩ => lift_bind hs hg h fun F1 x G1 v H1 s1 hs1 r1 g1 q1 => (k.go s1).nx.here hs1 g1 q1
def wRet (te : DE) : DS := fun D σ G => te σ G D.rt
theorem ds_ret (he : PE X e (lift X.K te)) : PS X (.Return (some e) pos) (liftS X.K W (wRet te)) :=
  PS.weak (ps_ret he) fun D σ H ⟨F, σd, G, Dd, hs, hg, h, k⟩ => ⟨F, σd, G, _, hs, hg, h, k.rt⟩
def wRetN : DS := fun D _ G => D.rt .non G
theorem ds_retN : PS X (.Return none pos) (liftS X.K W wRetN) := PS.weak ps_retN fun D σ H ⟨F, σd, G, Dd, hs, hg, h, k⟩ => k.rt.here .non hg h
def wIfS (c : DT) (t u : DS) : DS := fun D σ G => c σ G fun b G1 => if b = true then t D σ G1 else u D σ G1
theorem ds_if {c : Expr} {a b : List Stmt} {tc : DT} (hc : PT X c (liftT X.K tc)) (ha : PSs X a (liftS X.K W t)) (hb : PSs X b (liftS X.K W u)) : PS X (.If c a b pos) (liftS X.K W (wIfS tc t u)) :=
  PS.weak (ps_if hc ha hb) fun D σ H ⟨F, σd, G, Dd, hs, hg, h, k⟩ => lift_bind hs hg h fun F1 x G1 v H1 s1 hs1 r1 g1 q1 => by
    subst r1
    cases x with
    | true => rw [if_pos rfl] at q1; exact iteT ⟨F1, σd, G1, Dd, hs1, g1, q1, k.go s1⟩
    | false => rw [if_neg Bool.false_ne_true] at q1; exact iteF ⟨F1, σd, G1, Dd, hs1, g1, q1, k.go s1⟩
/-- what is never reached -/
def wNever : DS := fun _ _ _ => False
theorem ds_never : PS X st (liftS X.K W wNever) := PS.weak ps_never fun D σ H ⟨F, σd, G, Dd, hs, hg, h, k⟩ => h.elim
theorem dss_never {sts : List Stmt} : PSs X sts (liftS X.K W wNever) := PSs.weak pss_never fun D σ H ⟨F, σd, G, Dd, hs, hg, h, k⟩ => h.elim

/-! ### targets: names and tuples of names -/
abbrev DG := D → DSt → Gh → (DSt → Gh → Prop) → Prop
abbrev DGs := List D → DSt → Gh → (DSt → Gh → Prop) → Prop
/-- .. that store in the slots of vs alone -/
def liftTG (K : PySem.W.Frag) (vs : List Nat) (t : DG) : TG := fun v σ H Q => ∃ F d σd G Qd, Rep K H F d v ∧ RelSt K H F σd σ ∧ RelG K H F G ∧ t d σd G Qd ∧
  ∀ F' σd' G' σ' H', wipe σ' vs = wipe σ vs → Stay K H F H' F' → RelSt K H' F' σd' σ' → RelG K H' F' G' → Qd σd' G' → Q σ' H'
def liftTGs (K : PySem.W.Frag) (vs : List Nat) (t : DGs) : TGs := fun v σ H Q => ∃ F d σd G Qd, Reps K H F d v ∧ RelSt K H F σd σ ∧ RelG K H F G ∧ t d σd G Qd ∧
  ∀ F' σd' G' σ' H', wipe σ' vs = wipe σ vs → Stay K H F H' F' → RelSt K H' F' σd' σ' → RelG K H' F' G' → Qd σd' G' → Q σ' H'
theorem PG.weak {tg : Expr} {T U : TG} (h : PG X tg T) (i : ∀ v σ H Q, U v σ H Q → T v σ H Q) : PG X tg U := ⟨fun pins s σ H v u Q I r q => h.run pins s σ H v u Q I r (i v σ H Q q)⟩
theorem PGs.weak {tg : List Expr} {T U : TGs} (h : PGs X tg T) (i : ∀ v σ H Q, U v σ H Q → T v σ H Q) : PGs X tg U := ⟨fun pins s σ H v u Q I r q => h.run pins s σ H v u Q I r (i v σ H Q q)⟩
theorem wipe_set (x : Option V) : ∀ (vs : List Nat) (σ : L2.St) (i : Nat), i ∈ vs → wipe (σ.set i x) vs = wipe σ vs
  | [], _, _, h => nomatch h
  | j :: vs, σ, i, h => by
    show (wipe (σ.set i x) vs).set j none = (wipe σ vs).set j none
    rcases List.mem_cons.mp h with e | h
    · subst e
      have : ∀ (vs : List Nat) (σ : L2.St), (wipe (σ.set i x) vs).set i none = (wipe σ vs).set i none := by
        intro vs
        induction vs with
        | nil => intro σ; show (σ.set i x).set i none = σ.set i none; simp
        | cons k vs ih =>
          intro σ
          show ((wipe (σ.set i x) vs).set k none).set i none = ((wipe σ vs).set k none).set i none
          by_cases e : k = i
          · subst e; simp [ih]
          · rw [List.set_comm _ _ e, List.set_comm _ _ e, ih]
      exact this vs σ
    · rw [wipe_set x vs σ i h]
def wName (i : Nat) : DG := fun d σ G Q => Q (σ.set i (some d)) G
theorem dg_name {vs : List Nat} (i : Nat) {x : Str} (hN : X.N.Nodup) (hi : X.N[i]? = some x := by rfl) (hx : Loc X.env.scope x := by first | exact Or.inl rfl | exact Or.inr rfl) (hv : i ∈ vs := by decide) (hf : X.fn x = true ∨ X.env.scope.names.lookup x = some .local := by first | exact .inl rfl | exact .inr rfl | assumption) : PG X (.Name x pos) (liftTG X.K vs (wName i)) :=
  PG.weak (pg_name hN hi hx hf) fun v σ H Q ⟨F, d, σd, G, Qd, r, hs, hg, h, k⟩ => k F _ G _ H (wipe_set _ vs σ i hv) .refl (hs.set r i) hg h
def wGNil : DGs := fun vs σ G Q => vs = [] ∧ Q σ G
def wGCons (t : DG) (u : DGs) : DGs := fun vs σ G Q => match vs with | v :: r => t v σ G fun σ1 G1 => u r σ1 G1 Q | [] => False
theorem dgs_nil {vs : List Nat} : PGs X [] (liftTGs X.K vs wGNil) := PGs.weak pgs_nil fun v σ H Q ⟨F, d, σd, G, Qd, r, hs, hg, h, k⟩ => by
  obtain ⟨rfl, h⟩ := h
  cases r
  exact ⟨rfl, k F _ G _ H rfl .refl hs hg h⟩
theorem dgs_cons {vs : List Nat} {e : Expr} {es : List Expr} {t : DG} {u : DGs} (h1 : PG X e (liftTG X.K vs t)) (h2 : PGs X es (liftTGs X.K vs u))
    (hs : (assignEach (e :: es) X.env).map (·.2) = assign e X.env :: (assignEach es X.env).map (·.2) := by rfl) : PGs X (e :: es) (liftTGs X.K vs (wGCons t u)) :=
  PGs.weak (pgs_cons h1 h2 hs) fun v σ H Q ⟨F, d, σd, G, Qd, r, hs, hg, h, k⟩ => by
    cases r with
    | nil => exact (show False from h).elim
    | cons r rt =>
      refine ⟨_, _, rfl, F, _, σd, G, _, r, hs, hg, h, fun F1 σ1 G1 σ1' H1 w1 s1 rs1 g1 q1 => ⟨F1, _, σ1, G1, Qd, rt.stay s1, rs1, g1, q1, fun F2 σ2 G2 σ2' H2 w2 s2 rs2 g2 q2 => k F2 σ2 G2 σ2' H2 (w2.trans w1) (s1.trans s2) rs2 g2 q2⟩⟩
/-- (a, b, ..) = a tuple of that length -/
def wGTup (n : Nat) (t : DGs) : DG := fun d σ G Q => match d with | .tup xs => xs.length = n ∧ t xs σ G Q | _ => False
theorem dg_tup {vs : List Nat} {es : List Expr} {k : Nat} {t : DGs} {n : Nat} (hc : X.calm = true) (h : PGs X es (liftTGs X.K vs t))
    (hn : (assignEach es X.env).length = n := by rfl) (hst : (assignEach es X.env).findIdx? (·.1) = none := by rfl) : PG X (.Tuple es k pos) (liftTG X.K vs (wGTup n t)) :=
  PG.weak (pg_tup hc h hn hst) fun v σ H Q ⟨F, d, σd, G, Qd, r, hs, hg, h, k⟩ => by
    cases r with
    | @tup a ws ds h1 hl r => exact ⟨a, ws, rfl, h1, by rw [← r.length]; exact h.1, F, _, σd, G, Qd, r, hs, hg, h.2, k⟩
    | _ => exact (show False from h).elim

/-! ### assignments -/
def wAsg (te : DE) (g : DG) : DS := fun D σ G => te σ G fun x G1 => g x σ G1 D.nx
theorem ds_asg {vs : List Nat} {tg e : Expr} {g : DG} (he : PE X e (lift X.K te)) (hg : PG X tg (liftTG X.K vs g)) (hs : swapsWithSole [tg] e pos.line X.env = pure false := by rfl) (hw : swappedStores [tg] e X.env = pure none := by rfl)
    (h1 : (assignEach [tg] X.env).map (·.2) = [assign tg X.env] := by rfl) : PS X (.Assign [tg] e pos) (liftS X.K W (wAsg te g)) :=
  PS.weak (ps_asg he hg hs hw h1) fun D σ H ⟨F, σd, G, Dd, hs, hg, h, k⟩ => lift_bind hs hg h fun F1 x G1 v H1 s1 hs1 r1 g1 q1 =>
    ⟨F1, x, σd, G1, Dd.nx, r1, hs1, g1, q1, fun F2 σ2 G2 σ2' H2 _ s2 rs2 g2 q2 => (k.go (s1.trans s2)).nx.here rs2 g2 q2⟩
theorem ds_set (i : Nat) {x : Str} {e : Expr} {pos' : Pos} (hN : X.N.Nodup) (he : PE X e (lift X.K te)) (hi : X.N[i]? = some x := by rfl) (hx : Loc X.env.scope x := by first | exact Or.inl rfl | exact Or.inr rfl) (hs : swapsWith e (some (.Name x pos')) pos.line X.env = pure false := by rfl) (hf : X.fn x = true ∨ X.env.scope.names.lookup x = some .local := by first | exact .inl rfl | exact .inr rfl | assumption) :
    PS X (.Assign [.Name x pos'] e pos) (liftS X.K W (wAsg te (wName i))) :=
  PS.weak (ps_set hN hi hx he hs hf) fun D σ H ⟨F, σd, G, Dd, hs, hg, h, k⟩ => lift_bind hs hg h fun F1 x G1 v H1 s1 hs1 r1 g1 q1 => (k.go s1).nx.here (hs1.set r1 i) g1 q1
/-- a, b = x, y -/
def wPar (i j : Nat) (ta : DA) : DS := fun D σ G => ta σ G fun vs G1 => match vs with | [v, w] => D.nx ((σ.set i (some v)).set j (some w)) G1 | _ => False
theorem ds_par (i j : Nat) {x y : Str} {a b : Expr} {ta : DA} {px py pt : Pos} {kt k2 pt2} (hc : X.calm = true) (hN : X.N.Nodup) (ha : PA X [a, b] (liftA X.K ta)) (hi : X.N[i]? = some x := by rfl) (hj : X.N[j]? = some y := by rfl) (hij : i ≠ j := by decide)
    (hx : X.env.scope.names.lookup x = some .local := by rfl) (hy : X.env.scope.names.lookup y = some .local := by rfl)
    (hw : swappedStores [.Tuple [.Name x px, .Name y py] kt pt] (.Tuple [a, b] k2 pt2) X.env = pure (some [x, y]) := by rfl)
    (hs : swapsWithSole [.Tuple [.Name x px, .Name y py] kt pt] (.Tuple [a, b] k2 pt2) pos.line X.env = pure false := by rfl) :
    PS X (.Assign [.Tuple [.Name x px, .Name y py] kt pt] (.Tuple [a, b] k2 pt2) pos) (liftS X.K W (wPar i j ta)) :=
  PS.weak (ps_par hc hN hi hj hij hx hy ha hw hs) fun D σ H ⟨F, σd, G, Dd, hs, hg, h, k⟩ => lift_bind hs hg h fun F1 xs G1 vs H1 s1 hs1 r1 g1 q1 => by
    split at q1
    · cases r1 with
      | cons r1 t => cases t with
        | cons r2 t => cases t; exact ⟨_, _, rfl, (k.go s1).nx.here ((hs1.set r1 i).set r2 j) g1 q1⟩
    · exact q1.elim
/-- x += e, ints -/
def wAugI (i : Nat) (te : DE) (f : Int → Int → Int) : DS := fun D σ G => match slot σ i with
  | some (.int m) => te σ G fun y G1 => (match y with | .int n => D.nx (σ.set i (some (.int (f m n)))) G1 | _ => False)
  | _ => False
theorem ds_augI (i : Nat) {x : Str} {op : Operator} {f : Int → Int → Int} {pos' : Pos} (hN : X.N.Nodup) (he : PE X e (lift X.K te)) (ho : PIp X op (ipI f)) (hi : X.N[i]? = some x := by rfl) (hx : Loc X.env.scope x := by first | exact Or.inl rfl | exact Or.inr rfl) (hf : X.fn x = true ∨ X.env.scope.names.lookup x = some .local := by first | exact .inl rfl | exact .inr rfl | assumption) :
    PS X (.AugAssign (.Name x pos') op e pos) (liftS X.K W (wAugI i te f)) :=
  PS.weak (ps_aug hN hi hx he ho hf) fun D σ H ⟨F, σd, G, Dd, hs, hg, h, k⟩ => by
    unfold wAugI at h
    split at h
    · rename_i m e1
      obtain ⟨v, e2, r⟩ := hs.get (slot_some e1)
      cases r
      refine ⟨.int m, e2, lift_bind hs hg h fun F1 x G1 v H1 s1 hs1 r1 g1 q1 => ?_⟩
      cases r1 with
      | int n => exact ⟨m, n, rfl, rfl, (k.go s1).nx.here (hs1.set (.int _) i) g1 q1⟩
      | _ => exact (show False from q1).elim
    · exact h.elim
/-- xs[i] = e -/
def wSetL (tv to ti : DE) : DS := fun D σ G => tv σ G fun v G1 => to σ G1 fun x G2 => ti σ G2 fun i G3 => match x with
  | .ref p => (match i with
    | .int n => (match goL (G3 p) with
      | some ds => (match ixN ds.length n with | some j => D.nx σ (gup G3 p (.lst (ds.set j v))) | none => False)
      | none => False)
    | _ => False)
  | _ => False
theorem ds_setL {o i v : Expr} {tv to ti : DE} {pos' : Pos} (hv : PE X v (lift X.K tv)) (ho : PE X o (lift X.K to)) (hi : PE X i (lift X.K ti))
    (ha : ∀ v, assign (.Subscript o i pos') X.env v = (do
      let ov ← holding [v] (eval o X.env)
      let iv ← holding [v, ov] (eval i X.env)
      standAt pos'
      holding [v, ov, iv] (setItem ov iv v)
      release [v, ov, iv] []) := by intro _; rfl)
    (hs : swapsWithSole [.Subscript o i pos'] v pos.line X.env = pure false := by rfl) (hw : swappedStores [.Subscript o i pos'] v X.env = pure none := by rfl)
    (h1 : (assignEach [.Subscript o i pos'] X.env).map (·.2) = [assign (.Subscript o i pos') X.env] := by rfl) : PS X (.Assign [.Subscript o i pos'] v pos) (liftS X.K W (wSetL tv to ti)) := by
  refine PS.weak (ps_asg hv (pg_sub ho hi set_list ha) hs hw h1) fun D σ H ⟨F, σd, G, Dd, hs, hg, h, k⟩ => ?_
  refine lift_bind hs hg h fun F1 x G1 v H1 s1 hs1 r1 g1 q1 => lift_bind hs1 g1 q1 fun F2 y G2 w H2 s2 hs2 r2 g2 q2 => lift_bind hs2 g2 q2 fun F3 z G3 u H3 s3 hs3 r3 g3 q3 => ?_
  have r2' := r2.stay s3
  cases r2' with
  | ref p =>
    cases r3 with
    | int n =>
      dsimp only at q3
      split at q3
      · rename_i ds e
        split at q3
        · rename_i j e2
          obtain ⟨nf, hl, vs, hq, r⟩ := g3.g p _ (goL_some e)
          have s4 : Stay X.K H3 F3 (upd H3 p (.lst (vs.set j v))) F3 := g3.wr (goL_some e)
          refine ⟨p, vs, n, j, rfl, rfl, hq, by rw [← r.length]; exact e2, ?_⟩
          exact (k.go (((s1.trans s2).trans s3).trans s4)).nx.here (hs3.stay s4) (g3.write (o' := .lst (ds.set j x)) (goL_some e) ⟨by rw [List.length_set]; exact hl, _, upd_same, (r.set (((r1.stay s2).stay s3)) j).stay s4⟩) q3
        · exact q3.elim
      · exact q3.elim
    | _ => exact (show False from q3).elim
  | _ => exact (show False from q3).elim
/-- d[k] = e -/
def putD (kvs : List (Key × D)) (k : Key) (v : D) : List (Key × D) := if (kvs.any fun kv => decide (kv.1 = k)) = true then kvs.map fun kv => if kv.1 = k then (kv.1, v) else kv else kvs ++ [(k, v)]
def wSetD (tv td ty : DE) : DS := fun D σ G => tv σ G fun v G1 => td σ G1 fun x G2 => ty σ G2 fun y G3 => match x with
  | .ref p => (match goK (G3 p) with
      | some kvs => (match keyOf y with | some k => kvs.length < sizeLine ∧ D.nx σ (gup G3 p (.dic (putD kvs k v))) | none => False)
      | none => False)
  | _ => False
theorem RepK.any {K : PySem.W.Frag} {H : Hp} {F : FP} {kvs : List (Key × D)} {ks : List (Key × V)} (r : RepK K H F kvs ks) (k : Key) : (kvs.any fun kv => decide (kv.1 = k)) = ks.any fun kv => decide (kv.1 = k) := by
  induction kvs generalizing ks with
  | nil => cases r; rfl
  | cons p t ih => cases r with | cons r1 r2 => simp [ih r2]
theorem RepK.repl {K : PySem.W.Frag} {H : Hp} {F : FP} {d : D} {v : V} (rv : Rep K H F d v) (k : Key) {kvs : List (Key × D)} {ks : List (Key × V)} (r : RepK K H F kvs ks) : RepK K H F (kvs.map fun kv => if kv.1 = k then (kv.1, d) else kv) (ks.map fun kv => if kv.1 = k then (kv.1, v) else kv) := by
  induction kvs generalizing ks with
  | nil => cases r; exact .nil
  | cons p t ih => cases r with
    | @cons k' d' v' _ vs' r1 r2 =>
      rw [List.map_cons, List.map_cons]
      by_cases e : k' = k
      · simp only [e, if_true]; exact .cons rv (ih r2)
      · simp only [e, if_false]; exact .cons r1 (ih r2)
theorem RepK.app {K : PySem.W.Frag} {H : Hp} {F : FP} {a b : List (Key × D)} {c d : List (Key × V)} (r : RepK K H F a c) (s : RepK K H F b d) : RepK K H F (a ++ b) (c ++ d) := by
  induction a generalizing c with
  | nil => cases r; exact s
  | cons p t ih => cases r with | cons r1 r2 => exact .cons r1 (ih r2)
theorem RepK.put {K : PySem.W.Frag} {H : Hp} {F : FP} {d : D} {v : V} (rv : Rep K H F d v) (k : Key) {kvs : List (Key × D)} {ks : List (Key × V)} (r : RepK K H F kvs ks) : RepK K H F (putD kvs k d) (putK ks k v) := by
  unfold putD putK
  rw [r.any k]
  split
  · exact r.repl rv k
  · exact r.app (.cons rv .nil)
theorem putD_length (kvs : List (Key × D)) (k : Key) (v : D) : (putD kvs k v).length ≤ kvs.length + 1 := by
  unfold putD
  split
  · rw [List.length_map]; omega
  · simp
theorem ds_setD {o i v : Expr} {tv to ti : DE} {pos' : Pos} (hu : X.A.units + 1 < cLine) (hv : PE X v (lift X.K tv)) (ho : PE X o (lift X.K to)) (hi : PE X i (lift X.K ti)) (hsw : swapsWith v (some (.Subscript o i pos')) pos.line X.env = pure false := by rfl) :
    PS X (.Assign [.Subscript o i pos'] v pos) (liftS X.K W (wSetD tv to ti)) := by
  refine PS.weak (ps_dput hu ho hi hv hsw) fun D σ H ⟨F, σd, G, Dd, hs, hg, h, k⟩ => ?_
  refine lift_bind hs hg h fun F1 x G1 v H1 s1 hs1 r1 g1 q1 => lift_bind hs1 g1 q1 fun F2 y G2 w H2 s2 hs2 r2 g2 q2 => lift_bind hs2 g2 q2 fun F3 z G3 u H3 s3 hs3 r3 g3 q3 => ?_
  have r2' := r2.stay s3
  cases r2' with
  | ref p =>
    dsimp only at q3
    split at q3
    · rename_i kvs e
      split at q3
      · rename_i kk e2
        obtain ⟨nf, hl, vs, hq, r⟩ := g3.g p _ (goK_some e)
        have e3 := key_rep r3 e2
        subst e3
        have s4 : Stay X.K H3 F3 (upd H3 p (.dK (putK vs kk v))) F3 := g3.wr (goK_some e)
        refine ⟨p, _, rfl, DPut.k hq (by rw [← r.length]; exact q3.1), ?_⟩
        exact (k.go (((s1.trans s2).trans s3).trans s4)).nx.here (hs3.stay s4) (g3.write (o' := .dic (putD kvs kk x)) (goK_some e) ⟨Nat.le_trans (putD_length _ _ _) q3.1, _, upd_same, (RepK.put ((r1.stay s2).stay s3) kk r).stay s4⟩) q3.2
      · exact q3.elim
    · exact q3.elim
  | _ => exact (show False from q3).elim
end
end DL

/-! DL7: what is walked, for, comprehensions. -/
namespace DL
open PySem PySem.Spec L2

/-- J walks these items, wherever chk holds of what may change -/
structure JOk (K : PySem.W.Frag) (F : FP) (H : Hp) (J : It) (items : List D) (chk : Gh → Prop) : Prop where
  stop : ∀ F' H' G', Stay K H F H' F' → RelG K H' F' G' → chk G' → J.stop items.length H'
  go : ∀ i d F' H' G', items[i]? = some d → Stay K H F H' F' → RelG K H' F' G' → chk G' → J.go i H' ∧ ∀ x H2, J.yld i H' x H2 → Stay K H' F' H2 F' ∧ Rep K H2 F' d x ∧ RelG K H2 F' G'
theorem JOk.stay {K : PySem.W.Frag} {F F' : FP} {H H' : Hp} {J : It} {items : List D} {chk : Gh → Prop} (j : JOk K F H J items chk) (s : Stay K H F H' F') : JOk K F' H' J items chk :=
  ⟨fun F2 H2 G2 s2 => j.stop F2 H2 G2 (s.trans s2), fun i d F2 H2 G2 e s2 => j.go i d F2 H2 G2 e (s.trans s2)⟩
abbrev DI := DSt → Gh → (List D → (Gh → Prop) → Gh → Prop) → Prop
def liftI (K : PySem.W.Frag) (t : DI) : TI := fun σ H R => ∃ F σd G Qd, RelSt K H F σd σ ∧ RelG K H F G ∧ t σd G Qd ∧
  ∀ F' items chk G' J H', Stay K H F H' F' → JOk K F' H' J items chk → RelG K H' F' G' → Qd items chk G' → R J H'
section
variable {X : Cx} {W : WX} {tg l a b : Expr} {t ta tb : DE} {p pos : Pos}
theorem PI.weak {tg l : Expr} {T U : TI} (h : PI X tg l T) (i : ∀ σ H R, U σ H R → T σ H R) : PI X tg l U := ⟨fun pins s σ H R I q => h.run pins s σ H R I (i σ H R q)⟩
/-- a list or a tuple -/
def iSeq (K : PySem.W.Frag) (tl : TE) : TI := fun σ H R => tl σ H fun x H1 => ∃ a, x = .ref a ∧ (((∃ xs, SqL K H1 a xs) ∧ R (Itl K a) H1) ∨ ((∃ xs, SqT K H1 a xs) ∧ R (Itt K a) H1))
theorem pi_seq {tl : TE} (hl : PE X l tl) : PI X tg l (iSeq X.K tl) := by
  refine ⟨fun pins s σ H R I h => ?_⟩
  refine thn (hl.run pins s σ H _ I h) fun v s1 ⟨x, H1, I1, r1, q1⟩ => ?_
  obtain ⟨a, e, q⟩ := q1
  subst e
  cases r1
  rcases q with ⟨⟨xs, hq⟩, q⟩ | ⟨⟨xs, hq⟩, q⟩
  · obtain ⟨its, rv, p, hz⟩ := I1.list hq
    refine wpAny_pyIter_list p.isList ?_
    refine ⟨s1.heap.objs.size, [s1.heap.objs.size], _, _, H1, rfl, I1.kept (t' := s1.toks) fun b o e => Heap.get?_push_of_some _ e, turn_list a _, ⟨_, Heap.get?_push_size _ rfl, rfl, rfl⟩, fun b hb => ?_, q⟩
    have e : b = s1.heap.objs.size := by simpa using hb
    subst e
    exact I1.fpOk (Nat.le_refl _) (I1.hok.fresh (Nat.le_refl _))
  · obtain ⟨its, rv, p, hz⟩ := I1.tuple hq
    refine wpAny_pyIter_tuple (show s1.heap.IsTuple a its.toArray from p) ?_
    refine ⟨s1.heap.objs.size, [s1.heap.objs.size], _, _, H1, rfl, I1.kept (t' := s1.toks) fun b o e => Heap.get?_push_of_some _ e, turn_tuple a _, ⟨_, Heap.get?_push_size _ rfl, rfl, rfl⟩, fun b hb => ?_, q⟩
    have e : b = s1.heap.objs.size := by simpa using hb
    subst e
    exact I1.fpOk (Nat.le_refl _) (I1.hok.fresh (Nat.le_refl _))
def wISeq (te : DE) : DI := fun σ G Q => te σ G fun x G1 => match itemsOf G1 x with | some ds => Q ds (fun G' => itemsOf G' x = some ds) G1 | none => False
theorem di_seq (hl : PE X l (lift X.K t)) : PI X tg l (liftI X.K (wISeq t)) :=
  PI.weak (pi_seq hl) fun σ H R ⟨F, σd, G, Qd, hs, hg, h, k⟩ => lift_bind hs hg h fun F1 x G1 v H1 s1 hs1 r1 g1 q1 => by
    split at q1
    · rename_i ds e
      have one : ∀ {a : Addr} {F2 : FP} {H2 : Hp} {G2 : Gh} {vs : List V} {i : Nat} {d : D}, SqL X.K H2 a vs → Reps X.K H2 F2 ds vs → RelG X.K H2 F2 G2 → ds[i]? = some d →
          (Itl X.K a).go i H2 ∧ ∀ x H3, (Itl X.K a).yld i H2 x H3 → Stay X.K H2 F2 H3 F2 ∧ Rep X.K H3 F2 d x ∧ RelG X.K H3 F2 G2 := by
        intro a F2 H2 G2 vs i d hq r g2 e2
        obtain ⟨u, e3, r3⟩ := r.get e2
        refine ⟨⟨vs, u, hq, e3⟩, fun x H3 y => ?_⟩
        obtain ⟨rfl, y⟩ := y
        have := y vs hq
        rw [e3] at this
        cases this
        exact ⟨.refl, r3, g2⟩
      cases r1 with
      | @tup a vs ds' hq hl r =>
        cases e
        refine ⟨a, rfl, .inr ⟨⟨vs, hq⟩, k F1 ds _ G1 _ H1 s1 ⟨fun F2 H2 G2 s2 g2 c2 => ?_, fun i d F2 H2 G2 e2 s2 g2 c2 => ?_⟩ g1 q1⟩⟩
        · exact ⟨vs, s2.tup _ _ hq, by rw [r.length]; exact Nat.le_refl _⟩
        · obtain ⟨u, e3, r3⟩ := r.get e2
          refine ⟨⟨vs, u, s2.tup _ _ hq, e3⟩, fun x H3 y => ?_⟩
          obtain ⟨rfl, y⟩ := y
          have := y vs (s2.tup _ _ hq)
          rw [e3] at this
          cases this
          exact ⟨.refl, r3.stay s2, g2⟩
      | @lst a vs ds' f hq hl r =>
        cases e
        refine ⟨a, rfl, .inl ⟨⟨vs, SqL.of hq⟩, k F1 ds _ G1 _ H1 s1 ⟨fun F2 H2 G2 s2 g2 c2 => ?_, fun i d F2 H2 G2 e2 s2 g2 c2 => ?_⟩ g1 q1⟩⟩
        · exact ⟨vs, SqL.of ((s2.at_ _ f).trans hq), by rw [r.length]; exact Nat.le_refl _⟩
        · exact one (SqL.of ((s2.at_ _ f).trans hq)) (r.stay s2) g2 e2
      | ref a =>
        obtain ⟨_, hl, vs, hq, r⟩ := g1.g a _ (goL_some e)
        refine ⟨a, rfl, .inl ⟨⟨vs, SqL.of hq⟩, k F1 ds _ G1 _ H1 s1 ⟨fun F2 H2 G2 s2 g2 c2 => ?_, fun i d F2 H2 G2 e2 s2 g2 c2 => ?_⟩ g1 q1⟩⟩
        · obtain ⟨_, _, vs', hq', r'⟩ := g2.g a _ (goL_some c2)
          exact ⟨vs', SqL.of hq', by rw [r'.length]; exact Nat.le_refl _⟩
        · obtain ⟨_, _, vs', hq', r'⟩ := g2.g a _ (goL_some c2)
          exact one (SqL.of hq') r' g2 e2
      | _ => cases e
    · exact q1.elim
/-- range(n), range(a, b) -/
def rng (lo : Int) (n : Nat) : List D := (List.range n).map fun i => D.int (lo + (i : Nat))
theorem jok_rng {K : PySem.W.Frag} {F : FP} {H : Hp} {lo : Int} {n : Nat} : JOk K F H (Itr lo n) (rng lo n) (fun _ => True) := by
  refine ⟨fun F2 H2 G2 s2 g2 c2 => ?_, fun i d F2 H2 G2 e2 s2 g2 c2 => ?_⟩
  · show n ≤ (rng lo n).length
    unfold rng; simp
  · unfold rng at e2
    rw [List.getElem?_map] at e2
    by_cases hi : i < n
    · rw [List.getElem?_range hi] at e2
      cases e2
      refine ⟨hi, fun x H3 y => ?_⟩
      obtain ⟨rfl, rfl⟩ := y
      exact ⟨.refl, .int _, g2⟩
    · rw [List.getElem?_eq_none (by simpa using hi)] at e2
      cases e2
def wIRng1 (te : DE) : DI := fun σ G Q => te σ G fun x G1 => match x with | .int j => -(2 ^ 62) ≤ j ∧ j < 2 ^ 62 ∧ Q (rng 0 j.toNat) (fun _ => True) G1 | _ => False
theorem di_rng1 (hg : Gl X "range") (hm : X.mg "range" = none) (ha : PE X a (lift X.K ta)) (hs : starEach [a] X.env = [(false, eval a X.env)] := by rfl) : PI X tg (.Call (.Name "range" p) [a] [] pos) (liftI X.K (wIRng1 ta)) :=
  PI.weak (pi_range1 hg hm (pa_cons ha pa_nil (by rw [hs]; rfl)) hs) fun σ H R ⟨F, σd, G, Qd, hs, hg, h, k⟩ => lift_bind hs hg h fun F1 x G1 v H1 s1 hs1 r1 g1 q1 => by
    cases r1 with
    | int j => exact ⟨j, rfl, q1.1, q1.2.1, k _ _ _ _ _ _ s1 jok_rng g1 q1.2.2⟩
    | _ => exact (show False from q1).elim
def wIRng2 (ta tb : DE) : DI := fun σ G Q => ta σ G fun x G1 => tb σ G1 fun y G2 => match x with
  | .int i => (match y with | .int j => (-(2 ^ 62) ≤ i ∧ i < 2 ^ 62 ∧ -(2 ^ 62) ≤ j ∧ j < 2 ^ 62) ∧ Q (rng i (j - i).toNat) (fun _ => True) G2 | _ => False)
  | _ => False
theorem di_rng2 (hg : Gl X "range") (hm : X.mg "range" = none) (ha : PE X a (lift X.K ta)) (hb : PE X b (lift X.K tb)) (hs : starEach [a, b] X.env = [(false, eval a X.env), (false, eval b X.env)] := by rfl) (hs2 : starEach [b] X.env = [(false, eval b X.env)] := by rfl) :
    PI X tg (.Call (.Name "range" p) [a, b] [] pos) (liftI X.K (wIRng2 ta tb)) :=
  PI.weak (pi_range2 hg hm (pa_cons ha (pa_cons hb pa_nil (by rw [hs2]; rfl)) (by rw [hs, hs2])) hs hs2) fun σ H R ⟨F, σd, G, Qd, hs, hg, h, k⟩ => lift_bind hs hg h fun F1 x G1 v H1 s1 hs1 r1 g1 q1 => lift_bind hs1 g1 q1 fun F2 y G2 w H2 s2 hs2 r2 g2 q2 => by
    cases r1 with
    | int i => cases r2 with
      | int j => exact ⟨i, j, rfl, q2.1, k _ _ _ _ _ _ (s1.trans s2) jok_rng g2 q2.2⟩
      | _ => exact (show False from q2).elim
    | _ => exact (show False from q2).elim

/-! ### for -/
def wLoop (chk : Gh → Prop) (g : DG) (tb : DS) : List D → DS
  | [], D, σ, G => chk G ∧ D.nx σ G
  | d :: ds, D, σ, G => chk G ∧ g d σ G fun σ1 G1 => tb { D with nx := wLoop chk g tb ds D, ct := wLoop chk g tb ds D, bk := D.nx } σ1 G1
def wFor (wi : DI) (g : DG) (tb : DS) : DS := fun D σ G => wi σ G fun items chk G1 => wLoop chk g tb items D σ G1
theorem ds_for {iter : Expr} {body : List Stmt} {wi : DI} {g : DG} {tb : DS} {vs : List Nat} (hp : PassesOwn (model X.prog X.w) X.A X.env X.xe) (hc : X.calm = true) (hi : PI X tg iter (liftI X.K wi)) (hg : PG X tg (liftTG X.K vs g)) (hb : PSs X body (liftS X.K W tb))
    (hs : ∀ x, foldedSetIterable iter X.env x = pure x := by intro _; rfl) : PS X (.For tg iter body [] pos) (liftS X.K W (wFor wi g tb)) := by
  refine PS.weak (ps_for hp hc hi hg hb hs) fun D σ H ⟨F, σd, G, Dd, hs, hg, h, k⟩ => ?_
  refine ⟨F, σd, G, _, hs, hg, h, fun F1 items chk G1 J H1 s1 j1 g1 q1 => ?_⟩
  refine ⟨fun i m σ' H' => m = items.length - i ∧ i ≤ items.length ∧ ∃ F2 σd2 G2, Stay X.K H1 F1 H' F2 ∧ RelSt X.K H' F2 σd2 σ' ∧ RelG X.K H' F2 G2 ∧ wLoop chk g tb (items.drop i) Dd σd2 G2,
    ⟨items.length, by simp, Nat.zero_le _, F1, σd, G1, .refl, hs.stay s1, g1, by rw [List.drop_zero]; exact q1⟩, ?_⟩
  rintro i m σ2 H2 ⟨rfl, hi, F2, σd2, G2, s2, rs2, g2, w⟩
  by_cases hlt : i < items.length
  · rw [List.drop_eq_getElem_cons hlt] at w
    obtain ⟨c, w⟩ := w
    obtain ⟨go, yl⟩ := j1.go i items[i] F2 H2 G2 (List.getElem?_eq_getElem hlt) s2 g2 c
    refine .inr ⟨go, _, fun σ' H' n => ⟨items.length - (i + 1), by omega, rfl, hlt, n⟩, fun x H3 y => ?_⟩
    obtain ⟨s3, r3, g3⟩ := yl x H3 y
    refine ⟨F2, _, σd2, G2, _, r3, rs2.stay s3, g3, w, fun F4 σ4 G4 σ4' H4 _ s4 rs4 g4 q4 => ?_⟩
    have s5 := (s2.trans s3).trans s4
    have k5 := k.go (s1.trans s5)
    refine ⟨F4, σ4, G4, _, rs4, g4, q4, ⟨?_, k5.rt, k5.nx, ?_, k5.ex⟩⟩
    · exact fun F6 σ6 G6 σ6' H6 s6 rs6 g6 q6 => ⟨F6, σ6, G6, s5.trans s6, rs6, g6, q6⟩
    · exact fun F6 σ6 G6 σ6' H6 s6 rs6 g6 q6 => ⟨F6, σ6, G6, s5.trans s6, rs6, g6, q6⟩
  · have e : i = items.length := by omega
    subst e
    rw [List.drop_length] at w
    obtain ⟨c, w⟩ := w
    exact .inl ⟨j1.stop F2 H2 G2 s2 g2 c, (k.go (s1.trans s2)).nx.here rs2 g2 w⟩

/-! ### comprehensions -/
def dwipe (σ : DSt) : List Nat → DSt
  | [] => σ
  | i :: vs => (dwipe σ vs).set i none
theorem wipe_rel {K : PySem.W.Frag} {H : Hp} {F : FP} {σd : DSt} {σ : L2.St} (r : RelSt K H F σd σ) : ∀ vs, RelSt K H F (dwipe σd vs) (wipe σ vs)
  | [] => r
  | i :: vs => (wipe_rel r vs).clear i none
/-- what is made so far: acc -/
def wComp (chk : Gh → Prop) (g : DG) (tt : DT) (te : DE) (σ : DSt) : List D → List D → Gh → (List D → Gh → Prop) → Prop
  | [], acc, G, Q => chk G ∧ Q acc G
  | d :: ds, acc, G, Q => chk G ∧ g d σ G fun σ1 G1 => tt σ1 G1 fun b G2 => if b = true then te σ1 G2 fun y G3 => acc.length < sizeLine ∧ wComp chk g tt te σ ds (acc ++ [y]) G3 Q else wComp chk g tt te σ ds acc G2 Q
/-- a new list that may change -/
def wLc (wi : DI) (g : DG) (tt : DT) (te : DE) (vs : List Nat) : DE := fun σ G Q => wi σ G fun items chk G1 => wComp chk g tt te (dwipe σ vs) items [] G1 fun acc G2 => ∀ p, G2 p = none → Q (.ref p) (gup G2 p (.lst acc))
/-- .. that is never changed -/
def wLcV (wi : DI) (g : DG) (tt : DT) (te : DE) (vs : List Nat) : DE := fun σ G Q => wi σ G fun items chk G1 => wComp chk g tt te (dwipe σ vs) items [] G1 fun acc G2 => Q (.lst acc) G2
theorem wipe_idem (σ : L2.St) (vs : List Nat) : wipe (wipe σ vs) vs = wipe σ vs := by
  have : ∀ (us ws : List Nat) (σ : L2.St), (∀ i ∈ us, i ∈ ws) → wipe (wipe σ us) ws = wipe σ ws := by
    intro us
    induction us with
    | nil => intro ws σ _; rfl
    | cons i us ih =>
      intro ws σ hm
      show wipe ((wipe σ us).set i none) ws = wipe σ ws
      rw [wipe_set none ws _ i (hm i List.mem_cons_self), ih ws σ fun j hj => hm j (List.mem_cons_of_mem _ hj)]
  exact this vs vs σ fun _ h => h
/-- the hidden list D, known by H alone: what G knows and F holds is not it -/
theorem StayF.same {K : PySem.W.Frag} {H : Hp} {F F' : FP} (h : ∀ a, F.fz a → F'.fz a) : StayF K H F H F' := ⟨fun _ _ h => h, h, fun _ _ => rfl⟩
/-- D is guarded meanwhile -/
theorem RelG.guard {K : PySem.W.Frag} {H : Hp} {F : FP} {G : Gh} (g : RelG K H F G) {D : Addr} {u : HO} (h : H D = some u) (nf : ¬ F.has D) (n : G D = none) : RelG K H (F.guard D) G :=
  g.keep (StayF.same fun _ h => h) (fun a q => by
    rcases q with q | q | q
    · exact g.fo a (.inl q)
    · exact g.fo a (.inr q)
    · exact ⟨u, q ▸ h⟩) (fun a q r => r.elim (g.dj a q) fun e => nf (.inl (e ▸ q))) fun a o e => ⟨rfl, fun q => by
    rcases q with q | q | q
    · exact (g.g a o e).1 (.inl q)
    · exact (g.g a o e).1 (.inr q)
    · rw [q, n] at e; cases e⟩
/-- .. and then written -/
theorem RelG.wrote {K : PySem.W.Frag} {H : Hp} {F : FP} {G : Gh} (g : RelG K H F G) {D : Addr} {xs : List V} {u : HO} (h : H D = some (.lst xs)) (q : F.pr D) :
    StayF K H F (upd H D u) (F.free D) ∧ RelG K (upd H D u) (F.free D) G ∧ ¬ (F.free D).has D ∧ G D = none := by
  have nz : ¬ F.fz D := fun z => g.dj D z q
  have s : StayF K H F (upd H D u) (F.free D) := by
    refine ⟨fun a vs z => ?_, fun _ h => h, fun a z => upd_ne fun e => nz (e ▸ z)⟩
    rcases z with (z | ⟨ob, z⟩) | z
    · exact .inl (.inl (by rw [upd_ne (fun e => by rw [e, h] at z; cases z)]; exact z))
    · exact .inl (.inr ⟨ob, by rw [upd_ne (fun e => by rw [e, h] at z; cases z)]; exact z⟩)
    · exact .inr z
  refine ⟨s, g.keep s (fun a z => ?_) (fun a z w => g.dj a z w.1) fun a o e => ?_, fun z => z.elim nz fun w => w.2 rfl, ?_⟩
  · by_cases e : a = D
    · subst e; exact ⟨u, upd_same⟩
    · rw [upd_ne e]; exact g.fo a (z.imp id fun w => w.1)
  · have ne : a ≠ D := fun z => (g.g a o e).1 (.inr (z ▸ q))
    exact ⟨upd_ne ne, fun z => (g.g a o e).1 (z.imp id fun w => w.1)⟩
  · cases e : G D with
    | none => rfl
    | some o => exact ((g.g D o e).1 (.inr q)).elim
theorem RelG.freed {K : PySem.W.Frag} {H : Hp} {F : FP} {G : Gh} (g : RelG K H F G) {D : Addr} (q : F.pr D) : RelG K H (F.free D) G ∧ ¬ (F.free D).has D ∧ G D = none := by
  have nz : ¬ F.fz D := fun z => g.dj D z q
  refine ⟨g.keep (StayF.same fun _ h => h) (fun a z => g.fo a (z.imp id fun w => w.1)) (fun a z w => g.dj a z w.1) fun a o e => ⟨rfl, fun z => (g.g a o e).1 (z.imp id fun w => w.1)⟩, fun z => z.elim nz fun w => w.2 rfl, ?_⟩
  cases e : G D with
  | none => rfl
  | some o => exact ((g.g D o e).1 (.inr q)).elim
theorem comp_core {K : PySem.W.Frag} {wi : DI} {g : DG} {tt : DT} {te : DE} {vs : List Nat} {Qf : List D → Gh → Prop} {σ : L2.St} {H : Hp} {Q : VK}
    (h : ∃ F σd G, RelSt K H F σd σ ∧ RelG K H F G ∧ (wi σd G fun items chk G1 => wComp chk g tt te (dwipe σd vs) items [] G1 Qf) ∧
      ∀ F' G' D H' acc ws, Stay K H F H' F' → RelG K H' F' G' → H' D = some (.lst ws) → ¬ F'.has D → G' D = none → acc.length ≤ sizeLine → Reps K H' F' acc ws → Qf acc G' → Q (.ref D) H') :
    tLc (liftI K wi) (liftTG K vs g) (liftT K tt) (lift K te) vs σ H Q := by
  obtain ⟨F, σd, G, hs, hg, h, fin⟩ := h
  refine ⟨F, σd, G, _, hs, hg, h, fun F1 items chk G1 J H1 s1 j1 g1 q1 D hD => ?_⟩
  obtain ⟨nf, s2, g2⟩ := g1.tupled (o := .lst []) hD
  have hw := wipe_rel ((hs.stay s1).stay s2) vs
  refine ⟨fun i m H' => m = items.length - i ∧ i ≤ items.length ∧ ∃ F2 G2 acc ws, Stay K (upd H1 D (.lst [])) F1 H' F2 ∧ RelG K H' F2 G2 ∧ H' D = some (.lst ws) ∧ ¬ F2.has D ∧ G2 D = none ∧ acc.length ≤ sizeLine ∧ Reps K H' F2 acc ws ∧ wComp chk g tt te (dwipe σd vs) (items.drop i) acc G2 Qf,
    ⟨items.length, by simp, Nat.zero_le _, F1, G1, [], [], .refl, g2, upd_same, nf, g1.gnone hD, Nat.zero_le _, .nil, by rw [List.drop_zero]; exact q1⟩, ?_⟩
  rintro i m H2 ⟨rfl, hi, F2, G2, acc, ws, s3, g3, hD2, nf2, gn2, hl2, r2, w⟩
  by_cases hlt : i < items.length
  · rw [List.drop_eq_getElem_cons hlt] at w
    obtain ⟨c, w⟩ := w
    have gg : RelG K H2 (F2.guard D) G2 := g3.guard hD2 nf2 gn2
    have s3g : Stay K (upd H1 D (.lst [])) F1 H2 (F2.guard D) := ⟨⟨s3.tup, s3.fz, s3.at_⟩, fun a h => ⟨.inl (s3.pr a h).1, (s3.pr a h).2⟩⟩
    obtain ⟨go, yl⟩ := j1.go i items[i] (F2.guard D) H2 G2 (List.getElem?_eq_getElem hlt) (s2.trans s3g) gg c
    have rg : Reps K H2 (F2.guard D) acc ws := Reps.stayF (F := F2) (F' := F2.guard D) ⟨fun _ _ h => h, fun _ h => h, fun _ _ => rfl⟩ r2
    have nD1 : ∀ a, F1.has a → a ≠ D := fun a h e => nf (e ▸ h)
    refine .inr ⟨go, _, fun H' n => ⟨items.length - (i + 1), by omega, rfl, hlt, n⟩, fun x H3 y => ?_⟩
    obtain ⟨s4, r4, g4⟩ := yl x H3 y
    have hw3 := hw.stayF ((s3g.trans s4).toStayF)
    refine ⟨F2.guard D, _, _, G2, _, r4, hw3, g4, w, fun F5 σ5 G5 σ5' H5 w5 s5 rs5 g5 q5 => ⟨by rw [w5]; exact wipe_idem σ vs, ?_⟩⟩
    refine lift_bind rs5 g5 q5 fun F6 b G6 b' H6 s6 rs6 e6 g6 q6 => ?_
    subst e6
    have prD : ∀ {F7 : FP} {H7 : Hp}, Stay K H2 (F2.guard D) H7 F7 → F7.pr D ∧ H7 D = some (.lst ws) := fun s => ⟨(s.pr D (.inr rfl)).1, (s.pr D (.inr rfl)).2.trans hD2⟩
    -- from the start to the end of the turn
    have whole : ∀ {F7 : FP} {H7 H8 : Hp}, Stay K H2 (F2.guard D) H7 F7 → StayF K H7 F7 H8 (F7.free D) → (∀ a, a ≠ D → H8 a = H7 a) → Stay K (upd H1 D (.lst [])) F1 H8 (F7.free D) := fun {F7 H7 H8} s t k => by
      have u := s3g.trans s
      exact ⟨⟨fun a xs h => t.tup a xs (u.tup a xs h), fun a h => t.fz a (u.fz a h), fun a h => (k a (nD1 a (.inl h))).trans (u.at_ a h)⟩, fun a h => ⟨⟨(u.pr a h).1, nD1 a (.inr h)⟩, (k a (nD1 a (.inr h))).trans (u.pr a h).2⟩⟩
    cases b with
    | true =>
      rw [if_pos rfl] at q6
      refine iteT (lift_bind rs6 g6 q6 fun F7 y G7 u H7 s7 rs7 r7 g7 q7 => ?_)
      obtain ⟨hl, q7⟩ := q7
      have s27 : Stay K H2 (F2.guard D) H7 F7 := ((s4.trans s5).trans s6).trans s7
      obtain ⟨p7, h7⟩ := prD s27
      obtain ⟨t8, g8, n8, gn8⟩ := g7.wrote (u := .lst (ws ++ [u])) h7 p7
      refine ⟨ws, h7, by rw [← r2.length]; exact hl, F7.free D, G7, acc ++ [y], ws ++ [u], whole s27 t8 (fun a h => upd_ne h), g8, upd_same, n8, gn8, by rw [List.length_append]; simp; omega, ?_, q7⟩
      exact (((Reps.stay s27 rg).snoc r7).stayF t8)
    | false =>
      rw [if_neg Bool.false_ne_true] at q6
      have s26 : Stay K H2 (F2.guard D) H6 F6 := (s4.trans s5).trans s6
      obtain ⟨p6, h6⟩ := prD s26
      obtain ⟨g8, n8, gn8⟩ := g6.freed p6
      exact iteF ⟨F6.free D, G6, acc, ws, whole s26 (StayF.same fun _ h => h) (fun _ _ => rfl), g8, h6, n8, gn8, hl2, Reps.stayF (F := F6) (F' := F6.free D) (StayF.same fun _ h => h) (Reps.stay s26 rg), q6⟩
  · have e : i = items.length := by omega
    subst e
    rw [List.drop_length] at w
    obtain ⟨c, w⟩ := w
    exact .inl ⟨j1.stop F2 H2 G2 (s2.trans s3) g3 c, fin F2 G2 D H2 acc ws (s1.trans (s2.trans s3)) g3 hD2 nf2 gn2 hl2 r2 w⟩
/-- [e for t in xs if c]: a new list that may change -/
theorem de_lc {elt tg iter : Expr} {ifs : List Expr} {scope : Scope} {own : List (Str × Nat)} {wi : DI} {g : DG} {tt : DT} {te : DE} (hc : X.calm = true) (hN : X.N.Nodup) (hi : PI X tg iter (liftI X.K wi)) (ok : BlkOk X.N X.env.scope scope own)
    (hg : ∀ (s : Shared) (H : Hp) (C : Addr) (cl : List (Str × Addr)) (fp : List Addr), PG (X.blk s H scope (compEnvC scope cl C X.env) fp) tg (liftTG X.K (own.map (·.2)) g)) (ht : ∀ (s : Shared) (H : Hp) (C : Addr) (cl : List (Str × Addr)) (fp : List Addr), PTs (X.blk s H scope (compEnvC scope cl C X.env) fp) ifs (liftT X.K tt))
    (he : ∀ (s : Shared) (H : Hp) (C : Addr) (cl : List (Str × Addr)) (fp : List Addr), PE (X.blk s H scope (compEnvC scope cl C X.env) fp) elt (lift X.K te)) (hs : ∀ x, foldedSetIterable iter X.env x = pure x := by intro _; rfl) :
    PE X (.ListComp elt [⟨tg, iter, ifs, 0⟩] scope pos) (lift X.K (wLc wi g tt te (own.map (·.2)))) :=
  PE.weak (pe_lc hc hN hi ok hg ht he hs) fun σ H Q ⟨F, σd, G, Qd, hs, hg, h, k⟩ => comp_core ⟨F, σd, G, hs, hg, h, fun F' G' D H' acc ws s g' hD nf n hl r q =>
    k F' (.ref D) _ _ H' s (.ref D) ⟨g'.fo, g'.dj, fun a o e => by
      by_cases z : a = D
      · subst z; rw [gup_same] at e; cases e; exact ⟨nf, hl, ws, hD, r⟩
      · rw [gup_ne z] at e; exact g'.g a o e⟩ (q D n)⟩
/-- .. that is never changed -/
theorem de_lcV {elt tg iter : Expr} {ifs : List Expr} {scope : Scope} {own : List (Str × Nat)} {wi : DI} {g : DG} {tt : DT} {te : DE} (hc : X.calm = true) (hN : X.N.Nodup) (hi : PI X tg iter (liftI X.K wi)) (ok : BlkOk X.N X.env.scope scope own)
    (hg : ∀ (s : Shared) (H : Hp) (C : Addr) (cl : List (Str × Addr)) (fp : List Addr), PG (X.blk s H scope (compEnvC scope cl C X.env) fp) tg (liftTG X.K (own.map (·.2)) g)) (ht : ∀ (s : Shared) (H : Hp) (C : Addr) (cl : List (Str × Addr)) (fp : List Addr), PTs (X.blk s H scope (compEnvC scope cl C X.env) fp) ifs (liftT X.K tt))
    (he : ∀ (s : Shared) (H : Hp) (C : Addr) (cl : List (Str × Addr)) (fp : List Addr), PE (X.blk s H scope (compEnvC scope cl C X.env) fp) elt (lift X.K te)) (hs : ∀ x, foldedSetIterable iter X.env x = pure x := by intro _; rfl) :
    PE X (.ListComp elt [⟨tg, iter, ifs, 0⟩] scope pos) (lift X.K (wLcV wi g tt te (own.map (·.2)))) :=
  PE.weak (pe_lc hc hN hi ok hg ht he hs) fun σ H Q ⟨F, σd, G, Qd, hs, hg, h, k⟩ => comp_core ⟨F, σd, G, hs, hg, h, fun F' G' D H' acc ws s g' hD nf n hl r q =>
    k (F'.add D) (.lst acc) G' _ H' (s.trans .froze) (.lst (.inr rfl) hD hl (r.stay .froze)) (g'.froze n hD fun z => nf (.inr z)) q⟩
/-- y = [..] on one line -/
theorem ds_setLc (i : Nat) {y : Str} {py : Pos} {elt tg iter : Expr} {ifs : List Expr} {scope : Scope} {own : List (Str × Nat)} {spos : Pos} {wi : DI} {g : DG} {tt : DT} {te : DE} (hc : X.calm = true) (hN : X.N.Nodup) (hi : PI X tg iter (liftI X.K wi)) (ok : BlkOk X.N X.env.scope scope own)
    (hg : ∀ (s : Shared) (H : Hp) (C : Addr) (cl : List (Str × Addr)) (fp : List Addr), PG (X.blk s H scope (compEnvC scope cl C X.env) fp) tg (liftTG X.K (own.map (·.2)) g)) (ht : ∀ (s : Shared) (H : Hp) (C : Addr) (cl : List (Str × Addr)) (fp : List Addr), PTs (X.blk s H scope (compEnvC scope cl C X.env) fp) ifs (liftT X.K tt))
    (he : ∀ (s : Shared) (H : Hp) (C : Addr) (cl : List (Str × Addr)) (fp : List Addr), PE (X.blk s H scope (compEnvC scope cl C X.env) fp) elt (lift X.K te))
    (hsw : swapsWith (.ListComp elt [⟨tg, iter, ifs, 0⟩] scope pos) (some (.Name y py)) spos.line X.env = pure true) (hy : X.N[i]? = some y := by rfl) (hyl : X.env.scope.names.lookup y = some .local := by rfl) (hs : ∀ x, foldedSetIterable iter X.env x = pure x := by intro _; rfl) :
    PS X (.Assign [.Name y py] (.ListComp elt [⟨tg, iter, ifs, 0⟩] scope pos) spos) (liftS X.K W (wAsg (wLc wi g tt te (own.map (·.2))) (wName i))) :=
  PS.weak (ps_setLc hc hN hy hyl hsw hi ok hg ht he hs) fun D σ H ⟨F, σd, G, Dd, hs, hg, h, k⟩ => comp_core ⟨F, σd, G, hs, hg, h, fun F' G' L H' acc ws s g' hD nf n hl r q =>
    (k.go s).nx.here ((hs.stay s).set (.ref L) i) ⟨g'.fo, g'.dj, fun a o e => by
      by_cases z : a = L
      · subst z; rw [gup_same] at e; cases e; exact ⟨nf, hl, ws, hD, r⟩
      · rw [gup_ne z] at e; exact g'.g a o e⟩ (q L n)⟩
theorem ds_setLcV (i : Nat) {y : Str} {py : Pos} {elt tg iter : Expr} {ifs : List Expr} {scope : Scope} {own : List (Str × Nat)} {spos : Pos} {wi : DI} {g : DG} {tt : DT} {te : DE} (hc : X.calm = true) (hN : X.N.Nodup) (hi : PI X tg iter (liftI X.K wi)) (ok : BlkOk X.N X.env.scope scope own)
    (hg : ∀ (s : Shared) (H : Hp) (C : Addr) (cl : List (Str × Addr)) (fp : List Addr), PG (X.blk s H scope (compEnvC scope cl C X.env) fp) tg (liftTG X.K (own.map (·.2)) g)) (ht : ∀ (s : Shared) (H : Hp) (C : Addr) (cl : List (Str × Addr)) (fp : List Addr), PTs (X.blk s H scope (compEnvC scope cl C X.env) fp) ifs (liftT X.K tt))
    (he : ∀ (s : Shared) (H : Hp) (C : Addr) (cl : List (Str × Addr)) (fp : List Addr), PE (X.blk s H scope (compEnvC scope cl C X.env) fp) elt (lift X.K te))
    (hsw : swapsWith (.ListComp elt [⟨tg, iter, ifs, 0⟩] scope pos) (some (.Name y py)) spos.line X.env = pure true) (hy : X.N[i]? = some y := by rfl) (hyl : X.env.scope.names.lookup y = some .local := by rfl) (hs : ∀ x, foldedSetIterable iter X.env x = pure x := by intro _; rfl) :
    PS X (.Assign [.Name y py] (.ListComp elt [⟨tg, iter, ifs, 0⟩] scope pos) spos) (liftS X.K W (wAsg (wLcV wi g tt te (own.map (·.2))) (wName i))) :=
  PS.weak (ps_setLc hc hN hy hyl hsw hi ok hg ht he hs) fun D σ H ⟨F, σd, G, Dd, hs, hg, h, k⟩ => comp_core ⟨F, σd, G, hs, hg, h, fun F' G' L H' acc ws s g' hD nf n hl r q =>
    (k.go (s.trans (Stay.froze (p := L)))).nx.here ((hs.stay (s.trans (Stay.froze (p := L)))).set (.lst (F := F'.add L) (.inr rfl) hD hl (r.stay (Stay.froze (p := L)))) i) (g'.froze n hD fun z => nf (.inr z)) q⟩
def wYes : DT := fun _ G Q => Q true G
theorem dts_nil : PTs X [] (liftT X.K wYes) := ⟨fun pins s σ H Q I ⟨F, σd, G, Qd, hs, hg, h, k⟩ => pts_nil.run pins s σ H Q I (k.here rfl hg h)⟩
theorem dts_one {c : Expr} {t : DT} (h : PT X c (liftT X.K t)) : PTs X [c] (liftT X.K t) := pts_one h
end
end DL

/-! DL8: defs, their promises over data, calls, instances. -/
namespace DL
open PySem PySem.Spec L2

abbrev DXq := Addr → List (Str × D) → Gh → Prop
abbrev DSp := List D → Gh → DQ → DXq → Prop
section
variable (K : PySem.W.Frag)
def KtX (H : Hp) (F : FP) (Ed : DXq) (E : XK) : Prop := ∀ F' C fs G' H' od, Stay K H F H' F' → RelG K H' F' G' → ExR K H' F' fs od → Ed C fs G' → E (.ref C) od H'
def liftSp (sp : DSp) : Sp := fun vs H Q E => ∃ F ds G Qd Ed, Reps K H F ds vs ∧ RelG K H F G ∧ sp ds G Qd Ed ∧ Kt K (Rep K) H F Qd Q ∧ KtX K H F Ed E
/-- the same thing, seen otherwise -/
def Vs (d : D) (G : Gh) (d0 : D) (G0 : Gh) : Prop := ∀ H F v, Rep K H F d v → RelG K H F G → ∃ F', Stay K H F H F' ∧ Rep K H F' d0 v ∧ RelG K H F' G0
end
abbrev noX : DXq := fun _ _ _ => False
section
variable {K : PySem.W.Frag}
theorem Vs.sub {d : D} {G0 G : Gh} (s : Sub G0 G) : Vs K d G d G0 := fun H F v r g => ⟨F, .refl, r, g.sub s⟩
theorem Vs.refl {d : D} {G : Gh} : Vs K d G d G := .sub .refl
theorem Vs.lst {p : Addr} {ds : List D} {G0 G : Gh} (e : G p = some (.lst ds)) (s : Sub G0 G) (n : G0 p = none) : Vs K (.ref p) G (.lst ds) G0 := fun H F v r g => by
  cases r
  obtain ⟨nf, hl, vs, h, q⟩ := g.g p _ e
  exact ⟨F.add p, .froze, .lst (.inr rfl) h hl (q.stay .froze), (g.sub s).froze n h fun z => nf (.inr z)⟩
theorem Vs.dic {p : Addr} {ds : List (Key × D)} {G0 G : Gh} (e : G p = some (.dic ds)) (s : Sub G0 G) (n : G0 p = none) : Vs K (.ref p) G (.dic ds) G0 := fun H F v r g => by
  cases r
  obtain ⟨nf, hl, vs, h, q⟩ := g.g p _ e
  exact ⟨F.add p, .froze, .dic (.inr rfl) h hl (q.stay .froze), (g.sub s).froze n h fun z => nf (.inr z)⟩
theorem Vs.obj {p C : Addr} {fs : List (Str × D)} {G0 G : Gh} (e : G p = some (.ins C fs)) (s : Sub G0 G) (n : G0 p = none) : Vs K (.ref p) G (.obj C fs) G0 := fun H F v r g => by
  cases r
  obtain ⟨nf, dx, vs, h, q⟩ := g.g p _ e
  exact ⟨F.add p, .froze, .obj (.inr rfl) h (q.stay .froze), (g.sub s).froze n h fun z => nf (.inr z)⟩
theorem KtX.go {H H' : Hp} {F F' : FP} {Ed : DXq} {E : XK} (k : KtX K H F Ed E) (s : Stay K H F H' F') : KtX K H' F' Ed E := fun F2 C fs G2 H2 od s2 => k F2 C fs G2 H2 od (s.trans s2)
theorem KtX.no {H : Hp} {F : FP} {E : XK} : KtX K H F noX E := fun _ _ _ _ _ _ _ _ _ h => h.elim
end
/-- the slots at the entry -/
def dstart (N : List Str) (ds : List D) : DSt := ds.map some ++ List.replicate (N.length - ds.length) none
/-- what a def's body is to reach, for the wish Qd -/
def endsOf (K : PySem.W.Frag) (Qd : DQ) : DEnds := { nx := fun _ G' => ∃ d0 G0, Vs K .non G' d0 G0 ∧ Qd d0 G0, rt := fun d G' => ∃ d0 G0, Vs K d G' d0 G0 ∧ Qd d0 G0 }
section
variable {P : Program} {w : World} {K : PySem.W.Frag} {mg : Str → Option Value} {base : Heap}
theorem Fun.okD {W : WX} {x qual : Str} {st : Stmt} {f : Addr} {fd : FuncData} {N ps : List Str} {k : Nat} {sp : DSp} {t : DS} (F : Fun K x qual st f fd) (S : FnScope N ps (defScope st)) (len : ∀ ds G Q E, sp ds G Q E → ds.length = ps.length)
    (hbody : ∀ (cdv : Value) (A : Around) (outer : List Env) (s : Shared) (H : Hp) (E : XK), Room k (A.deeper (PyProof.Rows.envOfC qual (defScope st) s.heap.objs.size f cdv)) →
      PSs (cxOf CX0 P w K mg base N qual (defScope st) f cdv A outer s H E).nox (defBody st) (liftS K W t))
    (hv : ∀ ds G Qd Ed, sp ds G Qd Ed → t (endsOf K Qd) (dstart N ds) G) : FnOk P w K mg base CX0 (k + 1) f fd ps (liftSp K sp) := by
  refine F.ok S (fun vs H Q E h => ?_) (fun cdv A outer s H vs Q E hr h => ?_)
  · obtain ⟨F0, ds, G, Qd, Ed, r, _, h, _⟩ := h
    rw [← r.length]; exact len _ _ _ _ h
  · obtain ⟨F0, ds, G, Qd, Ed, r, g, h, k, _⟩ := h
    refine ⟨_, hbody cdv A outer s H E hr, F0, dstart N ds, G, endsOf K Qd, ?_, g, hv ds G Qd Ed h, ⟨?_, ?_, ?_, ?_, ?_⟩⟩
    · unfold dstart L2.start
      rw [← r.length]
      exact RelSt.start r _
    · rintro F1 σ1 G1 σ1' H1 s1 r1 g1 ⟨d0, G0, vs, q⟩
      obtain ⟨F2, s2, r2, g2⟩ := vs H1 F1 .non .non g1
      exact k F2 d0 G0 .non H1 (s1.trans s2) r2 g2 q
    · rintro F1 d G1 v H1 s1 r1 g1 ⟨d0, G0, vs, q⟩
      obtain ⟨F2, s2, r2, g2⟩ := vs H1 F1 v r1 g1
      exact k F2 d0 G0 v H1 (s1.trans s2) r2 g2 q
    · exact fun _ _ _ _ _ _ _ _ h => h.elim
    · exact fun _ _ _ _ _ _ _ _ h => h.elim
    · exact fun _ _ _ _ _ _ _ _ _ _ _ _ h => h.elim
/-- a def that may be called -/
structure Cal (P : Program) (w : World) (K : PySem.W.Frag) (mg : Str → Option Value) (base : Heap) (k : Nat) (x : Str) (ps : List Str) (sp : DSp) : Prop where
  ex : ∃ f fd, mg x = some (.ref f) ∧ PySem.W.keepIn K (.ref f) = true ∧ Binds K fd ps [] ∧ FnOk P w K mg base CX0 k f fd ps (liftSp K sp)
theorem Cal.mono {j k : Nat} {x : Str} {ps : List Str} {sp : DSp} (c : Cal P w K mg base j x ps sp) (h : j ≤ k) : Cal P w K mg base k x ps sp :=
  let ⟨f, fd, a, b, c, d⟩ := c.ex; ⟨f, fd, a, b, c, d.mono h⟩
end
theorem liftSp_imp {K : PySem.W.Frag} {sp sp' : DSp} (h : ∀ ds G Q E, sp' ds G Q E → sp ds G Q E) {vs H Q E} (q : liftSp K sp' vs H Q E) : liftSp K sp vs H Q E :=
  let ⟨F, ds, G, Qd, Ed, r, g, s, k, kx⟩ := q; ⟨F, ds, G, Qd, Ed, r, g, h _ _ _ _ s, k, kx⟩
theorem Cal.imp {P : Program} {w : World} {K : PySem.W.Frag} {mg : Str → Option Value} {base : Heap} {k : Nat} {x : Str} {ps : List Str} {sp sp' : DSp} (c : Cal P w K mg base k x ps sp) (h : ∀ ds G Q E, sp' ds G Q E → sp ds G Q E) : Cal P w K mg base k x ps sp' :=
  let ⟨f, fd, a, b, c, d⟩ := c.ex; ⟨f, fd, a, b, c, d.imp fun _ _ _ _ q => liftSp_imp h q⟩
section
variable {X : Cx} {W : WX} {k : Nat} {ps : List Str} {sp : DSp} {x : Str} {p pos : Pos} {e a b : Expr} {es : List Expr} {t : DA} {ta tb : DE}
/-- f(a, ..), no exception leaves it -/
def wCallF (sp : DSp) (t : DA) : DE := fun σ G Q => t σ G fun ds G1 => sp ds G1 Q noX
theorem tCall_lift {K : PySem.W.Frag} {σ H Q} (h : lift K (wCallF sp t) σ H Q) : tCall (liftSp K sp) [] E0 (liftA K t) σ H Q := by
  obtain ⟨F, σd, G, Qd, hs, hg, h, k⟩ := h
  exact lift_bind hs hg h fun F1 ds G1 vs H1 s1 hs1 r1 g1 q1 => ⟨F1, ds, G1, Qd, noX, by rw [List.append_nil]; exact r1, g1, q1, k.go s1, .no⟩
theorem de_call (c : Cal X.prog X.w X.K X.mg X.base k x ps sp) (hr : Room k X.A) (hg : Gl X x)
    (ha : PA X (e :: es) (liftA X.K t)) (hdb : (x == ("__debug__" : Str)) = false := by decide) (he : starEach (e :: es) X.env = (false, eval e X.env) :: starEach es X.env := by rfl) (hpl : (backTo pos (starEach es X.env)).any (·.1) = false := by rfl) :
    PE X (.Call (.Name x p) (e :: es) [] pos) (lift X.K (wCallF sp t)) := by
  obtain ⟨f, fd, hm, hk, hb, F⟩ := c.ex
  exact PE.weak (pe_call F hr hg hm hk hb .nil pass0 ha hdb he hpl) fun _ _ _ => tCall_lift
/-- a local name that holds a def: f is known by its address -/
structure CalA (P : Program) (w : World) (K : PySem.W.Frag) (mg : Str → Option Value) (base : Heap) (k : Nat) (f : Addr) (ps : List Str) (sp : DSp) : Prop where
  ex : ∃ fd, PySem.W.keepIn K (.ref f) = true ∧ Binds K fd ps [] ∧ FnOk P w K mg base CX0 k f fd ps (liftSp K sp)
def wCallL (i : Nat) (f : Addr) (sp : DSp) (t : DA) : DE := fun σ G Q => slot σ i = some (.ref f) ∧ t σ G fun ds G1 => sp ds G1 Q noX
theorem de_callL (i : Nat) {f : Addr} (c : CalA X.prog X.w X.K X.mg X.base k f ps sp) (hr : Room k X.A) (ha : PA X (e :: es) (liftA X.K t)) (hN : X.N[i]? = some x := by rfl) (hv : Vis X.env.scope x := by first | exact Or.inl rfl | exact Or.inr (Or.inl rfl) | exact Or.inr (Or.inr rfl))
    (hdb : (x == ("__debug__" : Str)) = false := by decide) (hcd : (x == ("__classdict__" : Str)) = false := by decide)
    (he : starEach (e :: es) X.env = (false, eval e X.env) :: starEach es X.env := by rfl) (hpl : (backTo pos (starEach es X.env)).any (·.1) = false := by rfl) : PE X (.Call (.Name x p) (e :: es) [] pos) (lift X.K (wCallL i f sp t)) := by
  obtain ⟨fd, hk, hb, F⟩ := c.ex
  refine PE.weak (pe_callL (i := i) F hr hN hv hk hb .nil pass0 ha hdb hcd he hpl) fun σ H Q ⟨F, σd, G, Qd, hs, hg, ⟨h0, h⟩, k⟩ => ?_
  obtain ⟨v, e1, r⟩ := hs.get (slot_some h0)
  cases r
  exact ⟨e1, tCall_lift ⟨F, σd, G, Qd, hs, hg, h, k⟩⟩

/-! ### instances -/
def putFD (f : Str) (v : D) : List (Str × D) → List (Str × D)
  | [] => [(f, v)]
  | (g, x) :: r => if g = f then (g, v) :: r else (g, x) :: putFD f v r
theorem RepF.put {K : PySem.W.Frag} {H : Hp} {F : FP} (f : Str) {d : D} {v : V} (r : Rep K H F d v) : ∀ {ds : List (Str × D)} {vs : List (Str × V)}, RepF K H F ds vs → RepF K H F (putFD f d ds) (putF f v vs)
  | _, _, .nil => .cons r .nil
  | _, _, .cons (k := k) q t => by
    unfold putFD putF
    by_cases e : k = f
    · rw [if_pos e, if_pos e]; exact .cons r t
    · rw [if_neg e, if_neg e]; exact .cons q (RepF.put f r t)
theorem RepF.length {K : PySem.W.Frag} {H : Hp} {F : FP} : ∀ {ds : List (Str × D)} {vs : List (Str × V)}, RepF K H F ds vs → ds.length = vs.length
  | _, _, .nil => rfl
  | _, _, .cons _ t => by simp [RepF.length t]
/-- o.f = e, o an instance of the class at C that may change -/
def wSetF (C : Addr) (f : Str) (to tv : DE) : DS := fun D σ G => tv σ G fun y G1 => to σ G1 fun x G2 => match x with
  | .ref p => (match goI (G2 p) with | some (C', fs) => C' = C ∧ fs.length < 1000 ∧ D.nx σ (gup G2 p (.ins C (putFD f y fs))) | none => False)
  | _ => False
theorem ds_setF {C : Addr} {f : Str} {pos' : Pos} (c : Cls X.K C) (n : NoAttr X.K C f) (ho : PE X a (lift X.K ta)) (hv : PE X b (lift X.K tb)) (hs : swapsWith b (some (.Attribute a f pos')) pos.line X.env = pure false := by rfl) : PS X (.Assign [.Attribute a f pos'] b pos) (liftS X.K W (wSetF C f ta tb)) := by
  refine PS.weak (ps_fld ho hv hs) fun D σ H ⟨F, σd, G, Dd, hs, hg, h, k⟩ => ?_
  refine lift_bind hs hg h fun F1 y G1 v H1 s1 hs1 r1 g1 q1 => lift_bind hs1 g1 q1 fun F2 x G2 u H2 s2 hs2 r2 g2 q2 => ?_
  cases r2 with
  | ref p =>
    dsimp only at q2
    split at q2
    · rename_i C' fs e
      obtain ⟨rfl, hl, q2⟩ := q2
      obtain ⟨nf, dx, vs, h1, h2⟩ := g2.g p _ (goI_some e)
      have s3 : Stay X.K H2 F2 (upd H2 p (.ins C' dx (putF f v vs))) F2 := g2.wr (goI_some e)
      exact ⟨p, C', dx, vs, rfl, h1, c, n, by rw [← h2.length]; exact hl, (k.go ((s1.trans s2).trans s3)).nx.here (hs2.stay s3) (g2.write (o' := .ins C' (putFD f y fs)) (goI_some e) ⟨dx, _, upd_same, ((h2.put f (r1.stay s2))).stay s3⟩) q2⟩
    · exact q2.elim
  | _ => exact (show False from q2).elim
/-- C(a, ..): a new instance, then __init__; it may be seen otherwise at once -/
def wMake (K : PySem.W.Frag) (C : Addr) (sp : DSp) (t : DA) : DE := fun σ G Q => t σ G fun ds G1 => ∀ p, G1 p = none → sp (.ref p :: ds) (gup G1 p (.ins C [])) (fun d G2 => d = .non ∧ ∃ d0 G0, Vs K (.ref p) G2 d0 G0 ∧ Q d0 G0) noX
/-- a class whose instances are made by an __init__ of its own -/
structure CalM (P : Program) (w : World) (K : PySem.W.Frag) (mg : Str → Option Value) (base : Heap) (k : Nat) (x : Str) (C : Addr) (ps : List Str) (sp : DSp) : Prop where
  ex : ∃ f fd, mg x = some (.ref C) ∧ Mk K C f ∧ Binds K fd ps [] ∧ FnOk P w K mg base CX0 k f fd ps (liftSp K sp)
theorem de_make {C : Addr} (c : CalM X.prog X.w X.K X.mg X.base k x C ps sp) (hr : Room (k + 1) X.A) (hg : Gl X x)
    (ha : PA X (e :: es) (liftA X.K t)) (hdb : (x == ("__debug__" : Str)) = false := by decide) (he : starEach (e :: es) X.env = (false, eval e X.env) :: starEach es X.env := by rfl) (hpl : (backTo pos (starEach es X.env)).any (·.1) = false := by rfl) :
    PE X (.Call (.Name x p) (e :: es) [] pos) (lift X.K (wMake X.K C sp t)) := by
  obtain ⟨f, fd, hm, M, hb, F⟩ := c.ex
  refine PE.weak (pe_make M F hr hg hm hb .nil pass0 ha hdb he hpl) fun σ H Q ⟨F, σd, G, Qd, hs, hg, h, k⟩ => ?_
  refine lift_bind hs hg h fun F1 ds G1 vs H1 s1 hs1 r1 g1 q1 p dx hp hdx hne => ?_
  obtain ⟨nf, s2, g2⟩ := g1.tupled (o := .own p) hdx
  have hp2 : upd H1 dx (.own p) p = none := by rw [upd_ne (Ne.symm hne)]; exact hp
  obtain ⟨nf3, s3, g3⟩ := g2.tupled (o := .ins C dx []) hp2
  have g4 := g2.made (u := .ins C []) (o := .ins C dx []) hp2 ⟨dx, [], upd_same, .nil⟩
  refine ⟨F1, .ref p :: ds, _, _, noX, .cons (.ref p) (by rw [List.append_nil]; exact (r1.stay s2).stay s3), g4, q1 p (g1.gnone hp), ?_, .no⟩
  rintro F5 d G5 v H5 s5 r5 g5 ⟨rfl, d0, G0, vs, q5⟩
  cases r5
  obtain ⟨F6, s6, r6, g6⟩ := vs H5 F5 (.ref p) (.ref p) g5
  exact ⟨rfl, k F6 d0 G0 _ H5 ((((s1.trans s2).trans s3).trans s5).trans s6) r6 g6 q5⟩
end
end DL

/-! DLS: sets of texts made of a list, sorted(set(xs)). After the library's own road for ints. -/
namespace DL.TX
open PySem PySem.Spec PyProof.Rows L2

/-- the text of an entry -/
def txt (e : Int × Value) : Str := strOf e.2
/-- an entry that is a text with its hash -/
def Ent (w : World) (e : Int × Value) : Prop := ∃ x tk, e.2 = Value.str x tk ∧ e.1 = hashStr w x
/-- a set of texts at a -/
structure TSet (w : World) (h : Heap) (a : Addr) (S : Str → Bool) (n : Nat) (o : Obj) (es : Array (Int × Value)) (ep : Nat) (t : SetTable) : Prop where
  ob : h.get? a = some o
  ex : o.ExactSet
  dt : o.data = .set es ep t
  good : ∀ e ∈ es.toList, Ent w e
  nd : (es.toList.map txt).Nodup
  mem : ∀ k, S k = true ↔ k ∈ es.toList.map txt
  few : es.size < scanBound
  fit : t.fits es.size = true
  num : es.size = n
  ris : Ris t.place.toList
  led : w.params.followText "set-order" = true ∨ t.led = true
def TS (w : World) (h : Heap) (a : Addr) (S : Str → Bool) (n : Nat) : Prop := ∃ o es ep t, TSet w h a S n o es ep t
section
variable {P : Program} {w : World} {h h' : Heap} {a : Addr} {S : Str → Bool} {n : Nat}
theorem TS.keep (R : TS w h a S n) (k : ∀ o, h.get? a = some o → h'.get? a = some o) : TS w h' a S n :=
  let ⟨o, es, ep, t, r⟩ := R; ⟨o, es, ep, t, { r with ob := k o r.ob }⟩
theorem TS.as {S' : Str → Bool} (R : TS w h a S n) (e : ∀ k, S' k = S k) : TS w h a S' n := by
  rw [funext e]; exact R
theorem ent_elems {l : List (Int × Value)} (g : ∀ e ∈ l, Ent w e) : ElemsOf (strKind P w) l := fun e he => by
  obtain ⟨k, tk, h1, h2⟩ := g e he
  exact ⟨⟨k, by rw [h1]; exact strKind_is P w k tk, h2⟩, by rw [h1] <;> rfl⟩
theorem ent_is {e : Int × Value} (g : Ent w e) (k : Str) : (strKind P w).is k e.2 = true ↔ txt e = k := by
  obtain ⟨x, tk, h1, _⟩ := g
  unfold txt strOf
  rw [h1]
  show ((x == k) = true) ↔ x = k
  exact beq_iff_eq
theorem ent_mem {l : List (Int × Value)} (g : ∀ e ∈ l, Ent w e) (k : Str) : k ∈ l.map txt ↔ ∃ e ∈ l, (strKind P w).is k e.2 = true := by
  rw [List.mem_map]
  exact ⟨fun ⟨e, he, q⟩ => ⟨e, he, (ent_is (g e he) k).2 q⟩, fun ⟨e, he, q⟩ => ⟨e, he, (ent_is (g e he) k).1 q⟩⟩
end
section
variable {P : Program} {w : World} {A : Around} {E : Value → Shared → Prop} {s : Shared} {a : Addr} {S : Str → Bool} {n : Nat}
/-- the new entry is laid down; the table may be laid anew -/
theorem put_down {g : Bool → Sem Unit} (hg : ∀ (b : Bool) (s₁ : Shared) (Q' : Unit → Shared → Prop), Q' () s₁ → wpAny (model P w) A (g b) Q' E s₁) {o : Obj} {es : Array (Int × Value)} {ep : Nat} {t : SetTable} {S0 : Str → Bool} {n0 : Nat} (T : TSet w s.heap a S0 n0 o es ep t)
    {es1 : Array (Int × Value)} {t2 : SetTable} {S' : Str → Bool} (g1 : ∀ e ∈ es1.toList, Ent w e) (nd1 : (es1.toList.map txt).Nodup) (m1 : ∀ k, S' k = true ↔ k ∈ es1.toList.map txt)
    (hb1 : es1.size < scanBound) (hf2 : t2.fits es1.size = true) (hr : Ris t2.place.toList) (hl : w.params.followText "set-order" = true ∨ t2.led = true) {wd : Bool} {R : Option Bool → Shared → Prop}
    (hR : ∀ h', Heap.SameBut a s.heap h' → TS w h' a S' es1.size → R (some true) { s with heap := h' }) :
    wpAny (model P w) A (do
        storeSet a es1 t2
        if (!wd && t2.tooFull) = true then do
            g (relayAll t2 es1 (SetTable.grown es1.size)).2.2
            storeSet a (relayAll t2 es1 (SetTable.grown es1.size)).1 (relayAll t2 es1 (SetTable.grown es1.size)).2.1
            pure (some true)
          else pure (some true)) R E s := by
  refine wpAny_bind (wpAny_storeSet_of T.ob T.dt ?_ (fits_of_scanBound hb1))
  have at1 := store_at (es' := es1) (t' := t2) T.ob T.dt
  have same1 := Heap.SameBut.update s.heap a (Obj.putSet es1 t2)
  split
  · have perm := relayAll_perm t2 es1 (SetTable.grown es1.size)
    have fit3 := relayAll_fits t2 es1 (SetTable.grown es1.size)
    have ris3 := relayAll_ris t2 es1 (SetTable.grown es1.size)
    have led3 := relayAll_led t2 es1 (SetTable.grown es1.size)
    generalize relayAll t2 es1 (SetTable.grown es1.size) = Z at perm fit3 ris3 led3 ⊢
    obtain ⟨es2, t3, gv⟩ := Z
    dsimp only at perm fit3 ris3 led3 ⊢
    have size2 : es2.size = es1.size := by rw [← Array.length_toList, perm.length_eq, Array.length_toList]
    have few2 : es2.size < scanBound := by rw [size2]; exact hb1
    refine wpAny_bind (hg _ _ _ (wpAny_bind (wpAny_storeSet_of at1 rfl ?_ (fits_of_scanBound few2))))
    have at2 := store_at (es' := es2) (t' := t3) at1 rfl
    exact wpAny_pure (hR _ (same1.trans (Heap.SameBut.update _ a _)) ⟨_, es2, _, t3, at2, T.ex, rfl, fun e he => g1 e (perm.mem_iff.mp he), (perm.map txt).nodup_iff.mpr nd1, fun k => (m1 k).trans (perm.map txt).mem_iff.symm, few2, fit3, size2, ris3,
      hl.imp id fun z => by rw [led3]; exact z⟩)
  · exact wpAny_pure (hR _ same1 ⟨_, es1, _, t2, at1, T.ex, rfl, g1, nd1, m1, hb1, hf2, rfl, hr, hl⟩)
theorem add_text {k : Str} {tk : Tok} {Q : Bool → Shared → Prop} (R : TS w s.heap a S n) (room : n + 1 < scanBound)
    (hQ : ∀ h', Heap.SameBut a s.heap h' → TS w h' a (fun j => S j || decide (j = k)) (if S k = true then n else n + 1) → Q (!S k) { s with heap := h' }) :
    wpAny (model P w) A (setAddHashed a (.str k tk) ((strKind P w).hash k)) Q E s := by
  obtain ⟨o, es, ep, t, T⟩ := R
  have isk : (strKind P w).is k (.str k tk) = true := strKind_is P w k tk
  have scan : (Value.str k tk).scannable = true := rfl
  have elems : ElemsOf (strKind P w) es.toList := ent_elems T.good
  unfold setAddHashed setAddHashedIn
  refine wpAny_holding (wpAny_bind (wpAny_setState_of T.ob T.dt T.fit ?_))
  dsimp only
  rw [byScan_of scan T.few elems]
  simp only [↓reduceIte]
  unfold setAddByScan
  refine wpAny_bind (wpAny_bind (wpAny_rule (wpAny_bind (wpAny_setScan_of isk T.ob T.dt T.fit elems ?_))))
  cases found : List.findIdx? (fun e => (strKind P w).is k e.2) es.toList with
  | some j =>
    dsimp only
    obtain ⟨hj, pj, _⟩ := List.findIdx?_eq_some_iff_getElem.mp found
    have there : S k = true := (T.mem k).2 ((ent_mem (P := P) (w := w) T.good k).2 ⟨es.toList[j], List.getElem_mem hj, pj⟩)
    refine wpAny_pure (wpAny_pure ?_)
    have q := hQ s.heap (Heap.SameBut.refl a s.heap) ⟨o, es, ep, t, { T with
      mem := fun i => by
        rw [Bool.or_eq_true, decide_eq_true_eq, ← T.mem i]
        exact ⟨fun z => z.elim id (fun e => e ▸ there), .inl⟩
      num := by rw [if_pos there]; exact T.num }⟩
    rw [there] at q
    exact q
  | none =>
    dsimp only
    have newk : k ∉ es.toList.map txt := fun z => by
      obtain ⟨e, he, q⟩ := (ent_mem (P := P) (w := w) T.good k).1 z
      have c := List.findIdx?_eq_none_iff.mp found e he
      rw [q] at c
      cases c
    have lack : S k = false := by
      cases q : S k with
      | false => rfl
      | true => exact absurd ((T.mem k).1 q) newk
    have way : ∀ (b : Bool) {s₁ : Shared} {Q' : Unit → Shared → Prop}, Q' () s₁ → wpAny (model P w) A (match b with | true => rule "set.scan.the-table-gave-way" | false => pure ()) Q' E s₁ := fun b s₁ Q' q => by
      cases b
      · exact wpAny_pure q
      · exact wpAny_rule q
    have perm := layNew_perm t es ((strKind P w).hash k) (.str k tk)
    have fit1 := layNew_fits t es ((strKind P w).hash k) (.str k tk)
    have ris1 := layNew_ris t es ((strKind P w).hash k) (.str k tk) T.ris
    have led1 := layNew_led t es ((strKind P w).hash k) (.str k tk)
    generalize layNew t es ((strKind P w).hash k) (.str k tk) = Z at perm fit1 ris1 led1 ⊢
    obtain ⟨es1, t1, wd, gv⟩ := Z
    dsimp only at perm fit1 ris1 led1 ⊢
    rw [Array.toList_push] at perm
    have front : es1.toList.Perm (((strKind P w).hash k, Value.str k tk) :: es.toList) := perm.trans (List.perm_append_singleton _ _)
    have keys : (es1.toList.map txt).Perm (k :: es.toList.map txt) := front.map txt
    have good1 : ∀ e ∈ es1.toList, Ent w e := fun e he => by
      rcases List.mem_cons.mp (front.mem_iff.mp he) with z | z
      · rw [z]; exact ⟨k, tk, rfl, rfl⟩
      · exact T.good e z
    have nd1 : (es1.toList.map txt).Nodup := keys.nodup_iff.mpr (List.nodup_cons.mpr ⟨newk, T.nd⟩)
    have mem1 : ∀ i, (S i || decide (i = k)) = true ↔ i ∈ es1.toList.map txt := fun i => by
      rw [Bool.or_eq_true, decide_eq_true_eq, T.mem i, keys.mem_iff, List.mem_cons]
      exact Or.comm
    have size1 : es1.size = n + 1 := by rw [← Array.length_toList, front.length_eq, List.length_cons, Array.length_toList, T.num]
    have few1 : es1.size < scanBound := by rw [size1]; exact room
    have ledn : w.params.followText "set-order" = true ∨ t1.led = true := T.led.imp id fun z => by rw [led1]; exact z
    have fin : ∀ h', Heap.SameBut a s.heap h' → TS w h' a (fun j => S j || decide (j = k)) es1.size → Q true { s with heap := h' } := fun h' sb r => by
      have q := hQ h' sb
      rw [lack] at q
      rw [size1] at r
      exact q r
    refine wpAny_bind (way _ ?_)
    split
    · refine wpAny_bind ?_
      rw [hashByValue_scannable 8 scan]
      refine wpAny_pure ?_
      refine put_down ?_ T good1 nd1 mem1 few1 ?_ ?_ ?_ ?_
      · exact fun b s₁ Q' q => way b q
      · first | (split <;> first | exact fit1 | exact SetTable.fits_plain_off fit1) | exact fit1 | exact SetTable.fits_plain_off fit1
      · first | (split <;> exact ris1) | exact ris1
      · first | (split <;> exact ledn) | exact ledn
      · intro h' sb r; dsimp only; exact wpAny_pure (fin h' sb r)
    · refine wpAny_bind (wpAny_pure ?_)
      simp only [↓reduceIte]
      refine put_down (fun b s₁ Q' q => way b q) T good1 nd1 mem1 few1 fit1 ris1 ledn ?_
      intro h' sb r; dsimp only; exact wpAny_pure (fin h' sb r)
/-- the loop of set(xs) -/
theorem each_text {I : Addr} {fp wr : List Addr} {G : Array GenState → Array GenState → Prop} {n : Nat} {Pv : Nat → Value → Prop} {St : Nat → Shared → Prop} {R : Result → Shared → Prop}
    (W : WalksS P w A.in1 I fp wr G n Pv St) (D : Addr) (off : D ∉ fp) (xs : List Str) (hn : n = xs.length) (hb : xs.length + 1 < scanBound) (hval : ∀ i v, Pv i v → ∃ k t, xs[i]? = some k ∧ v = .str k t) :
    ∀ (k i : Nat) (s : Shared), n - i = k → i ≤ n → St i s → (∃ c, c ≤ i ∧ TS w s.heap D (fun j => decide (j ∈ xs.take i)) c) →
      (∀ s' c, Moved (D :: wr) G s s' → c ≤ n → TS w s'.heap D (fun j => decide (j ∈ xs)) c → R (.ok (.ret .none)) s') →
      codeAny (model P w) A (.builtin "set.update.loop" ⟨[.ref D, .ref I], []⟩) R s := by
  have offw : D ∉ wr := fun h => off (W.sub _ h)
  have wider : ∀ b ∈ wr, b ∈ D :: wr := fun b hb => List.mem_cons_of_mem _ hb
  intro k
  induction k with
  | zero =>
    intro i s hk hi hst ⟨c, hc, T⟩ hR
    obtain rfl : i = n := by omega
    refine codeAny_builtin F.entry_set_update_loop ?_
    rw [Around.under_plainId F.plain_set_update_loop _]
    show wpAny _ A.in1 (pyNext (.ref I) >>= _) _ _ s
    refine wpAny_bind (W.done s _ _ hst fun s' hm => ?_)
    show wpAny _ A.in1 (ret Value.none) _ _ s'
    rw [show xs.take i = xs from List.take_of_length_le (by omega)] at T
    exact wpAny_pure (hR s' c (hm.mono wider) hc (T.keep fun o e => hm.heap D o offw e))
  | succ k ih =>
    intro i s hk hi hst ⟨c, hc, T⟩ hR
    have lt : i < n := by omega
    refine codeAny_builtin F.entry_set_update_loop ?_
    rw [Around.under_plainId F.plain_set_update_loop _]
    show wpAny _ A.in1 (pyNext (.ref I) >>= _) _ _ s
    refine wpAny_bind (W.item i s _ _ lt hst fun v s' hP hst' hm => ?_)
    obtain ⟨z, t, hz, rfl⟩ := hval i v hP
    have T1 : TS w s'.heap D (fun j => decide (j ∈ xs.take i)) c := T.keep fun o e => hm.heap D o offw e
    show wpAny _ A.in1 (holding [Value.str z t] (setAdd D (.str z t)) >>= _) _ _ s'
    refine wpAny_bind (wpAny_holding ?_)
    unfold setAdd
    refine wpAny_holding (wpAny_bind ((strKind P w).pyHash (k := z) (strKind_is _ _ _ _) ?_))
    refine add_text (s := { s' with toks := s'.toks + 1 }) T1 (by omega) fun h' sb T2 => ?_
    have T3 : TS w h' D (fun j => decide (j ∈ xs.take (i + 1))) (if decide (z ∈ xs.take i) = true then c else c + 1) := T2.as fun j => by
      rw [List.take_add_one, hz]
      simp [List.mem_append]
    have c3 : (if decide (z ∈ xs.take i) = true then c else c + 1) ≤ i + 1 := by split <;> omega
    refine wpAny_pure ⟨plainId_quiet F.plain_set_update_loop _, ih (i + 1) _ (by omega) lt (W.frame _ s' _ _ hst' (Nat.le_succ _) fun b hb o e => (sb.2 b (fun h => off (by rw [← h]; exact hb))).trans e) ⟨_, c3, T3⟩ fun s'' c2 m2 hc2 T4 => ?_⟩
    refine hR s'' c2 (Moved.trans W.gtrans ((hm.mono wider).then_heap (Nat.le_succ _) fun b o hb e => ?_) m2) hc2 T4
    exact (sb.2 b (fun h => hb (by rw [h]; exact List.mem_cons_self))).trans e

theorem fresh_at {h : Heap} {xs : List Str} (ho : h.get? a = some { cls := .type "set", dict := none, data := .set #[] 0 (.fresh 0 0 (!w.params.followText "set-order")) }) : TS w h a (fun j => decide (j ∈ xs.take 0)) 0 :=
  ⟨_, #[], 0, _, ho, ⟨rfl, rfl, rfl⟩, rfl, (fun e he => by simp at he), (by simp), (fun k => by simp), (by decide), (by rfl), rfl, List.Pairwise.nil, by
    show _ ∨ (!w.params.followText "set-order") = true
    cases w.params.followText "set-order"
    · exact .inr rfl
    · exact .inl rfl⟩

set_option maxRecDepth 100000 in
set_option maxHeartbeats 3200000 in
/-- set(xs), xs a list of texts -/
theorem set_of_texts {l : Addr} {items : Array Value} (xs : List Str) {Q : Value → Shared → Prop} (hh : A.handled = none) (hl : s.heap.IsList l items) (hit : StrsAre items.toList xs) (hb : xs.length + 1 < scanBound)
    (h : ∀ (h' : Heap) (tk c : Nat), TS w h' s.heap.objs.size (fun j => decide (j ∈ xs)) c → c ≤ xs.length → (∀ b o, s.heap.get? b = some o → h'.get? b = some o) → Q (.ref s.heap.objs.size) { s with heap := h', toks := tk }) :
    wpAny (model P w) A (call (.type "set") [.ref l]) Q E s := by
  have number : items.size = xs.length := by
    have q := StrsAre.len_eq hit
    rw [Array.length_toList] at q
    exact q
  obtain ⟨c, tl, hmro⟩ := F.called_set.mro
  have made := F.called_set.made
  have subt := F.called_set.sub
  refine wpAny_call (codeAny_of_tree ?_)
  show wpAny _ _ (callAny (.type "set") _) _ _ _
  refine wpAny_pure ⟨Code.quiet_builtin _ (by decide +kernel), codeAny_builtin F.entry_type_call ?_⟩
  rw [Around.under_plain (weight_type_call_type "set" [.ref l] []) rfl]
  have h1 := F.called_set.notType
  have h2 := F.called_set.canCreate
  have hct := F.typeCall_set_1 (.ref l)
  repeat (any_goals (first | assumption | wp_step))
  refine codeAny_mono (code_set_led1 (.ref l) (E := E) (Q₁ := fun obj s₁ => obj = .ref s.heap.objs.size ∧ s₁ = { s with heap := s.heap.push { cls := .type "set", dict := none, data := .set #[] 0 (.fresh 0 0 (!w.params.followText "set-order")) } }) ⟨rfl, rfl⟩) fun r s₁ hr => ?_
  cases r with
  | error e => exact hr
  | ok fl =>
    cases fl with
    | ret obj =>
      obtain ⟨rfl, rfl⟩ := hr
      generalize hG : s.heap.push { cls := .type "set", dict := none, data := .set #[] 0 (.fresh 0 0 (!w.params.followText "set-order")) } = G1
      have new : G1.get? s.heap.objs.size = some { cls := .type "set", dict := none, data := .set #[] 0 (.fresh 0 0 (!w.params.followText "set-order")) } := by rw [← hG]; exact Heap.get?_push_size _ rfl
      have keepG : ∀ b o, s.heap.get? b = some o → G1.get? b = some o := fun b o e => by rw [← hG]; exact Heap.get?_push_of_some _ e
      have sizeG : G1.objs.size = s.heap.objs.size + 1 := by rw [← hG]; exact Heap.size_push ..
      have tyS : Shared.TypeIs { s with heap := G1 } (.ref s.heap.objs.size) "set" := ⟨_, new, rfl⟩
      have hli := F.called_set.init.lookup
      have hbi := F.called_set.init.bind (.ref s.heap.objs.size)
      repeat (any_goals (first | assumption | wp_step))
      refine codeAny_mono (codeAny_call_builtin (R := wants (fun r s₂ => r = .none ∧ ∃ h' tk c, s₂ = { s with heap := h', toks := tk } ∧ TS w h' s.heap.objs.size (fun j => decide (j ∈ xs)) c ∧ c ≤ xs.length ∧
          (∀ b o, s.heap.get? b = some o → h'.get? b = some o)) E) F.called_set.init.plain F.entry_set_init (check_set_init_1 tyS ?_)) fun r₂ s₂ hr₂ => ?_
      · obtain ⟨⟨ocls, odict, odata, oslots⟩, hol, hcl, nl, hdl⟩ := hl
        simp only at hcl hdl
        subst hcl; subst hdl
        have hol' := keepG _ _ hol
        have hsls := F.sub_list_set
        have hslf := F.sub_list_frozenset
        have hne : (Value.type "list" == Value.type "dict") = false := by decide
        have isl : G1.IsList l items := ⟨_, hol', rfl, nl, rfl⟩
        unfold Builtin.«set.__init__» noKeywords Builtin.Frozenset.updateFrom
        generalize hPI : pyIter = PI
        wp_walk
        subst hPI
        refine wpAny_pyIter_list isl (wpAny_bind (wpAny_runValue ?_))
        have before : l < s.heap.objs.size := Heap.lt_size hol
        have hh3 : A.in1.in1.in1.handled = none := by simp [hh]
        have apart : l ≠ G1.objs.size := Nat.ne_of_lt (by rw [sizeG]; exact Nat.lt_succ_of_lt before)
        have apart2 : s.heap.objs.size ≠ G1.objs.size := Nat.ne_of_lt (by rw [sizeG]; exact Nat.lt_succ_self _)
        have off : s.heap.objs.size ∉ [G1.objs.size, l] := by
          simp only [List.mem_cons, List.not_mem_nil, or_false, not_or]
          exact ⟨apart2, Nat.ne_of_gt before⟩
        have hval : ∀ (i : Nat) (v : Value), items[i]? = some v → ∃ k t, xs[i]? = some k ∧ v = .str k t := fun i v hv => by
          have hi : i < xs.length := by rw [← number]; exact (Array.getElem?_eq_some_iff.mp hv).1
          obtain ⟨t, e⟩ := SS.strs_at hit i v (by rw [Array.getElem?_toList]; exact hv)
          refine ⟨xs[i], t, List.getElem?_eq_getElem hi, ?_⟩
          rw [e, List.getD_eq_getElem?_getD, List.getElem?_eq_getElem hi] <;> rfl
        refine each_text ((Walks.list hh3 _ l apart items).toS) s.heap.objs.size off xs number hb hval (items.size - 0) 0 _ (by omega) (Nat.zero_le _)
          ⟨⟨_, Heap.get?_push_size _ rfl, rfl, rfl⟩, (isl.push _)⟩ ⟨0, Nat.le_refl 0, fresh_at (Heap.get?_push_of_some _ new)⟩ ?_
        rintro ⟨h', g2, d', tk', os'⟩ c' hm hc' T
        obtain rfl : g2 = s.gens := hm.gens
        obtain rfl : d' = s.drawn := hm.drawn
        obtain rfl : os' = s.os := hm.os
        show wpAny _ _ _ _ _ _
        refine wpAny_pure ?_
        show wpAny _ _ (ret Value.none) _ _ _
        rw [number] at hc'
        refine wpAny_pure ⟨rfl, h', tk', c', rfl, T, hc', fun b o e => ?_⟩
        have hb0 : b < s.heap.objs.size := Heap.lt_size e
        exact hm.heap b o (by simp only [List.mem_cons, List.not_mem_nil, or_false, not_or]; exact ⟨Nat.ne_of_lt hb0, Nat.ne_of_lt (by rw [sizeG]; exact Nat.lt_succ_of_lt hb0)⟩) (Heap.get?_push_of_some _ (keepG _ _ e))
      · cases r₂ with
        | error e => exact hr₂
        | ok fl₂ =>
          cases fl₂ with
          | ret r =>
            obtain ⟨rfl, h', tk, c', rfl, T, hc', hk'⟩ := hr₂
            repeat (any_goals (first | assumption | wp_step))
            exact h _ _ _ T hc' hk'
          | _ => exact hr₂.elim
    | _ => exact hr.elim
/-- sorted(found), a set of texts -/
theorem sorted_texts {Q : Value → Shared → Prop} (R : TS w s.heap a S n) (hh : A.handled = none)
    (hQ : ∀ s' p (out : Array Value) (c : Nat) (ys : List Str), (∀ b o, s.heap.get? b = some o → s'.heap.get? b = some o) → s'.gens = s.gens → s'.os = s.os → s.heap.objs.size ≤ p →
      s'.heap.get? p = some (seqObj "list" out c) → StrsAre out.toList ys → sortedS ys = true → ys.Nodup → (∀ k, k ∈ ys ↔ S k = true) → ys.length = n → Q (.ref p) s') :
    wpAny (model P w) A (call (.builtin "sorted") [.ref a]) Q E s := by
  obtain ⟨o, es, ep, t, T⟩ := R
  refine Calls.call_function_entry kind_sorted plain_sorted entry_sorted (args_sorted1 _) ?_
  unfold Builtin.«sorted»
  refine wpAny_bind (m := checkCount "sorted" 1 1 _) (wpAny_pure ?_)
  refine wpAny_bind (collect_set (A := A.in1) hh ⟨o, T.ob, T.ex.1, T.dt⟩ T.fit T.few T.ris T.led fun s1 vs k1 hz g1 o1 pm => ?_)
  have many : vs.length = n := by rw [pm.length_eq, List.length_map, Array.length_toList]; exact T.num
  have few : vs.length ≤ sizeLine := by
    have q := T.few
    rw [many, ← T.num, sizeLine_eq]
    unfold scanBound at q
    omega
  have texts : StrsAre vs (vs.map strOf) := strsAre_map vs fun v hv => by
    obtain ⟨e, he, q⟩ := List.mem_map.mp (pm.mem_iff.mp hv)
    obtain ⟨k, tk, h1, _⟩ := T.good e he
    exact ⟨k, tk, by rw [← q]; exact h1⟩
  have keys : (vs.map strOf).Perm (es.toList.map txt) := by
    have q := pm.map strOf
    rw [List.map_map] at q
    exact q
  refine wpAny_bind (wpAny_newList ?_ few)
  have at1 : (s1.heap.push (seqObj "list" vs.toArray 0)).get? s1.heap.objs.size = some (seqObj "list" vs.toArray 0) := Heap.get?_push_size _ rfl
  refine wpAny_bind (wpAny_holding (wpAny_call_entry slot_list_sort ⟨_, at1, rfl⟩ entry_list_sort (list_sort_treeKAny strKind_oneLt at1 texts.keysOf (fun v₁ v₂ rest e => keyKind_strs (by rw [← e]; exact texts)) few fun st hp hs => ?_) (args_list_sort _)))
  obtain ⟨ys, a1, a2, a3⟩ := sorted_out_str texts hp hs
  refine ⟨_, rfl, ?_⟩
  obtain ⟨c, hc⟩ := sortedHeap_at (vs := vs) (out := (arrOf st).map (·.2)) at1
  have perm : ys.Perm (es.toList.map txt) := a2.trans keys
  refine wpAny_pure ⟨_, rfl, hQ _ s1.heap.objs.size _ c ys (fun b u e => ?_) g1 o1 hz hc a1 a3 (perm.nodup_iff.mpr T.nd) (fun k => by rw [perm.mem_iff, ← T.mem k]) ?_⟩
  · have q := k1 b u e
    have lt := Heap.lt_size q
    show (sortedHeap (s1.heap.push (seqObj "list" vs.toArray 0)) s1.heap.objs.size vs _).get? b = some u
    rw [sortedHeap_old (Nat.ne_of_lt lt) (by rw [size_push']; exact Nat.lt_succ_of_lt lt)]
    exact Heap.get?_push_of_some _ q
  · rw [perm.length_eq, List.length_map, Array.length_toList]; exact T.num
end
end DL.TX

/-! DL9: further rules: len of anything, -x, dict displays, texts walked, enumerate, sorted(set(xs)), is of truth values. -/
namespace DL
open PySem PySem.Spec L2

/-- the built-in names stand as they are -/
structure Bi (mg : Str → Option Value) : Prop where
  len : mg "len" = none
  range : mg "range" = none
  isinstance : mg "isinstance" = none
  all : mg "all" = none
  any : mg "any" = none
  sum : mg "sum" = none
  tuple : mg "tuple" = none
  list : mg "list" = none
  sorted : mg "sorted" = none
  set : mg "set" = none
  abs : mg "abs" = none
  int : mg "int" = none
  enumerate : mg "enumerate" = none
  bool : mg "bool" = none
  str : mg "str" = none
  dict : mg "dict" = none
  min : mg "min" = none
  max : mg "max" = none
  ord : mg "ord" = none
section
variable {X : Cx} {e a b : Expr} {t ta tb : DE} {p pos : Pos}
/-! ### len -/
theorem call_lenA : CallR X (.builtin "len") (fun xs H Q => (∃ x n, xs = [x] ∧ LenV X.K x H n ∧ Q (.int n) H) ∨ ∃ a kvs, xs = [V.ref a] ∧ H a = some (.dK kvs) ∧ Q (.int kvs.length) H) := CallR.or call_len call_lenD
def rLenA : DC := fun ds G Q => match ds with
  | [x] => (match dictOf G x with | some kvs => Q (.int kvs.length) G | none => rLen [x] G Q)
  | _ => False
theorem cd_lenA {K : PySem.W.Frag} : CallD K (fun xs H Q => (∃ x n, xs = [x] ∧ LenV K x H n ∧ Q (.int n) H) ∨ ∃ a kvs, xs = [V.ref a] ∧ H a = some (.dK kvs) ∧ Q (.int kvs.length) H) rLenA := by
  intro F H G ds vs Qd Q rs hg h k
  unfold rLenA at h
  split at h
  · split at h
    · rename_i kvs e
      cases rs with
      | cons r t =>
        cases t
        obtain ⟨hl, a, ks, rfl, h1, h2⟩ := dict_rep r hg e
        exact .inr ⟨a, ks, rfl, h1, by rw [← h2.length]; exact k.here (.int _) hg h⟩
    · exact .inl (cd_len F H G _ vs Qd Q rs hg h k)
  · exact h.elim
/-! ### -x -/
def wNeg (t : DE) : DE := fun σ G Q => t σ G fun x G1 => match x with | .int i => Q (.int (-i)) G1 | _ => False
theorem de_neg (h : PE X e (lift X.K t)) : PE X (.UnaryOp .USub e pos) (lift X.K (wNeg t)) :=
  PE.weak (pe_un un_neg h) fun σ H Q ⟨F, σd, G, Qd, hs, hg, h, k⟩ => lift_bind hs hg h fun F1 x G1 v H1 s1 hs1 r1 g1 q1 => by
    cases r1 with
    | int i => exact ⟨i, rfl, (k.go s1).here (.int _) g1 q1⟩
    | _ => exact (show False from q1).elim
/-! ### is True, is False -/
def rIsBl (neg : Bool) : DR2 := fun x y G Q => match x, y with | .bl i, .bl j => Q (.bl (neg ^^ decide (i = j))) G | _, _ => False
theorem od_isBl {K : PySem.W.Frag} : OpD K rIsB (rIsBl false) := by
  intro F H G x y v w Qd Q rx ry hg h k
  cases rx <;> cases ry <;> first | exact (show False from h).elim | exact ⟨_, _, rfl, rfl, k.here (.bl _) hg (by simpa [rIsBl] using h)⟩
theorem od_notBl {K : PySem.W.Frag} : OpD K rNotB (rIsBl true) := by
  intro F H G x y v w Qd Q rx ry hg h k
  cases rx <;> cases ry <;> first | exact (show False from h).elim | exact ⟨_, _, rfl, rfl, k.here (.bl _) hg (by simpa [rIsBl] using h)⟩
/-! ### a text, sign by sign -/
def signs (x : Str) : List D := x.cps.toList.map fun c => D.str ⟨#[c]⟩
def wIStr (te : DE) : DI := fun σ G Q => te σ G fun x G1 => match x with | .str z => Q (signs z) (fun _ => True) G1 | _ => False
/-! ### sorted(set(xs)), xs a list of texts -/
def strsOf : List D → Option (List Str)
  | [] => some []
  | .str x :: r => (strsOf r).map (x :: ·)
  | _ => none
theorem strsOf_map (ns : List Str) : strsOf (ns.map D.str) = some ns := by
  induction ns with
  | nil => rfl
  | cons n ns ih => simp [strsOf, ih]
theorem strsOf_rep {K : PySem.W.Frag} {H : Hp} {F : FP} : ∀ {ds : List D} {vs : List V} {ns : List Str}, Reps K H F ds vs → strsOf ds = some ns → vs = ns.map V.str ∧ ∀ x ∈ ns, x.length ≤ sizeLine
  | _, _, _, .nil, e => by cases e; exact ⟨rfl, fun x h => by simp at h⟩
  | _, _, _, .cons (d := d) (ds := ds) r t, e => by
    cases r with
    | str i hi =>
      simp only [strsOf] at e
      cases q : strsOf ds with
      | none => rw [q] at e; cases e
      | some ms =>
        rw [q] at e; cases e
        obtain ⟨h1, h2⟩ := strsOf_rep t q
        refine ⟨by rw [h1]; rfl, fun x hx => ?_⟩
        rcases List.mem_cons.mp hx with z | z
        · rw [z]; exact hi
        · exact h2 x z
    | _ => cases e
theorem Reps.of_strs {K : PySem.W.Frag} {H : Hp} {F : FP} : ∀ (ns : List Str), (∀ x ∈ ns, x.length ≤ sizeLine) → Reps K H F (ns.map D.str) (ns.map V.str)
  | [], _ => .nil
  | n :: ns, h => .cons (.str n (h n List.mem_cons_self)) (Reps.of_strs ns fun x hx => h x (List.mem_cons_of_mem _ hx))
/-- the texts of a list, each once, rising -/
def wSortSet (t : DE) : DE := fun σ G Q => t σ G fun x G1 => ∃ xs ns, listOf G1 x = some xs ∧ strsOf xs = some ns ∧ ns.length + 1 < 4096 ∧ ∀ ys : List Str, PyProof.Rows.sortedS ys = true → ys.Nodup → (∀ k, k ∈ ys ↔ k ∈ ns) → ys.length ≤ ns.length → Q (.lst (ys.map D.str)) G1
theorem de_sortSet {p2 q : Pos} (hc : X.calm = true) (hg : Gl X "sorted") (hm : X.mg "sorted" = none) (hg2 : Gl X "set") (hm2 : X.mg "set" = none) (ha : PE X a (lift X.K ta))
    (na : starEach [a] X.env = (false, eval a X.env) :: starEach [] X.env := by rfl) (nb : starEach [Expr.Call (.Name "set" p2) [a] [] q] X.env = (false, eval (Expr.Call (.Name "set" p2) [a] [] q) X.env) :: starEach [] X.env := by rfl)
    (pl1 : (backTo q (starEach [] X.env)).any (·.1) = false := by rfl) (pl2 : (backTo pos (starEach [] X.env)).any (·.1) = false := by rfl) :
    PE X (.Call (.Name "sorted" p) [.Call (.Name "set" p2) [a] [] q] [] pos) (lift X.K (wSortSet ta)) := by
  -- set(xs) as a value: an object that is not tracked is enough, so both calls at once
  let T : TE := fun σ H Q => lift X.K ta σ H fun x H1 => ∃ (l : Addr) (ns : List Str), x = .ref l ∧ H1 l = some (.lst (ns.map V.str)) ∧ ns.length + 1 < 4096 ∧
    ∀ (ys : List Str) (p : Addr), PyProof.Rows.sortedS ys = true → ys.Nodup → (∀ k, k ∈ ys ↔ k ∈ ns) → ys.length ≤ ns.length → H1 p = none → Q (.ref p) (upd H1 p (.lst (ys.map V.str)))
  have low : PE X (.Call (.Name "sorted" p) [.Call (.Name "set" p2) [a] [] q] [] pos) T := by
    refine ⟨fun pins s σ H Q I h => ?_⟩
    refine PyProof.Rows.Call_ (ld_blt I hg hm PyProof.Rows.boot_sorted ?_)
    refine PyProof.Rows.callWith_builtin1 (PyProof.Rows.args_cons ?_ nb) nb rfl
    refine PyProof.Rows.Call_ (ld_blt I hg2 hm2 PyProof.Rows.boot_set ?_)
    refine PyProof.Rows.callWith_type1 (PyProof.Rows.args_cons (thn (ha.run pins s σ H _ I h) fun v s1 ⟨x, H1, I1, r1, l, ns, ex, hl, few, q1⟩ => PyProof.Rows.args_nil ?_) na) na pl1
    subst ex
    cases r1
    obtain ⟨its, rv, pl, hz⟩ := I1.list (SqL.of hl)
    refine TX.set_of_texts ns (I1.ok.hd hc) pl.isList (by simpa using rv.strs) (by unfold scanBound; exact few) fun h' tk c ts hc' keep => ?_
    refine PyProof.Rows.args_nil ?_
    have I2 : Inv X pins σ H1 { s1 with heap := h', toks := tk } := I1.kept keep
    refine TX.sorted_texts (s := { s1 with heap := h', toks := tk }) ts (I2.ok.hd hc) fun s' p out cc ys keep2 g o hp hgp hi hs nd hmem hlen => ?_
    have hsz : (ys.map V.str).length ≤ sizeLine := by rw [List.length_map, sizeLine_eq]; omega
    have hn : H1 p = none := I2.hok.fresh hp
    have J := Inv.call (ch := []) (h' := s'.heap) (g' := s'.gens) (d' := s'.drawn) (t' := s'.toks) (H' := upd H1 p (.lst (ys.map V.str))) I2 (Un.laid keep2 hp hn) (I2.hok.laid keep2 hp ⟨hsz, out.toList, cc, vals_of_strs hi, hgp⟩) (by rw [g]; exact I1.bare) (fun _ z => nomatch z)
    have e : s' = { s1 with heap := s'.heap, gens := s'.gens, drawn := s'.drawn, toks := s'.toks } := by
      cases s'
      cases s1
      cases o
      rfl
    rw [e]
    exact ⟨.ref p, _, J, rfl, q1 ys p hs nd (fun k => (hmem k).trans decide_eq_true_iff) (by omega) hn⟩
  refine PE.weak low fun σ H Q ⟨F, σd, G, Qd, hs, hg, h, k⟩ => ?_
  refine lift_bind hs hg h fun F1 x G1 v H1 s1 hs1 r1 g1 q1 => ?_
  obtain ⟨xs, ns, e1, e2, few, q1⟩ := q1
  obtain ⟨hl, l, ws, rfl, h1, r2⟩ := list_rep r1 g1 e1
  obtain ⟨rfl, hb⟩ := strsOf_rep r2 e2
  refine ⟨l, ns, rfl, h1, few, fun ys p a1 a2 a3 a4 hp => ?_⟩
  exact (k.go s1).lst g1 (by rw [List.length_map, sizeLine_eq]; omega) (Reps.of_strs ys fun x hx => hb x ((a3 x).1 hx)) (q1 ys a1 a2 a3 a4) p hp
end
end DL

/-! DLE: enumerate of a tuple. -/
namespace DL.EN
open PySem PySem.Spec L2
open PySem.AutoSeq1 (wpAny_loadPart')

theorem new_of_tuple (l : Addr) (items : Array Value) (n : Nat) (dct : Option Addr) (sl : Array (Option Value)) :
    Meets (Builtin.«enumerate.__new__» ⟨[.type "enumerate", .ref l], []⟩) (fun _ R s => s.heap.get? l = some { cls := .type "tuple", dict := dct, data := .seq items n, slots := sl } ∧
      R (.ok (.ret (.ref (s.heap.push { cls := .type "tuple_iterator", data := .fields #[.ref l, .int 0 0] }).objs.size)))
        { s with heap := (s.heap.push { cls := .type "tuple_iterator", data := .fields #[.ref l, .int 0 0] }).push { cls := .type "enumerate", data := .fields #[.none, .bool false, .ref s.heap.objs.size, rawInt 0, .none, .none] } }) :=
  .of_wp fun prog w A R s h => by
    obtain ⟨hp, g, d, tk, os⟩ := s
    obtain ⟨ht, h⟩ := h
    have hsub := sub_enumerate
    have isT : Heap.IsTuple (Shared.heap ⟨hp, g, d, tk, os⟩) l items := ⟨_, ht, rfl, n, rfl⟩
    wp_walk using wpAny_loadPart' ht
    refine wpAny_stack_any fun st => wpAny_pure ?_
    split
    · rename_i c _ _ _ _ _
      cases (c == Value.type "enumerate") <;>
      · wp_walk using wpAny_loadPart' ht, wpAny_pyIter_tuple isT
        exact ⟨_, rfl, h⟩
    · wp_walk using wpAny_loadPart' ht, wpAny_pyIter_tuple isT
      exact ⟨_, rfl, h⟩
section
variable {prog : Program} {w : World} {A : Around} {E : Value → Shared → Prop} {s : Shared}
theorem call_of_tuple {l : Addr} {items : Array Value} {Q : Value → Shared → Prop} (hL : s.heap.IsTuple l items)
    (h : ∀ h', IsEnum h' (s.heap.objs.size + 1) s.heap.objs.size 0 .none → h'.IsTupleIter s.heap.objs.size l 0 → h'.objs.size = s.heap.objs.size + 2 →
      (∀ b o, s.heap.get? b = some o → h'.get? b = some o) → Q (.ref (s.heap.objs.size + 1)) { s with heap := h' }) :
    wpAny (model prog w) A (call (.type "enumerate") [.ref l]) Q E s := by
  obtain ⟨⟨c, dct, dt, sl⟩, hl, hc, n, hd⟩ := hL
  obtain rfl : c = .type "tuple" := hc
  obtain rfl : dt = .seq items n := hd
  refine callType_new F.called_enumerate (by decide) (F.typeCall_enumerate_1 _) (F.newCall_enumerate_1 _) (fun obj => F.args_object_init_2 obj _) F.entry_enumerate_new (new_of_tuple l items n dct sl) ⟨hl, ?_⟩
  have hz : (s.heap.push { cls := .type "tuple_iterator", data := .fields #[.ref l, .int 0 0] }).objs.size = s.heap.objs.size + 1 := Heap.size_push ..
  show _ ∧ _
  rw [hz]
  have he : IsEnum ((s.heap.push { cls := .type "tuple_iterator", data := .fields #[.ref l, .int 0 0] }).push
      { cls := .type "enumerate", data := .fields #[.none, .bool false, .ref s.heap.objs.size, rawInt 0, .none, .none] }) (s.heap.objs.size + 1) s.heap.objs.size 0 .none := by
    have q := Heap.get?_push_size (s.heap.push { cls := .type "tuple_iterator", data := .fields #[.ref l, .int 0 0] })
      (o := { cls := .type "enumerate", data := .fields #[.none, .bool false, .ref s.heap.objs.size, rawInt 0, .none, .none] }) rfl
    rw [hz] at q
    exact q
  exact ⟨⟨_, he, rfl⟩, h _ he ⟨_, Heap.get?_push_of_some _ (Heap.get?_push_size _ rfl), rfl, rfl⟩ (by rw [Heap.size_push, hz]) fun b o x => Heap.get?_push_of_some _ (Heap.get?_push_of_some _ x)⟩
end
/-- the tuple at a, each item in a new pair -/
def Itet (K : PySem.W.Frag) (a : Addr) : It :=
  ⟨fun i H => ∃ (xs : List V) (x : V), SqT K H a xs ∧ xs[i]? = some x, fun i H v H' => ∃ T x, v = .ref T ∧ H T = none ∧ H' = upd H T (.tup [.int (i : Nat), x]) ∧ ∀ xs, SqT K H a xs → xs[i]? = some x, fun i H => ∃ xs : List V, SqT K H a xs ∧ xs.length = i⟩
theorem turn_enumT {P : Program} {w : World} {K : PySem.W.Frag} {elts : List Expr} {kk : Nat} {tpos : Pos} (a e it : Addr) :
    Turn P w K (.Tuple elts kk tpos) (Itet K a) [e, it] e (fun i h => (∃ old, IsEnum h e it ((i : Nat) : Int) old) ∧ h.IsTupleIter it a i ∧ e ≠ it ∧ a ≠ it) where
  mem := by simp
  obj := fun i h st b hb => by
    obtain ⟨⟨old, he⟩, ⟨o, ho, hc, hd⟩, _⟩ := st
    have e' : b = e ∨ b = it := by simpa using hb
    rcases e' with z | z
    · rw [z]; exact ⟨_, he, fun v q => nomatch q⟩
    · rw [z]; exact ⟨o, ho, fun v q => by rw [hd] at q; cases q⟩
  keep := fun i h h' st k => let ⟨⟨old, he⟩, hi, hne⟩ := st; ⟨⟨old, k e (by simp) _ he⟩, hi.at fun o q => k it (by simp) o q, hne⟩
  item := by
    intro X hP hw hK hc i pins s σ H E I hf st hg
    subst hP hw hK
    obtain ⟨⟨old, he⟩, hit, hne, hai⟩ := st
    obtain ⟨xs, x, hq, hx⟩ := hg
    obtain ⟨its, rv, p, hz⟩ := I.tuple hq
    obtain ⟨u, hu, ru⟩ := rv.get hx
    have hlt : i < its.toArray.size := by
      have := (List.getElem?_eq_some_iff.mp hu).1
      simpa using this
    have elt : e < s.heap.objs.size := Heap.lt_size he
    have ilt : it < s.heap.objs.size := by obtain ⟨_, q, _⟩ := hit; exact Heap.lt_size q
    have hea : e ≠ a := by
      rintro rfl
      obtain ⟨o, ho, hc', _⟩ := p
      rw [he] at ho; cases ho
      exact absurd (Value.type.inj hc') (by decide)
    refine wpAny_pyNext_enum_itemD (Draws.tuple (A := X.A.in1) (show X.A.in1.handled = none from I.ok.hd hc) it a hai its.toArray) he ⟨hit, p⟩ hlt hne (by simp [hne, hea]) fun y h' tk hP ho hst' hT hsz hk => ?_
    obtain rfl : u = y := by
      have q : its.toArray[i]? = some y := hP
      rw [show its.toArray[i]? = its[i]? by simp, hu] at q
      exact Option.some.inj q
    refine ⟨_, rfl, wpAny_letOwnedTupleGo_enum (s := { s with heap := h', toks := tk + 1 }) ho fun h'' he' sb => ?_⟩
    have hT2 : h''.get? s.heap.objs.size = some { cls := .type "tuple", data := .seq #[.int i tk, u] } := (sb.2 _ (Nat.ne_of_gt elt)).trans hT
    have new : ObjOk X.prog X.w (upd H s.heap.objs.size (.tup [.int (i : Nat), x])) h'' s.heap.objs.size (.tup [.int (i : Nat), x]) :=
      ⟨by show 2 ≤ sizeLine; decide, [.int i tk, u], .cons ⟨_, rfl⟩ (.cons ru .nil), ⟨_, hT2, rfl, _, rfl⟩⟩
    have I1 : L2.Inv X pins σ (upd H s.heap.objs.size (.tup [.int (i : Nat), x])) { s with heap := h'', toks := tk + 1 } :=
      I.turnedNew (ch := [e, it]) (fun b ob hb q => (sb.2 b (fun z => hb (by simp [z]))).trans (hk b ob (fun z => hb (by simp [z])) (fun z => hb (by simp [z])) q)) hf (Nat.le_refl _) new
    refine ⟨.ref s.heap.objs.size, _, I1, rfl, ⟨_, x, rfl, I.hok.fresh (Nat.le_refl _), rfl, fun ys hy => by rw [I.tuple_inj hy hq]; exact hx⟩, ⟨⟨u, ?_⟩, hst'.1.at fun o q => (sb.2 it (Ne.symm hne)).trans q, hne, hai⟩, fun b hb => ?_⟩
    · rw [show ((i + 1 : Nat) : Int) = (i : Int) + 1 by omega]; exact he'
    · have hb' : b < s.heap.objs.size := by
        have e' : b = e ∨ b = it := by simpa using hb
        rcases e' with z | z
        · rw [z]; exact elt
        · rw [z]; exact ilt
      rw [upd_ne (Nat.ne_of_lt hb')]
      exact (hf b hb).1
  done := by
    intro X hP hw hK hc i pins s σ H E I hf st hg
    subst hP hw hK
    obtain ⟨⟨old, he⟩, hit, hne, hai⟩ := st
    obtain ⟨xs, hq, hx⟩ := hg
    obtain ⟨its, rv, p, hz⟩ := I.tuple hq
    obtain ⟨f0, f1, f2, f3, f4, f5⟩ := hf it (by simp)
    have hl := rv.length
    obtain rfl : i = its.toArray.size := by rw [List.size_toArray]; omega
    exact wpAny_pyNext_enum_endD (Draws.tuple (A := X.A.in1) (show X.A.in1.handled = none from I.ok.hd hc) it a hai its.toArray) he ⟨hit, p⟩ fun h' eb => ⟨rfl, I.turned (t' := s.toks) (fun b o hb q => eb b o hb q) f0 f1 f3 f4 f5⟩
  self := fun A i s Q E st h => let ⟨⟨_, he⟩, _⟩ := st; wpAny_pyIter_enum he h
def iEnumT (K : PySem.W.Frag) (ta : TE) : TI := fun σ H R => ta σ H fun v H1 => ∃ a xs, v = .ref a ∧ SqT K H1 a xs ∧ R (Itet K a) H1
theorem pi_enumT {X : Cx} {e : Expr} {ta : TE} {p pos tpos : Pos} {elts : List Expr} {kk : Nat} (hg : Gl X "enumerate") (hm : X.mg "enumerate" = none) (ha : PE X e ta) (hs : starEach [e] X.env = [(false, eval e X.env)] := by rfl) :
    PI X (.Tuple elts kk tpos) (.Call (.Name "enumerate" p) [e] [] pos) (iEnumT X.K ta) := by
  refine ⟨fun pins s σ H R I h => ?_⟩
  refine PyProof.Rows.Call_ (ld_blt I hg hm PyProof.Rows.boot_enumerate (PyProof.Rows.callWith_type1 (PyProof.Rows.args_cons (thn (ha.run pins s σ H _ I h) fun u s1 ⟨v, H1, I1, r1, a, xs, ev, hq, q⟩ => PyProof.Rows.args_nil ?_) hs) hs rfl))
  subst ev
  cases r1
  obtain ⟨its, rv, isT, hz⟩ := I1.tuple hq
  have lta : a < s1.heap.objs.size := by obtain ⟨o, ho, _⟩ := isT; exact Heap.lt_size ho
  refine call_of_tuple isT fun h' he hit hsz hk => wpAny_pyIter_enum he ?_
  have I2 : L2.Inv X pins σ H1 { s1 with heap := h' } := I1.kept (t' := s1.toks) hk
  refine ⟨s1.heap.objs.size + 1, [s1.heap.objs.size + 1, s1.heap.objs.size], _, _, H1, rfl, I2, turn_enumT a (s1.heap.objs.size + 1) s1.heap.objs.size, ⟨⟨.none, he⟩, hit, Nat.succ_ne_self _, Nat.ne_of_lt lta⟩, fun b hb => ?_, q⟩
  have hle : s1.heap.objs.size ≤ b := by
    have e' : b = s1.heap.objs.size + 1 ∨ b = s1.heap.objs.size := by simpa using hb
    rcases e' with z | z
    · rw [z]; exact Nat.le_add_right _ _
    · rw [z]; exact Nat.le_refl _
  exact I1.fpOk hle (I1.hok.fresh hle)
end DL.EN

/-! DL10: texts walked, enumerate, dict displays, t[::-1], == of a tuple and (). -/
namespace DL
open PySem PySem.Spec L2

section
variable {X : Cx} {tg e a b : Expr} {t ta tb : DE} {p pos : Pos}
theorem di_str (he : PE X e (lift X.K t)) : PI X tg e (liftI X.K (wIStr t)) :=
  PI.weak (pi_str he) fun σ H R ⟨F, σd, G, Qd, hs, hg, h, k⟩ => lift_bind hs hg h fun F1 x G1 v H1 s1 hs1 r1 g1 q1 => by
    cases r1 with
    | str z hz =>
      have sz : (signs z).length = z.cps.size := by simp [signs]
      refine ⟨z, rfl, k F1 (signs z) _ G1 _ H1 s1 ⟨fun F2 H2 G2 s2 g2 c2 => ?_, fun i d F2 H2 G2 e2 s2 g2 c2 => ?_⟩ g1 q1⟩
      · show z.cps.size ≤ (signs z).length
        rw [sz]; exact Nat.le_refl _
      · have hi : i < z.cps.size := by rw [← sz]; exact (List.getElem?_eq_some_iff.mp e2).1
        refine ⟨hi, fun x H3 y => ?_⟩
        obtain ⟨rfl, c, hc, rfl⟩ := y
        unfold signs at e2
        rw [List.getElem?_map, Array.getElem?_toList, hc] at e2
        cases e2
        exact ⟨.refl, .str _ (by show 1 ≤ sizeLine; decide), g2⟩
    | _ => exact (show False from q1).elim
/-- pairs (number, item) -/
def pairsFrom : Nat → List D → List D
  | _, [] => []
  | i, d :: ds => .tup [.int (i : Nat), d] :: pairsFrom (i + 1) ds
theorem pairs_get : ∀ (ds : List D) (i j : Nat), (pairsFrom i ds)[j]? = (ds[j]?).map fun d => .tup [.int ((i + j : Nat) : Int), d]
  | [], i, j => by simp [pairsFrom]
  | d :: ds, i, 0 => by simp [pairsFrom]
  | d :: ds, i, j + 1 => by
    simp only [pairsFrom, List.getElem?_cons_succ, pairs_get ds (i + 1) j]
    rw [show i + 1 + j = i + (j + 1) by omega]
theorem pairs_length : ∀ (ds : List D) (i : Nat), (pairsFrom i ds).length = ds.length
  | [], i => rfl
  | d :: ds, i => by simp [pairsFrom, pairs_length ds (i + 1)]
/-- enumerate(t), t a tuple -/
def wIEnum (te : DE) : DI := fun σ G Q => te σ G fun x G1 => match x with | .tup ds => Q (pairsFrom 0 ds) (fun _ => True) G1 | _ => False
theorem di_enum {elts : List Expr} {kk : Nat} {tpos : Pos} (hg : Gl X "enumerate") (hm : X.mg "enumerate" = none) (ha : PE X e (lift X.K t)) (hs : starEach [e] X.env = [(false, eval e X.env)] := by rfl) :
    PI X (.Tuple elts kk tpos) (.Call (.Name "enumerate" p) [e] [] pos) (liftI X.K (wIEnum t)) :=
  PI.weak (EN.pi_enumT hg hm ha hs) fun σ H R ⟨F, σd, G, Qd, hs, hg, h, k⟩ => lift_bind hs hg h fun F1 x G1 v H1 s1 hs1 r1 g1 q1 => by
    cases r1 with
    | @tup a vs ds hq hl r =>
      refine ⟨a, vs, rfl, hq, k F1 _ _ G1 _ H1 s1 ⟨fun F2 H2 G2 s2 g2 c2 => ?_, fun i d F2 H2 G2 e2 s2 g2 c2 => ?_⟩ g1 q1⟩
      · exact ⟨vs, s2.tup _ _ hq, by rw [pairs_length, r.length]⟩
      · rw [pairs_get, Nat.zero_add] at e2
        cases e3 : ds[i]? with
        | none => rw [e3] at e2; cases e2
        | some y =>
          rw [e3] at e2
          cases e2
          obtain ⟨u, e4, r4⟩ := r.get e3
          refine ⟨⟨vs, u, s2.tup _ _ hq, e4⟩, fun x H3 yl => ?_⟩
          obtain ⟨T, z, rfl, hT, rfl, same⟩ := yl
          have q := same vs (s2.tup _ _ hq)
          rw [e4] at q
          cases q
          obtain ⟨nf, s3, g3⟩ := g2.tupled (o := .tup [.int (i : Nat), u]) hT
          exact ⟨s3, .newTup s3 (by show 2 ≤ sizeLine; decide) (.cons (.int _) (.cons (r4.stay s2) .nil)), g3⟩
    | _ => exact (show False from q1).elim

/-! ### dict displays -/
/-- the pairs of a display, from the left -/
abbrev DP := List (DE × DE)
def wPairs : DP → DSt → Gh → (List (D × D) → Gh → Prop) → Prop
  | [], _, G, Q => Q [] G
  | (tk, tv) :: r, σ, G, Q => tk σ G fun x G1 => tv σ G1 fun y G2 => wPairs r σ G2 fun ps G3 => Q ((x, y) :: ps) G3
abbrev wPNil : DP := []
abbrev wPCons (k v : DE) (r : DP) : DP := (k, v) :: r
inductive RepP (K : PySem.W.Frag) (H : Hp) (F : FP) : List (D × D) → List (V × V) → Prop
  | nil : RepP K H F [] []
  | cons {x y : D} {v w : V} {ds : List (D × D)} {vs : List (V × V)} (a : Rep K H F x v) (b : Rep K H F y w) (t : RepP K H F ds vs) : RepP K H F ((x, y) :: ds) ((v, w) :: vs)
def liftP (K : PySem.W.Frag) (t : DP) : List (TE × TE) := t.map fun p => (lift K p.1, lift K p.2)
theorem pairs_lift {K : PySem.W.Frag} : ∀ {t : DP} {σd : DSt} {σ : L2.St} {H : Hp} {F : FP} {G : Gh} {Qd : List (D × D) → Gh → Prop} {Q : List (V × V) → Hp → Prop}, RelSt K H F σd σ → RelG K H F G → wPairs t σd G Qd →
    Kt K (RepP K) H F Qd Q → tPairs (liftP K t) σ H Q
  | [], _, _, _, _, _, _, _, hs, hg, h, k => k.here .nil hg h
  | (tk, tv) :: r, _, _, _, _, _, _, _, hs, hg, h, k => lift_bind hs hg h fun F1 x G1 v H1 s1 hs1 r1 g1 q1 => lift_bind hs1 g1 q1 fun F2 y G2 w H2 s2 hs2 r2 g2 q2 =>
    pairs_lift hs2 g2 q2 fun F3 ps G3 vs H3 s3 r3 g3 q3 => k _ _ _ _ _ ((s1.trans s2).trans s3) (.cons ((r1.stay s2).stay s3) (r2.stay s3) r3) g3 q3
theorem dp_nil {pos : Pos} : PPs X pos [] [] (liftP X.K wPNil) := pps_nil
theorem dp_cons {pos : Pos} {k v : Expr} {ks : List (Option Expr)} {vs : List Expr} {r : DP} (hk : PE X k (lift X.K ta)) (hv : PE X v (lift X.K tb)) (hr : PPs X pos ks vs (liftP X.K r)) : PPs X pos (some k :: ks) (v :: vs) (liftP X.K (wPCons ta tb r)) := pps_cons hk hv hr
def keyed : List (D × D) → Option (List (Key × D))
  | [] => some []
  | (k, v) :: r => match keyOf k with | some kk => (keyed r).map ((kk, v) :: ·) | none => none
def mergeD (kvs more : List (Key × D)) : List (Key × D) := more.foldl (fun acc kv => putD acc kv.1 kv.2) kvs
theorem keyed_rep {K : PySem.W.Frag} {H : Hp} {F : FP} : ∀ {ps : List (D × D)} {vs : List (V × V)} {kvs : List (Key × D)}, RepP K H F ps vs → keyed ps = some kvs → ∃ ks : List (Key × V), vs = ks.map (fun kv => (kV kv.1, kv.2)) ∧ RepK K H F kvs ks
  | _, _, _, .nil, e => by cases e; exact ⟨[], rfl, .nil⟩
  | _, _, _, .cons (x := x) (y := y) (ds := ds) (w := w) a b t, e => by
    simp only [keyed] at e
    cases e1 : keyOf x with
    | none => rw [e1] at e; cases e
    | some kk =>
      rw [e1] at e
      cases e2 : keyed ds with
      | none => rw [e2] at e; cases e
      | some r =>
        rw [e2] at e
        cases e
        obtain ⟨ks, h1, h2⟩ := keyed_rep t e2
        have h3 := key_rep a e1
        subst h3
        exact ⟨(kk, w) :: ks, by rw [h1]; rfl, .cons b h2⟩
theorem merge_rep {K : PySem.W.Frag} {H : Hp} {F : FP} {more : List (Key × D)} : ∀ {mv : List (Key × V)} {kvs : List (Key × D)} {ks : List (Key × V)}, RepK K H F more mv → RepK K H F kvs ks → RepK K H F (mergeD kvs more) (mergeK ks mv) := by
  induction more with
  | nil => intro mv kvs ks q r; cases q; exact r
  | cons p t ih => intro mv kvs ks q r; cases q with | @cons k d v _ vs a t' => exact (show RepK K H F (mergeD (putD kvs k d) t) (mergeK (putK ks k v) vs) from ih t' (RepK.put a k r))
theorem mergeD_length : ∀ (more kvs : List (Key × D)), (mergeD kvs more).length ≤ kvs.length + more.length
  | [], kvs => by show kvs.length ≤ kvs.length + 0; omega
  | p :: r, kvs => by
    have h1 := mergeD_length r (putD kvs p.1 p.2)
    have h2 := putD_length kvs p.1 p.2
    show (mergeD (putD kvs p.1 p.2) r).length ≤ _
    rw [List.length_cons]; omega
def wDict (t : DP) : DE := fun σ G Q => wPairs t σ G fun ps G1 => ∃ kvs, keyed ps = some kvs ∧ kvs.length ≤ 15 ∧ ∀ p, G1 p = none → Q (.ref p) (gup G1 p (.dic (mergeD [] kvs)))
def wDictV (t : DP) : DE := fun σ G Q => wPairs t σ G fun ps G1 => ∃ kvs, keyed ps = some kvs ∧ kvs.length ≤ 15 ∧ Q (.dic (mergeD [] kvs)) G1
theorem mergeD_line {kvs : List (Key × D)} (h : kvs.length ≤ 15) : (mergeD [] kvs).length ≤ sizeLine := by
  have h1 := mergeD_length kvs []
  rw [List.length_nil] at h1
  rw [sizeLine_eq]; omega
/-- the new dict is guarded while the pairs are made -/
theorem disp_core {K : PySem.W.Frag} {trs : DP} {Qf : List (Key × D) → Gh → Prop} {σ : L2.St} {H : Hp} {Q : VK}
    (h : ∃ F σd G, RelSt K H F σd σ ∧ RelG K H F G ∧ (wPairs trs σd G fun ps G1 => ∃ kvs, keyed ps = some kvs ∧ kvs.length ≤ 15 ∧ Qf kvs G1) ∧
      ∀ F' G' p H' kvs ks, Stay K H F H' F' → RelG K H' F' G' → H' p = some (.dK (mergeK [] ks)) → ¬ F'.has p → G' p = none → kvs.length ≤ 15 → RepK K H' F' (mergeD [] kvs) (mergeK [] ks) → Qf kvs G' → Q (.ref p) H') :
    tDisp (liftP K trs) σ H Q := by
  obtain ⟨F, σd, G, hs, hg, h, fin⟩ := h
  intro p hp
  obtain ⟨nf, s1, g1⟩ := hg.tupled (o := .dK []) hp
  have gg : RelG K (upd H p (.dK [])) (F.guard p) G := by
    refine g1.keep ⟨fun _ _ h => h, fun _ h => h, fun _ _ => rfl⟩ (fun a q => ?_) (fun a q r => r.elim (g1.dj a q) fun e => nf (.inl (e ▸ q))) fun a o e => ⟨rfl, fun q => ?_⟩
    · rcases q with q | q | q
      · exact g1.fo a (.inl q)
      · exact g1.fo a (.inr q)
      · exact ⟨_, by rw [q]; exact upd_same⟩
    · rcases q with q | q | q
      · exact (g1.g a o e).1 (.inl q)
      · exact (g1.g a o e).1 (.inr q)
      · rw [q, hg.gnone hp] at e; cases e
  have hsg : RelSt K (upd H p (.dK [])) (F.guard p) σd σ := RelSt.stayF (F := F) (F' := F.guard p) ⟨fun _ _ h => h, fun _ h => h, fun _ _ => rfl⟩ (hs.stay s1)
  refine pairs_lift hsg gg h fun F2 ps G2 vs H2 s2 r2 g2 q2 => ?_
  obtain ⟨kvs, e1, few, q2⟩ := q2
  obtain ⟨ks, rfl, rk⟩ := keyed_rep r2 e1
  obtain ⟨pp, hpp⟩ := s2.pr p (.inr rfl)
  have h2 : H2 p = some (.dK []) := hpp.trans upd_same
  refine ⟨h2, ks, rfl, by rw [← rk.length]; exact few, ?_⟩
  have nz : ¬ F2.fz p := fun z => g2.dj p z pp
  have t3 : StayF K H2 F2 (upd H2 p (.dK (mergeK [] ks))) (F2.free p) := by
    refine ⟨fun a vs z => ?_, fun _ h => h, fun a z => upd_ne fun e => nz (e ▸ z)⟩
    rcases z with (z | ⟨ob, z⟩) | z
    · exact .inl (.inl (by rw [upd_ne (fun e => by rw [e, h2] at z; cases z)]; exact z))
    · exact .inl (.inr ⟨ob, by rw [upd_ne (fun e => by rw [e, h2] at z; cases z)]; exact z⟩)
    · exact .inr z
  have gn : G2 p = none := by
    cases e : G2 p with
    | none => rfl
    | some o => exact ((g2.g p o e).1 (.inr pp)).elim
  have g3 : RelG K (upd H2 p (.dK (mergeK [] ks))) (F2.free p) G2 := by
    refine g2.keep t3 (fun a z => ?_) (fun a z w => g2.dj a z w.1) fun a o e => ?_
    · by_cases e : a = p
      · subst e; exact ⟨_, upd_same⟩
      · rw [upd_ne e]; exact g2.fo a (z.imp id fun w => w.1)
    · have ne : a ≠ p := fun z => (g2.g a o e).1 (.inr (z ▸ pp))
      exact ⟨upd_ne ne, fun z => (g2.g a o e).1 (z.imp id fun w => w.1)⟩
  have nD : ∀ a, F.has a → a ≠ p := fun a h e => nf (e ▸ h)
  have whole : Stay K H F (upd H2 p (.dK (mergeK [] ks))) (F2.free p) := by
    refine ⟨⟨fun a xs h => t3.tup a xs (s2.tup a xs (s1.tup a xs h)), fun a h => s2.fz a h, fun a h => ?_⟩, fun a h => ⟨⟨(s2.pr a (.inl h)).1, nD a (.inr h)⟩, ?_⟩⟩
    · rw [upd_ne (nD a (.inl h)), s2.at_ a h]; exact upd_ne (nD a (.inl h))
    · rw [upd_ne (nD a (.inr h)), (s2.pr a (.inl h)).2]; exact upd_ne (nD a (.inr h))
  exact fin (F2.free p) G2 p _ kvs ks whole g3 upd_same (fun z => z.elim nz fun w => w.2 rfl) gn few ((merge_rep rk .nil).stayF t3) q2
theorem de_dict {keys : List (Option Expr)} {values : List Expr} {trs : DP} (h : PPs X pos keys values (liftP X.K trs)) (hall : keys.all (·.isSome) = true := by rfl) (hl : keys.length = values.length := by rfl) (h0 : keys ≠ [] := by intro z; cases z)
    (h15 : keys.length ≤ 15 := by decide) : PE X (.Dict keys values pos) (lift X.K (wDict trs)) :=
  PE.weak (pe_disp h hall hl h0 h15) fun σ H Q ⟨F, σd, G, Qd, hs, hg, h, k⟩ => disp_core ⟨F, σd, G, hs, hg, h, fun F' G' p H' kvs ks s g' hp nf n few r q =>
    k F' (.ref p) _ _ H' s (.ref p) ⟨g'.fo, g'.dj, fun a o e => by
      by_cases z : a = p
      · subst z; rw [gup_same] at e; cases e; exact ⟨nf, mergeD_line few, _, hp, r⟩
      · rw [gup_ne z] at e; exact g'.g a o e⟩ (q p n)⟩
theorem de_dictV {keys : List (Option Expr)} {values : List Expr} {trs : DP} (h : PPs X pos keys values (liftP X.K trs)) (hall : keys.all (·.isSome) = true := by rfl) (hl : keys.length = values.length := by rfl) (h0 : keys ≠ [] := by intro z; cases z)
    (h15 : keys.length ≤ 15 := by decide) : PE X (.Dict keys values pos) (lift X.K (wDictV trs)) :=
  PE.weak (pe_disp h hall hl h0 h15) fun σ H Q ⟨F, σd, G, Qd, hs, hg, h, k⟩ => disp_core ⟨F, σd, G, hs, hg, h, fun F' G' p H' kvs ks s g' hp nf n few r q =>
    k (F'.add p) (.dic (mergeD [] kvs)) G' _ H' (s.trans Stay.froze) (.dic (.inr rfl) hp (mergeD_line few) (r.stay Stay.froze)) (g'.froze n hp fun z => nf (.inr z)) q⟩
/-- {} -/
def wDict0V : DE := fun _ G Q => Q (.dic []) G
theorem de_dict0V : PE X (.Dict [] [] pos) (lift X.K wDict0V) :=
  PE.weak pe_dnewK fun σ H Q ⟨F, σd, G, Qd, hs, hg, h, k⟩ p hp => by
    obtain ⟨nf, s, g'⟩ := hg.tupled (o := .dK []) hp
    exact k (F.add p) (.dic []) G _ _ (s.trans Stay.froze) (.dic (.inr rfl) upd_same (Nat.zero_le _) .nil) (g'.froze (hg.gnone hp) upd_same fun z => nf (.inr z)) h
def wDict0 : DE := fun _ G Q => ∀ p, G p = none → Q (.ref p) (gup G p (.dic []))
theorem de_dict0 : PE X (.Dict [] [] pos) (lift X.K wDict0) :=
  PE.weak pe_dnewK fun σ H Q ⟨F, σd, G, Qd, hs, hg, h, k⟩ p hp => by
    obtain ⟨nf, s, g'⟩ := hg.tupled (o := .dK []) hp
    exact k F (.ref p) _ _ _ s (.ref p) (hg.made (u := .dic []) hp ⟨Nat.zero_le _, [], upd_same, .nil⟩) (h p (hg.gnone hp))

/-! ### == of a tuple and () -/
def rEqT0 (K : PySem.W.Frag) : R2 := fun x y H Q => ∃ a b xs, x = .ref a ∧ y = .ref b ∧ SqT K H a xs ∧ SqT K H b [] ∧ Q (.bl xs.isEmpty) H
theorem op_eqT0 (hu : X.A.units < cLine) : OpR X (compareOp .Eq) (rEqT0 X.K) := by
  intro pins s σ H x y v u Q I rx ry h
  obtain ⟨a, b, xs, rfl, rfl, ha, hb, q⟩ := h
  cases rx
  cases ry
  obtain ⟨its, r1, p1, _⟩ := I.tuple ha
  obtain ⟨its2, r2, p2, _⟩ := I.tuple hb
  cases r2
  refine SeqAt.eq_tupleAt (e := fun _ => true) p1 p2 hu (fun j _ h2 => absurd h2 (by simp)) ⟨.bl _, H, I, rfl, ?_⟩
  have : ((List.range (min its.toArray.size ([] : List Value).toArray.size)).all (fun _ => true) && its.toArray.size == ([] : List Value).toArray.size) = xs.isEmpty := by
    cases r1 <;> simp
  rw [this]
  exact q
/-- x == (), x a tuple of anything -/
def rEq0 : DR2 := fun x y G Q => match x with | .tup xs => (match y with | .tup [] => Q (.bl xs.isEmpty) G | _ => False) | _ => False
theorem od_eq0 {K : PySem.W.Frag} : OpD K (rEqT0 K) rEq0 := by
  intro F H G x y v w Qd Q rx ry hg h k
  cases rx with
  | @tup a vs ds h1 hl1 r1 =>
    cases ry with
    | @tup b ws es h2 hl2 r2 =>
      cases r2 with
      | nil =>
        refine ⟨a, b, vs, rfl, rfl, h1, h2, k.here (.bl _) hg ?_⟩
        have : vs.isEmpty = ds.isEmpty := by cases r1 <;> rfl
        rw [this]; exact h
      | cons _ _ => exact (show False from h).elim
    | _ => exact (show False from h).elim
  | _ => exact (show False from h).elim
end
end DL
namespace DL
open PySem
theorem boot_bool : bootBuiltins "bool" = some (.type "bool") := by decide +kernel
theorem boot_dict : bootBuiltins "dict" = some (.type "dict") := by decide +kernel
end DL

/-! DLR: t[::-1], t a tuple. -/
namespace HT
open PySem PySem.Spec PyProof.Rows L2
section
variable {prog : Program} {w : World} {A : Around} {E : Value → Shared → Prop} {s : Shared}
theorem adjust_rev (n : Nat) : Builtin.Slice.sliceAdjust none none (-1) (n : Int) = ((n : Int) - 1, -1) := by
  unfold Builtin.Slice.sliceAdjust
  simp
theorem places_rev (n : Nat) : Builtin.Slice.slicePlaces ((n : Int) - 1) (-1) (-1) = n := by
  unfold Builtin.Slice.slicePlaces
  have h1 : ¬ ((-1 : Int) > 0) := by decide
  simp only [h1, if_false]
  rw [show (-(-1) : Int) = 1 by decide, Int.ediv_one]
  split <;> omega
theorem sliceApplied_rev {sl : Addr} {vs : Value} {n : Nat} {Q : Int × Int × Nat → Shared → Prop} (hs : s.heap.IsSliceOf sl .none .none vs) (ps : IsPart vs (some (-1)))
    (h : Q ((n : Int) - 1, -1, n) s) : wpAny (model prog w) A (Builtin.Slice.sliceApplied (.ref sl) (pure (n : Int))) Q E s := by
  obtain ⟨os, hos, hcs, hds⟩ := id hs
  unfold Builtin.Slice.sliceApplied Builtin.Slice.sliceFields
  refine wpAny_bind (wpAny_bind (wpAny_field hos hds (x := .none) rfl (wpAny_bind (wpAny_field hos hds (x := .none) rfl (wpAny_bind (wpAny_field hos hds (x := vs) rfl (wpAny_pure ?_)))))))
  refine wpAny_bind (slicePart_ ps ?_)
  show wpAny _ _ (if ((-1 : Int) == 0) = true then _ else _) _ _ s
  rw [if_neg (by decide)]
  refine wpAny_bind (slicePart_none (wpAny_bind (slicePart_none (wpAny_bind (wpAny_pure ?_)))))
  show wpAny _ _ (match Builtin.Slice.sliceAdjust none none (-1) (n : Int) with | (lo, hi) => pure (lo, (-1 : Int), Builtin.Slice.slicePlaces lo hi (-1))) _ _ s
  rw [adjust_rev n]
  show wpAny _ _ (pure ((n : Int) - 1, (-1 : Int), Builtin.Slice.slicePlaces ((n : Int) - 1) (-1) (-1))) _ _ s
  rw [places_rev]
  exact wpAny_pure h
theorem fm_congr {α β : Type} {f g : α → Option β} : ∀ (l : List α), (∀ m ∈ l, f m = g m) → l.filterMap f = l.filterMap g
  | [], _ => rfl
  | a :: l, h => by
    rw [List.filterMap_cons, List.filterMap_cons, h a List.mem_cons_self, fm_congr l fun m hm => h m (List.mem_cons_of_mem _ hm)]
theorem pick_rev (xs : Array Value) : ((List.range xs.size).filterMap fun (m : Nat) => xs[(((xs.size : Nat) : Int) - 1 + (m : Int) * -1).toNat]?).toArray = xs.toList.reverse.toArray := by
  have e : (List.range xs.size).filterMap (fun (m : Nat) => xs[(((xs.size : Nat) : Int) - 1 + (m : Int) * -1).toNat]?) = (List.range xs.size).filterMap ((fun i => xs[i]?) ∘ fun m => xs.size - 1 - m) := by
    refine fm_congr _ fun m hm => ?_
    have := List.mem_range.mp hm
    show _ = xs[xs.size - 1 - m]?
    congr 1
    omega
  rw [e, ← List.filterMap_map, PySem.W.krv_range, List.filterMap_reverse, PySem.W.krv_all]
theorem getItem_tuple_rev {t sl : Addr} {items : Array Value} {vs : Value} {Q : Value → Shared → Prop} (ht : IsTup s.heap t items) (hs : s.heap.IsSliceOf sl .none .none vs) (ps : IsPart vs (some (-1)))
    (h : Q (.ref s.heap.objs.size) { s with heap := s.heap.push { cls := .type "tuple", data := .seq items.toList.reverse.toArray } })
    (hsz : items.size ≤ sizeLine) : wpAny (model prog w) A (getItem (.ref t) (.ref sl)) Q E s := by
  have htake : sizeOk (.seq items.toList.reverse.toArray) := by
    show items.toList.reverse.toArray.size ≤ sizeLine
    rw [List.size_toArray, List.length_reverse, Array.length_toList]
    exact hsz
  obtain ⟨os, hos, hcs, hds⟩ := id hs
  have hTs : s.TypeIs (.ref sl) "slice" := ⟨os, hos, hcs⟩
  unfold getItem
  try with_reducible refine wpAny_holding ?_
  first | refine wpAny_bind (wpAny_pure ?_) | skip
  refine wpAny_bind (wpAny_sequenceKey ht.typeIs (by decide) ?_)
  refine wpAny_bind (wpAny_callSpecial?_slot (name := Str.ofString "__getitem__") ht.typeIs PyProof.Rows.slot_tuple_getitem
    (wpAny_call_entry PyProof.Rows.slot_tuple_getitem ht.typeIs entry_tuple_getitem ?_ (args_tuple_getitem _ _)))
  show wpAny _ _ (Builtin.Tuple.tupleItemsOf (.ref t) >>= _) _ _ s
  refine wpAny_bind (tupleItemsOf_ ht ?_)
  refine wpAny_bind (wpAny_typeOf hTs ?_)
  rw [if_pos (by decide)]
  refine wpAny_bind (sliceApplied_rev hs ps ?_)
  have hno : ¬ ((((items.size : Nat) : Int) - 1 == 0 && (-1 : Int) == 1 && items.size == items.size) = true) := by
    intro q
    rw [Bool.and_eq_true, Bool.and_eq_true] at q
    exact absurd q.1.2 (by decide)
  show wpAny _ _ (if (((items.size : Nat) : Int) - 1 == 0 && (-1 : Int) == 1 && items.size == items.size) = true then _ else _) _ _ s
  rw [if_neg hno, pick_rev]
  first
    | exact wpAny_bind (m := Builtin.Tuple.tupleExact _) (wpAny_newObj_type (wpAny_pure ⟨_, rfl, wpAny_pure h⟩) htake)
    | exact wpAny_bind (m := Builtin.Tuple.tupleExact _) (wpAny_newObj_type (wpAny_bind (wpAny_pure (wpAny_pure ⟨_, rfl, wpAny_pure h⟩))) htake)
    | exact wpAny_bind (wpAny_bind (m := Builtin.Tuple.tupleExact _) (wpAny_newObj_type (wpAny_pure (wpAny_pure ⟨_, rfl, wpAny_pure h⟩)) htake))
    | exact wpAny_bind (wpAny_bind (m := Builtin.Tuple.tupleExact _) (wpAny_newObj_type (wpAny_pure ⟨_, rfl, wpAny_pure h⟩) htake))
end
end HT
namespace DL
open PySem PySem.Spec L2 PyProof.Rows
section
variable {X : Cx}
def tRevT (K : PySem.W.Frag) (te : TE) : TE := fun σ H Q => te σ H fun x H1 => ∃ a xs, x = .ref a ∧ SqT K H1 a xs ∧ ∀ p, H1 p = none → Q (.ref p) (upd H1 p (.tup xs.reverse))
theorem pe_revT {e : Expr} {te : TE} {k : Nat} {p1 p2 p3 pos : Pos} (he : PE X e te) : PE X (.Subscript e (.Slice none none (some (.UnaryOp .USub (.Constant (.int 1) k p1) p2)) p3) pos) (tRevT X.K te) := by
  refine ⟨fun pins s σ H Q I h => ?_⟩
  refine Subscript_ (thn (he.run pins s σ H _ I h) fun v s1 ⟨x, H1, I1, r1, q1⟩ => ?_)
  obtain ⟨a, xs, ex, hx, q⟩ := q1
  subst ex
  cases r1
  have hst : PO X (some (.UnaryOp .USub (.Constant (.int 1) k p1) p2)) (tPart (tUn (rU fun i => .int (-i)) (tC (.int 1)))) := po_some (pe_un un_neg pe_int)
  refine wpAny_Slice (thn (po_none.run pins s1 σ H1 (fun o H2 => o = none ∧ H2 = H1) I1 ⟨rfl, rfl⟩) fun vl s2 ⟨l, H2, I2, pl, el, e2⟩ => ?_)
  subst el e2
  refine thn (po_none.run pins s2 σ H2 (fun o H3 => o = none ∧ H3 = H2) I2 ⟨rfl, rfl⟩) fun vu s3 ⟨u, H3, I3, pu, eu, e3⟩ => ?_
  subst eu e3
  refine thn (hst.run pins s3 σ H3 (fun o H4 => o = some (-1) ∧ H4 = H3) I3 ⟨1, rfl, -1, rfl, rfl, rfl⟩) fun vs s4 ⟨o, H4, I4, ps, eo, e4⟩ => ?_
  subst eo e4
  cases pl
  cases pu
  have I5 : L2.Inv X pins σ H4 { s4 with heap := s4.heap.push { cls := .type "slice", data := .fields #[.none, .none, vs] } } := I4.kept (t' := s4.toks) fun b ob q => Heap.get?_push_of_some _ q
  obtain ⟨its, r, ht, hz⟩ := I5.tuple hx
  have hlen := r.length
  show wpAny (model X.prog X.w) X.A (subscriptTail e (.Slice none none (some (.UnaryOp .USub (.Constant (.int 1) k p1) p2)) p3) (.ref a) (.ref s4.heap.objs.size)) (EP X pins σ Q) X.xe { s4 with heap := s4.heap.push { cls := .type "slice", data := .fields #[.none, .none, vs] } }
  refine tail_any (ops := [.ref a, .ref s4.heap.objs.size]) ht.typeIs (PyProof.Rows.slot_tuple_getitem.lookup) ?_ (by with_unfolding_all rfl)
  refine HT.getItem_tuple_rev ht (Heap.IsSliceOf.new _ .none .none vs) ps ?_ (by rw [List.size_toArray]; omega)
  refine ⟨.ref _, _, I5.laid (t' := s4.toks) (o := .tup xs.reverse) (fun b ob q => Heap.get?_push_of_some _ q) (Nat.le_refl _) ?_, rfl, q _ (I5.hok.fresh (Nat.le_refl _))⟩
  exact ⟨by rw [List.length_reverse]; exact hz, _, r.reverse, IsTup.new _ _⟩
def wRev (te : DE) : DE := fun σ G Q => te σ G fun x G1 => match x with | .tup ds => Q (.tup ds.reverse) G1 | _ => False
theorem de_rev {e : Expr} {t : DE} {k : Nat} {p1 p2 p3 pos : Pos} (he : PE X e (lift X.K t)) : PE X (.Subscript e (.Slice none none (some (.UnaryOp .USub (.Constant (.int 1) k p1) p2)) p3) pos) (lift X.K (wRev t)) :=
  PE.weak (pe_revT he) fun σ H Q ⟨F, σd, G, Qd, hs, hg, h, k⟩ => lift_bind hs hg h fun F1 x G1 v H1 s1 hs1 r1 g1 q1 => by
    cases r1 with
    | @tup a vs ds h1 hl r =>
      exact ⟨a, vs, rfl, h1, (k.go s1).tup g1 (by rw [List.length_reverse]; exact hl) r.reverse q1⟩
    | _ => exact (show False from q1).elim
end
end DL

/-! ### != of a tuple and () -/
namespace DL
open PySem PySem.Spec L2
section
variable {X : Cx}
def rNeT0 (K : PySem.W.Frag) : R2 := fun x y H Q => ∃ a b xs, x = .ref a ∧ y = .ref b ∧ SqT K H a xs ∧ SqT K H b [] ∧ Q (.bl (!xs.isEmpty)) H
theorem op_neT0 (hu : X.A.units < cLine) : OpR X (compareOp .NotEq) (rNeT0 X.K) := by
  intro pins s σ H x y v u Q I rx ry h
  obtain ⟨a, b, xs, rfl, rfl, ha, hb, q⟩ := h
  cases rx
  cases ry
  obtain ⟨its, r1, p1, _⟩ := I.tuple ha
  obtain ⟨its2, r2, p2, _⟩ := I.tuple hb
  cases r2
  refine SeqAt.RcNeAt.tuples (e := fun _ => true) p1 p2 hu (fun j _ h2 => absurd h2 (by simp)) _ _ _ _ ⟨.bl _, H, I, rfl, ?_⟩
  have : (!((List.range (min its.toArray.size ([] : List Value).toArray.size)).all (fun _ => true) && its.toArray.size == ([] : List Value).toArray.size)) = !xs.isEmpty := by
    cases r1 <;> simp
  rw [this]
  exact q
/-- x != (), x a tuple of anything -/
def rNe0 : DR2 := fun x y G Q => match x with | .tup xs => (match y with | .tup [] => Q (.bl (!xs.isEmpty)) G | _ => False) | _ => False
theorem od_ne0 {K : PySem.W.Frag} : OpD K (rNeT0 K) rNe0 := by
  intro F H G x y v w Qd Q rx ry hg h k
  cases rx with
  | @tup a vs ds h1 hl1 r1 =>
    cases ry with
    | @tup b ws es h2 hl2 r2 =>
      cases r2 with
      | nil =>
        refine ⟨a, b, vs, rfl, rfl, h1, h2, k.here (.bl _) hg ?_⟩
        have : vs.isEmpty = ds.isEmpty := by cases r1 <;> rfl
        rw [this]; exact h
      | cons _ _ => exact (show False from h).elim
    | _ => exact (show False from h).elim
  | _ => exact (show False from h).elim
end
end DL
namespace DL
open PySem PySem.Spec L2
section
variable {P : Program} {w : World} {K : PySem.W.Frag} {mg : Str → Option Value} {base : Heap}
def recSpB (sp : Nat → DSp) : Nat → DSp
  | 0 => fun _ _ _ _ => False
  | n + 1 => sp n
def anySp {ι : Type} (sp : ι → DSp) : DSp := fun ds G Q E => ∃ i, sp i ds G Q E
theorem fn_any {ι : Type} {k : Nat} {f : Addr} {fd : FuncData} {ps : List Str} {sp : ι → DSp} (c : ∀ i, FnOk P w K mg base CX0 k f fd ps (liftSp K (sp i))) : FnOk P w K mg base CX0 k f fd ps (liftSp K (anySp sp)) :=
  ⟨fun vs H Q E ⟨F, ds, G, Qd, Ed, a, b, ⟨i, q⟩, c1, c2⟩ => (c i).len vs H Q E ⟨F, ds, G, Qd, Ed, a, b, q, c1, c2⟩,
   fun A outer s H args us vs Q E hr he hb hv ⟨F, ds, G, Qd, Ed, a, b, ⟨i, q⟩, c1, c2⟩ => (c i).run A outer s H args us vs Q E hr he hb hv ⟨F, ds, G, Qd, Ed, a, b, q, c1, c2⟩⟩
theorem fn_no {k : Nat} {f : Addr} {fd : FuncData} {ps : List Str} : FnOk P w K mg base CX0 k f fd ps (liftSp K fun _ _ _ _ => False) :=
  ⟨fun vs H Q E ⟨F, ds, G, Qd, Ed, a, b, q, c1, c2⟩ => q.elim, fun A outer s H args us vs Q E hr he hb hv ⟨F, ds, G, Qd, Ed, a, b, q, c1, c2⟩ => q.elim⟩
/-- recursion: the promise at each depth -/
theorem fn_rec {k : Nat} {f : Addr} {fd : FuncData} {ps : List Str} {sp : Nat → DSp} (step : ∀ (n j : Nat) (r : DSp), FnOk P w K mg base CX0 j f fd ps (liftSp K r) → (r = recSpB sp n) → k ≤ j → FnOk P w K mg base CX0 (j + 1) f fd ps (liftSp K (sp n))) :
    ∀ n, FnOk P w K mg base CX0 (k + 1 + n) f fd ps (liftSp K (sp n))
  | 0 => step 0 k _ fn_no rfl (Nat.le_refl _)
  | n + 1 => step (n + 1) (k + 1 + n) _ (fn_rec step n) rfl (by omega)
end
end DL

/-! DLX: raise, try, calls that may raise, defs that raise. -/
namespace DL
open PySem PySem.Spec L2

abbrev veB : List Value := [.type "ValueError", .type "Exception", .type "BaseException", .type "object"]
/-! ### X() -/
section
variable {X : Cx}
theorem pmk_own0 {C : Addr} {bmB : List Value} {B newId initId : String} {x : Str} {p pos : Pos} (F : ExcBaseFacts B newId initId bmB) (q : PySem.W.excIn X.K C bmB newId = true) (gC : X.mg x = some (.ref C))
    (kC : PySem.W.keepIn X.K (.ref C) = true) (r : Raises X (.ref C)) (hg : Gl X x) (hdb : (x == ("__debug__" : Str)) = false := by decide) :
    PMk X (.Call (.Name x p) [] [] pos) (fun _ H Q => Q (.ref C) none H) := by
  intro pins s σ H Q I h
  refine wpAny_Call_Name_kw (ld_glob I hg gC ?_ hdb)
  refine PySem.W.callWith_K0 I.kIn kC ?_
  show wpAny _ _ (call (.ref C) []) _ _ _
  obtain ⟨bm, N, nm, qn, bs, hdct, sn, sub, ab, col, dd, k0, k1, k2, k3, k5, mN, hC, hN, hni, T⟩ := exc_obj I.kIn q
  refine wpAny_call_exc_subT F T hC hN hni (fun h' e hm => ?_) (Nat.zero_le _)
  exact mk_of I hm r h (I.hok.gone hm.new)
end

section
variable {X : Cx} {W : WX} {k : Nat} {ps : List Str} {sp : DSp} {x : Str} {p pos pos2 : Pos} {e : Expr} {es : List Expr} {t : DA}
/-- raise X(): an own class of exceptions -/
structure ExcT (K : PySem.W.Frag) (mg : Str → Option Value) (x : Str) (C : Addr) (bmB : List Value) (newId : String) : Prop where
  inK : PySem.W.excIn K C bmB newId = true
  g : mg x = some (.ref C)
  kp : PySem.W.keepIn K (.ref C) = true
  sub : PySem.W.subIn K (.ref C) (.type "BaseException") = some true
  ty : PySem.W.typeIn K (.ref C) = some (.type "type")
def wRaise (C : Addr) : DS := fun D σ G => D.ex σ C [] G
theorem ds_raise0 {C : Addr} {bmB : List Value} {B newId initId : String} (F : ExcBaseFacts B newId initId bmB) (T : ExcT X.K X.mg x C bmB newId) (hc : X.calm = true) (tk : Takes X W) (hg : Gl X x) (hdb : (x == ("__debug__" : Str)) = false := by decide) :
    PS X (.Raise (some (.Call (.Name x p) [] [] pos)) none pos2) (liftS X.K W (wRaise C)) :=
  PS.weak (ps_raise hc tk (pmk_own0 F T.inK T.g T.kp (raises_own T.sub T.ty) hg hdb)) fun D σ H ⟨F, σd, G, Dd, hs, hg, h, k⟩ => k.ex F σd C [] G σ H none .refl hs hg (.inl ⟨rfl, rfl⟩) h
/-- a def that may raise -/
structure CalX (P : Program) (w : World) (K : PySem.W.Frag) (mg : Str → Option Value) (base : Heap) (k : Nat) (x : Str) (ps : List Str) (sp : DSp) : Prop where
  ex : ∃ f fd, mg x = some (.ref f) ∧ PySem.W.keepIn K (.ref f) = true ∧ Binds K fd ps [] ∧ FnOk P w K mg base (L2.CX P w) k f fd ps (liftSp K sp)
theorem CalX.mono {P : Program} {w : World} {K : PySem.W.Frag} {mg : Str → Option Value} {base : Heap} {j k : Nat} (c : CalX P w K mg base j x ps sp) (h : j ≤ k) : CalX P w K mg base k x ps sp :=
  let ⟨f, fd, a, b, c, d⟩ := c.ex; ⟨f, fd, a, b, c, d.mono h⟩
theorem callX_lift {D : Ends} {Dd : DEnds} {σ : L2.St} {H : Hp} {Q : VK} {F : FP} {σd : DSt} {G : Gh} {Qd : DQ} (hs : RelSt X.K H F σd σ) (hg : RelG X.K H F G) (h : t σd G fun ds G1 => sp ds G1 Qd fun C fs G2 => Dd.ex σd C fs G2)
    (kq : Kt X.K (Rep X.K) H F Qd Q) (k : KEnds X.K W H F Dd D) : tCallS (liftSp X.K sp) (WE W) (liftA X.K t) σ H Q :=
  lift_bind hs hg h fun F1 ds G1 vs H1 s1 hs1 r1 g1 q1 => ⟨F1, ds, G1, Qd, _, r1, g1, q1, kq.go s1, fun F' C fs G' H' od s g x e => k.ex F' σd C fs G' σ H' od (s1.trans s) (hs1.stay s) g x e⟩
/-- f(a, ..) as a statement -/
def wCallSt (sp : DSp) (t : DA) : DS := fun D σ G => t σ G fun ds G1 => sp ds G1 (fun _ G2 => D.nx σ G2) fun C fs G2 => D.ex σ C fs G2
theorem ds_callX (tk : Takes X W) (c : CalX X.prog X.w X.K X.mg X.base k x ps sp) (hr : Room k X.A) (hg : Gl X x) (ha : PA X (e :: es) (liftA X.K t))
    (hdb : (x == ("__debug__" : Str)) = false := by decide) (he : starEach (e :: es) X.env = (false, eval e X.env) :: starEach es X.env := by rfl) (hpl : (backTo pos (starEach es X.env)).any (·.1) = false := by rfl)
    (hs : swapsWith (.Call (.Name x p) (e :: es) [] pos) none pos2.line X.env = pure false := by rfl) : PS X (.Expr (.Call (.Name x p) (e :: es) [] pos) pos2) (liftS X.K W (wCallSt sp t)) := by
  obtain ⟨f, fd, hm, hk, hb, F⟩ := c.ex
  exact PS.weak (ps_expr (pe_callS F hr hg hm hk hb (fun σ => passAt tk σ) ha hdb he hpl) hs) fun D σ H ⟨F, σd, G, Dd, hs, hg, h, k⟩ =>
    callX_lift hs hg h (fun F' a G' b H' s r g q => k.nx F' σd G' σ H' s (hs.stay s) g q) k
/-- return f(a, ..) -/
def wRetX (sp : DSp) (t : DA) : DS := fun D σ G => t σ G fun ds G1 => sp ds G1 D.rt fun C fs G2 => D.ex σ C fs G2
theorem ds_retX (tk : Takes X W) (c : CalX X.prog X.w X.K X.mg X.base k x ps sp) (hr : Room k X.A) (hg : Gl X x) (ha : PA X (e :: es) (liftA X.K t))
    (hdb : (x == ("__debug__" : Str)) = false := by decide) (he : starEach (e :: es) X.env = (false, eval e X.env) :: starEach es X.env := by rfl) (hpl : (backTo pos (starEach es X.env)).any (·.1) = false := by rfl) :
    PS X (.Return (some (.Call (.Name x p) (e :: es) [] pos)) pos2) (liftS X.K W (wRetX sp t)) := by
  obtain ⟨f, fd, hm, hk, hb, F⟩ := c.ex
  exact PS.weak (ps_ret (pe_callS F hr hg hm hk hb (fun σ => passAt tk σ) ha hdb he hpl)) fun D σ H ⟨F, σd, G, Dd, hs, hg, h, k⟩ => callX_lift hs hg h k.rt k
/-- x = f(a, ..) -/
def wSetX (i : Nat) (sp : DSp) (t : DA) : DS := fun D σ G => t σ G fun ds G1 => sp ds G1 (fun d G2 => D.nx (σ.set i (some d)) G2) fun C fs G2 => D.ex σ C fs G2
theorem ds_setX (i : Nat) {y : Str} {pos' : Pos} (hN : X.N.Nodup) (tk : Takes X W) (c : CalX X.prog X.w X.K X.mg X.base k x ps sp) (hr : Room k X.A) (hg : Gl X x) (ha : PA X (e :: es) (liftA X.K t))
    (hi : X.N[i]? = some y := by rfl) (hx : Loc X.env.scope y := by first | exact Or.inl rfl | exact Or.inr rfl) (hs : swapsWith (.Call (.Name x p) (e :: es) [] pos) (some (.Name y pos')) pos2.line X.env = pure false := by rfl) (hf : X.fn y = true ∨ X.env.scope.names.lookup y = some .local := by first | exact .inl rfl | exact .inr rfl | assumption)
    (hdb : (x == ("__debug__" : Str)) = false := by decide) (he : starEach (e :: es) X.env = (false, eval e X.env) :: starEach es X.env := by rfl) (hpl : (backTo pos (starEach es X.env)).any (·.1) = false := by rfl) :
    PS X (.Assign [.Name y pos'] (.Call (.Name x p) (e :: es) [] pos) pos2) (liftS X.K W (wSetX i sp t)) := by
  obtain ⟨f, fd, hm, hk, hb, F⟩ := c.ex
  exact PS.weak (ps_set hN hi hx (pe_callS F hr hg hm hk hb (fun σ => passAt tk σ) ha hdb he hpl) hs hf) fun D σ H ⟨F, σd, G, Dd, hs, hg, h, k⟩ =>
    callX_lift hs hg h (fun F' a G' b H' s r g q => k.nx F' _ G' _ H' s ((hs.stay s).set r i) g q) k
/-- try: body except X: suite -/
def wTry (ans : Addr → Option Bool) (wb ws : DS) : DS := fun D σ G => wb { D with ex := fun σ' A fs G' => ∃ b, ans A = some b ∧ (if b = true then ws D σ' G' else D.ex σ' A fs G') } σ G
theorem ds_try {c : Value} {ans : Addr → Option Bool} {body suite : List Stmt} {b₀ : Stmt} {np pos' : Pos} {wb ws : DS} (hst : X.stack = X.env :: X.outer) (hfr : X.env.frame = some X.env.locals) (hc : Names X x c) (tk : Takes X W)
    (hans : ∀ A b, ans A = some b → PySem.W.exmOne X.K (.ref A) c = some b)
    (hb : ∀ (W' : WX) (pn : List (Addr × Obj)) (xe : Value → Shared → Prop), Takes (X.tr pn xe) W' → PassesOwn (model X.prog X.w) X.A X.env xe → PSs (X.tr pn xe) body (liftS X.K W' wb))
    (hsu : ∀ (a : Addr) (pn : List (Addr × Obj)), PSs (X.suite a pn) (b₀ :: suite) (liftS X.K W ws)) :
    PS X (.Try body [.ExceptHandler (some (.Name x np)) none (b₀ :: suite) pos'] [] [] pos) (liftS X.K W (wTry ans wb ws)) :=
  PS.weak (ps_try_only hst hfr hc tk (fun W' pn xe tk' p' => hb W' pn xe tk' p') (fun a oe cls d pn _ _ => hsu a ((a, oe) :: pn))) fun D σ H ⟨F, σd, G, Dd, hs, hg, h, k⟩ =>
    ⟨F, σd, G, _, hs, hg, h, ⟨k.nx, k.rt, k.bk, k.ct, fun F' σ2 A fs G' σ2' H' od s r g x ⟨b, e, q⟩ => ⟨b, hans A b e, fun eb a ha => ⟨F', σ2, G', Dd, r, g, (by rw [if_pos eb] at q; exact q), k.go s⟩,
      fun eb => k.ex F' σ2 A fs G' σ2' H' od s r g x (by rw [if_neg (by rw [eb]; exact Bool.false_ne_true)] at q; exact q)⟩⟩⟩
end
/-! ### defs that raise -/
def endsOfX (K : PySem.W.Frag) (Qd : DQ) (Ed : DXq) : DEnds := { nx := fun _ G' => ∃ d0 G0, Vs K .non G' d0 G0 ∧ Qd d0 G0, rt := fun d G' => ∃ d0 G0, Vs K d G' d0 G0 ∧ Qd d0 G0, ex := fun _ C fs G' => ∃ G0, Sub G0 G' ∧ Ed C fs G0 }
section
variable {P : Program} {w : World} {K : PySem.W.Frag} {mg : Str → Option Value} {base : Heap}
theorem Fun.okXD {x qual : Str} {st : Stmt} {f : Addr} {fd : FuncData} {N ps : List Str} {k : Nat} {sp : DSp} {t : DS} (F : Fun K x qual st f fd) (S : FnScope N ps (defScope st)) (len : ∀ ds G Q E, sp ds G Q E → ds.length = ps.length)
    (hbody : ∀ (cdv : Value) (A : Around) (outer : List Env) (s : Shared) (H : Hp) (E : XK), Room k (A.deeper (PyProof.Rows.envOfC qual (defScope st) s.heap.objs.size f cdv)) →
      PSs (cxOf (L2.CX P w) P w K mg base N qual (defScope st) f cdv A outer s H E) (defBody st) (liftS K (fun c d _ H => E c d H) t))
    (hv : ∀ ds G Qd Ed, sp ds G Qd Ed → t (endsOfX K Qd Ed) (dstart N ds) G) : FnOk P w K mg base (L2.CX P w) (k + 1) f fd ps (liftSp K sp) := by
  refine F.okX S (fun vs H Q E h => ?_) (fun cdv A outer s H vs Q E hr h => ?_)
  · obtain ⟨F0, ds, G, Qd, Ed, r, _, h, _⟩ := h
    rw [← r.length]; exact len _ _ _ _ h
  · obtain ⟨F0, ds, G, Qd, Ed, r, g, h, k, kx⟩ := h
    refine ⟨_, hbody cdv A outer s H E hr, F0, dstart N ds, G, endsOfX K Qd Ed, ?_, g, hv ds G Qd Ed h, ⟨?_, ?_, ?_, ?_, ?_⟩⟩
    · unfold dstart L2.start
      rw [← r.length]
      exact RelSt.start r _
    · rintro F1 σ1 G1 σ1' H1 s1 r1 g1 ⟨d0, G0, vs, q⟩
      obtain ⟨F2, s2, r2, g2⟩ := vs H1 F1 .non .non g1
      exact k F2 d0 G0 .non H1 (s1.trans s2) r2 g2 q
    · rintro F1 d G1 v H1 s1 r1 g1 ⟨d0, G0, vs, q⟩
      obtain ⟨F2, s2, r2, g2⟩ := vs H1 F1 v r1 g1
      exact k F2 d0 G0 v H1 (s1.trans s2) r2 g2 q
    · exact fun _ _ _ _ _ _ _ _ h => h.elim
    · exact fun _ _ _ _ _ _ _ _ h => h.elim
    · rintro F1 σ1 C fs G1 σ1' H1 od s1 r1 g1 x1 ⟨G0, sb, q⟩
      exact kx F1 C fs G0 H1 od s1 (g1.sub sb) x1 q
/-- a def that may raise, used where it does not -/
theorem fn_calm {k : Nat} {f : Addr} {fd : FuncData} {ps : List Str} {sp : DSp} (F : FnOk P w K mg base (L2.CX P w) k f fd ps (liftSp K sp)) : FnOk P w K mg base CX0 k f fd ps (liftSp K fun ds G Q _ => sp ds G Q noX) := by
  refine ⟨fun vs H Q E ⟨F0, ds, G, Qd, Ed, r, g, h, k, kx⟩ => F.len vs H Q E0 ⟨F0, ds, G, Qd, noX, r, g, h, k, .no⟩, fun A outer s H args us vs Q E hr he hb hv ⟨F0, ds, G, Qd, Ed, r, g, h, k, kx⟩ => ?_⟩
  refine PySem.codeAny_mono (F.run A outer s H args us vs Q E0 hr he hb hv ⟨F0, ds, G, Qd, noX, r, g, h, k, .no⟩) fun res s' q => ?_
  cases res with
  | ok f =>
    cases f with
    | ret u => exact q
    | _ => exact q
  | error e =>
    obtain ⟨_, _, _, _, _, _, _, _, _, _, _, _, z⟩ := q
    exact z.elim
end
end DL

/-! DLQ: == by an own __eq__. -/
namespace DL
open PySem PySem.Spec L2
section
variable {X : Cx} {C f : Addr} {n : Nat} {fd : FuncData} {ps : List Str} {sp : Sp}
structure EqC (K : PySem.W.Frag) (C f : Addr) : Prop where
  at_ : PySem.W.findIn K (.ref C) "__eq__" = some (some (.ref f))
  fn : PySem.W.isFn K (.ref f) = true
def rEqOwn (K : PySem.W.Frag) (C : Addr) (sp : Sp) : R2 := fun x y H Q => ∃ a dx fs t, x = .ref a ∧ H a = some (.ins C dx fs) ∧ TyX K H y t ∧ PySem.W.notFirst K C t = true ∧ sp [x, y] H (fun v H' => ∃ r, v = .bl r ∧ Q (.bl r) H') E0
theorem op_eqOwn (F : FnOk X.prog X.w X.K X.mg X.base CX0 n f fd ps sp) (c : EqC X.K C f) (hb : Binds X.K fd ps []) (hr : Room n X.A) : OpR X (compareOp .Eq) (rEqOwn X.K C sp) := by
  intro pins s σ H x y v u Q I rx ry h
  obtain ⟨a, dx, fs, t, rfl, ha, ty, hn, hsp⟩ := h
  cases rx
  obtain ⟨mA, J, _⟩ := ins_get I.hok ha
  obtain ⟨od, J, _⟩ := J.look
  obtain ⟨m, hF⟩ := I.fr
  obtain ⟨Pz, Z, hz, _⟩ := kit_of I ry ty
  show wpAny (model X.prog X.w) X.A (richCompare .Eq (.ref a) u) (EP X pins σ Q) X.xe s
  refine PySem.W.cmp_K (op := .Eq) (tb := t) hr.units0 hF I.ok.mod.kin J (Z.ty _ _ I.kIn hz) hn c.at_ c.fn ?_
  have hl := F.len _ _ _ _ hsp
  have r2 : Vals [V.ref a, y] [Value.ref a, u] := .cons rfl (.cons ry .nil)
  refine wpAny_call (codeAny_mono (F.run X.A X.stack s H ⟨[.ref a, u], []⟩ [.ref a, u] _ _ E0 hr I.env0 (by
    have := hb s [.ref a, u] I.kIn (by simpa using hl)
    simpa using this) r2 hsp) fun r s' hq => ?_)
  cases r with
  | error e => exact (show False from hq).elim
  | ok fl =>
    cases fl with
    | ret w =>
      obtain ⟨z, H', I', rz, b, ez, q⟩ := I.after hq
      subst ez
      cases rz
      exact ⟨.bl b, H', I', rfl, q⟩
    | next => exact False.elim hq
    | brk => exact False.elim hq
    | cont => exact False.elim hq
/-- over data -/
def rEqO (C : Addr) (nf : Tg ⊕ Addr → Bool) (sp : DSp) : DR2 := fun x y G Q => ∃ fs t, objOf G x = some (C, fs) ∧ tagOf G y = some t ∧ nf t = true ∧ sp [x, y] G (fun d G2 => ∃ r, d = .bl r ∧ Q (.bl r) G2) noX
theorem od_eqOwn {K : PySem.W.Frag} {C : Addr} {nf : Tg ⊕ Addr → Bool} {sp : DSp} (hnf : ∀ t, nf t = true → PySem.W.notFirst K C (tagV t) = true ∧ ∀ A, t = .inr A → ObjC K A) : OpD K (rEqOwn K C (liftSp K sp)) (rEqO C nf sp) := by
  intro F H G x y v w Qd Q rx ry hg h k
  obtain ⟨fs, t, e1, e2, e3, q⟩ := h
  obtain ⟨a, dx, vs, rfl, ha, _⟩ := obj_rep rx hg e1
  obtain ⟨h1, h2⟩ := hnf t e3
  refine ⟨a, dx, vs, tagV t, rfl, ha, tag_rep ry hg e2 h2, h1, F, [x, y], G, _, noX, .cons rx (.cons ry .nil), hg, q, fun F2 d G2 u H2 s r g z => ?_, .no⟩
  obtain ⟨b, rfl, z⟩ := z
  cases r
  exact ⟨b, rfl, k F2 (.bl b) G2 (.bl b) H2 s (.bl b) g z⟩
end
end DL

/-! DLN: != by an own __eq__. -/
namespace PySem.W
open PySem PySem.Spec PyProof.Rows
section
variable {prog : Program} {w : World} {A : Around} {E : Value → Shared → Prop} {s : Shared} {K : Frag} {x C f L : Addr} {h₀ : Heap} {m : Str → Option Value} {ox : Obj} {od : Option Obj} {b tb : Value}
theorem neO_check {rest : List Value} {Q : Unit → Shared → Prop} (X : K.In s.heap) (I : InstAt s.heap x ox C od) (ho : mroIn K C (.type "object") = some true) (ha : argsOk "object.__ne__" ⟨.ref x :: rest, []⟩) (hq : Q () s) :
    wpAny (model prog w) A (checkBuiltinCall "object.__ne__" ⟨.ref x :: rest, []⟩) Q E s := by
  simp only [checkBuiltinCall, F.cmpKind_ne, F.cmpSplit_ne]
  refine wpAny_bind ?_
  · unfold isInstance
    refine wpAny_bind (I.type.here ?_)
    refine (looks_mroIn X ho).here ?_
    cases hsig : Manifest.signature? "object.__ne__" with
    | none => exact wpAny_pure hq
    | some sig =>
      simp only [argsOk, hsig] at ha
      have h2 : Bind.checkArgs "object.__ne__" sig ⟨.ref x :: rest, []⟩ = pure () := ha
      show wpAny _ A (Bind.checkArgs "object.__ne__" sig ⟨.ref x :: rest, []⟩) Q E _
      rw [h2]; exact wpAny_pure hq
theorem neO_body {Q : Fin → Shared → Prop} (X : K.In s.heap) (I : InstAt s.heap x ox C od) (heq : findIn K (.ref C) "__eq__" = some (some (.ref f))) (hf : isFn K (.ref f) = true) (hu : A.units < cLine)
    (h : codeAny (model prog w) A (.call (.ref f) ⟨[.ref x, b], []⟩) (fun r s' => match r with | .ok (.ret v) => ∃ r, v = .bool r ∧ Q (.done (.ret (.bool (!r)))) s' | .ok _ => False | .error e => E e s') s) : wpAny (model prog w) A (Builtin.«object.__ne__» ⟨[.ref x, b], []⟩) Q E s := by
  unfold Builtin.«object.__ne__»
  obtain ⟨hp, g, d, t, os⟩ := s
  repeat (first | with_reducible refine wpAny_cRoomFor hu ?_ | with_reducible refine ifBound_K X I heq hf ?_ | wp_step)
  refine codeAny_mono h fun r s' hv => ?_
  cases r with
  | error e => exact hv
  | ok fl =>
    cases fl with
    | ret v =>
      obtain ⟨r, rfl, q⟩ := hv
      obtain ⟨hp, g, d, t, os⟩ := s'
      repeat wp_step
      exact q
    | next => exact hv
    | brk => exact hv
    | cont => exact hv
theorem neO_try {Q : Option Value → Shared → Prop} (X : K.In s.heap) (I : InstAt s.heap x ox C od) (hne : findIn K (.ref C) "__ne__" = some (some (.builtin "object.__ne__"))) (heq : findIn K (.ref C) "__eq__" = some (some (.ref f))) (hf : isFn K (.ref f) = true)
    (ho : mroIn K C (.type "object") = some true) (hu : A.units + 1 < cLine)
    (h : codeAny (model prog w) A.in1 (.call (.ref f) ⟨[.ref x, b], []⟩) (fun r s' => match r with | .ok (.ret v) => ∃ r, v = .bool r ∧ Q (some (.bool (!r))) s' | .ok _ => False | .error e => E e s') s) : wpAny (model prog w) A (tryCompare (.ref x) "__ne__" b) Q E s := by
  have S : Slot "object" "__ne__" "object.__ne__" := PySem.F.cmp_object.ne
  have hcall : wpAny (model prog w) A (call (.builtin "object.__ne__") [.ref x, b]) (fun v s' => ∃ r, v = .bool r ∧ Q (some (.bool r)) s') E s := by
    refine wpAny_call (codeAny_call_builtin S.plain F.cmpEntry_ne (neO_check X I ho (F.cmpArgs_ne _ _) (neO_body (A := A.in1) X I heq hf hu (codeAny_mono h fun r s' hv => ?_))))
    cases r with
    | error e => exact hv
    | ok fl =>
      cases fl with
      | ret v => obtain ⟨r, rfl, q⟩ := hv; exact ⟨r, rfl, _, rfl, q⟩
      | next => exact hv
      | brk => exact hv
      | cont => exact hv
  unfold tryCompare
  refine wpAny_bind ?_
  simp only [callSpecialIfBound?, bindSpecialIfBound?]
  refine wpAny_holding (wpAny_bind (wpAny_bind (wpAny_bind (I.type.here ((looks_findIn X hne).here ?_)))))
  simp only [S.bind]
  refine wpAny_bind (wpAny_askSetting (wpAny_ite ?_))
  have fin : wpAny (model prog w) A (call (.builtin "object.__ne__") ([.ref x] ++ [b]) >>= fun v => pure (some v)) (fun o s' => wpAny (model prog w) A (match o with | some .notImplemented => pure none | none => pure none | some r => pure (some r)) Q E s') E s :=
    wpAny_bind (wpAny_mono hcall (fun v s' ⟨r, e, q⟩ => by subst e; exact wpAny_pure (wpAny_pure q)) fun _ _ e => e)
  split
  · exact wpAny_bind (wpAny_pure (wpAny_pure (by exact fin)))
  · exact wpAny_tryCatch (wpAny_bind (wpAny_pure (wpAny_pure (by exact fin))))
theorem cmp_neO {Q : Value → Shared → Prop} (hu : A.units + 1 < cLine) (F : Fr h₀ L s.heap m) (X₀ : K.In h₀) (I : InstAt s.heap x ox C od) (hb : Looks (model prog w) s.heap (typeOf b) tb) (hn : notFirst K C tb = true)
    (hne : findIn K (.ref C) "__ne__" = some (some (.builtin "object.__ne__"))) (heq : findIn K (.ref C) "__eq__" = some (some (.ref f))) (hf : isFn K (.ref f) = true) (ho : mroIn K C (.type "object") = some true)
    (h : codeAny (model prog w) A.in1 (.call (.ref f) ⟨[.ref x, b], []⟩) (fun r s' => match r with | .ok (.ret v) => ∃ r, v = .bool r ∧ Q (.bool (!r)) s' | .ok _ => False | .error e => E e s') s) :
    wpAny (model prog w) A (richCompare .NotEq (.ref x) b) Q E s := by
  have X := X₀.keeps F.keep
  have one : wpAny (model prog w) A (tryCompare (.ref x) (cmpInfo .NotEq).2.1 b) (fun r s' => ∃ v, r = some v ∧ Q v s') E s := by
    refine neO_try X I hne heq hf ho hu (codeAny_mono h fun r s' hv => ?_)
    cases r with
    | error e => exact hv
    | ok fl =>
      cases fl with
      | ret v => obtain ⟨r, rfl, q⟩ := hv; exact ⟨r, rfl, _, rfl, q⟩
      | next => exact hv
      | brk => exact hv
      | cont => exact hv
  unfold richCompare
  simp only [oneThing_ref]
  refine wpAny_holding (wpAny_bind (wpAny_cRoomFor (by omega) ?_))
  refine wpAny_bind (I.type.here (wpAny_bind (hb.here ?_)))
  split
  · rename_i q
    have e : subIn K tb (.ref C) = some false := by
      rcases Bool.or_eq_true_iff.mp hn with e | e
      · rw [beq_iff_eq.mp e] at q; simp at q
      · exact beq_iff_eq.mp e
    refine wpAny_bind ((looks_subIn X e).here ?_)
    simp only [Bool.false_eq_true, if_false]
    refine wpAny_bind (wpAny_mono one (fun r s' z => ?_) fun _ _ e => e)
    obtain ⟨v, rfl, hq⟩ := z
    exact wpAny_pure hq
  · refine wpAny_bind (wpAny_pure ?_)
    simp only [Bool.false_eq_true, if_false]
    refine wpAny_bind (wpAny_mono one (fun r s' z => ?_) fun _ _ e => e)
    obtain ⟨v, rfl, hq⟩ := z
    exact wpAny_pure hq
end
end PySem.W
namespace DL
open PySem PySem.Spec L2
section
variable {X : Cx} {C f : Addr} {n : Nat} {fd : FuncData} {ps : List Str} {sp : Sp}
structure NeC (K : PySem.W.Frag) (C f : Addr) : Prop extends EqC K C f where
  ne : PySem.W.findIn K (.ref C) "__ne__" = some (some (.builtin "object.__ne__"))
  ob : PySem.W.mroIn K C (.type "object") = some true
def rNeOwn (K : PySem.W.Frag) (C : Addr) (sp : Sp) : R2 := fun x y H Q => ∃ a dx fs t, x = .ref a ∧ H a = some (.ins C dx fs) ∧ TyX K H y t ∧ PySem.W.notFirst K C t = true ∧ sp [x, y] H (fun v H' => ∃ r, v = .bl r ∧ Q (.bl (!r)) H') E0
theorem op_neOwn (F : FnOk X.prog X.w X.K X.mg X.base CX0 n f fd ps sp) (c : NeC X.K C f) (hb : Binds X.K fd ps []) (hr : Room (n + 1) X.A) : OpR X (compareOp .NotEq) (rNeOwn X.K C sp) := by
  intro pins s σ H x y v u Q I rx ry h
  obtain ⟨a, dx, fs, t, rfl, ha, ty, hn, hsp⟩ := h
  cases rx
  obtain ⟨mA, J, _⟩ := ins_get I.hok ha
  obtain ⟨od, J, _⟩ := J.look
  obtain ⟨m, hF⟩ := I.fr
  obtain ⟨Pz, Z, hz, _⟩ := kit_of I ry ty
  show wpAny (model X.prog X.w) X.A (richCompare .NotEq (.ref a) u) (EP X pins σ Q) X.xe s
  have e0 : Env0 X.prog X.w X.K X.mg X.base X.A.in1 X.stack s H := by
    have e := I.env0
    exact ⟨e.frames, e.mod, e.bs, e.bsz, e.funs, e.frf, e.hok, e.bare⟩
  refine PySem.W.cmp_neO (tb := t) (hu_of hr) hF I.ok.mod.kin J (Z.ty _ _ I.kIn hz) hn c.ne c.at_ c.fn c.ob ?_
  have hl := F.len _ _ _ _ hsp
  have r2 : Vals [V.ref a, y] [Value.ref a, u] := .cons rfl (.cons ry .nil)
  refine codeAny_mono (F.run X.A.in1 X.stack s H ⟨[.ref a, u], []⟩ [.ref a, u] _ _ E0 hr.in1 e0 (by
    have := hb s [.ref a, u] I.kIn (by simpa using hl)
    simpa using this) r2 hsp) fun r s' hq => ?_
  cases r with
  | error e => exact (show False from hq).elim
  | ok fl =>
    cases fl with
    | ret w =>
      obtain ⟨z, H', I', rz, b, ez, q⟩ := I.after hq
      subst ez
      cases rz
      exact ⟨b, rfl, .bl (!b), H', I', rfl, q⟩
    | next => exact False.elim hq
    | brk => exact False.elim hq
    | cont => exact False.elim hq
def rNeO (C : Addr) (nf : Tg ⊕ Addr → Bool) (sp : DSp) : DR2 := fun x y G Q => ∃ fs t, objOf G x = some (C, fs) ∧ tagOf G y = some t ∧ nf t = true ∧ sp [x, y] G (fun d G2 => ∃ r, d = .bl r ∧ Q (.bl (!r)) G2) noX
theorem od_neOwn {K : PySem.W.Frag} {C : Addr} {nf : Tg ⊕ Addr → Bool} {sp : DSp} (hnf : ∀ t, nf t = true → PySem.W.notFirst K C (tagV t) = true ∧ ∀ A, t = .inr A → ObjC K A) : OpD K (rNeOwn K C (liftSp K sp)) (rNeO C nf sp) := by
  intro F H G x y v w Qd Q rx ry hg h k
  obtain ⟨fs, t, e1, e2, e3, q⟩ := h
  obtain ⟨a, dx, vs, rfl, ha, _⟩ := obj_rep rx hg e1
  obtain ⟨h1, h2⟩ := hnf t e3
  refine ⟨a, dx, vs, tagV t, rfl, ha, tag_rep ry hg e2 h2, h1, F, [x, y], G, _, noX, .cons rx (.cons ry .nil), hg, q, fun F2 d G2 u H2 s r g z => ?_, .no⟩
  obtain ⟨b, rfl, z⟩ := z
  cases r
  exact ⟨b, rfl, k F2 (.bl (!b)) G2 (.bl (!b)) H2 s (.bl _) g z⟩
/-- the own __eq__ of a class, by its promise -/
structure EqO (P : Program) (w : World) (K : PySem.W.Frag) (mg : Str → Option Value) (base : Heap) (k : Nat) (C : Addr) (sp : DSp) : Prop where
  ex : ∃ f fd, NeC K C f ∧ Binds K fd ["self", "other"] [] ∧ FnOk P w K mg base CX0 k f fd ["self", "other"] (liftSp K sp)
theorem op_eqO {k : Nat} {sp : DSp} (o : EqO X.prog X.w X.K X.mg X.base k C sp) (hr : Room (k + 1) X.A) : OpR X (compareOp .Eq) (rEqOwn X.K C (liftSp X.K sp)) := by
  obtain ⟨f, fd, c, hb, F⟩ := o.ex
  exact op_eqOwn F c.toEqC hb (hr.mono (Nat.le_succ k))
theorem op_neO {k : Nat} {sp : DSp} (o : EqO X.prog X.w X.K X.mg X.base k C sp) (hr : Room (k + 1) X.A) : OpR X (compareOp .NotEq) (rNeOwn X.K C (liftSp X.K sp)) := by
  obtain ⟨f, fd, c, hb, F⟩ := o.ex
  exact op_neOwn F c hb hr
end
end DL

/-! DLI: own exceptions that keep one thing: class X(Base): def __init__(self, y): super().__init__(y); self.f = y. -/
namespace DL
open PySem PySem.Spec L2 NdefX

section
variable {X : Cx} {pins : List (Addr × Obj)} {σ : L2.St} {H : Hp} {s : Shared} {A : Around} {E : Value → Shared → Prop}
/-- ValueError.__init__, bound to the exception a by super() -/
theorem mw_call {C a u : Addr} {us : List Value} {Q : Value → Shared → Prop} (T : OexC X.K C) (I : Inv X pins σ H s) (e : H a = some (exo a C none)) (hu : s.heap.get? u = some (PySem.W.kxs_mw "ValueError.__init__" a)) (hl : us.length ≤ sizeLine)
    (h : ∀ s', Inv X pins σ H s' → Q .none s') : wpAny (model X.prog X.w) A (call (.ref u) us) Q E s := by
  obtain ⟨nm, q, N, bs, bm, sn, sub, ab, col, dd, k0, k1, k2, k3, k5, hC, hbm⟩ := T.cls
  obtain ⟨t1, ho⟩ := exo_at I.hok e
  obtain ⟨hp, g, d, tk, os⟩ := s
  refine wpAny_call (codeAny_of_tree (?_ : wpAny _ A.in1 (callAny (.ref u) ⟨us, []⟩) _ _ _))
  simp only [callAny]
  refine wpAny_bind (wpAny_load hu ?_)
  have yes : (Value.type "method-wrapper" == Value.type "method" || Value.type "method-wrapper" == Value.type "builtin_function_or_method" || Value.type "method-wrapper" == Value.type "method-wrapper") = true := by decide
  simp only [PySem.W.kxs_mw, yes, if_true]
  refine PySem.W.KFB.if_so (by decide) (wpAny_bind (PySem.W.check_bound_init PySem.F.excBase_ValueError.toExcCallFacts (I.kIn _ _ hC) ho rfl (wpAny_bind (wpAny_pure (wpAny_pure ⟨PySem.plainId_quiet PySem.F.excBase_ValueError.init.plain _, codeAny_builtin PySem.F.excBase_ValueError.initEntry ?_⟩)))))
  refine PySem.W.exc_init_tree (cls := .ref C) (t0 := t1) (dv := none) (c2 := .none) (c3 := .none) (b4 := .bool false) ho hl fun h2 k hx _ => ?_
  have J := I.write (t' := tk) (x := a) (e := a) (o := exo a C none) (by rw [e]; exact True.intro) (.inl rfl) k ⟨_, hx⟩ (exo_ok hx)
  have same : upd H a (exo a C none) = H := funext fun b => by
    by_cases z : b = a
    · subst z; exact upd_same.trans e.symm
    · exact upd_ne z
  exact h _ (same ▸ J)
end
/-- what the class at C must have, its __init__ at f with its cell cc and its code at cda -/
structure ExI (P : Program) (K : PySem.W.Frag) (C f cc cda : Addr) (qual : Str) (ps : List Str) (params : Arguments) (body : List Stmt) (scope : Scope) (fd : FuncData) : Prop where
  o : OexC K C
  lk : ∃ doc pm ctv oc od osl, fd = PySem.W.fnX "__init__" qual params body scope [("__class__", cc)] .none .none doc pm none (.ref cda) ctv ∧ K.lookup f = some ⟨oc, od, .func fd, osl⟩
  cd : PySem.W.codeIn K (.ref cda) qual = true
  sc : NScope (ps ++ [("__class__" : Str)]) ps ["__class__"] scope
  file : ∃ (ccl : Value) (cdd : Option Addr) (vs : Array Value) (ccs : Array (Option Value)) (file : Str) (tf : Tok), K.lookup cda = some ⟨ccl, cdd, .fields vs, ccs⟩ ∧ vs[2]? = some (.str file tf) ∧ ((P.main.file : Str) == file) = true
  cell : ∃ (cl : Value) (cld : Option Addr) (csl : Array (Option Value)), K.lookup cc = some ⟨cl, cld, .cell (some (.ref C)), csl⟩
  cls : ∃ cd, PySem.W.clsIn K C = some cd
  sup : PySem.W.ks_superIn K C C "__init__" = some (some (.builtin "ValueError.__init__"))
  sub : PySem.W.subIn K (.ref C) (.type "ValueError") = some true
  self : PySem.W.mroIn K C (.ref C) = some true
  opq : PySem.W.nsIn K PySem.cStatics "thirdparty.any" = some none
  main : (P.main.scope.names.lookup ("super" : Str)).isSome = false
  sg : scope.names.lookup ("super" : Str) = some .globalImplicit
def spExI (C : Addr) (fld : Str) : Sp := fun vs H Q _ => ∃ a v, vs = [.ref a, v] ∧ H a = some (exo a C none) ∧ ∀ dx, H dx = none → dx ≠ a → Q .non (upd (upd H dx (exd dx [(fld, v)])) a (exo a C (some dx)))
section
variable {P : Program} {w : World} {K : PySem.W.Frag} {mg : Str → Option Value} {base : Heap} {C f cc cda : Addr} {fd : FuncData}
theorem ExI.ok {CX : CXT} {k : Nat} {qual y fld : Str} {params : Arguments} {scope : Scope} {p0 p1 p2 p3 p4 p5 q0 q1 q2 q3 : Pos} {ar : Arg}
    (T : ExI P K C f cc cda qual ["self", y] params [.Expr (.Call (.Attribute (.Call (.Name "super" p0) [] [] p1) "__init__" p2) [.Name y p3] [] p4) p5, .Assign [.Attribute (.Name "self" q0) fld q1] (.Name y q2) q3] scope fd)
    (hp : (params.posonlyargs ++ params.args).head? = some ar) (har : ar.arg = "self") (hms : mg "super" = none) (hno : PySem.W.findIn K (.ref C) fld = some none) (hyd : (y == ("__debug__" : Str)) = false) (hyc : (y == ("__classdict__" : Str)) = false) (hb : Binds K fd ["self", y] [])
    (he : ∀ L : Addr, ∃ pl : Sem Bool, eval (.Call (.Attribute (.Call (.Name "super" p0) [] [] p1) "__init__" p2) [.Name y p3] [] p4) (PySem.W.envX qual scope L f (.ref cda) [("__class__", cc)]) = (do
      let r ← attributeBase (.Call (.Name "super" p0) [] [] p1) "__init__" (PySem.W.envX qual scope L f (.ref cda) [("__class__", cc)]) (eval (.Call (.Name "super" p0) [] [] p1) (PySem.W.envX qual scope L f (.ref cda) [("__class__", cc)]))
      standAt p2.atName
      let (g, l) ← holding [r] (getMethod r "__init__" pl)
      callWith p4 g l (backTo p4 (starEach [.Name y p3] (PySem.W.envX qual scope L f (.ref cda) [("__class__", cc)]))) []))
    (hsw : ∀ L : Addr, swapsWith (.Call (.Attribute (.Call (.Name "super" p0) [] [] p1) "__init__" p2) [.Name y p3] [] p4) none p5.line (PySem.W.envX qual scope L f (.ref cda) [("__class__", cc)]) = pure false)
    (hsw2 : ∀ L : Addr, swapsWith (.Name y q2) (some (.Attribute (.Name "self" q0) fld q1)) q3.line (PySem.W.envX qual scope L f (.ref cda) [("__class__", cc)]) = pure false)
    (hba : ∀ L : Addr, attributeBase (.Name "self" q0) fld (PySem.W.envX qual scope L f (.ref cda) [("__class__", cc)]) (eval (.Name "self" q0) (PySem.W.envX qual scope L f (.ref cda) [("__class__", cc)])) = eval (.Name "self" q0) (PySem.W.envX qual scope L f (.ref cda) [("__class__", cc)])) :
    FnOk P w K mg base CX (k + 1) f fd ["self", y] (spExI C fld) := by
  obtain ⟨doc, pm, ctv, oc, od, osl, hfd, lk⟩ := T.lk
  obtain ⟨ccl, cdd, vs, ccs, file, tf, hcode, hvs, hfile⟩ := T.file
  obtain ⟨cl, cld, csl, hcell⟩ := T.cell
  obtain ⟨cdC, hcls⟩ := T.cls
  subst hfd
  refine ⟨fun vs H Q E ⟨a, v, e, _⟩ => by rw [e]; rfl, fun A outer s H args us vs' Q E hr e0 hbd hv ⟨a, v, ev, ea, hq⟩ => ?_⟩
  subst ev
  have KX : K.In s.heap := e0.mod.kin.keeps fun b o e => (e0.bs b o e).1
  have lim : s.heap.NoLimit := e0.mod.nolimit.keeps fun b o e => (e0.bs b o e).1
  obtain ⟨u1, u2, rfl, hu1, hu2⟩ : ∃ u1 u2, us = [u1, u2] ∧ RelV (.ref a) u1 ∧ RelV v u2 := by
    cases hv with
    | cons r t => cases t with
      | cons r2 t2 => cases t2; exact ⟨_, _, rfl, r, r2⟩
  have hu1 : u1 = Value.ref a := hu1
  subst hu1
  let F : NF := ⟨"__init__", qual, params, [.Expr (.Call (.Attribute (.Call (.Name "super" p0) [] [] p1) "__init__" p2) [.Name y p3] [] p4) p5, .Assign [.Attribute (.Name "self" q0) fld q1] (.Name y q2) q3], scope, [("__class__", cc)], cda⟩
  have lkc : ∀ (z : Str) (c : Addr), F.cl.lookup z = some c → z = "__class__" ∧ c = cc := fun z c h => by
    have h : List.lookup z [(("__class__" : Str), cc)] = some c := h
    rw [List.lookup_cons] at h
    cases q : (z == ("__class__" : Str)) with
    | true => rw [q] at h; cases h; exact ⟨eq_of_beq q, rfl⟩
    | false => rw [q] at h; cases h
  have CA : CellsAt F.cl ["__class__"] [none] s.heap H := ⟨rfl, fun z c h => by
      obtain ⟨_, rfl⟩ := lkc z c h
      obtain ⟨h1, h2⟩ := e0.bs _ _ (e0.mod.kin _ _ hcell)
      exact ⟨h2, _, _, h1, rfl⟩, fun z z2 c h h2 => (lkc z c h).1.trans (lkc z2 c h2).1.symm, fun i z h => by
      cases i with
      | zero => cases h; exact ⟨cc, rfl, fun v h => by cases h⟩
      | succ i => simp at h⟩
  refine PySem.ks_codeAny_call_defAt (fd := F.fd doc pm ctv) (body := F.body) (binds := (["self", y] : List Str).zip [Value.ref a, u2]) hr.depth (KX _ _ lk) rfl lim (PySem.W.codeRec_of KX T.cd) rfl hbd T.sc.nocell (fun z hz => T.sc.par z.1 (List.of_mem_zip (show (z.1, z.2) ∈ _ from hz)).1) (fun h1 hns kp => ?_) T.sc.co T.sc.gen T.sc.kind
  let XC : Cx := ncx CX P w K mg base ([("self" : Str), y] ++ [("__class__" : Str)]) F f A outer s H E
  have I0 : Inv XC [] (startF ([("self" : Str), y] ++ [("__class__" : Str)]) [.ref a, v] [none]) H { s with heap := h1, toks := s.toks + ((["self", y] : List Str).zip [Value.ref a, u2]).length } := inv_startN T.sc hr.hd e0 rfl hv CA hns kp
  have K1 : K.In h1 := I0.kIn
  obtain ⟨t1, hx⟩ := exo_at I0.hok ea
  obtain ⟨oD, hD1, hD2⟩ : ∃ oD, h1.get? C = some oD ∧ oD.data = .cls cdC := by
    unfold PySem.W.clsIn at hcls
    split at hcls
    · rename_i c d cd' sl ho
      cases hcls
      exact ⟨_, K1 _ _ ho, rfl⟩
    · cases hcls
  show PySem.wpAt (model P w) XC.A (.func F.body XC.env) (execs F.body XC.env) _ _ _
  refine PySem.ks_wpAt_execs_cons (PySem.ks_wpAt_Expr_any (hi := I0.quiet) (hs := hsw _) (PySem.ks_wpAt_MethodCall (pl := (he _).choose) (he := (he _).choose_spec) (PySem.ks_wpAt_super_base (env := XC.env) T.sg (T.sc.frk _ (by simp)) (by decide) rfl (kp _ _ (KX _ _ lk)) rfl hp rfl (K1 _ _ hcode) rfl hvs hfile T.main ?_)))
  obtain ⟨mb, hmb1, hmb2⟩ := I0.mod.blt
  refine PySem.W.ks_loadName_global (env := XC.env) I0.ok.kind T.sg (Calls.loadGlobal_builtin (by rw [I0.ok.glob]; exact I0.mod.glob.keeps I0.bk) hms (by rw [I0.ok.blt]; exact hmb1.keeps I0.bk) ((hmb2 "super" (by decide)).trans (by rfl)) ⟨rfl, ?_⟩)
  refine wpAny_loadName_free I0.ok.kind (T.sc.frk _ (by simp)) rfl ⟨_, K1 _ _ hcell, rfl⟩ ?_
  have ndp : (["self", y] : List Str).Nodup := by
    have := T.sc.nd
    exact (List.nodup_append.mp this).1
  rw [har]
  refine wpAny_loadName_local I0.ok.kind (T.sc.par "self" (by simp)) hns (zip_look (i := 0) ndp rfl rfl) ?_
  refine PySem.ks_wpAny_isType_cls hD1 hD2 ⟨rfl, ?_⟩
  refine PySem.ks_wpAny_call_super hD1 hD2 hx rfl (fun c e => by cases e) (PySem.W.looks_mroIn K1 T.self) fun h2 e2 k2 => ?_
  have I1 := I0.kept (t' := s.toks + ((["self", y] : List Str).zip [Value.ref a, u2]).length) k2
  have K2 : K.In h2 := I1.kIn
  obtain ⟨t2, hx2⟩ := exo_at I1.hok ea
  have inst : PySem.W.InstAt h2 a ({ cls := .ref C, dict := none, data := .fields #[.ref t2, .none, .none, .none, .bool false, .none] } : Obj) C none := ⟨hx2, rfl, rfl, True.intro⟩
  have hI : PySem.W.Looks (model P w) h2 (isInstance (.ref a) (.type "ValueError")) true := inst.type.andThen (PySem.W.looks_subIn K2 T.sub)
  have hsup : PySem.W.alongIn K "__init__" ((cdC.mro.dropWhile (· != .ref C)).drop 1) = some (some (.builtin "ValueError.__init__")) := by
    have e := T.sup
    unfold PySem.W.ks_superIn at e
    rw [hcls] at e
    exact e
  refine PySem.W.kxs_getMethod PySem.W.kxs_ValueError e2 (PySem.W.looks_opaque K2 T.opq) (l₀ := cdC.mro) (fun A Q E s k q => wpAny_bind ((PySem.W.looks_clsIn K2 hcls) A _ E s k (wpAny_pure q))) rfl K2 hsup hI (PySem.W.ks_ne K2 inst hcls) (by decide) ?_
  have up : ∀ b o, h2.get? b = some o → (h2.push (PySem.W.kxs_mw "ValueError.__init__" a)).get? b = some o := fun b o e => Heap.get?_push_of_some _ e
  have hu : (h2.push (PySem.W.kxs_mw "ValueError.__init__" a)).get? h2.objs.size = some (PySem.W.kxs_mw "ValueError.__init__" a) := Heap.get?_push_at rfl rfl
  have I2 := (I1.kept (t' := s.toks + ((["self", y] : List Str).zip [Value.ref a, u2]).length + 1) up).pins_of (pins' := [(h2.objs.size, PySem.W.kxs_mw "ValueError.__init__" a)]) (fun q hq => by
    rw [List.mem_singleton.mp hq]
    exact ⟨hu, I1.hok.fresh (Nat.le_refl _), Nat.ne_of_gt I1.lt, I1.nofs (Nat.le_refl _), fun v e => by cases e⟩)
  have nv : ∀ (i : Nat) (z : Str) (pos : Pos), ([("self" : Str), y] ++ [("__class__" : Str)])[i]? = some z → z ∈ (["self", y] : List Str) → (z == ("__debug__" : Str)) = false → (z == ("__classdict__" : Str)) = false → PE XC (.Name z pos) (tVar i) := fun i z pos h1 h2 h3 h4 => pe_var h1 (.inl (T.sc.par z h2)) h3 h4
  have pa : PA XC [.Name y p3] (tCons (tVar 1) tNil) := pa_cons (nv 1 y p3 rfl (by simp) hyd hyc) pa_nil
  refine PySem.W.kxs_callWith (i := "ValueError.__init__") (x := a) (by rfl) (Calls.evalArgs_plain ?_)
  refine wpAny_mono (pa.run p4 _ _ _ H (fun vs H' => vs = [v] ∧ H' = H) I2 ⟨v, rfl, rfl, rfl⟩) (fun us2 s3 hh => ?_) (fun _ _ z => z)
  obtain ⟨vs3, H3, I3, r3, rfl, eH⟩ := hh
  subst eH
  have hu3 := (I3.pin (h2.objs.size, PySem.W.kxs_mw "ValueError.__init__" a) (List.mem_append_right _ List.mem_cons_self)).1
  have l3 : us2.length ≤ sizeLine := by rw [← Paired.length r3, sizeLine_eq]; simp
  refine ⟨hu3, mw_call T.o I3 ea hu3 l3 fun s4 I4 => ?_⟩
  have J : Inv XC [] (startF ([("self" : Str), y] ++ [("__class__" : Str)]) [.ref a, v] [none]) H3 s4 := I4.pins_of (pins' := []) (fun q hq => by cases hq)
  have st : PS XC (.Assign [.Attribute (.Name "self" q0) fld q1] (.Name y q2) q3) (tOst XC.K fld (tVar 0) (tVar 1)) := ps_ost (nv 0 "self" q0 rfl (by simp) (by decide) (by decide)) (nv 1 y q2 rfl (by simp) hyd hyc) (hs := hsw2 _)
  refine PySem.wpAt_of_wpAny (wpAny_mono ((pss_cons st pss_nil).run [] s4 _ H3 { nx := fun _ H' => Q .non H', rt := Q } J ?_) (fun fl s5 hs => ?_) fun e s5 hs => hs)
  · refine ⟨v, rfl, .ref a, rfl, a, C, rfl, T.o, hno, .inl ⟨ea, fun dx h1 h2 => hq dx h1 h2⟩⟩
  · have fin : ∀ {σ5 : L2.St} {H5 : Hp} {v5 : V} {u5 : Value}, Inv XC [] σ5 H5 s5 → L2.RelV v5 u5 → Q v5 H5 → CE outer P w H3 s Q u5 s5 := fun J5 rv q => ⟨_, _, J5.os, J5.bare, J5.base, J5.hok, rv, q⟩
    cases fl with
    | next => obtain ⟨_, _, J5, q5⟩ := hs; exact fin (v5 := .non) (u5 := .none) J5 rfl q5
    | ret u5 => obtain ⟨_, _, _, J5, rv, q5⟩ := hs; exact fin J5 rv q5
    | brk => exact hs.choose_spec.choose_spec.2.elim
    | cont => exact hs.choose_spec.choose_spec.2.elim
end
end DL

/-! DLJ: raise X(e), X keeping e; except X as e; several clauses, each with a name or without; e.f. -/
namespace DL
open PySem PySem.Spec L2

/-- a class of exceptions that keeps one thing -/
structure ExcF (P : Program) (w : World) (K : PySem.W.Frag) (mg : Str → Option Value) (base : Heap) (k : Nat) (x : Str) (C : Addr) (fld : Str) : Prop where
  ex : ∃ fI fd y, OexC K C ∧ PySem.W.findIn K (.ref C) "__init__" = some (some (.ref fI)) ∧ PySem.W.typeIn K (.ref fI) = some (.type "function") ∧ Binds K fd ["self", y] [] ∧ FnOk P w K mg base CX0 k fI fd ["self", y] (spExI C fld) ∧ mg x = some (.ref C)
theorem ExcF.mono {P : Program} {w : World} {K : PySem.W.Frag} {mg : Str → Option Value} {base : Heap} {j k : Nat} {x : Str} {C : Addr} {fld : Str} (c : ExcF P w K mg base j x C fld) (h : j ≤ k) : ExcF P w K mg base k x C fld :=
  let ⟨fI, fd, y, a1, a2, a3, a4, a5, a6⟩ := c.ex; ⟨fI, fd, y, a1, a2, a3, a4, a5.mono h, a6⟩
section
variable {X : Cx} {W : WX} {k : Nat} {x : Str} {p pos pos2 : Pos} {e : Expr} {te : DE}
/-- raise X(e) -/
def wRaise1 (C : Addr) (fld : Str) (te : DE) : DS := fun D σ G => te σ G fun y G1 => D.ex σ C [(fld, y)] G1
theorem ds_raise1 {C : Addr} {fld : Str} (T : ExcF X.prog X.w X.K X.mg X.base k x C fld) (hr : Room (k + 1) X.A) (hc : X.calm = true) (tk : Takes X W) (hg : Gl X x) (he : PE X e (lift X.K te)) (hdb : (x == ("__debug__" : Str)) = false := by decide)
    (hs : starEach [e] X.env = (false, eval e X.env) :: starEach [] X.env := by rfl) (hpl : (backTo pos (starEach [] X.env)).any (·.1) = false := by rfl) :
    PS X (.Raise (some (.Call (.Name x p) [e] [] pos)) none pos2) (liftS X.K W (wRaise1 C fld te)) := by
  obtain ⟨fI, fd, y, o, h1, h2, hb, F, hm⟩ := T.ex
  have hx : Passes CX0 X (fun _ _ _ => False) := pass0
  refine PS.weak (ps_raise hc tk (pmk_oex (ds := []) (dvs := []) o h1 h2 F hr hb .nil hx hg hm (pa_cons he pa_nil hs) hdb hs hpl)) fun D σ H ⟨F0, σd, G, Dd, hs, hg, h, kk⟩ => ?_
  refine lift_bind hs hg h fun F1 d G1 v H1 s1 hs1 r1 g1 q1 => ⟨by simp, fun a ha => ⟨a, v, rfl, upd_same, fun dx hdx hne => ⟨rfl, dx, [(fld, v)], upd_same, ?_, ?_, ?_⟩⟩⟩
  · rw [upd_ne hne, upd_same]
  · rw [upd_ne hne] at hdx; exact hdx
  · have hd1 : H1 dx = none := by rw [upd_ne hne] at hdx; exact hdx
    have e : upd (del (upd (upd (upd H1 a (exo a C none)) dx (exd dx [(fld, v)])) a (exo a C (some dx))) a) dx (.xd [(fld, v)]) = upd H1 dx (.xd [(fld, v)]) := by
      funext b
      by_cases z : b = dx
      · subst z; rw [upd_same, upd_same]
      · rw [upd_ne z, upd_ne z]
        by_cases z2 : b = a
        · subst z2; rw [del_same]; exact ha.symm
        · rw [del_ne z2, upd_ne z2, upd_ne z, upd_ne z2]
    show W (.ref C) (some dx) σ _
    rw [e]
    obtain ⟨nf, s2, g2⟩ := g1.tupled (o := .xd [(fld, v)]) hd1
    have s3 : Stay X.K H1 F1 (upd H1 dx (.xd [(fld, v)])) (F1.add dx) := s2.trans Stay.froze
    have g3 := g2.froze (g1.gnone hd1) upd_same fun z => nf (.inr z)
    exact kk.ex (F1.add dx) σd C [(fld, d)] G1 σ _ (some dx) (s1.trans s3) (hs1.stay s3) g3 (.inr ⟨dx, [(fld, v)], rfl, .inr rfl, upd_same, .cons (r1.stay s3) .nil⟩) q1
end
/-! ### clauses -/
/-- what the clauses wish; i: the slot of the clause's name -/
abbrev Cl := Option Nat × Value × (Addr → Value → Option Addr → TS)
def Ends.off (D : Ends) (i : Nat) : Ends := { nx := fun σ H => D.nx (σ.set i none) H, rt := D.rt, bk := fun σ H => D.bk (σ.set i none) H, ct := fun σ H => D.ct (σ.set i none) H }
def wMix (K : PySem.W.Frag) (Wout : WX) (D : Ends) : List Cl → WX
  | [] => Wout
  | (o, c, ts) :: r => fun cls d σ H => ∃ b, PySem.W.exmOne K cls c = some b ∧ (b = true → ∀ a, H a = none → (match o with | none => ts a cls d D σ H | some i => ts a cls d (Ends.off D i) (σ.set i (some (.ref a))) H)) ∧ (b = false → wMix K Wout D r cls d σ H)
inductive MixOk (X : Cx) : List ExceptHandler → List Cl → Prop
  | nil : MixOk X [] []
  | no {x : Str} {c : Value} {ts : Addr → Value → Option Addr → TS} {b₀ : Stmt} {suite : List Stmt} {np pos' : Pos} {hds : List ExceptHandler} {l : List Cl} (hc : Names X x c)
      (hsu : ∀ (a : Addr) (oe : Obj) (cls : Value) (d : Option Addr) (pn : List (Addr × Obj)), Zc cls d oe → (∃ vs, oe.data = .fields vs) → PSs (X.suite a ((a, oe) :: pn)) (b₀ :: suite) (ts a cls d)) (r : MixOk X hds l) :
      MixOk X (.ExceptHandler (some (.Name x np)) none (b₀ :: suite) pos' :: hds) ((none, c, ts) :: l)
  | as_ {x n : Str} {i : Nat} {c : Value} {ts : Addr → Value → Option Addr → TS} {b₀ : Stmt} {suite : List Stmt} {np pos' : Pos} {hds : List ExceptHandler} {l : List Cl} (hc : Names X x c) (hi : X.N[i]? = some n) (hln : X.env.kindOf n = some .local)
      (hsu : ∀ (a : Addr) (oe : Obj) (cls : Value) (d : Option Addr) (pn : List (Addr × Obj)), Zc cls d oe → (∃ vs, oe.data = .fields vs) → PSs (X.suite a ((a, oe) :: pn)) (b₀ :: suite) (ts a cls d)) (r : MixOk X hds l) :
      MixOk X (.ExceptHandler (some (.Name x np)) (some n) (b₀ :: suite) pos' :: hds) ((some i, c, ts) :: l)
section
variable {X : Cx} {body : List Stmt} {h₀ : ExceptHandler} {hds : List ExceptHandler} {l : List Cl} {pos : Pos} {tb : WX → TS} {Wout : WX}
theorem ps_try_mix (hN : X.N.Nodup) (hs : X.stack = X.env :: X.outer) (hf : X.env.frame = some X.env.locals) (tk : Takes X Wout)
    (hb : ∀ (W : WX) (pn : List (Addr × Obj)) (xe : Value → Shared → Prop), Takes (X.tr pn xe) W → PassesOwn (model X.prog X.w) X.A X.env xe → PSs (X.tr pn xe) body (tb W))
    (hh : MixOk X (h₀ :: hds) l) : PS X (.Try body (h₀ :: hds) [] [] pos) (fun D σ H => tb (wMix X.K Wout D l) D σ H) := by
  refine ⟨fun pins s σ H D I h => wpAny_Try_except ?_⟩
  have ok := I.ok
  have hst : X.A.frames = some (X.env :: X.outer) := by rw [ok.frames, hs]
  have back : ∀ f s1, SP (X.tr (X.pn ++ pins) (fun e s₁ => wpAny (model X.prog X.w) X.A (noteFrame e X.env) (fun _ s₂ => wpAny (model X.prog X.w) X.A (setFlight e none) (fun _ s₃ => wpAny (model X.prog X.w) X.A (handleBy e X.env (h₀ :: hds)) (SP X pins D) X.xe s₃) X.xe s₂) X.xe s₁)) [] D f s1 → SP X pins D f s1 := fun f s1 q => by
    cases f with
    | next => obtain ⟨σ1, H1, J, q⟩ := q; exact ⟨σ1, H1, J.ofTry ok, q⟩
    | brk => obtain ⟨σ1, H1, J, q⟩ := q; exact ⟨σ1, H1, J.ofTry ok, q⟩
    | cont => obtain ⟨σ1, H1, J, q⟩ := q; exact ⟨σ1, H1, J.ofTry ok, q⟩
    | ret u => obtain ⟨v, σ1, H1, J, r, q⟩ := q; exact ⟨v, σ1, H1, J.ofTry ok, r, q⟩
  refine wpAny_mono ((hb (wMix X.K Wout D l) (X.pn ++ pins) _ (fun u s1 xx => ?_) PassesOwn.looking).run [] s σ H D (I.toTry _) h) (fun f s1 q => ?_) (fun e s1 z => z)
  · obtain ⟨a, B, sI, pins', σ1, H1, cls, d, rfl, J0, nb, up, sky, na, os, ag, w⟩ := xx
    have J := J0.ofTry ok
    show wpAny (model X.prog X.w) X.A (noteFrame (.ref a) X.env) _ _ _
    refine Sky.land Zc.steady hst hf (hs ▸ sky) fun h3 fl up3 => ?_
    have JL : ∀ {h4 : Heap}, B.StaysIn h4 → s1.heap.UpToSlots h4 → Inv X pins σ1 H1 { s1 with heap := h4 } := fun st u4 => J.landed nb st (up.trans u4) os ag
    obtain ⟨oe, vs, he, hz, hd⟩ := fl.there
    have out : a ∉ frs (X.env :: X.outer) := fun hm => by
      obtain ⟨_, o2, e2, hnf⟩ := fl.2.2.1.mem hm
      rw [he] at e2
      cases e2
      exact hnf _ hd
    have nL : a ≠ X.env.locals := fun z => out (List.mem_filterMap.mpr ⟨X.env, List.mem_cons_self, by rw [hf, z]⟩)
    have nF : a ∉ X.fs := fun hm => by
      obtain ⟨q, hq, e⟩ := List.mem_filterMap.mp hm
      exact out (List.mem_filterMap.mpr ⟨q, List.mem_cons_of_mem _ hq, e⟩)
    have S3 := (JL fl.1 up3).suite he hd na nL nF
    have LT : PySem.W.Looks (model X.prog X.w) h3 (typeOf (.ref a)) cls := fun A Q E s k q => wpAny_typeOf_ref (k _ _ he) (by rw [hz.1]; exact q)
    have look : ∀ {x : Str} {c : Value} {np : Pos} {Q : Value → Shared → Prop} {E : Value → Shared → Prop}, Names X x c → Q c { s1 with heap := h3 } → wpAny (model X.prog X.w) (X.A.mark (some (.ref a))) (eval (.Name x np) X.env) Q E { s1 with heap := h3 } := fun hc q => by
      obtain ⟨g1, g2, g3 | ⟨g3, g4, g5⟩⟩ := hc
      · exact ld_glob (X := X.suite a ((a, oe) :: (X.pn ++ pins))) S3 g1 g3 q g2
      · exact ld_blt (X := X.suite a ((a, oe) :: (X.pn ++ pins))) S3 g1 g3 g4 q g5 g2
    have goOn : ∀ {hds' : List ExceptHandler} {l' : List Cl}, MixOk X hds' l' → wMix X.K Wout D l' cls d σ1 H1 → wpAny (model X.prog X.w) X.A (handleBy (.ref a) X.env hds') (SP X pins D) X.xe { s1 with heap := h3 } := by
      intro hds' l' hk
      induction hk with
      | nil =>
        intro w
        obtain ⟨_, _, _, oe5, vs5, T5, _, _, he5, _, hd5, h5, _⟩ := id fl
        have last : wpAny (model X.prog X.w) X.A (setFlight (.ref a) X.env.frame) (fun _ s4 => wpAny (model X.prog X.w) X.A (throw (.ref a) : Sem Flow) (SP X pins D) X.xe s4) X.xe { s1 with heap := h3 } := by
          rw [hf]
          exact HandSPX.setFlight_upZ fl fun h4 hh4 up4 => wpAny_throw (tk _ _ ⟨a, B, sI, pins, σ1, H1, cls, d, rfl, J, nb, (up.trans up3).trans up4, .inr (.inr (by rw [hs]; exact hh4)), na, os, ag, w⟩)
        refine wpAny_handleBy_nil ?_
        unfold PySem.passOn
        refine wpAny_bind (wpAny_field he5 hd5 h5 ?_)
        rw [if_neg (show ¬ ((Value.ref T5 == Value.none) = true) from by simp)]
        first | exact wpAny_bind (wpAny_pure (wpAny_bind last)) | exact wpAny_bind last
      | @no x c ts b0 suite np pos' hds2 l2 hc hsu r ih =>
        rintro ⟨b, hb1, yes, no⟩
        refine wpAny_handleBy_cons (codeAny_handlers_test (look hc ((PySem.W.exm_one (M := model X.prog X.w) (JL fl.1 up3).kIn LT hb1).here ?_))) (by intro q; cases q)
        cases b with
        | false => exact ih (no rfl)
        | true =>
          refine codeAny_handlers_suite (HandSPX.lands_againZ fl fun h4 fl4 up4 => ?_)
          obtain ⟨oe4, vs4, he4, hz4, hd4⟩ := fl4.there
          refine wpAny_mono ((hsu a oe4 cls d (X.pn ++ pins) hz4 ⟨_, hd4⟩).run [] _ _ H1 _ ((JL fl4.1 (up3.trans up4)).suite he4 hd4 na nL nF) (yes rfl a na)) (fun f s6 q => ?_) (fun _ _ z => False.elim z)
          cases f with
          | next => obtain ⟨σ6, H6, S6, q⟩ := q; exact ⟨_, _, S6.unsuite ok, q⟩
          | brk => obtain ⟨σ6, H6, S6, q⟩ := q; exact ⟨_, _, S6.unsuite ok, q⟩
          | cont => obtain ⟨σ6, H6, S6, q⟩ := q; exact ⟨_, _, S6.unsuite ok, q⟩
          | ret u => obtain ⟨v6, σ6, H6, S6, r6, q⟩ := q; exact ⟨_, _, _, S6.unsuite ok, r6, q⟩
      | @as_ x n i c ts b0 suite np pos' hds2 l2 hc hi hln hsu r ih =>
        rintro ⟨b, hb1, yes, no⟩
        refine wpAny_handleBy_cons (codeAny_handlers_test (look hc ((PySem.W.exm_one (M := model X.prog X.w) (JL fl.1 up3).kIn LT hb1).here ?_))) (by intro q; cases q)
        cases b with
        | false => exact ih (no rfl)
        | true =>
          refine codeAny_handlers_suite_as (HandSPX.lands_againZ fl fun h4 fl4 up4 => ?_)
          obtain ⟨oe4, vs4, he4, hz4, hd4⟩ := fl4.there
          refine store_ok (X := X.suite a ((a, oe4) :: (X.pn ++ pins))) (v := .ref a) ((JL fl4.1 (up3.trans up4)).suite he4 hd4 na nL nF) hN hi (.inl hln) rfl (fun s5 S5 => ?_) (.inr hln)
          refine wpAny_mono ((hsu a oe4 cls d (X.pn ++ pins) hz4 ⟨_, hd4⟩).run [] s5 _ H1 _ S5 (yes rfl a na)) (fun f s6 q => ?_) (fun _ _ z => False.elim z)
          have gone : ∀ {σ6 : L2.St} {H6 : Hp} {Q : Shared → Prop}, Inv (X.suite a ((a, oe4) :: (X.pn ++ pins))) [] σ6 H6 s6 → (∀ s7, Inv X pins (σ6.set i none) H6 s7 → Q s7) → wpAny (model X.prog X.w) X.A (do bindName X.env n .none; unbindBehindTheSuite X.env n pos') (fun _ s7 => Q s7) X.xe s6 := fun S6 hq => gone_ok (S6.unsuite ok) hN hi hln hq
          cases f with
          | next => obtain ⟨σ6, H6, S6, q⟩ := q; exact gone S6 fun s7 J7 => ⟨_, _, J7, q⟩
          | brk => obtain ⟨σ6, H6, S6, q⟩ := q; exact gone S6 fun s7 J7 => ⟨_, _, J7, q⟩
          | cont => obtain ⟨σ6, H6, S6, q⟩ := q; exact gone S6 fun s7 J7 => ⟨_, _, J7, q⟩
          | ret u => obtain ⟨v6, σ6, H6, S6, r6, q⟩ := q; exact gone S6 fun s7 J7 => ⟨_, _, _, J7, r6, q⟩
    exact goOn hh w
  · have q' := back f s1 q
    cases f with
    | next => exact wpAny_execs_nil q'
    | brk => exact q'
    | cont => exact q'
    | ret u => exact q'
end
end DL

/-! DLK: try with clauses, over data. -/
namespace DL
open PySem PySem.Spec L2

abbrev ClD := Option Nat × (Addr → Option Bool) × (Addr → Value → Option Addr → DS)
def DEnds.off (D : DEnds) (i : Nat) : DEnds := { nx := fun σ G => D.nx (σ.set i none) G, rt := D.rt, bk := fun σ G => D.bk (σ.set i none) G, ct := fun σ G => D.ct (σ.set i none) G }
def wMixX (D : DEnds) : List ClD → DXs
  | [] => D.ex
  | (o, ans, ws) :: r => fun σ A fs G => ∃ b, ans A = some b ∧ (if b = true then (match o with
      | none => ∀ a od, ws a (.ref A) od D σ G
      | some i => ∀ a od, (od = none → fs = []) → ws a (.ref A) od (D.off i) (σ.set i (some (.exc a A od fs))) G) else wMixX D r σ A fs G)
/-- try: body, then the clauses -/
def wTryM (wb : DS) (l : List ClD) : DS := fun D σ G => wb { D with ex := wMixX D l } σ G
inductive MixD (X : Cx) (W : WX) : List ExceptHandler → List ClD → Prop
  | nil : MixD X W [] []
  | no {x : Str} {c : Value} {ans : Addr → Option Bool} {ws : Addr → Value → Option Addr → DS} {b₀ : Stmt} {suite : List Stmt} {np pos' : Pos} {hds : List ExceptHandler} {l : List ClD} (hc : Names X x c) (hans : ∀ A b, ans A = some b → PySem.W.exmOne X.K (.ref A) c = some b)
      (hsu : ∀ (a : Addr) (oe : Obj) (cls : Value) (d : Option Addr) (pn : List (Addr × Obj)), Zc cls d oe → (∃ vs, oe.data = .fields vs) → PSs (X.suite a ((a, oe) :: pn)) (b₀ :: suite) (liftS X.K W (ws a cls d))) (r : MixD X W hds l) :
      MixD X W (.ExceptHandler (some (.Name x np)) none (b₀ :: suite) pos' :: hds) ((none, ans, ws) :: l)
  | as_ {x n : Str} {i : Nat} {c : Value} {ans : Addr → Option Bool} {ws : Addr → Value → Option Addr → DS} {b₀ : Stmt} {suite : List Stmt} {np pos' : Pos} {hds : List ExceptHandler} {l : List ClD} (hc : Names X x c) (hi : X.N[i]? = some n) (hln : X.env.kindOf n = some .local)
      (hans : ∀ A b, ans A = some b → PySem.W.exmOne X.K (.ref A) c = some b)
      (hsu : ∀ (a : Addr) (oe : Obj) (cls : Value) (d : Option Addr) (pn : List (Addr × Obj)), Zc cls d oe → (∃ vs, oe.data = .fields vs) → PSs (X.suite a ((a, oe) :: pn)) (b₀ :: suite) (liftS X.K W (ws a cls d))) (r : MixD X W hds l) :
      MixD X W (.ExceptHandler (some (.Name x np)) (some n) (b₀ :: suite) pos' :: hds) ((some i, ans, ws) :: l)
section
variable {X : Cx} {W : WX} {D : Ends} {Dd : DEnds} {H : Hp} {F : FP} {body : List Stmt} {h₀ : ExceptHandler} {hds : List ExceptHandler} {l : List ClD} {pos : Pos} {wb : DS}
theorem KEnds.off (k : KEnds X.K W H F Dd D) (i : Nat) : KEnds X.K W H F (Dd.off i) (Ends.off D i) :=
  ⟨fun F1 σd G1 σ1 H1 s r g q => k.nx F1 _ G1 _ H1 s (r.clear i none) g q, k.rt, fun F1 σd G1 σ1 H1 s r g q => k.bk F1 _ G1 _ H1 s (r.clear i none) g q, fun F1 σd G1 σ1 H1 s r g q => k.ct F1 _ G1 _ H1 s (r.clear i none) g q, fun _ _ _ _ _ _ _ _ _ _ _ _ z => z.elim⟩
theorem MixD.ok (h : MixD X W hds l) : ∃ lc, MixOk X hds lc ∧ ∀ (D : Ends) (Dd : DEnds) (F : FP) (H : Hp), KEnds X.K W H F Dd D → ∀ F' σd A fs G σ H' od, Stay X.K H F H' F' → RelSt X.K H' F' σd σ → RelG X.K H' F' G → ExR X.K H' F' fs od → wMixX Dd l σd A fs G → wMix X.K W D lc (.ref A) od σ H' := by
  induction h with
  | nil => exact ⟨[], .nil, fun D Dd F H k F' σd A fs G σ H' od s r g x q => k.ex F' σd A fs G σ H' od s r g x q⟩
  | @no x c ans ws b0 suite np pos' hds l hc hans hsu r ih =>
    obtain ⟨lc, h1, h2⟩ := ih
    refine ⟨_, .no hc (fun a oe cls d pn hz hf => hsu a oe cls d pn hz hf) h1, fun D Dd F H k F' σd A fs G σ H' od s r g x ⟨b, e, q⟩ => ⟨b, hans A b e, fun eb a ha => ?_, fun eb => ?_⟩⟩
    · rw [if_pos eb] at q
      exact ⟨F', σd, G, Dd, r, g, q a od, k.go s⟩
    · rw [if_neg (by rw [eb]; exact Bool.false_ne_true)] at q
      exact h2 D Dd F H k F' σd A fs G σ H' od s r g x q
  | @as_ x n i c ans ws b0 suite np pos' hds l hc hi hln hans hsu r ih =>
    obtain ⟨lc, h1, h2⟩ := ih
    refine ⟨_, .as_ hc hi hln (fun a oe cls d pn hz hf => hsu a oe cls d pn hz hf) h1, fun D Dd F H k F' σd A fs G σ H' od s r g x ⟨b, e, q⟩ => ⟨b, hans A b e, fun eb a ha => ?_, fun eb => ?_⟩⟩
    · rw [if_pos eb] at q
      have q := q a od
      rcases x with ⟨rfl, rfl⟩ | ⟨dx, vs, rfl, f, hd, rf⟩
      · exact ⟨F', _, G, _, r.set .exc0 i, g, q fun _ => rfl, (k.go s).off i⟩
      · exact ⟨F', _, G, _, r.set (.exc f hd rf) i, g, q fun z => (by cases z), (k.go s).off i⟩
    · rw [if_neg (by rw [eb]; exact Bool.false_ne_true)] at q
      exact h2 D Dd F H k F' σd A fs G σ H' od s r g x q
theorem ds_tryM (hN : X.N.Nodup) (hs : X.stack = X.env :: X.outer) (hf : X.env.frame = some X.env.locals) (tk : Takes X W)
    (hb : ∀ (W' : WX) (pn : List (Addr × Obj)) (xe : Value → Shared → Prop), Takes (X.tr pn xe) W' → PassesOwn (model X.prog X.w) X.A X.env xe → PSs (X.tr pn xe) body (liftS X.K W' wb))
    (hh : MixD X W (h₀ :: hds) l) : PS X (.Try body (h₀ :: hds) [] [] pos) (liftS X.K W (wTryM wb l)) := by
  obtain ⟨lc, h1, h2⟩ := hh.ok
  exact PS.weak (ps_try_mix hN hs hf tk (fun W' pn xe tk' p' => hb W' pn xe tk' p') h1) fun D σ H ⟨F, σd, G, Dd, r, g, h, k⟩ =>
    ⟨F, σd, G, _, r, g, h, ⟨k.nx, k.rt, k.bk, k.ct, fun F' σ2 A fs G' σ2' H' od s r g x q => h2 D Dd F H k F' σ2 A fs G' σ2' H' od s r g x q⟩⟩
end
/-- e.f in a clause that names e -/
def wXf (a : Addr) (cls : Value) (d : Option Addr) (C : Addr) (f : Str) (te : DE) : DE := fun σ G Q => te σ G fun x G1 => match x with
  | .exc a' A od fs => a' = a ∧ cls = .ref C ∧ od = d ∧ (match fs.lookup f with | some v => Q v G1 | none => False)
  | _ => False
theorem de_xf {X : Cx} {a C : Addr} {oe : Obj} {cls : Value} {d : Option Addr} {pn : List (Addr × Obj)} {e : Expr} {te : DE} {pos : Pos} {n : Str} (T : XfC X.K C) (hno : NoAttr X.K C n)
    (hz : Zc cls d oe) (hf : ∃ vs, oe.data = .fields vs) (he : PE (X.suite a ((a, oe) :: pn)) e (lift X.K te)) (hb : attributeBase e n X.env (eval e X.env) = eval e X.env := by rfl) :
    PE (X.suite a ((a, oe) :: pn)) (.Attribute e n pos) (lift X.K (wXf a cls d C n te)) :=
  PE.weak (pe_xf T hno hz hf he hb) fun σ H Q ⟨F, σd, G, Qd, hs, hg, h, k⟩ => lift_bind hs hg h fun F1 x G1 v H1 s1 hs1 r1 g1 q1 => by
    cases r1 with
    | exc0 => exact q1.2.2.2.elim
    | @exc a' A dx vs fs f hd rf =>
      obtain ⟨rfl, rfl, rfl, q⟩ := q1
      split at q
      · rename_i y e
        obtain ⟨w, l, r⟩ := (rf.lookup n).1 y e
        exact ⟨rfl, rfl, dx, vs, w, rfl, hd, l, (k.go s1).here r g1 q⟩
      · exact q.elim
    | _ => exact (show False from q1).elim
end DL

/-! DLM: a class whose __init__ may raise: C(a, ..) as a statement, returned, stored. -/
namespace DL
open PySem PySem.Spec L2
section
variable {X : Cx} {CX : CXT} {k : Nat} {f C : Addr} {fd : FuncData} {ps : List Str} {sp : Sp} {E : L2.St → XK} {x : Str} {p pos : Pos} {e : Expr} {es : List Expr} {t : TA}
theorem run_makeS {pins : List (Addr × Obj)} {σ : L2.St} {H : Hp} {s : Shared} {Q : VK} {us : List Value} {vs : List V} (M : Mk X.K C f) (F : FnOk X.prog X.w X.K X.mg X.base CX k f fd ps sp) (hr : Room (k + 1) X.A) (hb : Binds X.K fd ps [])
    (hx : PassesAt CX X σ (E σ)) (I : Inv X pins σ H s) (r : Vals vs us)
    (h : ∀ a dx, H a = none → H dx = none → dx ≠ a → sp (.ref a :: vs) (upd (upd H dx (.own a)) a (.ins C dx [])) (fun v H2 => v = .non ∧ Q (.ref a) H2) (E σ)) : wpAny (model X.prog X.w) X.A (call (.ref C) us) (EP X pins σ Q) X.xe s := by
  have q := h (s.heap.objs.size + 1) s.heap.objs.size (I.hok.fresh (Nat.le_succ _)) (I.hok.fresh (Nat.le_refl _)) (Nat.ne_of_lt (Nat.lt_succ_self _))
  have J := Inv.made (C := C) I
  have r2 : Vals (V.ref (s.heap.objs.size + 1) :: vs) (Value.ref (s.heap.objs.size + 1) :: us) := .cons rfl r
  have hl : (Value.ref (s.heap.objs.size + 1) :: us).length = ps.length := by rw [← r2.length]; exact F.len _ _ _ _ q
  have b := hb _ (Value.ref (s.heap.objs.size + 1) :: us) J.kIn (by rw [List.append_nil]; exact hl)
  rw [List.append_nil] at b
  refine wpAny_call (make_map (f := f) I.kIn M.makes M.init (beq_iff_eq.mp M.fn) (codeAny_mono (F.run _ X.stack _ _ ⟨Value.ref (s.heap.objs.size + 1) :: us, []⟩ _ _ _ (E σ) (hr.make C us []) (J.env0.make C us []) b r2 q) fun r s' z => ?_))
  match r, z with
  | .error er, z => exact hx pins _ _ er s' J z
  | .ok (.ret u), z =>
    obtain ⟨v, H', J2, rv, ev, q3⟩ := J.after z
    subst ev
    exact ⟨rv, .ref (s.heap.objs.size + 1), H', J2, rfl, q3⟩
  | .ok .next, z => exact False.elim z
  | .ok .brk, z => exact False.elim z
  | .ok .cont, z => exact False.elim z
def tMakeS (C : Addr) (sp : Sp) (E : L2.St → XK) (t : TA) : TE := fun σ H Q => t σ H fun vs H1 => ∀ a dx, H1 a = none → H1 dx = none → dx ≠ a → sp (.ref a :: vs) (upd (upd H1 dx (.own a)) a (.ins C dx [])) (fun v H2 => v = .non ∧ Q (.ref a) H2) (E σ)
theorem pe_makeS (M : Mk X.K C f) (F : FnOk X.prog X.w X.K X.mg X.base CX k f fd ps sp) (hr : Room (k + 1) X.A) (hg : Gl X x) (hm : X.mg x = some (.ref C)) (hb : Binds X.K fd ps []) (hx : ∀ σ, PassesAt CX X σ (E σ)) (ha : PA X (e :: es) t)
    (hdb : (x == ("__debug__" : Str)) = false := by decide) (he : starEach (e :: es) X.env = (false, eval e X.env) :: starEach es X.env := by rfl) (hpl : (backTo pos (starEach es X.env)).any (·.1) = false := by rfl) :
    PE X (.Call (.Name x p) (e :: es) [] pos) (tMakeS C sp E t) :=
  ⟨fun pins s σ H Q I h => wpAny_Call_Name_kw (ld_glob I hg hm (PySem.W.callWith_K (h₀ := X.base) I.ok.mod.kin M.kp (thn (ha.run pos pins s σ H _ I h) fun _ _ ⟨_, _, I1, r, q⟩ => ⟨I1.kIn, run_makeS M F hr hb (hx σ) I1 r q⟩) he hpl) hdb)⟩
end
/-- C(a, ..) as a call: a new object, then __init__ -/
def mkSp (K : PySem.W.Frag) (C : Addr) (sp : DSp) : DSp := fun ds G Q E => ∀ p, G p = none → sp (.ref p :: ds) (gup G p (.ins C [])) (fun d G2 => d = .non ∧ ∃ d0 G0, Vs K (.ref p) G2 d0 G0 ∧ Q d0 G0) E
structure CalMX (P : Program) (w : World) (K : PySem.W.Frag) (mg : Str → Option Value) (base : Heap) (k : Nat) (x : Str) (C : Addr) (ps : List Str) (sp : DSp) : Prop where
  ex : ∃ f fd, mg x = some (.ref C) ∧ Mk K C f ∧ Binds K fd ps [] ∧ FnOk P w K mg base (L2.CX P w) k f fd ps (liftSp K sp)
theorem CalMX.mono {P : Program} {w : World} {K : PySem.W.Frag} {mg : Str → Option Value} {base : Heap} {j k : Nat} {x : Str} {C : Addr} {ps : List Str} {sp : DSp} (c : CalMX P w K mg base j x C ps sp) (h : j ≤ k) : CalMX P w K mg base k x C ps sp :=
  let ⟨f, fd, a1, a2, a3, a4⟩ := c.ex; ⟨f, fd, a1, a2, a3, a4.mono h⟩
section
variable {X : Cx} {W : WX} {k : Nat} {C : Addr} {ps : List Str} {sp : DSp} {x : Str} {p pos pos2 : Pos} {e : Expr} {es : List Expr} {t : DA}
theorem makeX_lift {D : Ends} {Dd : DEnds} {σ : L2.St} {H : Hp} {Q : VK} {F : FP} {σd : DSt} {G : Gh} {Qd : DQ} (hs : RelSt X.K H F σd σ) (hg : RelG X.K H F G) (h : t σd G fun ds G1 => mkSp X.K C sp ds G1 Qd fun A fs G2 => Dd.ex σd A fs G2)
    (kq : Kt X.K (Rep X.K) H F Qd Q) (k : KEnds X.K W H F Dd D) : tMakeS C (liftSp X.K sp) (WE W) (liftA X.K t) σ H Q :=
  lift_bind hs hg h fun F1 ds G1 vs H1 s1 hs1 r1 g1 q1 a dx ha hdx hne => by
    obtain ⟨_, s2, g2⟩ := g1.tupled (o := .own a) hdx
    have ha2 : upd H1 dx (.own a) a = none := by rw [upd_ne (Ne.symm hne)]; exact ha
    obtain ⟨_, s3, _⟩ := g2.tupled (o := .ins C dx []) ha2
    have g4 := g2.made (u := .ins C []) (o := .ins C dx []) ha2 ⟨dx, [], upd_same, .nil⟩
    have s4 := (s1.trans s2).trans s3
    refine ⟨F1, .ref a :: ds, _, _, _, .cons (.ref a) ((r1.stay s2).stay s3), g4, q1 a (g1.gnone ha), ?_, fun F' A fs G' H' od s g z q => k.ex F' σd A fs G' σ H' od (s4.trans s) (hs.stay (s4.trans s)) g z q⟩
    rintro F5 d G5 v H5 s5 r5 g5 ⟨rfl, d0, G0, vs, q5⟩
    cases r5
    obtain ⟨F6, s6, r6, g6⟩ := vs H5 F5 (.ref a) (.ref a) g5
    exact ⟨rfl, kq F6 d0 G0 _ H5 ((s4.trans s5).trans s6) r6 g6 q5⟩
theorem ds_makeX (tk : Takes X W) (c : CalMX X.prog X.w X.K X.mg X.base k x C ps sp) (hr : Room (k + 1) X.A) (hg : Gl X x) (ha : PA X (e :: es) (liftA X.K t)) (hdb : (x == ("__debug__" : Str)) = false := by decide)
    (he : starEach (e :: es) X.env = (false, eval e X.env) :: starEach es X.env := by rfl) (hpl : (backTo pos (starEach es X.env)).any (·.1) = false := by rfl) (hs : swapsWith (.Call (.Name x p) (e :: es) [] pos) none pos2.line X.env = pure false := by rfl) :
    PS X (.Expr (.Call (.Name x p) (e :: es) [] pos) pos2) (liftS X.K W (wCallSt (mkSp X.K C sp) t)) := by
  obtain ⟨f, fd, hm, M, hb, F⟩ := c.ex
  exact PS.weak (ps_expr (pe_makeS M F hr hg hm hb (fun σ => passAt tk σ) ha hdb he hpl) hs) fun D σ H ⟨F, σd, G, Dd, hs, hg, h, k⟩ =>
    makeX_lift hs hg h (fun F1 d G1 v H1 s1 r1 g1 q1 => (k.go s1).nx.here (hs.stay s1) g1 q1) k
theorem ds_retMakeX (tk : Takes X W) (c : CalMX X.prog X.w X.K X.mg X.base k x C ps sp) (hr : Room (k + 1) X.A) (hg : Gl X x) (ha : PA X (e :: es) (liftA X.K t)) (hdb : (x == ("__debug__" : Str)) = false := by decide)
    (he : starEach (e :: es) X.env = (false, eval e X.env) :: starEach es X.env := by rfl) (hpl : (backTo pos (starEach es X.env)).any (·.1) = false := by rfl) :
    PS X (.Return (some (.Call (.Name x p) (e :: es) [] pos)) pos2) (liftS X.K W (wRetX (mkSp X.K C sp) t)) := by
  obtain ⟨f, fd, hm, M, hb, F⟩ := c.ex
  exact PS.weak (ps_ret (pe_makeS M F hr hg hm hb (fun σ => passAt tk σ) ha hdb he hpl)) fun D σ H ⟨F, σd, G, Dd, hs, hg, h, k⟩ => makeX_lift hs hg h k.rt k
theorem ds_setMakeX (i : Nat) {y : Str} {pos' : Pos} (hN : X.N.Nodup) (tk : Takes X W) (c : CalMX X.prog X.w X.K X.mg X.base k x C ps sp) (hr : Room (k + 1) X.A) (hg : Gl X x) (ha : PA X (e :: es) (liftA X.K t)) (hdb : (x == ("__debug__" : Str)) = false := by decide)
    (he : starEach (e :: es) X.env = (false, eval e X.env) :: starEach es X.env := by rfl) (hpl : (backTo pos (starEach es X.env)).any (·.1) = false := by rfl) (hi : X.N[i]? = some y := by rfl) (hx : Loc X.env.scope y := by first | exact Or.inl rfl | exact Or.inr rfl)
    (hs : swapsWith (.Call (.Name x p) (e :: es) [] pos) (some (.Name y pos')) pos2.line X.env = pure false := by rfl) (hf : X.fn y = true ∨ X.env.scope.names.lookup y = some .local := by first | exact .inl rfl | exact .inr rfl) :
    PS X (.Assign [.Name y pos'] (.Call (.Name x p) (e :: es) [] pos) pos2) (liftS X.K W (wSetX i (mkSp X.K C sp) t)) := by
  obtain ⟨f, fd, hm, M, hb, F⟩ := c.ex
  exact PS.weak (ps_set hN hi hx (pe_makeS M F hr hg hm hb (fun σ => passAt tk σ) ha hdb he hpl) hs hf) fun D σ H ⟨F, σd, G, Dd, hs, hg, h, k⟩ =>
    makeX_lift hs hg h (fun F1 d G1 v H1 s1 r1 g1 q1 => (k.go s1).nx.here ((hs.stay s1).set r1 i) g1 q1) k
end
end DL

/-! DLU: further operators. -/
namespace DL
open PySem PySem.Spec L2
/-- a tuple, so often -/
def repD (ds : List D) (n : Nat) : List D := (List.replicate n ds).flatten
def rMulA : DR2 := fun x y G Q => match x, y with
  | .int i, .int j => CMul i j ∧ Q (.int (i * j)) G
  | .tup ds, .int k => ds ≠ [] ∧ 2 ≤ k ∧ k ≤ 1000 ∧ ds.length ≤ 1000 ∧ Q (.tup (repD ds k.toNat)) G
  | _, _ => False
theorem rep_reps {K : PySem.W.Frag} {H : Hp} {F : FP} {ds : List D} {vs : List V} (r : Reps K H F ds vs) : ∀ n, Reps K H F (List.replicate n ds).flatten (List.replicate n vs).flatten
  | 0 => .nil
  | n + 1 => by rw [List.replicate_succ, List.replicate_succ, List.flatten_cons, List.flatten_cons]; exact r.append (rep_reps r n)
theorem repD_length (ds : List D) (n : Nat) : (repD ds n).length = n * ds.length := by
  unfold repD
  induction n with
  | zero => simp
  | succ n ih => rw [List.replicate_succ, List.flatten_cons, List.length_append, ih, Nat.succ_mul, Nat.add_comm]
theorem repD_mem {ds : List D} {n : Nat} {x : D} (h : x ∈ repD ds n) : x ∈ ds := by
  unfold repD at h
  obtain ⟨l, h1, h2⟩ := List.mem_flatten.mp h
  rw [List.mem_replicate] at h1
  rw [← h1.2]; exact h2
abbrev rMulL (K : PySem.W.Frag) : R2 := fun x y H Q => rI CMul (fun i j => .int (i * j)) x y H Q ∨ rRepT K x y H Q
theorem op_mulA {X : Cx} : OpR X (binaryOp .Mult) (rMulL X.K) := op_mul.or op_repT
theorem od_mulA {K : PySem.W.Frag} : OpD K (rMulL K) rMulA := by
  intro F H G x y v w Qd Q rx ry hg h k
  cases rx with
  | int i =>
    cases ry with
    | int j => exact .inl ⟨i, j, rfl, rfl, h.1, k.here (.int _) hg h.2⟩
    | _ => exact (show False from h).elim
  | @tup a vs ds h1 hl r =>
    cases ry with
    | int j =>
      obtain ⟨h0, h2, h3, h4, q⟩ := h
      have hlen : (repD ds j.toNat).length ≤ sizeLine := by
        rw [repD_length, sizeLine_eq]
        have : j.toNat ≤ 1000 := by omega
        exact Nat.le_trans (Nat.mul_le_mul this h4) (by decide)
      refine .inr ⟨a, j, vs, rfl, rfl, h1, fun z => h0 ?_, h2, h3, by rw [← r.length]; exact h4, k.tup hg hlen (rep_reps r _) q⟩
      subst z; cases r; rfl
    | _ => exact (show False from h).elim
  | _ => cases ry <;> exact (show False from h).elim
/-- int(b) -/
def rIntA : DC := fun ds G Q => match ds with | [.int i] => Q (.int i) G | [.bl b] => Q (.int (if b then 1 else 0)) G | _ => False
theorem cd_intA {K : PySem.W.Frag} : CallD K (fun xs H Q => (∃ i, xs = [.int i] ∧ Q (.int i) H) ∨ ∃ k, xs = [.bl k] ∧ Q (.int (if k then 1 else 0)) H) rIntA := by
  intro F H G ds vs Qd Q r hg h k
  unfold rIntA at h
  split at h
  · cases r with | cons r t => cases t; cases r; exact .inl ⟨_, rfl, k.here (.int _) hg h⟩
  · cases r with | cons r t => cases t; cases r; exact .inr ⟨_, rfl, k.here (.int _) hg h⟩
  · exact h.elim
end DL

/-! DLW: while, own methods, C(), pop, texts. -/
namespace DL
open PySem PySem.Spec L2

/-! ### while -/
section
variable {X : Cx} {W : WX} {pos : Pos}
def wWhile (tc : DT) (tb : DS) : DS := fun D σ G => ∃ R : Nat → DSt → Gh → Prop, (∃ m, R m σ G) ∧ ∀ m σ G, R m σ G →
  tc σ G fun b G1 => if b = true then ∃ N : DSt → Gh → Prop, (∀ σ' G', N σ' G' → ∃ m', m' < m ∧ R m' σ' G') ∧ tb { D with nx := N, ct := N, bk := D.nx } σ G1 else D.nx σ G1
theorem ds_while {c : Expr} {body : List Stmt} {tc : DT} {tb : DS} (hp : PassesOwn (model X.prog X.w) X.A X.env X.xe) (hc : PT X c (liftT X.K tc)) (hb : PSs X body (liftS X.K W tb)) : PS X (.While c body [] pos) (liftS X.K W (wWhile tc tb)) := by
  refine PS.weak (ps_while hp hc hb) fun D σ H ⟨F, σd, G, Dd, hs, hg, h, k⟩ => ?_
  obtain ⟨R, ⟨m0, r0⟩, turn⟩ := h
  refine ⟨fun m σ' H' => ∃ F2 σd2 G2, Stay X.K H F H' F2 ∧ RelSt X.K H' F2 σd2 σ' ∧ RelG X.K H' F2 G2 ∧ R m σd2 G2, ⟨m0, F, σd, G, .refl, hs, hg, r0⟩, ?_⟩
  rintro m σ2 H2 ⟨F2, σd2, G2, s2, rs2, g2, r2⟩
  refine lift_bind rs2 g2 (turn m σd2 G2 r2) fun F3 x G3 v H3 s3 rs3 e3 g3 q3 => ?_
  subst e3
  cases x with
  | true =>
    rw [if_pos rfl] at q3
    obtain ⟨N, hN, q3⟩ := q3
    refine iteT ⟨fun σ' H' => ∃ F4 σd4 G4, Stay X.K H F H' F4 ∧ RelSt X.K H' F4 σd4 σ' ∧ RelG X.K H' F4 G4 ∧ N σd4 G4, ?_, ?_⟩
    · rintro σ' H' ⟨F4, σd4, G4, s4, rs4, g4, n4⟩
      obtain ⟨m', hm, r'⟩ := hN σd4 G4 n4
      exact ⟨m', hm, F4, σd4, G4, s4, rs4, g4, r'⟩
    · have s5 := s2.trans s3
      have k5 := k.go s5
      refine ⟨F3, σd2, G3, _, rs3, g3, q3, ⟨?_, k5.rt, k5.nx, ?_, k5.ex⟩⟩
      · exact fun F6 σ6 G6 σ6' H6 s6 rs6 g6 q6 => ⟨F6, σ6, G6, s5.trans s6, rs6, g6, q6⟩
      · exact fun F6 σ6 G6 σ6' H6 s6 rs6 g6 q6 => ⟨F6, σ6, G6, s5.trans s6, rs6, g6, q6⟩
  | false =>
    rw [if_neg Bool.false_ne_true] at q3
    exact iteF ((k.go (s2.trans s3)).nx.here rs3 g3 q3)
end

/-! ### own methods -/
section
variable {P : Program} {w : World} {K : PySem.W.Frag} {mg : Str → Option Value} {base : Heap}
structure CalMe (P : Program) (w : World) (K : PySem.W.Frag) (mg : Str → Option Value) (base : Heap) (k : Nat) (C : Addr) (m : Str) (ps : List Str) (sp : DSp) : Prop where
  ex : ∃ f fd, Cls K C ∧ Meth K C m f ∧ Binds K fd ps [] ∧ FnOk P w K mg base CX0 k f fd ps (liftSp K sp)
theorem CalMe.mono {j k : Nat} {C : Addr} {m : Str} {ps : List Str} {sp : DSp} (c : CalMe P w K mg base j C m ps sp) (h : j ≤ k) : CalMe P w K mg base k C m ps sp :=
  let ⟨f, fd, a1, a2, a3, a4⟩ := c.ex; ⟨f, fd, a1, a2, a3, a4.mono h⟩
end
section
variable {X : Cx} {W : WX} {k : Nat} {C : Addr} {ps : List Str} {sp : DSp} {x m : Str} {p pos apos : Pos} {o e a b : Expr} {es : List Expr} {t : DA} {ta tb : DE}
/-- o.m(e, ..), no exception leaves it -/
def wMeth (C : Addr) (m : Str) (sp : DSp) (ta : DE) (t : DA) : DE := fun σ G Q => ta σ G fun x G1 => ∃ fs, objOf G1 x = some (C, fs) ∧ fs.lookup m = none ∧ t σ G1 fun vs G2 => sp (x :: vs) G2 Q noX
theorem tMeth_lift {K : PySem.W.Frag} {σ H Q} (h : lift K (wMeth C m sp ta t) σ H Q) : tMeth C m (liftSp K sp) [] E0 (lift K ta) (liftA K t) σ H Q := by
  obtain ⟨F, σd, G, Qd, hs, hg, h, k⟩ := h
  refine lift_bind hs hg h fun F1 x G1 v H1 s1 hs1 r1 g1 q1 => ?_
  obtain ⟨fs, e1, e2, q1⟩ := q1
  obtain ⟨a, dx, vs, rfl, h1, h2⟩ := obj_rep r1 g1 e1
  refine ⟨a, dx, vs, rfl, h1, (h2.lookup m).2 e2, ?_⟩
  refine lift_bind hs1 g1 q1 fun F2 ds G2 us H2 s2 hs2 r2 g2 q2 => ?_
  exact ⟨F2, x :: ds, G2, Qd, noX, .cons (r1.stay s2) (by rw [List.append_nil]; exact r2), g2, q2, k.go (s1.trans s2), .no⟩
theorem de_meth {pl : Sem Bool} (c : CalMe X.prog X.w X.K X.mg X.base k C m ps sp) (hr : Room k X.A) (ho : PE X o (lift X.K ta)) (ha : PA X (e :: es) (liftA X.K t))
    (hst : starEach (e :: es) X.env = (false, eval e X.env) :: starEach es X.env := by rfl) (hpl : (backTo pos (starEach es X.env)).any (·.1) = false := by rfl)
    (ht : eval (.Call (.Attribute o m apos) (e :: es) [] pos) X.env = (do
      let ov ← eval o X.env
      standAt apos.atName
      let (f, first) ← holding [ov] (getMethod ov m pl)
      callWith pos f first (backTo pos (starEach (e :: es) X.env)) (backToKw pos (keywordEach [] X.env))) := by rfl) :
    PE X (.Call (.Attribute o m apos) (e :: es) [] pos) (lift X.K (wMeth C m sp ta t)) := by
  obtain ⟨f, fd, hc, hm, hb, F⟩ := c.ex
  exact PE.weak (pe_meth ho hc hm F hr hb .nil pass0 ha hst hpl ht) fun _ _ _ => tMeth_lift
theorem tNil_lift {K : PySem.W.Frag} {σ : L2.St} {H : Hp} {Q : List V → Hp → Prop} (h : liftA K wNil σ H Q) : tNil σ H Q := by
  obtain ⟨F, σd, G, Qd, hs, hg, h, k⟩ := h
  exact k.here .nil hg h
theorem de_meth0 {pl : Sem Bool} (c : CalMe X.prog X.w X.K X.mg X.base k C m ps sp) (hr : Room k X.A) (ho : PE X o (lift X.K ta))
    (ht : eval (.Call (.Attribute o m apos) [] [] pos) X.env = (do
      let ov ← eval o X.env
      standAt apos.atName
      let (f, first) ← holding [ov] (getMethod ov m pl)
      callWith pos f first (backTo pos (starEach [] X.env)) (backToKw pos (keywordEach [] X.env))) := by rfl) :
    PE X (.Call (.Attribute o m apos) [] [] pos) (lift X.K (wMeth C m sp ta wNil)) := by
  obtain ⟨f, fd, hc, hm, hb, F⟩ := c.ex
  refine PE.weak (pe_meth0 ho hc hm F hr hb .nil pass0 ht) fun σ H Q h => ?_
  obtain ⟨F, σd, G, Qd, hs, hg, h, k⟩ := h
  refine lift_bind hs hg h fun F1 x G1 v H1 s1 hs1 r1 g1 q1 => ?_
  obtain ⟨fs, e1, e2, q1⟩ := q1
  obtain ⟨a, dx, vs, rfl, h1, h2⟩ := obj_rep r1 g1 e1
  refine ⟨a, dx, vs, rfl, h1, (h2.lookup m).2 e2, ?_⟩
  exact ⟨F1, [x], G1, Qd, noX, .cons r1 .nil, g1, q1, k.go s1, .no⟩
/-- C() -/
theorem de_make0 {C : Addr} (c : CalM X.prog X.w X.K X.mg X.base k x C ps sp) (hr : Room (k + 1) X.A) (hg : Gl X x) (hdb : (x == ("__debug__" : Str)) = false := by decide) :
    PE X (.Call (.Name x p) [] [] pos) (lift X.K (wMake X.K C sp wNil)) := by
  obtain ⟨f, fd, hm, M, hb, F⟩ := c.ex
  refine PE.weak (pe_make0 M F hr hg hm hb .nil pass0 hdb) fun σ H Q ⟨F, σd, G, Qd, hs, hg, h, k⟩ => ?_
  intro p dx hp hdx hne
  obtain ⟨nf, s2, g2⟩ := hg.tupled (o := .own p) hdx
  have hp2 : upd H dx (.own p) p = none := by rw [upd_ne (Ne.symm hne)]; exact hp
  obtain ⟨nf3, s3, g3⟩ := g2.tupled (o := .ins C dx []) hp2
  have g4 := g2.made (u := .ins C []) (o := .ins C dx []) hp2 ⟨dx, [], upd_same, .nil⟩
  refine ⟨F, [.ref p], _, _, noX, .cons (.ref p) .nil, g4, h p (hg.gnone hp), ?_, .no⟩
  rintro F5 d G5 v H5 s5 r5 g5 ⟨rfl, d0, G0, vs, q5⟩
  cases r5
  obtain ⟨F6, s6, r6, g6⟩ := vs H5 F5 (.ref p) (.ref p) g5
  exact ⟨rfl, k F6 d0 G0 _ H5 (((s2.trans s3).trans s5).trans s6) r6 g6 q5⟩

/-! ### found.pop() -/
def wPop (ta : DE) : DE := fun σ G Q => ta σ G fun x G1 => match x with
  | .ref q => ∃ l y, G1 q = some (.lst (l ++ [y])) ∧ Q y (gup G1 q (.lst l))
  | _ => False
theorem de_pop {apos cpos : Pos} (ho : PE X a (lift X.K ta)) (hbase : attributeBase a "pop" X.env (eval a X.env) = eval a X.env := by rfl) (hline : (apos.endLine == cpos.line) = true := by rfl) :
    PE X (.Call (.Attribute a "pop" apos) [] [] cpos) (lift X.K (wPop ta)) := by
  refine PE.weak (pe_bm0 PySem.F.plainAttrs_list PySem.F.slot_list_pop PySem.F.type_list_pop mt_pop ho hbase hline) fun σ H Q ⟨F, σd, G, Qd, hs, hg, h, k⟩ => ?_
  refine lift_bind hs hg h fun F1 x G1 v H1 s1 hs1 r1 g1 q1 => ?_
  cases r1 with
  | ref q =>
    obtain ⟨l, y, e, q1⟩ := q1
    obtain ⟨nf, hl, vs, hq, r⟩ := g1.g q _ e
    have hlen := r.length
    rw [List.length_append, List.length_singleton] at hlen
    obtain ⟨u, e2, r2⟩ := r.get (i := l.length) (d := y) (by simp)
    have e3 : vs.length - 1 = l.length := by omega
    have rl : Reps X.K H1 F1 l vs.dropLast := by
      have := r.take l.length
      rw [List.take_left] at this
      rw [List.dropLast_eq_take, e3]; exact this
    refine ⟨.inl ⟨rfl, _, SqL.of hq⟩, q, vs, u, rfl, rfl, hq, by rw [e3]; exact e2, ?_⟩
    have s3 : Stay X.K H1 F1 (upd H1 q (.lst vs.dropLast)) F1 := g1.wr e
    exact k _ _ _ _ _ (s1.trans s3) (r2.stay s3) (g1.write (o' := .lst l) e ⟨by rw [List.length_append] at hl; omega, _, upd_same, rl.stay s3⟩) q1
  | _ => exact (show False from q1).elim

/-! ### texts -/
def wTx1 (r : Str → D → Gh → DQ → Prop) (ta tb : DE) : DE := fun σ G Q => ta σ G fun x G1 => match x with
  | .str a => tb σ G1 fun y G2 => r a y G2 Q
  | _ => False
def onStr (y : D) (P : Str → Prop) : Prop := match y with | .str b => P b | _ => False
def rSplit (a : Str) (y : D) (G : Gh) (Q : DQ) : Prop := onStr y fun b => (b.length == 0) = false ∧ a.length + 2 ≤ sizeLine ∧ (Txt.split a b).length ≤ sizeLine ∧ (∀ z ∈ Txt.split a b, z.length ≤ sizeLine) ∧ Q (.lst ((Txt.split a b).map D.str)) G
def rPartition (a : Str) (y : D) (G : Gh) (Q : DQ) : Prop := onStr y fun b => (b.length == 0) = false ∧ (Txt.partition a b).1.length ≤ sizeLine ∧ (Txt.partition a b).2.1.length ≤ sizeLine ∧ (Txt.partition a b).2.2.length ≤ sizeLine ∧ Q (.tup [.str (Txt.partition a b).1, .str (Txt.partition a b).2.1, .str (Txt.partition a b).2.2]) G
def rJoin (a : Str) (y : D) (G : Gh) (Q : DQ) : Prop := ∃ xs ys, itemsOf G y = some xs ∧ strsOf xs = some ys ∧ (ys.map (·.length)).sum + ys.length * a.length ≤ 16777216 ∧ (Txt.join a ys).length ≤ sizeLine ∧ Q (.str (Txt.join a ys)) G
abbrev wSplit := wTx1 rSplit
abbrev wPartition := wTx1 rPartition
abbrev wJoin := wTx1 rJoin
theorem tM1_lift {K : PySem.W.Frag} {R : V → List V → Hp → VK → Prop} {r : Str → D → Gh → DQ → Prop} (hr : ∀ F H G z y u Qd Q, z.length ≤ sizeLine → Rep K H F y u → RelG K H F G → r z y G Qd → Kt K (Rep K) H F Qd Q → R (.str z) [u] H Q)
    {σ H Q} (h : lift K (wTx1 r ta tb) σ H Q) : tM1 R (lift K ta) (lift K tb) σ H Q := by
  obtain ⟨F, σd, G, Qd, hs, hg, h, k⟩ := h
  refine lift_bind hs hg h fun F1 x G1 v H1 s1 hs1 r1 g1 q1 => ?_
  cases r1 with
  | str z hz => exact ⟨⟨z, rfl⟩, lift_bind hs1 g1 q1 fun F2 y G2 u H2 s2 hs2 r2 g2 q2 => hr F2 H2 G2 z y u Qd Q hz r2 g2 q2 (k.go (s1.trans s2))⟩
  | _ => exact (show False from q1).elim
theorem Reps.strs {K : PySem.W.Frag} {H : Hp} {F : FP} : ∀ {l : List Str}, (∀ z ∈ l, z.length ≤ sizeLine) → Reps K H F (l.map D.str) (l.map V.str)
  | [], _ => .nil
  | x :: l, h => .cons (.str x (h x List.mem_cons_self)) (Reps.strs fun z hz => h z (List.mem_cons_of_mem _ hz))
theorem de_split {apos pos : Pos} (ho : PE X a (lift X.K ta)) (he : PE X b (lift X.K tb)) (hs : starEach [b] X.env = [(false, eval b X.env)] := by rfl) (hbase : attributeBase a "split" X.env (eval a X.env) = eval a X.env := by rfl) (hline : (apos.endLine == pos.line) = true := by rfl) :
    PE X (.Call (.Attribute a "split" apos) [b] [] pos) (lift X.K (wSplit ta tb)) :=
  PE.weak (pe_split ho he hs hbase hline) fun σ H Q => tM1_lift fun F H G z y u Qd Q hz r g q k => by
    cases r with
    | str y hy =>
      obtain ⟨h1, h2, h3, h4, q⟩ := q
      exact ⟨z, y, rfl, rfl, h1, h2, k.lst g (by rw [List.length_map]; exact h3) (Reps.strs h4) q⟩
    | _ => exact (show False from q).elim
theorem de_partition {apos pos : Pos} (ho : PE X a (lift X.K ta)) (he : PE X b (lift X.K tb)) (hs : starEach [b] X.env = [(false, eval b X.env)] := by rfl) (hbase : attributeBase a "partition" X.env (eval a X.env) = eval a X.env := by rfl) (hline : (apos.endLine == pos.line) = true := by rfl) :
    PE X (.Call (.Attribute a "partition" apos) [b] [] pos) (lift X.K (wPartition ta tb)) :=
  PE.weak (pe_partition ho he hs hbase hline) fun σ H Q => tM1_lift fun F H G z y u Qd Q hz r g q k => by
    cases r with
    | str y hy =>
      obtain ⟨h1, h2, h3, h4, q⟩ := q
      exact ⟨z, y, rfl, rfl, h1, hz, k.tup g (by show 3 ≤ sizeLine; decide) (.cons (.str _ h2) (.cons (.str _ h3) (.cons (.str _ h4) .nil))) q⟩
    | _ => exact (show False from q).elim
theorem de_join {apos pos : Pos} (ho : PE X a (lift X.K ta)) (he : PE X b (lift X.K tb)) (hs : starEach [b] X.env = [(false, eval b X.env)] := by rfl) (hbase : attributeBase a "join" X.env (eval a X.env) = eval a X.env := by rfl) (hline : (apos.endLine == pos.line) = true := by rfl) :
    PE X (.Call (.Attribute a "join" apos) [b] [] pos) (lift X.K (wJoin ta tb)) :=
  PE.weak (pe_join ho he hs hbase hline) fun σ H Q => tM1_lift fun F H G z y u Qd Q hz r g q k => by
    obtain ⟨xs, ys, e1, e2, h1, h2, q⟩ := q
    obtain ⟨hl, p, vs, rfl, hq, r2⟩ := items_rep r g e1
    obtain ⟨rfl, _⟩ := strsOf_rep r2 e2
    exact ⟨z, p, ys, rfl, rfl, hq, h1, k.here (.str _ h2) g q⟩
end

/-! ### int(text), str(x), text * int -/
section
variable {X : Cx} {K : PySem.W.Frag}
def rIntS : DC := fun ds G Q => match ds with | [.str a] => ∃ n, PySem.intText? a = some n ∧ a.length ≤ 640 ∧ Q (.int n) G | _ => False
theorem cd_intS : CallD K (fun xs H Q => ∃ a n, xs = [.str a] ∧ PySem.intText? a = some n ∧ a.length ≤ 640 ∧ Q (.int n) H) rIntS := by
  intro F H G ds vs Qd Q r hg h k
  unfold rIntS at h
  split at h
  · cases r with
    | cons r t => cases t; cases r; obtain ⟨n, h1, h2, q⟩ := h; exact ⟨_, n, rfl, h1, h2, k.here (.int _) hg q⟩
  · exact h.elim
def rStr : DC := fun ds G Q => match ds with
  | [.int i] => i.natAbs.log2 < 1920 ∧ (Str.ofString (toString i)).length ≤ sizeLine ∧ Q (.str (Str.ofString (toString i))) G
  | [.str z] => Q (.str z) G
  | _ => False
theorem call_strA : CallR X (.type "str") (fun xs H Q => (∃ i : Int, xs = [.int i] ∧ i.natAbs.log2 < 1920 ∧ Q (.str (toString i)) H) ∨ ∃ a, xs = [.str a] ∧ Q (.str a) H) := CallR.or call_str_int SkE.call_str_str
theorem cd_strA : CallD K (fun xs H Q => (∃ i : Int, xs = [.int i] ∧ i.natAbs.log2 < 1920 ∧ Q (.str (toString i)) H) ∨ ∃ a, xs = [.str a] ∧ Q (.str a) H) rStr := by
  intro F H G ds vs Qd Q r hg h k
  unfold rStr at h
  split at h
  · cases r with
    | cons r t => cases t; cases r; obtain ⟨h1, h2, q⟩ := h; exact .inl ⟨_, rfl, h1, k.here (.str _ h2) hg q⟩
  · cases r with
    | cons r t => cases t; cases r with | str z hz => exact .inr ⟨_, rfl, k.here (.str _ hz) hg h⟩
  · exact h.elim
def rRepS : R2 := fun x y H Q => ∃ z n, x = .str z ∧ y = .int n ∧ n < 1000 ∧ 0 ≤ n ∧ z.length ≤ 1000 ∧ Q (.str (Txt.mul z n)) H
theorem op_repS : OpR X (binaryOp .Mult) rRepS := by
  intro pins s σ H x y v u Q I rx ry h
  obtain ⟨z, n, rfl, rfl, h1, h2, h3, q⟩ := h
  obtain ⟨t, rfl⟩ := rx
  obtain ⟨t', rfl⟩ := ry
  refine SB.mul ⟨?_, fun a b => ?_, fun a b => ?_⟩ fun t2 k2 => ⟨.str _, H, I.tok _, ⟨_, rfl⟩, q⟩
  · rw [decide_eq_false (by omega), decide_eq_false (by omega)]; rfl
  · have : (1000 : Int) ≤ (2 ^ 63 - 1) / n := by
      rw [Int.le_ediv_iff_mul_le (by omega)]
      omega
    omega
  · have : z.length * n.toNat ≤ 1000 * 1000 := Nat.mul_le_mul h3 (by omega)
    unfold Builtin.Str.tooLong
    simp only [decide_eq_false_iff_not, gt_iff_lt]
    have e : sizeLine = _ := sizeLine_eq
    rw [e]
    omega
def rMulS : DR2 := fun x y G Q => match x, y with
  | .str z, .int n => n < 1000 ∧ 0 ≤ n ∧ z.length ≤ 1000 ∧ (Txt.mul z n).length ≤ sizeLine ∧ Q (.str (Txt.mul z n)) G
  | _, _ => False
theorem od_mulS : OpD K rRepS rMulS := by
  intro F H G x y v u Qd Q rx ry hg h k
  cases rx with
  | str z hz => cases ry with
    | int n => obtain ⟨h1, h2, h3, h4, q⟩ := h; exact ⟨_, _, rfl, rfl, h1, h2, h3, k.here (.str _ h4) hg q⟩
    | _ => exact (show False from h).elim
  | _ => exact (show False from h).elim
end

/-! ### enumerate(a list) -/
section
variable {X : Cx} {tg e : Expr} {t : DE} {p pos : Pos}
def wIEnumL (te : DE) : DI := fun σ G Q => te σ G fun x G1 => match x with | .lst ds => Q (pairsFrom 0 ds) (fun _ => True) G1 | _ => False
theorem di_enumL {elts : List Expr} {kk : Nat} {tpos : Pos} (hg : Gl X "enumerate") (hm : X.mg "enumerate" = none) (ha : PE X e (lift X.K t)) (hs : starEach [e] X.env = [(false, eval e X.env)] := by rfl) :
    PI X (.Tuple elts kk tpos) (.Call (.Name "enumerate" p) [e] [] pos) (liftI X.K (wIEnumL t)) :=
  PI.weak (pi_enum hg hm (pa_cons ha pa_nil (by rw [hs]; rfl)) hs) fun σ H R ⟨F, σd, G, Qd, hs, hg, h, k⟩ => lift_bind hs hg h fun F1 x G1 v H1 s1 hs1 r1 g1 q1 => by
    cases r1 with
    | @lst a vs ds f hq hl r =>
      refine ⟨a, vs, rfl, SqL.of hq, k F1 _ _ G1 _ H1 s1 ⟨fun F2 H2 G2 s2 g2 c2 => ?_, fun i d F2 H2 G2 e2 s2 g2 c2 => ?_⟩ g1 q1⟩
      · exact ⟨vs, SqL.of ((s2.at_ _ f).trans hq), by rw [pairs_length, r.length]; exact Nat.le_refl _⟩
      · rw [pairs_get, Nat.zero_add] at e2
        cases e3 : ds[i]? with
        | none => rw [e3] at e2; cases e2
        | some y =>
          rw [e3] at e2
          cases e2
          obtain ⟨u, e4, r4⟩ := r.get e3
          have sq : SqL X.K H2 a vs := SqL.of ((s2.at_ _ f).trans hq)
          refine ⟨⟨vs, u, sq, e4⟩, fun x H3 yl => ?_⟩
          obtain ⟨T, z, rfl, hT, rfl, same⟩ := yl
          have q := same vs sq
          rw [e4] at q
          cases q
          obtain ⟨nf, s3, g3⟩ := g2.tupled (o := .tup [.int (i : Nat), u]) hT
          exact ⟨s3, .newTup s3 (by show 2 ≤ sizeLine; decide) (.cons (.int _) (.cons (r4.stay s2) .nil)), g3⟩
    | _ => exact (show False from q1).elim
end
end DL

/-! DV: what a VC needs. -/
namespace DL
open PySem PySem.Spec L2
theorem rt_here {K : PySem.W.Frag} {Q : DQ} {d : D} {G : Gh} (h : Q d G) : (endsOf K Q).rt d G := ⟨d, G, .refl, h⟩
theorem nx_here {K : PySem.W.Frag} {Q : DQ} {σ : DSt} {G : Gh} (h : Q .non G) : (endsOf K Q).nx σ G := ⟨.non, G, .refl, h⟩
/-- things whose type is known of itself -/
def okT (OC : Addr → Bool) : D → Bool
  | .ref _ => false
  | .ty _ => false
  | .scr _ => false
  | .obj C _ => OC C
  | .exc _ _ _ _ => false
  | _ => true
def isT (T : Tg) : D → Bool
  | .non => isB .non T | .bl _ => isB .bl T | .int _ => isB .int T | .str _ => isB .str T
  | .tup _ => isB .tup T | .lst _ => isB .lst T | .dic _ => isB .dic T
  | _ => false
theorem isK_ok {OC : Addr → Bool} {G : Gh} {d : D} {T : Tg} {P : Bool → Prop} (h : okT OC d = true) (p : P (isT T d)) : isK ((tagOf G d).bind (ansB T OC)) P := by
  cases d with
  | obj C fs =>
    have h : OC C = true := h
    show isK (if OC C then some false else none) P
    rw [if_pos h]; exact p
  | ref _ => cases h
  | ty _ => cases h
  | scr _ => cases h
  | exc _ _ _ _ => cases h
  | _ => exact p
theorem slot_def (σ : DSt) (i : Nat) : slot σ i = (σ[i]?).join := rfl
/-- a list of what a test tells -/
theorem blsOf_map' {α : Type} (f : α → Bool) (l : List α) : blsOf (l.map fun x => D.bl (f x)) = some (l.map f) := by
  rw [show (l.map fun x => D.bl (f x)) = (l.map f).map D.bl by rw [List.map_map]; rfl]
  exact blsOf_map _
theorem intsOf_map' {α : Type} (f : α → Int) (l : List α) : intsOf (l.map fun x => D.int (f x)) = some (l.map f) := by
  rw [show (l.map fun x => D.int (f x)) = (l.map f).map D.int by rw [List.map_map]; rfl]
  exact intsOf_map _
theorem all_id_map {α : Type} (f : α → Bool) (l : List α) : (l.map f).all id = l.all f := by
  rw [List.all_map]; rfl
/-- a comprehension over items, each of which gives a value and leaves the rest -/
theorem comp_map {chk : Gh → Prop} {g : DG} {te : DE} {σ : DSt} {f : D → D} {G : Gh} {Q : List D → Gh → Prop} : ∀ (ds acc : List D), chk G → acc.length + ds.length ≤ sizeLine →
    (∀ d ∈ ds, ∀ Q', Q' (f d) G → g d σ G fun σ1 G1 => te σ1 G1 Q') → Q (acc ++ ds.map f) G → wComp chk g wYes te σ ds acc G Q
  | [], acc, hc, hl, h, q => ⟨hc, by simpa using q⟩
  | d :: ds, acc, hc, hl, h, q => by
    rw [List.length_cons] at hl
    have k := h d List.mem_cons_self (fun y G3 => acc.length < sizeLine ∧ wComp chk g wYes te σ ds (acc ++ [y]) G3 Q)
      ⟨by omega, comp_map ds (acc ++ [f d]) hc (by rw [List.length_append]; simp only [List.length_cons, List.length_nil]; omega) (fun x hx => h x (List.mem_cons_of_mem _ hx)) (by rw [List.append_assoc]; exact q)⟩
    refine ⟨hc, ?_⟩
    exact k
/-- a loop: I holds of what is left -/
theorem loop_rule {chk : Gh → Prop} {g : DG} {tb : DS} {D0 : DEnds} (I : List D → DSt → Gh → Prop) (hnil : ∀ σ G, I [] σ G → chk G ∧ D0.nx σ G)
    (hcons : ∀ d ds (N : DSt → Gh → Prop) σ G, (∀ σ G, I ds σ G → N σ G) → I (d :: ds) σ G → chk G ∧ g d σ G fun σ1 G1 => tb { D0 with nx := N, ct := N, bk := D0.nx } σ1 G1) :
    ∀ items σ G, I items σ G → wLoop chk g tb items D0 σ G
  | [], σ, G, h => hnil σ G h
  | d :: ds, σ, G, h => hcons d ds _ σ G (loop_rule I hnil hcons ds) h
theorem comp_rule {chk : Gh → Prop} {g : DG} {tt : DT} {te : DE} {σ : DSt} {Q : List D → Gh → Prop} (I : List D → List D → Gh → Prop) (hnil : ∀ acc G, I [] acc G → chk G ∧ Q acc G)
    (hcons : ∀ d ds (N : List D → Gh → Prop) acc G, (∀ acc G, I ds acc G → N acc G) → I (d :: ds) acc G → chk G ∧ g d σ G fun σ1 G1 => tt σ1 G1 fun b G2 => if b = true then te σ1 G2 fun y G3 => acc.length < sizeLine ∧ N (acc ++ [y]) G3 else N acc G2) :
    ∀ items acc G, I items acc G → wComp chk g tt te σ items acc G Q
  | [], acc, G, h => hnil acc G h
  | d :: ds, acc, G, h => hcons d ds _ acc G (comp_rule I hnil hcons ds) h
theorem Sub.set {G0 G : Gh} {p : Addr} {x y : GO} (h : Sub (gup G0 p x) G) : Sub (gup G0 p y) (gup G p y) := fun a o e => by
  by_cases z : a = p
  · subst z; rw [gup_same] at e ⊢; exact e
  · rw [gup_ne z] at e ⊢; exact h a o (by rw [gup_ne z]; exact e)
theorem wIf_val {tc : DT} {ta tb : DE} {σ : DSt} {G : Gh} {Q : DQ} {b : Bool} {va vb : D} (hc : ∀ P : Bool → Gh → Prop, P b G → tc σ G P) (ha : b = true → ∀ Q : DQ, Q va G → ta σ G Q) (hb : b = false → ∀ Q : DQ, Q vb G → tb σ G Q)
    (q : Q (if b then va else vb) G) : wIf tc ta tb σ G Q := by
  refine hc _ ?_
  cases b with
  | true => exact ha rfl _ q
  | false => exact hb rfl _ q
theorem seq_rule {A T : DS} {D0 : DEnds} {σ : DSt} {G : Gh} (I : DSt → Gh → Prop) (hA : ∀ N : DSt → Gh → Prop, (∀ σ' G', I σ' G' → N σ' G') → A { D0 with nx := N } σ G) (hT : ∀ σ' G', I σ' G' → T D0 σ' G') : wSeq A T D0 σ G := hA _ hT
abbrev recSp := @recSpB
end DL

/-! V3f: facts of words. -/
namespace P3
open PySem PySem.Spec L2 DL
abbrev TB : List (Str × D) := [("either", .int 2), ("again", .int 1)]
section
variable {α : Type} {a b c d : α} {l : List α}
theorem ixN_in {n j : Nat} (h : j < n) : ixN n (j : Int) = some j := by
  unfold ixN
  rw [if_pos (by omega), if_pos (by omega), Int.toNat_natCast]
theorem atI_in {l : List α} {j : Nat} (h : j < l.length) : atI l (j : Int) = l[j]? := by
  unfold atI
  rw [ixN_in h]; rfl
theorem at0 : atI (a :: l) 0 = some a := by
  rw [show (0 : Int) = ((0 : Nat) : Int) from rfl, atI_in (by simp)]; rfl
theorem at1 : atI (a :: b :: l) 1 = some b := by
  rw [show (1 : Int) = ((1 : Nat) : Int) from rfl, atI_in (by simp)]; rfl
theorem at2 : atI (a :: b :: c :: l) 2 = some c := by
  rw [show (2 : Int) = ((2 : Nat) : Int) from rfl, atI_in (by simp)]; rfl
theorem at3 : atI (a :: b :: c :: d :: l) 3 = some d := by
  rw [show (3 : Int) = ((3 : Nat) : Int) from rfl, atI_in (by simp)]; rfl
theorem at4 {e : α} : atI (a :: b :: c :: d :: e :: l) 4 = some e := by
  rw [show (4 : Int) = ((4 : Nat) : Int) from rfl, atI_in (by simp)]; rfl
theorem atm : atI (l ++ [a]) (-1) = some a := by
  unfold atI ixN
  rw [if_neg (by decide), if_pos (by simp; omega)]
  show (l ++ [a])[(-1 + (((l ++ [a]).length : Nat) : Int)).toNat]? = some a
  rw [show (-1 + (((l ++ [a]).length : Nat) : Int)).toNat = l.length by rw [List.length_append]; simp only [List.length_cons, List.length_nil]; omega]
  simp
end
theorem cut1 {a : D} {l : List D} : cutD (a :: l) (some 1) none = l := by
  unfold cutD HT.sIx
  simp
theorem cutAll {l : List D} : cutD l none none = l := by
  unfold cutD HT.sIx
  simp
theorem x51 : ixN 5 1 = some 1 := by decide
theorem x52 : ixN 5 2 = some 2 := by decide
theorem x53 : ixN 5 3 = some 3 := by decide
theorem x54 : ixN 5 4 = some 4 := by decide
theorem rn2 : rng 0 (Int.toNat 2) = [.int 0, .int 1] := rfl
theorem lkb {d : D} : List.lookup ("block" : Str) [("block", d)] = some d := by rfl
theorem flstr {x : Str} : flatD (.str x) = true := rfl
theorem flint {x : Int} : flatD (.int x) = true := rfl
theorem flnon : flatD .non = true := rfl
theorem flbl {b : Bool} : flatD (.bl b) = true := rfl
theorem fl1 {l : List Int} : (l.map D.int).all flatD = true := by rw [List.all_map]; exact List.all_eq_true.mpr fun _ _ => rfl
theorem fl2 {l : List Str} : (l.map D.str).all flatD = true := by rw [List.all_map]; exact List.all_eq_true.mpr fun _ _ => rfl
theorem cz0 : ((0 : Nat) : Int) = 0 := rfl
theorem cz1 : ((1 : Nat) : Int) = 1 := rfl
theorem cz2 : ((2 : Nat) : Int) = 2 := rfl
theorem cz3 : ((3 : Nat) : Int) = 3 := rfl
theorem cz4 : ((4 : Nat) : Int) = 4 := rfl
theorem cz5 : ((5 : Nat) : Int) = 5 := rfl
theorem cz6 : ((6 : Nat) : Int) = 6 := rfl
theorem cz7 : ((7 : Nat) : Int) = 7 := rfl
theorem cz8 : ((8 : Nat) : Int) = 8 := rfl
theorem cz9 : ((9 : Nat) : Int) = 9 := rfl
theorem t_tup {ds : List D} : isT .tup (.tup ds) = true := rfl
theorem t_str {x : Str} : isT .str (.str x) = true := rfl
theorem t_int {x : Int} : isT .int (.int x) = true := rfl
theorem t_bl {x : Bool} : isT .bl (.bl x) = true := rfl
theorem lt0 : (0 < sizeLine) = True := eq_true (by rw [sizeLine_eq]; omega)
theorem lt1 : (1 < sizeLine) = True := eq_true (by rw [sizeLine_eq]; omega)
theorem lt2 : (2 < sizeLine) = True := eq_true (by rw [sizeLine_eq]; omega)
theorem lt3 : (3 < sizeLine) = True := eq_true (by rw [sizeLine_eq]; omega)
theorem lt4 : (4 < sizeLine) = True := eq_true (by rw [sizeLine_eq]; omega)
theorem lt5 : (5 < sizeLine) = True := eq_true (by rw [sizeLine_eq]; omega)
theorem lt6 : (6 < sizeLine) = True := eq_true (by rw [sizeLine_eq]; omega)
theorem zl0 : (0 ≤ sizeLine) = True := eq_true (Nat.zero_le _)
theorem zl1 : (1 ≤ sizeLine) = True := eq_true (by rw [sizeLine_eq]; omega)
theorem zl2 : (2 ≤ sizeLine) = True := eq_true (by rw [sizeLine_eq]; omega)
theorem zl3 : (3 ≤ sizeLine) = True := eq_true (by rw [sizeLine_eq]; omega)
theorem zl4 : (4 ≤ sizeLine) = True := eq_true (by rw [sizeLine_eq]; omega)
theorem zl5 : (5 ≤ sizeLine) = True := eq_true (by rw [sizeLine_eq]; omega)
theorem zl6 : (6 ≤ sizeLine) = True := eq_true (by rw [sizeLine_eq]; omega)
theorem zl9 : (9 ≤ sizeLine) = True := eq_true (by rw [sizeLine_eq]; omega)
theorem s_note_copy : decide (("note" : Str) = "copy") = false := by decide +kernel
theorem s_note_give : decide (("note" : Str) = "give") = false := by decide +kernel
theorem s_note_ask : decide (("note" : Str) = "ask") = false := by decide +kernel
theorem s_note_print : decide (("note" : Str) = "print") = false := by decide +kernel
theorem s_note_either : decide (("note" : Str) = "either") = false := by decide +kernel
theorem s_note_again : decide (("note" : Str) = "again") = false := by decide +kernel
theorem s_note_call : decide (("note" : Str) = "call") = false := by decide +kernel
theorem s_copy_note : decide (("copy" : Str) = "note") = false := by decide +kernel
theorem s_copy_give : decide (("copy" : Str) = "give") = false := by decide +kernel
theorem s_copy_ask : decide (("copy" : Str) = "ask") = false := by decide +kernel
theorem s_copy_print : decide (("copy" : Str) = "print") = false := by decide +kernel
theorem s_copy_either : decide (("copy" : Str) = "either") = false := by decide +kernel
theorem s_copy_again : decide (("copy" : Str) = "again") = false := by decide +kernel
theorem s_copy_call : decide (("copy" : Str) = "call") = false := by decide +kernel
theorem s_give_note : decide (("give" : Str) = "note") = false := by decide +kernel
theorem s_give_copy : decide (("give" : Str) = "copy") = false := by decide +kernel
theorem s_give_ask : decide (("give" : Str) = "ask") = false := by decide +kernel
theorem s_give_print : decide (("give" : Str) = "print") = false := by decide +kernel
theorem s_give_either : decide (("give" : Str) = "either") = false := by decide +kernel
theorem s_give_again : decide (("give" : Str) = "again") = false := by decide +kernel
theorem s_give_call : decide (("give" : Str) = "call") = false := by decide +kernel
theorem s_ask_note : decide (("ask" : Str) = "note") = false := by decide +kernel
theorem s_ask_copy : decide (("ask" : Str) = "copy") = false := by decide +kernel
theorem s_ask_give : decide (("ask" : Str) = "give") = false := by decide +kernel
theorem s_ask_print : decide (("ask" : Str) = "print") = false := by decide +kernel
theorem s_ask_either : decide (("ask" : Str) = "either") = false := by decide +kernel
theorem s_ask_again : decide (("ask" : Str) = "again") = false := by decide +kernel
theorem s_ask_call : decide (("ask" : Str) = "call") = false := by decide +kernel
theorem s_print_note : decide (("print" : Str) = "note") = false := by decide +kernel
theorem s_print_copy : decide (("print" : Str) = "copy") = false := by decide +kernel
theorem s_print_give : decide (("print" : Str) = "give") = false := by decide +kernel
theorem s_print_ask : decide (("print" : Str) = "ask") = false := by decide +kernel
theorem s_print_either : decide (("print" : Str) = "either") = false := by decide +kernel
theorem s_print_again : decide (("print" : Str) = "again") = false := by decide +kernel
theorem s_print_call : decide (("print" : Str) = "call") = false := by decide +kernel
theorem s_either_note : decide (("either" : Str) = "note") = false := by decide +kernel
theorem s_either_copy : decide (("either" : Str) = "copy") = false := by decide +kernel
theorem s_either_give : decide (("either" : Str) = "give") = false := by decide +kernel
theorem s_either_ask : decide (("either" : Str) = "ask") = false := by decide +kernel
theorem s_either_print : decide (("either" : Str) = "print") = false := by decide +kernel
theorem s_either_again : decide (("either" : Str) = "again") = false := by decide +kernel
theorem s_either_call : decide (("either" : Str) = "call") = false := by decide +kernel
theorem s_again_note : decide (("again" : Str) = "note") = false := by decide +kernel
theorem s_again_copy : decide (("again" : Str) = "copy") = false := by decide +kernel
theorem s_again_give : decide (("again" : Str) = "give") = false := by decide +kernel
theorem s_again_ask : decide (("again" : Str) = "ask") = false := by decide +kernel
theorem s_again_print : decide (("again" : Str) = "print") = false := by decide +kernel
theorem s_again_either : decide (("again" : Str) = "either") = false := by decide +kernel
theorem s_again_call : decide (("again" : Str) = "call") = false := by decide +kernel
theorem s_call_note : decide (("call" : Str) = "note") = false := by decide +kernel
theorem s_call_copy : decide (("call" : Str) = "copy") = false := by decide +kernel
theorem s_call_give : decide (("call" : Str) = "give") = false := by decide +kernel
theorem s_call_ask : decide (("call" : Str) = "ask") = false := by decide +kernel
theorem s_call_print : decide (("call" : Str) = "print") = false := by decide +kernel
theorem s_call_either : decide (("call" : Str) = "either") = false := by decide +kernel
theorem s_call_again : decide (("call" : Str) = "again") = false := by decide +kernel
theorem s_note : decide (("note" : Str) = "note") = true := by decide +kernel
theorem s_copy : decide (("copy" : Str) = "copy") = true := by decide +kernel
theorem s_give : decide (("give" : Str) = "give") = true := by decide +kernel
theorem s_ask : decide (("ask" : Str) = "ask") = true := by decide +kernel
theorem s_print : decide (("print" : Str) = "print") = true := by decide +kernel
theorem s_either : decide (("either" : Str) = "either") = true := by decide +kernel
theorem s_again : decide (("again" : Str) = "again") = true := by decide +kernel
theorem s_call : decide (("call" : Str) = "call") = true := by decide +kernel
theorem i_note : inF (.str "note") [.str "ask", .str "print"] = false := by decide +kernel
theorem j_note : inF (.str "note") [.str "either", .str "again"] = false := by decide +kernel
theorem l_note : List.lookup ("note" : Str) TB = none := by rfl
theorem i_copy : inF (.str "copy") [.str "ask", .str "print"] = false := by decide +kernel
theorem j_copy : inF (.str "copy") [.str "either", .str "again"] = false := by decide +kernel
theorem l_copy : List.lookup ("copy" : Str) TB = none := by rfl
theorem i_give : inF (.str "give") [.str "ask", .str "print"] = false := by decide +kernel
theorem j_give : inF (.str "give") [.str "either", .str "again"] = false := by decide +kernel
theorem l_give : List.lookup ("give" : Str) TB = none := by rfl
theorem i_ask : inF (.str "ask") [.str "ask", .str "print"] = true := by decide +kernel
theorem j_ask : inF (.str "ask") [.str "either", .str "again"] = false := by decide +kernel
theorem l_ask : List.lookup ("ask" : Str) TB = none := by rfl
theorem i_print : inF (.str "print") [.str "ask", .str "print"] = true := by decide +kernel
theorem j_print : inF (.str "print") [.str "either", .str "again"] = false := by decide +kernel
theorem l_print : List.lookup ("print" : Str) TB = none := by rfl
theorem i_either : inF (.str "either") [.str "ask", .str "print"] = false := by decide +kernel
theorem j_either : inF (.str "either") [.str "either", .str "again"] = true := by decide +kernel
theorem l_either : List.lookup ("either" : Str) TB = some (.int 2) := by rfl
theorem i_again : inF (.str "again") [.str "ask", .str "print"] = false := by decide +kernel
theorem j_again : inF (.str "again") [.str "either", .str "again"] = true := by decide +kernel
theorem l_again : List.lookup ("again" : Str) TB = some (.int 1) := by rfl
theorem i_call : inF (.str "call") [.str "ask", .str "print"] = false := by decide +kernel
theorem j_call : inF (.str "call") [.str "either", .str "again"] = false := by decide +kernel
theorem l_call : List.lookup ("call" : Str) TB = none := by rfl
end P3

namespace P3
open PySem PySem.Spec L2 DL
def top (i : Nat) : Stmt := PySem.Challenge.pw_putoffpiles_k04_whole_texts_there_and_ba.main.body.getD i (.Pass ⟨0, 0, 0, 0⟩)

abbrev s_BadProgram_d__init_d_ : Stmt := inClass (top 2) 0
theorem x_BadProgram {P : Program} {w : World} {K : PySem.W.Frag} {mg : Str → Option Value} {base : Heap} {C f cc cda : Addr} {fd : FuncData} {CX : CXT} {k : Nat}
    (T : ExI P K C f cc cda "BadProgram.__init__" ["self", "place"] (defArgs s_BadProgram_d__init_d_) (defBody s_BadProgram_d__init_d_) (defScope s_BadProgram_d__init_d_) fd) (hms : mg "super" = none) (hno : PySem.W.findIn K (.ref C) "place" = some none) (hb : Binds K fd ["self", "place"] []) :
    FnOk P w K mg base CX (k + 1) f fd ["self", "place"] (spExI C "place") := by
  refine ExI.ok (y := "place") (fld := "place") T rfl rfl hms hno (by decide) (by decide) hb ?_ ?_ ?_ ?_
  · exact fun _ => ⟨_, rfl⟩
  · exact fun _ => rfl
  · exact fun _ => rfl
  · exact fun _ => rfl

abbrev s_BadText_d__init_d_ : Stmt := inClass (top 3) 0
theorem x_BadText {P : Program} {w : World} {K : PySem.W.Frag} {mg : Str → Option Value} {base : Heap} {C f cc cda : Addr} {fd : FuncData} {CX : CXT} {k : Nat}
    (T : ExI P K C f cc cda "BadText.__init__" ["self", "line"] (defArgs s_BadText_d__init_d_) (defBody s_BadText_d__init_d_) (defScope s_BadText_d__init_d_) fd) (hms : mg "super" = none) (hno : PySem.W.findIn K (.ref C) "line" = some none) (hb : Binds K fd ["self", "line"] []) :
    FnOk P w K mg base CX (k + 1) f fd ["self", "line"] (spExI C "line") := by
  refine ExI.ok (y := "line") (fld := "line") T rfl rfl hms hno (by decide) (by decide) hb ?_ ?_ ?_ ?_
  · exact fun _ => ⟨_, rfl⟩
  · exact fun _ => rfl
  · exact fun _ => rfl
  · exact fun _ => rfl

abbrev s_is_integer : Stmt := top 8
abbrev N_is_integer : List Str := ["thing"]
theorem sc_is_integer : FnScope N_is_integer ["thing"] (defScope s_is_integer) := ⟨rfl, rfl, rfl, by decide +kernel, rfl, by decide +kernel, by decide +kernel⟩
def W_is_integer (OC : Addr → Bool) : DS :=
  (wRet (wAndV (wIsi (ansB .int OC) (wVar 0)) (wNotV (wIsi (ansB .bl OC) (wVar 0)))))
theorem d_is_integer {P : Program} {w : World} {K : PySem.W.Frag} {mg : Str → Option Value} {base : Heap} {k : Nat} {W : WX} {OC : Addr → Bool} (B : Bi mg) (hOC : ∀ (n : Tg) (C : Addr), OC C = true → ObjC K C ∧ PySem.W.kitOne K (.ref C) (.type n.nm) = some false) {f : Addr} (cdv : Value) (A : Around) (outer : List Env) (s : Shared) (H : Hp) (E : XK)
    (hr : Room k (A.deeper (PyProof.Rows.envOfC "is_integer" (defScope s_is_integer) s.heap.objs.size f cdv))) :
    PSs (cxOf CX0 P w K mg base N_is_integer "is_integer" (defScope s_is_integer) f cdv A outer s H E).nox (defBody s_is_integer) (liftS K W (W_is_integer OC)) :=
  (dss_one (ds_ret (de_and (de_isi (isA_B (n := .int) (hOC .int)) (by rfl) B.isinstance (dv 0) (pe_bltn (by rfl) B.int PyProof.Rows.boot_int (by rfl))) (de_one (de_not (de_isi (isA_B (n := .bl) (hOC .bl)) (by rfl) B.isinstance (dv 0) (pe_bltn (by rfl) B.bool boot_bool (by rfl))))))))

abbrev s_is_name : Stmt := top 9
abbrev N_is_name : List Str := ["thing", "sign"]
theorem sc_is_name : FnScope N_is_name ["thing"] (defScope s_is_name) := ⟨rfl, rfl, rfl, by decide +kernel, rfl, by decide +kernel, by decide +kernel⟩
def W_is_name (OC : Addr → Bool) : DS :=
  (wRet (wAndV (wIsi (ansB .str OC) (wVar 0)) (wAndV (wChain (rCmpI fun i j => decide (i ≤ j)) (rCmpI fun i j => decide (i ≤ j)) (wC (.int 1)) (wCall rLenA (wCons (wVar 0) wNil)) (wC (.int 8))) (wCall rAll (wCons (wLcV (wIStr (wVar 0)) (wName 1) wYes (wOp (rInSign false) (wVar 1) (wC (.str "abcdefghijklmnopqrstuvwxyz"))) [1]) wNil)))))
theorem d_is_name {P : Program} {w : World} {K : PySem.W.Frag} {mg : Str → Option Value} {base : Heap} {k : Nat} {W : WX} {OC : Addr → Bool} {t_MOST_SIGNS : Tok} (g_MOST_SIGNS : mg "MOST_SIGNS" = some (.int 8 t_MOST_SIGNS)) {t_SMALL : Tok} (g_SMALL : mg "SMALL" = some (.str "abcdefghijklmnopqrstuvwxyz" t_SMALL)) (B : Bi mg) (hOC : ∀ (n : Tg) (C : Addr), OC C = true → ObjC K C ∧ PySem.W.kitOne K (.ref C) (.type n.nm) = some false) {f : Addr} (cdv : Value) (A : Around) (outer : List Env) (s : Shared) (H : Hp) (E : XK)
    (hr : Room k (A.deeper (PyProof.Rows.envOfC "is_name" (defScope s_is_name) s.heap.objs.size f cdv))) :
    PSs (cxOf CX0 P w K mg base N_is_name "is_name" (defScope s_is_name) f cdv A outer s H E).nox (defBody s_is_name) (liftS K W (W_is_name OC)) :=
  (dss_one (ds_ret (de_and (de_isi (isA_B (n := .str) (hOC .str)) (by rfl) B.isinstance (dv 0) (pe_bltn (by rfl) B.str PyProof.Rows.boot_str (by rfl))) (de_and (de_chain op_le op_le od_cmpI od_cmpI de_int (de_callB call_lenA cd_lenA (by rfl) B.len PySem.boot_len (da_cons (dv 0) da_nil)) (de_gint (by rfl) g_MOST_SIGNS)) (de_one (de_callB (cr_all (by rfl)) cd_all (by rfl) B.all PyProof.Rows.boot_all (da_cons (de_lcV (own := [("sign", 1)]) (by rfl) sc_is_name.nd (di_str (dv 0)) (blkOk_by (own := [("sign", 1)]) (N := N_is_name) (sc := defScope s_is_name) (by decide +kernel)) (fun _ _ _ _ _ => (dg_name (vs := [1]) 1 sc_is_name.nd)) (fun _ _ _ _ _ => dts_nil) (fun _ _ _ _ _ => (de_cmp op_in_sign od_inSign (dv 1) (de_gstr (by rfl) g_SMALL) (by rfl)))) da_nil)))))))

abbrev s_is_plain_row : Stmt := top 17
abbrev N_is_plain_row : List Str := ["thing", "name"]
theorem sc_is_plain_row : FnScope N_is_plain_row ["thing"] (defScope s_is_plain_row) := ⟨rfl, rfl, rfl, by decide +kernel, rfl, by decide +kernel, by decide +kernel⟩
def W_is_plain_row (OC : Addr → Bool) (sp_is_integer : DSp) (sp_is_name : DSp) : DS :=
  (wSeq (wIfS (wOr (wNot (wB (wIsi (ansB .tup OC) (wVar 0)))) (wOr (wB (wOp (rCmpI fun i j => decide (i < j)) (wCall rLenA (wCons (wVar 0) wNil)) (wC (.int 2)))) (wOr (wNot (wB (wIsi (ansB .str OC) (wOp rIx2 (wVar 0) (wC (.int 0)))))) (wNot (wB (wCallF sp_is_name (wCons (wOp rIx2 (wVar 0) (wC (.int 1))) wNil)))))))
  (wRet (wC (.bl false)))
  wNext)
  (wSeq (wIfS (wB (wOp (rInS false) (wOp rIx2 (wVar 0) (wC (.int 0))) (wTup (wCons (wC (.str "ask")) (wCons (wC (.str "print")) wNil)))))
  (wRet (wOp (rEqB false) (wCall rLenA (wCons (wVar 0) wNil)) (wC (.int 2))))
  wNext)
  (wSeq (wIfS (wB (wOp (rEqB false) (wOp rIx2 (wVar 0) (wC (.int 0))) (wC (.str "copy"))))
  (wRet (wAndV (wOp (rEqB false) (wCall rLenA (wCons (wVar 0) wNil)) (wC (.int 3))) (wCallF sp_is_name (wCons (wOp rIx2 (wVar 0) (wC (.int 2))) wNil))))
  wNext)
  (wSeq (wIfS (wB (wOp (rEqB false) (wOp rIx2 (wVar 0) (wC (.int 0))) (wC (.str "give"))))
  (wRet (wAndV (wOp (rEqB false) (wCall rLenA (wCons (wVar 0) wNil)) (wC (.int 3))) (wCallF sp_is_integer (wCons (wOp rIx2 (wVar 0) (wC (.int 2))) wNil))))
  wNext)
  (wSeq (wIfS (wOr (wB (wOp (rEqB true) (wOp rIx2 (wVar 0) (wC (.int 0))) (wC (.str "note")))) (wOr (wB (wOp (rEqB true) (wCall rLenA (wCons (wVar 0) wNil)) (wC (.int 4)))) (wNot (wB (wCallF sp_is_name (wCons (wOp rIx2 (wVar 0) (wC (.int 2))) wNil))))))
  (wRet (wC (.bl false)))
  wNext)
  (wRet (wAndV (wIsi (ansB .tup OC) (wOp rIx2 (wVar 0) (wC (.int 3)))) (wAndV (wOp (rCmpI fun i j => decide (i ≤ j)) (wCall rLenA (wCons (wOp rIx2 (wVar 0) (wC (.int 3))) wNil)) (wC (.int 3))) (wCall rAll (wCons (wLcV (wISeq (wOp rIx2 (wVar 0) (wC (.int 3)))) (wName 1) wYes (wCallF sp_is_name (wCons (wVar 1) wNil)) [1]) wNil))))))))))
theorem d_is_plain_row {P : Program} {w : World} {K : PySem.W.Frag} {mg : Str → Option Value} {base : Heap} {k : Nat} {W : WX} {OC : Addr → Bool} {sp_is_integer : DSp} {sp_is_name : DSp} {t_MOST_PARTS : Tok} (g_MOST_PARTS : mg "MOST_PARTS" = some (.int 3 t_MOST_PARTS)) (B : Bi mg) (c_is_integer : Cal P w K mg base k "is_integer" ["thing"] sp_is_integer) (c_is_name : Cal P w K mg base k "is_name" ["thing"] sp_is_name) (hOC : ∀ (n : Tg) (C : Addr), OC C = true → ObjC K C ∧ PySem.W.kitOne K (.ref C) (.type n.nm) = some false) {f : Addr} (cdv : Value) (A : Around) (outer : List Env) (s : Shared) (H : Hp) (E : XK)
    (hr : Room k (A.deeper (PyProof.Rows.envOfC "is_plain_row" (defScope s_is_plain_row) s.heap.objs.size f cdv))) :
    PSs (cxOf CX0 P w K mg base N_is_plain_row "is_plain_row" (defScope s_is_plain_row) f cdv A outer s H E).nox (defBody s_is_plain_row) (liftS K W (W_is_plain_row OC sp_is_integer sp_is_name)) :=
  (dss_cons (ds_if (PW.pt (dw_or (dt_not (dt_val (de_isi (isA_B (n := .tup) (hOC .tup)) (by rfl) B.isinstance (dv 0) (pe_bltn (by rfl) B.tuple PyProof.Rows.boot_tuple (by rfl))))) (dw_or (dt_cmp op_lt od_cmpI (de_callB call_lenA cd_lenA (by rfl) B.len PySem.boot_len (da_cons (dv 0) da_nil)) de_int (nomark _)) (dw_or (dt_not (dt_val (de_isi (isA_B (n := .str) (hOC .str)) (by rfl) B.isinstance (de_ix ix_seq od_ix (dv 0) de_int) (pe_bltn (by rfl) B.str PyProof.Rows.boot_str (by rfl))))) (dw_or1 (dt_not (dt_val (de_call c_is_name hr (by rfl) (da_cons (de_ix ix_seq od_ix (dv 0) de_int) da_nil)))))))))
  (dss_one (ds_ret de_bl))
  dss_nil)
  (dss_cons (ds_if (dt_cmp op_in_seq (od_inS false) (de_ix ix_seq od_ix (dv 0) de_int) (de_tup (da_cons de_str (da_cons de_str da_nil))) (by rfl))
  (dss_one (ds_ret (de_cmp (op_eqA hr.units) od_eq (de_callB call_lenA cd_lenA (by rfl) B.len PySem.boot_len (da_cons (dv 0) da_nil)) de_int (nomark _))))
  dss_nil)
  (dss_cons (ds_if (dt_cmp (op_eqA hr.units) od_eq (de_ix ix_seq od_ix (dv 0) de_int) de_str (nomark _))
  (dss_one (ds_ret (de_and (de_cmp (op_eqA hr.units) od_eq (de_callB call_lenA cd_lenA (by rfl) B.len PySem.boot_len (da_cons (dv 0) da_nil)) de_int (nomark _)) (de_one (de_call c_is_name hr (by rfl) (da_cons (de_ix ix_seq od_ix (dv 0) de_int) da_nil))))))
  dss_nil)
  (dss_cons (ds_if (dt_cmp (op_eqA hr.units) od_eq (de_ix ix_seq od_ix (dv 0) de_int) de_str (nomark _))
  (dss_one (ds_ret (de_and (de_cmp (op_eqA hr.units) od_eq (de_callB call_lenA cd_lenA (by rfl) B.len PySem.boot_len (da_cons (dv 0) da_nil)) de_int (nomark _)) (de_one (de_call c_is_integer hr (by rfl) (da_cons (de_ix ix_seq od_ix (dv 0) de_int) da_nil))))))
  dss_nil)
  (dss_cons (ds_if (PW.pt (dw_or (dt_cmp (op_neA hr.units) od_ne (de_ix ix_seq od_ix (dv 0) de_int) de_str (nomark _)) (dw_or (dt_cmp (op_neA hr.units) od_ne (de_callB call_lenA cd_lenA (by rfl) B.len PySem.boot_len (da_cons (dv 0) da_nil)) de_int (nomark _)) (dw_or1 (dt_not (dt_val (de_call c_is_name hr (by rfl) (da_cons (de_ix ix_seq od_ix (dv 0) de_int) da_nil))))))))
  (dss_one (ds_ret de_bl))
  dss_nil)
  (dss_one (ds_ret (de_and (de_isi (isA_B (n := .tup) (hOC .tup)) (by rfl) B.isinstance (de_ix ix_seq od_ix (dv 0) de_int) (pe_bltn (by rfl) B.tuple PyProof.Rows.boot_tuple (by rfl))) (de_and (de_cmp op_le od_cmpI (de_callB call_lenA cd_lenA (by rfl) B.len PySem.boot_len (da_cons (de_ix ix_seq od_ix (dv 0) de_int) da_nil)) (de_gint (by rfl) g_MOST_PARTS) (nomark _)) (de_one (de_callB (cr_all (by rfl)) cd_all (by rfl) B.all PyProof.Rows.boot_all (da_cons (de_lcV (own := [("name", 1)]) (by rfl) sc_is_plain_row.nd (di_seq (de_ix ix_seq od_ix (dv 0) de_int)) (blkOk_by (own := [("name", 1)]) (N := N_is_plain_row) (sc := defScope s_is_plain_row) (by decide +kernel)) (fun _ _ _ _ _ => (dg_name (vs := [1]) 1 sc_is_plain_row.nd)) (fun _ _ _ _ _ => dts_nil) (fun _ _ _ _ _ => (de_call c_is_name hr (by rfl) (da_cons (dv 1) da_nil)))) da_nil))))))))))))

abbrev s_is_branch : Stmt := top 18
abbrev N_is_branch : List Str := ["thing"]
theorem sc_is_branch : FnScope N_is_branch ["thing"] (defScope s_is_branch) := ⟨rfl, rfl, rfl, by decide +kernel, rfl, by decide +kernel, by decide +kernel⟩
def W_is_branch (OC : Addr → Bool) (T_BLOCKS : List (Str × D)) (a_BLOCKS : Addr) : DS :=
  (wSeq (wIfS (wOr (wNot (wB (wIsi (ansB .tup OC) (wVar 0)))) (wOr (wB (wOp (rEqB false) (wCall rLenA (wCons (wVar 0) wNil)) (wC (.int 0)))) (wOr (wNot (wB (wIsi (ansB .str OC) (wOp rIx2 (wVar 0) (wC (.int 0)))))) (wB (wOp (rKIn true a_BLOCKS T_BLOCKS) (wOp rIx2 (wVar 0) (wC (.int 0))) (wC (.ref a_BLOCKS)))))))
  (wRet (wC (.bl false)))
  wNext)
  (wRet (wOp (rEqB false) (wCall rLenA (wCons (wVar 0) wNil)) (wOp rAdd (wC (.int 1)) (wOp (rKGet a_BLOCKS T_BLOCKS) (wC (.ref a_BLOCKS)) (wOp rIx2 (wVar 0) (wC (.int 0))))))))
theorem d_is_branch {P : Program} {w : World} {K : PySem.W.Frag} {mg : Str → Option Value} {base : Heap} {k : Nat} {W : WX} {OC : Addr → Bool} {T_BLOCKS : List (Str × D)} {a_BLOCKS : Addr} (g_BLOCKS : mg "BLOCKS" = some (.ref a_BLOCKS)) (B : Bi mg) (hOC : ∀ (n : Tg) (C : Addr), OC C = true → ObjC K C ∧ PySem.W.kitOne K (.ref C) (.type n.nm) = some false) (kd_BLOCKS : KDc K w a_BLOCKS T_BLOCKS) {f : Addr} (cdv : Value) (A : Around) (outer : List Env) (s : Shared) (H : Hp) (E : XK)
    (hr : Room k (A.deeper (PyProof.Rows.envOfC "is_branch" (defScope s_is_branch) s.heap.objs.size f cdv))) :
    PSs (cxOf CX0 P w K mg base N_is_branch "is_branch" (defScope s_is_branch) f cdv A outer s H E).nox (defBody s_is_branch) (liftS K W (W_is_branch OC T_BLOCKS a_BLOCKS)) :=
  (dss_cons (ds_if (PW.pt (dw_or (dt_not (dt_val (de_isi (isA_B (n := .tup) (hOC .tup)) (by rfl) B.isinstance (dv 0) (pe_bltn (by rfl) B.tuple PyProof.Rows.boot_tuple (by rfl))))) (dw_or (dt_cmp (op_eqA hr.units) od_eq (de_callB call_lenA cd_lenA (by rfl) B.len PySem.boot_len (da_cons (dv 0) da_nil)) de_int (nomark _)) (dw_or (dt_not (dt_val (de_isi (isA_B (n := .str) (hOC .str)) (by rfl) B.isinstance (de_ix ix_seq od_ix (dv 0) de_int) (pe_bltn (by rfl) B.str PyProof.Rows.boot_str (by rfl))))) (dw_or1 (dt_cmp (op_notIn_kd kd_BLOCKS.ex.choose_spec.choose_spec) (od_knin kd_BLOCKS) (de_ix ix_seq od_ix (dv 0) de_int) (de_gref (by rfl) g_BLOCKS) (by rfl)))))))
  (dss_one (ds_ret de_bl))
  dss_nil)
  (dss_one (ds_ret (de_cmp (op_eqA hr.units) od_eq (de_callB call_lenA cd_lenA (by rfl) B.len PySem.boot_len (da_cons (dv 0) da_nil)) (de_op op_addV od_add de_int (de_ix ix_kdict (od_kget kd_BLOCKS) (de_gref (by rfl) g_BLOCKS) (de_ix ix_seq od_ix (dv 0) de_int))) (nomark _)))))

abbrev s_is_inner : Stmt := top 19
abbrev N_is_inner : List Str := ["thing", "deep"]
theorem sc_is_inner : FnScope N_is_inner ["thing", "deep"] (defScope s_is_inner) := ⟨rfl, rfl, rfl, by decide +kernel, rfl, by decide +kernel, by decide +kernel⟩
def W_is_inner (OC : Addr → Bool) : DS :=
  (wRet (wAndV (wIsi (ansB .tup OC) (wVar 0)) (wAndV (wOp (rCmpI fun i j => decide (i ≤ j)) (wCall rLenA (wCons (wVar 0) wNil)) (wC (.int 12))) (wOp (rCmpI fun i j => decide (i ≤ j)) (wVar 1) (wC (.int 4))))))
theorem d_is_inner {P : Program} {w : World} {K : PySem.W.Frag} {mg : Str → Option Value} {base : Heap} {k : Nat} {W : WX} {OC : Addr → Bool} {t_MOST_DEEP : Tok} (g_MOST_DEEP : mg "MOST_DEEP" = some (.int 4 t_MOST_DEEP)) {t_MOST_IN_BLOCK : Tok} (g_MOST_IN_BLOCK : mg "MOST_IN_BLOCK" = some (.int 12 t_MOST_IN_BLOCK)) (B : Bi mg) (hOC : ∀ (n : Tg) (C : Addr), OC C = true → ObjC K C ∧ PySem.W.kitOne K (.ref C) (.type n.nm) = some false) {f : Addr} (cdv : Value) (A : Around) (outer : List Env) (s : Shared) (H : Hp) (E : XK)
    (hr : Room k (A.deeper (PyProof.Rows.envOfC "is_inner" (defScope s_is_inner) s.heap.objs.size f cdv))) :
    PSs (cxOf CX0 P w K mg base N_is_inner "is_inner" (defScope s_is_inner) f cdv A outer s H E).nox (defBody s_is_inner) (liftS K W (W_is_inner OC)) :=
  (dss_one (ds_ret (de_and (de_isi (isA_B (n := .tup) (hOC .tup)) (by rfl) B.isinstance (dv 0) (pe_bltn (by rfl) B.tuple PyProof.Rows.boot_tuple (by rfl))) (de_and (de_cmp op_le od_cmpI (de_callB call_lenA cd_lenA (by rfl) B.len PySem.boot_len (da_cons (dv 0) da_nil)) (de_gint (by rfl) g_MOST_IN_BLOCK) (nomark _)) (de_one (de_cmp op_le od_cmpI (dv 1) (de_gint (by rfl) g_MOST_DEEP) (nomark _)))))))

abbrev s_first_wrong : Stmt := top 20
abbrev N_first_wrong : List Str := ["block", "deep", "place", "is_row", "row", "here", "inner", "wrong"]
theorem sc_first_wrong : FnScope N_first_wrong ["block", "deep", "place", "is_row"] (defScope s_first_wrong) := ⟨rfl, rfl, rfl, by decide +kernel, rfl, by decide +kernel, by decide +kernel⟩
def W_first_wrong (a_is_plain_row : Addr) (sp_first_wrong : DSp) (sp_is_branch : DSp) (sp_is_inner : DSp) (sp_is_plain_row : DSp) : DS :=
  (wSeq (wFor (wISeq (wVar 0)) (wName 4)
  (wSeq (wAsg (wVar 2) (wName 5))
  (wSeq (wAugI 2 (wC (.int 1)) (fun i j => i + j))
  (wIfS (wB (wCallF sp_is_branch (wCons (wVar 4) wNil)))
  (wSeq (wIfS (wNot (wB (wCall rAll (wCons (wLcV (wISeq (wSl (wVar 4) (wPart (wC (.int 1))) wNoPart)) (wName 6) wYes (wCallF sp_is_inner (wCons (wVar 6) (wCons (wOp rAdd (wVar 1) (wC (.int 1))) wNil))) [6]) wNil))))
  (wRet (wTup (wCons (wVar 5) (wCons (wVar 2) wNil))))
  wNext)
  (wFor (wISeq (wSl (wVar 4) (wPart (wC (.int 1))) wNoPart)) (wName 6)
  (wSeq (wAsg (wCallF sp_first_wrong (wCons (wVar 6) (wCons (wOp rAdd (wVar 1) (wC (.int 1))) (wCons (wVar 2) (wCons (wVar 3) wNil))))) (wGTup 2 (wGCons (wName 7) (wGCons (wName 2) wGNil))))
  (wIfS (wB (wOp (rIsN true) (wVar 7) (wC .non)))
  (wRet (wTup (wCons (wVar 7) (wCons (wVar 2) wNil))))
  wNext))))
  (wIfS (wNot (wB (wCallL 3 a_is_plain_row sp_is_plain_row (wCons (wVar 4) wNil))))
  (wRet (wTup (wCons (wVar 5) (wCons (wVar 2) wNil))))
  wNext)))))
  (wRet (wTup (wCons (wC .non) (wCons (wVar 2) wNil)))))
theorem d_first_wrong {P : Program} {w : World} {K : PySem.W.Frag} {mg : Str → Option Value} {base : Heap} {k : Nat} {W : WX} {a_is_plain_row : Addr} {sp_first_wrong : DSp} {sp_is_branch : DSp} {sp_is_inner : DSp} {sp_is_plain_row : DSp} (B : Bi mg) (c_first_wrong : Cal P w K mg base k "first_wrong" ["block", "deep", "place", "is_row"] sp_first_wrong) (c_is_branch : Cal P w K mg base k "is_branch" ["thing"] sp_is_branch) (c_is_inner : Cal P w K mg base k "is_inner" ["thing", "deep"] sp_is_inner) (l_is_plain_row : CalA P w K mg base k a_is_plain_row ["thing"] sp_is_plain_row) {f : Addr} (cdv : Value) (A : Around) (outer : List Env) (s : Shared) (H : Hp) (E : XK)
    (hr : Room k (A.deeper (PyProof.Rows.envOfC "first_wrong" (defScope s_first_wrong) s.heap.objs.size f cdv))) :
    PSs (cxOf CX0 P w K mg base N_first_wrong "first_wrong" (defScope s_first_wrong) f cdv A outer s H E).nox (defBody s_first_wrong) (liftS K W (W_first_wrong a_is_plain_row sp_first_wrong sp_is_branch sp_is_inner sp_is_plain_row)) :=
  (dss_cons (ds_for PassesOwn.never (by rfl) (di_seq (dv 0)) (dg_name (vs := [4]) 4 sc_first_wrong.nd)
  (dss_cons (ds_set 5 sc_first_wrong.nd (dv 2))
  (dss_cons (ds_augI 2 sc_first_wrong.nd de_int ip_add)
  (dss_one (ds_if (dt_val (de_call c_is_branch hr (by rfl) (da_cons (dv 4) da_nil)))
  (dss_cons (ds_if (dt_not (dt_val (de_callB (cr_all (by rfl)) cd_all (by rfl) B.all PyProof.Rows.boot_all (da_cons (de_lcV (own := [("inner", 6)]) (by rfl) sc_first_wrong.nd (di_seq (de_slice (dv 4) (do_some de_int) do_none)) (blkOk_by (own := [("inner", 6)]) (N := N_first_wrong) (sc := defScope s_first_wrong) (by decide +kernel)) (fun _ _ _ _ _ => (dg_name (vs := [6]) 6 sc_first_wrong.nd)) (fun _ _ _ _ _ => dts_nil) (fun _ _ _ _ _ => (de_call c_is_inner hr (by rfl) (da_cons (dv 6) (da_cons (de_op op_addV od_add (dv 1) de_int) da_nil))))) da_nil))))
  (dss_one (ds_ret (de_tup (da_cons (dv 5) (da_cons (dv 2) da_nil)))))
  dss_nil)
  (dss_one (ds_for PassesOwn.never (by rfl) (di_seq (de_slice (dv 4) (do_some de_int) do_none)) (dg_name (vs := [6]) 6 sc_first_wrong.nd)
  (dss_cons (ds_asg (de_call c_first_wrong hr (by rfl) (da_cons (dv 6) (da_cons (de_op op_addV od_add (dv 1) de_int) (da_cons (dv 2) (da_cons (dv 3) da_nil))))) (dg_tup (by rfl) (dgs_cons (dg_name (vs := [7, 2]) 7 sc_first_wrong.nd) (dgs_cons (dg_name (vs := [7, 2]) 2 sc_first_wrong.nd) dgs_nil))))
  (dss_one (ds_if (dt_cmp op_notN od_notN (dv 7) de_non (nomark _))
  (dss_one (ds_ret (de_tup (da_cons (dv 7) (da_cons (dv 2) da_nil)))))
  dss_nil))))))
  (dss_one (ds_if (dt_not (dt_val (de_callL 3 l_is_plain_row hr (da_cons (dv 4) da_nil))))
  (dss_one (ds_ret (de_tup (da_cons (dv 5) (da_cons (dv 2) da_nil)))))
  dss_nil)))))))
  (dss_one (ds_ret (de_tup (da_cons de_non (da_cons (dv 2) da_nil))))))

abbrev s_size_of : Stmt := top 21
abbrev N_size_of : List Str := ["row", "inner"]
theorem sc_size_of : FnScope N_size_of ["row"] (defScope s_size_of) := ⟨rfl, rfl, rfl, by decide +kernel, rfl, by decide +kernel, by decide +kernel⟩
def W_size_of (T_BLOCKS : List (Str × D)) (a_BLOCKS : Addr) (sp_size_of_block : DSp) : DS :=
  (wRet (wIf (wB (wOp (rKIn false a_BLOCKS T_BLOCKS) (wOp rIx2 (wVar 0) (wC (.int 0))) (wC (.ref a_BLOCKS)))) (wOp rAdd (wC (.int 1)) (wCall rSum (wCons (wLcV (wISeq (wSl (wVar 0) (wPart (wC (.int 1))) wNoPart)) (wName 1) wYes (wCallF sp_size_of_block (wCons (wVar 1) wNil)) [1]) wNil))) (wC (.int 1))))
theorem d_size_of {P : Program} {w : World} {K : PySem.W.Frag} {mg : Str → Option Value} {base : Heap} {k : Nat} {W : WX} {T_BLOCKS : List (Str × D)} {a_BLOCKS : Addr} {sp_size_of_block : DSp} (g_BLOCKS : mg "BLOCKS" = some (.ref a_BLOCKS)) (B : Bi mg) (c_size_of_block : Cal P w K mg base k "size_of_block" ["block"] sp_size_of_block) (kd_BLOCKS : KDc K w a_BLOCKS T_BLOCKS) {f : Addr} (cdv : Value) (A : Around) (outer : List Env) (s : Shared) (H : Hp) (E : XK)
    (hr : Room k (A.deeper (PyProof.Rows.envOfC "size_of" (defScope s_size_of) s.heap.objs.size f cdv))) :
    PSs (cxOf CX0 P w K mg base N_size_of "size_of" (defScope s_size_of) f cdv A outer s H E).nox (defBody s_size_of) (liftS K W (W_size_of T_BLOCKS a_BLOCKS sp_size_of_block)) :=
  (dss_one (ds_ret (de_if (dt_cmp (op_in_kd kd_BLOCKS.ex.choose_spec.choose_spec) (od_kin kd_BLOCKS) (de_ix ix_seq od_ix (dv 0) de_int) (de_gref (by rfl) g_BLOCKS) (by rfl)) (de_op op_addV od_add de_int (de_callB (cr_sum (by rfl)) cd_sum (by rfl) B.sum PyProof.Rows.boot_sum (da_cons (de_lcV (own := [("inner", 1)]) (by rfl) sc_size_of.nd (di_seq (de_slice (dv 0) (do_some de_int) do_none)) (blkOk_by (own := [("inner", 1)]) (N := N_size_of) (sc := defScope s_size_of) (by decide +kernel)) (fun _ _ _ _ _ => (dg_name (vs := [1]) 1 sc_size_of.nd)) (fun _ _ _ _ _ => dts_nil) (fun _ _ _ _ _ => (de_call c_size_of_block hr (by rfl) (da_cons (dv 1) da_nil)))) da_nil))) de_int)))

abbrev s_size_of_block : Stmt := top 22
abbrev N_size_of_block : List Str := ["block", "row"]
theorem sc_size_of_block : FnScope N_size_of_block ["block"] (defScope s_size_of_block) := ⟨rfl, rfl, rfl, by decide +kernel, rfl, by decide +kernel, by decide +kernel⟩
def W_size_of_block (sp_size_of : DSp) : DS :=
  (wRet (wCall rSum (wCons (wLcV (wISeq (wVar 0)) (wName 1) wYes (wCallF sp_size_of (wCons (wVar 1) wNil)) [1]) wNil)))
theorem d_size_of_block {P : Program} {w : World} {K : PySem.W.Frag} {mg : Str → Option Value} {base : Heap} {k : Nat} {W : WX} {sp_size_of : DSp} (B : Bi mg) (c_size_of : Cal P w K mg base k "size_of" ["row"] sp_size_of) {f : Addr} (cdv : Value) (A : Around) (outer : List Env) (s : Shared) (H : Hp) (E : XK)
    (hr : Room k (A.deeper (PyProof.Rows.envOfC "size_of_block" (defScope s_size_of_block) s.heap.objs.size f cdv))) :
    PSs (cxOf CX0 P w K mg base N_size_of_block "size_of_block" (defScope s_size_of_block) f cdv A outer s H E).nox (defBody s_size_of_block) (liftS K W (W_size_of_block sp_size_of)) :=
  (dss_one (ds_ret (de_callB (cr_sum (by rfl)) cd_sum (by rfl) B.sum PyProof.Rows.boot_sum (da_cons (de_lcV (own := [("row", 1)]) (by rfl) sc_size_of_block.nd (di_seq (dv 0)) (blkOk_by (own := [("row", 1)]) (N := N_size_of_block) (sc := defScope s_size_of_block) (by decide +kernel)) (fun _ _ _ _ _ => (dg_name (vs := [1]) 1 sc_size_of_block.nd)) (fun _ _ _ _ _ => dts_nil) (fun _ _ _ _ _ => (de_call c_size_of hr (by rfl) (da_cons (dv 1) da_nil)))) da_nil))))

abbrev s_lay_rows : Stmt := top 23
abbrev N_lay_rows : List Str := ["rows", "block", "after", "at", "row", "place", "later", "begins", "inner"]
theorem sc_lay_rows : FnScope N_lay_rows ["rows", "block", "after"] (defScope s_lay_rows) := ⟨rfl, rfl, rfl, by decide +kernel, rfl, by decide +kernel, by decide +kernel⟩
def W_lay_rows (sp_lay_rows : DSp) (sp_size_of : DSp) : DS :=
  (wFor (wIEnum (wVar 1)) (wGTup 2 (wGCons (wName 3) (wGCons (wName 4) wGNil)))
  (wSeq (wAsg (wCall rLenA (wCons (wVar 0) wNil)) (wName 5))
  (wSeq (wAsg (wIf (wB (wOp (rCmpI fun i j => decide (i < j)) (wOp rAdd (wVar 3) (wC (.int 1))) (wCall rLenA (wCons (wVar 1) wNil)))) (wOp rAdd (wVar 5) (wCallF sp_size_of (wCons (wVar 4) wNil))) (wVar 2)) (wName 6))
  (wSeq (wDrop (wAppend (wVar 0) (wTup (wCons (wVar 4) (wCons (wTup (wCons (wVar 6) wNil)) wNil)))))
  (wIfS (wB (wOp (rEqB false) (wOp rIx2 (wVar 4) (wC (.int 0))) (wC (.str "either"))))
  (wSeq (wAsg (wLst wNil) (wName 7))
  (wSeq (wFor (wISeq (wSl (wVar 4) (wPart (wC (.int 1))) wNoPart)) (wName 8)
  (wSeq (wDrop (wAppend (wVar 7) (wIf (wB (wOp (rCmpI fun i j => decide (j < i)) (wCall rLenA (wCons (wVar 8) wNil)) (wC (.int 0)))) (wCall rLenA (wCons (wVar 0) wNil)) (wVar 6))))
  (wDrop (wCallF sp_lay_rows (wCons (wVar 0) (wCons (wVar 8) (wCons (wVar 6) wNil)))))))
  (wSetL (wTup (wCons (wVar 4) (wCons (wCall rTuple (wCons (wVar 7) wNil)) wNil))) (wVar 0) (wVar 5))))
  (wIfS (wB (wOp (rEqB false) (wOp rIx2 (wVar 4) (wC (.int 0))) (wC (.str "again"))))
  (wSeq (wSetL (wTup (wCons (wVar 4) (wCons (wTup (wCons (wIf (wB (wOp (rCmpI fun i j => decide (j < i)) (wCall rLenA (wCons (wOp rIx2 (wVar 4) (wC (.int 1))) wNil)) (wC (.int 0)))) (wOp rAdd (wVar 5) (wC (.int 1))) (wVar 5)) (wCons (wVar 6) wNil))) wNil))) (wVar 0) (wVar 5))
  (wDrop (wCallF sp_lay_rows (wCons (wVar 0) (wCons (wOp rIx2 (wVar 4) (wC (.int 1))) (wCons (wVar 5) wNil))))))
  wNext))))))
theorem d_lay_rows {P : Program} {w : World} {K : PySem.W.Frag} {mg : Str → Option Value} {base : Heap} {k : Nat} {W : WX} {sp_lay_rows : DSp} {sp_size_of : DSp} (B : Bi mg) (c_lay_rows : Cal P w K mg base k "lay_rows" ["rows", "block", "after"] sp_lay_rows) (c_size_of : Cal P w K mg base k "size_of" ["row"] sp_size_of) {f : Addr} (cdv : Value) (A : Around) (outer : List Env) (s : Shared) (H : Hp) (E : XK)
    (hr : Room k (A.deeper (PyProof.Rows.envOfC "lay_rows" (defScope s_lay_rows) s.heap.objs.size f cdv))) :
    PSs (cxOf CX0 P w K mg base N_lay_rows "lay_rows" (defScope s_lay_rows) f cdv A outer s H E).nox (defBody s_lay_rows) (liftS K W (W_lay_rows sp_lay_rows sp_size_of)) :=
  (dss_one (ds_for PassesOwn.never (by rfl) (di_enum (by rfl) B.enumerate (dv 1)) (dg_tup (by rfl) (dgs_cons (dg_name (vs := [3, 4]) 3 sc_lay_rows.nd) (dgs_cons (dg_name (vs := [3, 4]) 4 sc_lay_rows.nd) dgs_nil)))
  (dss_cons (ds_set 5 sc_lay_rows.nd (de_callB call_lenA cd_lenA (by rfl) B.len PySem.boot_len (da_cons (dv 0) da_nil)))
  (dss_cons (ds_set 6 sc_lay_rows.nd (de_if (dt_cmp op_lt od_cmpI (de_op op_addV od_add (dv 3) de_int) (de_callB call_lenA cd_lenA (by rfl) B.len PySem.boot_len (da_cons (dv 1) da_nil)) (nomark _)) (de_op op_addV od_add (dv 5) (de_call c_size_of hr (by rfl) (da_cons (dv 4) da_nil))) (dv 2)))
  (dss_cons (ds_expr (de_append (dv 0) (de_tup (da_cons (dv 4) (da_cons (de_tup (da_cons (dv 6) da_nil)) da_nil)))))
  (dss_one (ds_if (dt_cmp (op_eqA hr.units) od_eq (de_ix ix_seq od_ix (dv 4) de_int) de_str (nomark _))
  (dss_cons (ds_set 7 sc_lay_rows.nd (de_lst da_nil))
  (dss_cons (ds_for PassesOwn.never (by rfl) (di_seq (de_slice (dv 4) (do_some de_int) do_none)) (dg_name (vs := [8]) 8 sc_lay_rows.nd)
  (dss_cons (ds_expr (de_append (dv 7) (de_if (dt_cmp op_gt od_cmpI (de_callB call_lenA cd_lenA (by rfl) B.len PySem.boot_len (da_cons (dv 8) da_nil)) de_int (nomark _)) (de_callB call_lenA cd_lenA (by rfl) B.len PySem.boot_len (da_cons (dv 0) da_nil)) (dv 6))))
  (dss_one (ds_expr (de_call c_lay_rows hr (by rfl) (da_cons (dv 0) (da_cons (dv 8) (da_cons (dv 6) da_nil))))))))
  (dss_one (ds_setL (de_tup (da_cons (dv 4) (da_cons (de_callTy call_tuple_of cd_tuple (by rfl) B.tuple PyProof.Rows.boot_tuple (da_cons (dv 7) da_nil)) da_nil))) (dv 0) (dv 5)))))
  (dss_one (ds_if (dt_cmp (op_eqA hr.units) od_eq (de_ix ix_seq od_ix (dv 4) de_int) de_str (nomark _))
  (dss_cons (ds_setL (de_tup (da_cons (dv 4) (da_cons (de_tup (da_cons (de_if (dt_cmp op_gt od_cmpI (de_callB call_lenA cd_lenA (by rfl) B.len PySem.boot_len (da_cons (de_ix ix_seq od_ix (dv 4) de_int) da_nil)) de_int (nomark _)) (de_op op_addV od_add (dv 5) de_int) (dv 5)) (da_cons (dv 6) da_nil))) da_nil))) (dv 0) (dv 5))
  (dss_one (ds_expr (de_call c_lay_rows hr (by rfl) (da_cons (dv 0) (da_cons (de_ix ix_seq od_ix (dv 4) de_int) (da_cons (dv 5) da_nil)))))))
  dss_nil)))))))))

abbrev s_rows_of : Stmt := top 24
abbrev N_rows_of : List Str := ["block", "rows"]
theorem sc_rows_of : FnScope N_rows_of ["block"] (defScope s_rows_of) := ⟨rfl, rfl, rfl, by decide +kernel, rfl, by decide +kernel, by decide +kernel⟩
def W_rows_of (sp_lay_rows : DSp) (sp_size_of_block : DSp) : DS :=
  (wSeq (wAsg (wLst wNil) (wName 1))
  (wSeq (wDrop (wCallF sp_lay_rows (wCons (wVar 1) (wCons (wVar 0) (wCons (wCallF sp_size_of_block (wCons (wVar 0) wNil)) wNil)))))
  (wRet (wVar 1))))
theorem d_rows_of {P : Program} {w : World} {K : PySem.W.Frag} {mg : Str → Option Value} {base : Heap} {k : Nat} {W : WX} {sp_lay_rows : DSp} {sp_size_of_block : DSp} (c_lay_rows : Cal P w K mg base k "lay_rows" ["rows", "block", "after"] sp_lay_rows) (c_size_of_block : Cal P w K mg base k "size_of_block" ["block"] sp_size_of_block) {f : Addr} (cdv : Value) (A : Around) (outer : List Env) (s : Shared) (H : Hp) (E : XK)
    (hr : Room k (A.deeper (PyProof.Rows.envOfC "rows_of" (defScope s_rows_of) s.heap.objs.size f cdv))) :
    PSs (cxOf CX0 P w K mg base N_rows_of "rows_of" (defScope s_rows_of) f cdv A outer s H E).nox (defBody s_rows_of) (liftS K W (W_rows_of sp_lay_rows sp_size_of_block)) :=
  (dss_cons (ds_set 1 sc_rows_of.nd (de_lst da_nil))
  (dss_cons (ds_expr (de_call c_lay_rows hr (by rfl) (da_cons (dv 1) (da_cons (dv 0) (da_cons (de_call c_size_of_block hr (by rfl) (da_cons (dv 0) da_nil)) da_nil)))))
  (dss_one (ds_ret (dv 1)))))

abbrev s_names_in : Stmt := top 25
abbrev N_names_in : List Str := ["row"]
theorem sc_names_in : FnScope N_names_in ["row"] (defScope s_names_in) := ⟨rfl, rfl, rfl, by decide +kernel, rfl, by decide +kernel, by decide +kernel⟩
def W_names_in : DS :=
  (wSeq (wIfS (wB (wOp (rEqB false) (wOp rIx2 (wVar 0) (wC (.int 0))) (wC (.str "call"))))
  (wRet (wLstV wNil))
  wNext)
  (wSeq (wIfS (wB (wOp (rEqB false) (wOp rIx2 (wVar 0) (wC (.int 0))) (wC (.str "note"))))
  (wRet (wOp rAdd (wLstV (wCons (wOp rIx2 (wVar 0) (wC (.int 1))) wNil)) (wCall rList (wCons (wOp rIx2 (wVar 0) (wC (.int 3))) wNil))))
  wNext)
  (wRet (wIf (wB (wOp (rEqB false) (wOp rIx2 (wVar 0) (wC (.int 0))) (wC (.str "copy")))) (wLstV (wCons (wOp rIx2 (wVar 0) (wC (.int 1))) (wCons (wOp rIx2 (wVar 0) (wC (.int 2))) wNil))) (wLstV (wCons (wOp rIx2 (wVar 0) (wC (.int 1))) wNil))))))
theorem d_names_in {P : Program} {w : World} {K : PySem.W.Frag} {mg : Str → Option Value} {base : Heap} {k : Nat} {W : WX} (B : Bi mg) {f : Addr} (cdv : Value) (A : Around) (outer : List Env) (s : Shared) (H : Hp) (E : XK)
    (hr : Room k (A.deeper (PyProof.Rows.envOfC "names_in" (defScope s_names_in) s.heap.objs.size f cdv))) :
    PSs (cxOf CX0 P w K mg base N_names_in "names_in" (defScope s_names_in) f cdv A outer s H E).nox (defBody s_names_in) (liftS K W (W_names_in)) :=
  (dss_cons (ds_if (dt_cmp (op_eqA hr.units) od_eq (de_ix ix_seq od_ix (dv 0) de_int) de_str (nomark _))
  (dss_one (ds_ret (de_lstV da_nil)))
  dss_nil)
  (dss_cons (ds_if (dt_cmp (op_eqA hr.units) od_eq (de_ix ix_seq od_ix (dv 0) de_int) de_str (nomark _))
  (dss_one (ds_ret (de_op op_addV od_add (de_lstV (da_cons (de_ix ix_seq od_ix (dv 0) de_int) da_nil)) (de_callTy call_list_of cd_list (by rfl) B.list PyProof.Rows.boot_list (da_cons (de_ix ix_seq od_ix (dv 0) de_int) da_nil)))))
  dss_nil)
  (dss_one (ds_ret (de_if (dt_cmp (op_eqA hr.units) od_eq (de_ix ix_seq od_ix (dv 0) de_int) de_str (nomark _)) (de_lstV (da_cons (de_ix ix_seq od_ix (dv 0) de_int) (da_cons (de_ix ix_seq od_ix (dv 0) de_int) da_nil))) (de_lstV (da_cons (de_ix ix_seq od_ix (dv 0) de_int) da_nil)))))))

abbrev s_names_of : Stmt := top 26
abbrev N_names_of : List Str := ["rows", "found", "row", "later"]
theorem sc_names_of : FnScope N_names_of ["rows"] (defScope s_names_of) := ⟨rfl, rfl, rfl, by decide +kernel, rfl, by decide +kernel, by decide +kernel⟩
def W_names_of (T_BLOCKS : List (Str × D)) (a_BLOCKS : Addr) (sp_names_in : DSp) : DS :=
  (wSeq (wAsg (wLst wNil) (wName 1))
  (wSeq (wFor (wISeq (wVar 0)) (wGTup 2 (wGCons (wName 2) (wGCons (wName 3) wGNil)))
  (wIfS (wB (wOp (rKIn true a_BLOCKS T_BLOCKS) (wOp rIx2 (wVar 2) (wC (.int 0))) (wC (.ref a_BLOCKS))))
  (wDrop (wExtend (wVar 1) (wCallF sp_names_in (wCons (wVar 2) wNil))))
  wNext))
  (wRet (wSortSet (wVar 1)))))
theorem d_names_of {P : Program} {w : World} {K : PySem.W.Frag} {mg : Str → Option Value} {base : Heap} {k : Nat} {W : WX} {T_BLOCKS : List (Str × D)} {a_BLOCKS : Addr} {sp_names_in : DSp} (g_BLOCKS : mg "BLOCKS" = some (.ref a_BLOCKS)) (B : Bi mg) (c_names_in : Cal P w K mg base k "names_in" ["row"] sp_names_in) (kd_BLOCKS : KDc K w a_BLOCKS T_BLOCKS) {f : Addr} (cdv : Value) (A : Around) (outer : List Env) (s : Shared) (H : Hp) (E : XK)
    (hr : Room k (A.deeper (PyProof.Rows.envOfC "names_of" (defScope s_names_of) s.heap.objs.size f cdv))) :
    PSs (cxOf CX0 P w K mg base N_names_of "names_of" (defScope s_names_of) f cdv A outer s H E).nox (defBody s_names_of) (liftS K W (W_names_of T_BLOCKS a_BLOCKS sp_names_in)) :=
  (dss_cons (ds_set 1 sc_names_of.nd (de_lst da_nil))
  (dss_cons (ds_for PassesOwn.never (by rfl) (di_seq (dv 0)) (dg_tup (by rfl) (dgs_cons (dg_name (vs := [2, 3]) 2 sc_names_of.nd) (dgs_cons (dg_name (vs := [2, 3]) 3 sc_names_of.nd) dgs_nil)))
  (dss_one (ds_if (dt_cmp (op_notIn_kd kd_BLOCKS.ex.choose_spec.choose_spec) (od_knin kd_BLOCKS) (de_ix ix_seq od_ix (dv 2) de_int) (de_gref (by rfl) g_BLOCKS) (by rfl))
  (dss_one (ds_expr (de_extend (dv 1) (de_call c_names_in hr (by rfl) (da_cons (dv 2) da_nil)))))
  dss_nil)))
  (dss_one (ds_ret (de_sortSet (by rfl) (by rfl) B.sorted (by rfl) B.set (dv 1))))))
end P3

namespace P3
open PySem PySem.Spec L2 DL

abbrev s_Program_d__init_d_ : Stmt := inClass (top 27) 0
abbrev N_Program_d__init_d_ : List Str := ["self", "block", "wrong", "many"]
theorem sc_Program_d__init_d_ : FnScope N_Program_d__init_d_ ["self", "block"] (defScope s_Program_d__init_d_) := ⟨rfl, rfl, rfl, by decide +kernel, rfl, by decide +kernel, by decide +kernel⟩
def W_Program_d__init_d_ (C_Program : Addr) (OC : Addr → Bool) (a_is_plain_row : Addr) (sp_first_wrong : DSp) (sp_names_of : DSp) (sp_rows_of : DSp) : DS :=
  (wSeq (wIfS (wNot (wB (wIsi (ansB .tup OC) (wVar 1))))
  wNever
  wNext)
  (wSeq (wAsg (wCallF sp_first_wrong (wCons (wVar 1) (wCons (wC (.int 1)) (wCons (wC (.int 0)) (wCons (wC (.ref a_is_plain_row)) wNil))))) (wGTup 2 (wGCons (wName 2) (wGCons (wName 3) wGNil))))
  (wSeq (wIfS (wB (wOp (rIsN true) (wVar 2) (wC .non)))
  wNever
  wNext)
  (wSeq (wIfS (wOr (wB (wOp (rCmpI fun i j => decide (j < i)) (wCall rLenA (wCons (wVar 1) wNil)) (wC (.int 12)))) (wOr (wB (wOp (rCmpI fun i j => decide (j < i)) (wVar 3) (wC (.int 30)))) (wB (wOp (rCmpI fun i j => decide (j < i)) (wCall rLenA (wCons (wCallF sp_names_of (wCons (wCallF sp_rows_of (wCons (wVar 1) wNil)) wNil)) wNil)) (wC (.int 8))))))
  wNever
  wNext)
  (wSetF C_Program "block" (wVar 0) (wVar 1))))))
theorem d_Program_d__init_d_ {P : Program} {w : World} {K : PySem.W.Frag} {mg : Str → Option Value} {base : Heap} {k : Nat} {W : WX} {C_Program : Addr} {OC : Addr → Bool} {a_is_plain_row : Addr} {sp_first_wrong : DSp} {sp_names_of : DSp} {sp_rows_of : DSp} {t_MOST_IN_BLOCK : Tok} (g_MOST_IN_BLOCK : mg "MOST_IN_BLOCK" = some (.int 12 t_MOST_IN_BLOCK)) {t_MOST_NAMES : Tok} (g_MOST_NAMES : mg "MOST_NAMES" = some (.int 8 t_MOST_NAMES)) {t_MOST_ROWS : Tok} (g_MOST_ROWS : mg "MOST_ROWS" = some (.int 30 t_MOST_ROWS)) (g_is_plain_row : mg "is_plain_row" = some (.ref a_is_plain_row)) (B : Bi mg) (c_first_wrong : Cal P w K mg base k "first_wrong" ["block", "deep", "place", "is_row"] sp_first_wrong) (c_names_of : Cal P w K mg base k "names_of" ["rows"] sp_names_of) (c_rows_of : Cal P w K mg base k "rows_of" ["block"] sp_rows_of) (cl_Program : Cls K C_Program) (hOC : ∀ (n : Tg) (C : Addr), OC C = true → ObjC K C ∧ PySem.W.kitOne K (.ref C) (.type n.nm) = some false) (n_Program_block : NoAttr K C_Program "block") {f : Addr} (cdv : Value) (A : Around) (outer : List Env) (s : Shared) (H : Hp) (E : XK)
    (hr : Room k (A.deeper (PyProof.Rows.envOfC "Program.__init__" (defScope s_Program_d__init_d_) s.heap.objs.size f cdv))) :
    PSs (cxOf CX0 P w K mg base N_Program_d__init_d_ "Program.__init__" (defScope s_Program_d__init_d_) f cdv A outer s H E).nox (defBody s_Program_d__init_d_) (liftS K W (W_Program_d__init_d_ C_Program OC a_is_plain_row sp_first_wrong sp_names_of sp_rows_of)) :=
  (dss_cons (ds_if (dt_not (dt_val (de_isi (isA_B (n := .tup) (hOC .tup)) (by rfl) B.isinstance (dv 1) (pe_bltn (by rfl) B.tuple PyProof.Rows.boot_tuple (by rfl)))))
  (dss_one ds_never)
  dss_nil)
  (dss_cons (ds_asg (de_call c_first_wrong hr (by rfl) (da_cons (dv 1) (da_cons de_int (da_cons de_int (da_cons (de_gref (by rfl) g_is_plain_row) da_nil))))) (dg_tup (by rfl) (dgs_cons (dg_name (vs := [2, 3]) 2 sc_Program_d__init_d_.nd) (dgs_cons (dg_name (vs := [2, 3]) 3 sc_Program_d__init_d_.nd) dgs_nil))))
  (dss_cons (ds_if (dt_cmp op_notN od_notN (dv 2) de_non (nomark _))
  (dss_one ds_never)
  dss_nil)
  (dss_cons (ds_if (PW.pt (dw_or (dt_cmp op_gt od_cmpI (de_callB call_lenA cd_lenA (by rfl) B.len PySem.boot_len (da_cons (dv 1) da_nil)) (de_gint (by rfl) g_MOST_IN_BLOCK) (nomark _)) (dw_or (dt_cmp op_gt od_cmpI (dv 3) (de_gint (by rfl) g_MOST_ROWS) (nomark _)) (dw_or1 (dt_cmp op_gt od_cmpI (de_callB call_lenA cd_lenA (by rfl) B.len PySem.boot_len (da_cons (de_call c_names_of hr (by rfl) (da_cons (de_call c_rows_of hr (by rfl) (da_cons (dv 1) da_nil)) da_nil)) da_nil)) (de_gint (by rfl) g_MOST_NAMES) (nomark _))))))
  (dss_one ds_never)
  dss_nil)
  (dss_one (ds_setF cl_Program n_Program_block (dv 0) (dv 1)))))))

abbrev s_Program_d__eq_d_ : Stmt := inClass (top 27) 1
abbrev N_Program_d__eq_d_ : List Str := ["self", "other"]
theorem sc_Program_d__eq_d_ : FnScope N_Program_d__eq_d_ ["self", "other"] (defScope s_Program_d__eq_d_) := ⟨rfl, rfl, rfl, by decide +kernel, rfl, by decide +kernel, by decide +kernel⟩
def W_Program_d__eq_d_ (C_Program : Addr) (ans_Program : Tg ⊕ Addr → Option Bool) : DS :=
  (wRet (wAndV (wIsi ans_Program (wVar 1)) (wOp (rEqB false) (wFld C_Program "block" (wVar 0)) (wFld C_Program "block" (wVar 1)))))
theorem d_Program_d__eq_d_ {P : Program} {w : World} {K : PySem.W.Frag} {mg : Str → Option Value} {base : Heap} {k : Nat} {W : WX} {C_Program : Addr} {ans_Program : Tg ⊕ Addr → Option Bool} {a_Program : Addr} (g_Program : mg "Program" = some (.ref a_Program)) (B : Bi mg) (cl_Program : Cls K C_Program) (i_Program : IsA K (.ref a_Program) ans_Program) (n_Program_block : NoAttr K C_Program "block") {f : Addr} (cdv : Value) (A : Around) (outer : List Env) (s : Shared) (H : Hp) (E : XK)
    (hr : Room k (A.deeper (PyProof.Rows.envOfC "Program.__eq__" (defScope s_Program_d__eq_d_) s.heap.objs.size f cdv))) :
    PSs (cxOf CX0 P w K mg base N_Program_d__eq_d_ "Program.__eq__" (defScope s_Program_d__eq_d_) f cdv A outer s H E).nox (defBody s_Program_d__eq_d_) (liftS K W (W_Program_d__eq_d_ C_Program ans_Program)) :=
  (dss_one (ds_ret (de_and (de_isi i_Program (by rfl) B.isinstance (dv 1) (pe_glob (v := .ref a_Program) (by rfl) g_Program (by rfl))) (de_one (de_cmp (op_eqA hr.units) od_eq (de_fld cl_Program n_Program_block (dv 0)) (de_fld cl_Program n_Program_block (dv 1)) (nomark _))))))

abbrev s_text_of : Stmt := top 29
abbrev N_text_of : List Str := ["row"]
theorem sc_text_of : FnScope N_text_of ["row"] (defScope s_text_of) := ⟨rfl, rfl, rfl, by decide +kernel, rfl, by decide +kernel, by decide +kernel⟩
def W_text_of : DS :=
  (wSeq (wIfS (wB (wOp (rEqB false) (wOp rIx2 (wVar 0) (wC (.int 0))) (wC (.str "note"))))
  (wRet (wOp rAdd (wOp rAdd (wOp rAdd (wOp rAdd (wOp rAdd (wOp rIx2 (wVar 0) (wC (.int 1))) (wC (.str " = "))) (wOp rIx2 (wVar 0) (wC (.int 2)))) (wC (.str "("))) (wJoin (wC (.str ", ")) (wOp rIx2 (wVar 0) (wC (.int 3))))) (wC (.str ")"))))
  wNext)
  (wSeq (wIfS (wB (wOp (rInS false) (wOp rIx2 (wVar 0) (wC (.int 0))) (wTup (wCons (wC (.str "copy")) (wCons (wC (.str "give")) wNil)))))
  (wRet (wOp rAdd (wOp rAdd (wOp rIx2 (wVar 0) (wC (.int 1))) (wC (.str " = "))) (wCall rStr (wCons (wOp rIx2 (wVar 0) (wC (.int 2))) wNil))))
  wNext)
  (wRet (wOp rAdd (wOp rAdd (wOp rIx2 (wVar 0) (wC (.int 0))) (wC (.str " "))) (wOp rIx2 (wVar 0) (wC (.int 1)))))))
theorem d_text_of {P : Program} {w : World} {K : PySem.W.Frag} {mg : Str → Option Value} {base : Heap} {k : Nat} {W : WX} (B : Bi mg) {f : Addr} (cdv : Value) (A : Around) (outer : List Env) (s : Shared) (H : Hp) (E : XK)
    (hr : Room k (A.deeper (PyProof.Rows.envOfC "text_of" (defScope s_text_of) s.heap.objs.size f cdv))) :
    PSs (cxOf CX0 P w K mg base N_text_of "text_of" (defScope s_text_of) f cdv A outer s H E).nox (defBody s_text_of) (liftS K W (W_text_of)) :=
  (dss_cons (ds_if (dt_cmp (op_eqA hr.units) od_eq (de_ix ix_seq od_ix (dv 0) de_int) de_str (nomark _))
  (dss_one (ds_ret (de_op op_addV od_add (de_op op_addV od_add (de_op op_addV od_add (de_op op_addV od_add (de_op op_addV od_add (de_ix ix_seq od_ix (dv 0) de_int) de_str) (de_ix ix_seq od_ix (dv 0) de_int)) de_str) (de_join de_str (de_ix ix_seq od_ix (dv 0) de_int))) de_str)))
  dss_nil)
  (dss_cons (ds_if (dt_cmp op_in_seq (od_inS false) (de_ix ix_seq od_ix (dv 0) de_int) (de_tup (da_cons de_str (da_cons de_str da_nil))) (by rfl))
  (dss_one (ds_ret (de_op op_addV od_add (de_op op_addV od_add (de_ix ix_seq od_ix (dv 0) de_int) de_str) (de_callTy call_strA cd_strA (by rfl) B.str PyProof.Rows.boot_str (da_cons (de_ix ix_seq od_ix (dv 0) de_int) da_nil)))))
  dss_nil)
  (dss_one (ds_ret (de_op op_addV od_add (de_op op_addV od_add (de_ix ix_seq od_ix (dv 0) de_int) de_str) (de_ix ix_seq od_ix (dv 0) de_int))))))

abbrev s_row_text : Stmt := top 30
abbrev N_row_text : List Str := ["row"]
theorem sc_row_text : FnScope N_row_text ["row"] (defScope s_row_text) := ⟨rfl, rfl, rfl, by decide +kernel, rfl, by decide +kernel, by decide +kernel⟩
def W_row_text (C_NoRow : Addr) (sp_is_plain_row : DSp) (sp_text_of : DSp) : DS :=
  (wSeq (wIfS (wNot (wB (wCallF sp_is_plain_row (wCons (wVar 0) wNil))))
  (wRaise C_NoRow)
  wNext)
  (wRet (wCallF sp_text_of (wCons (wVar 0) wNil))))
theorem d_row_text {P : Program} {w : World} {K : PySem.W.Frag} {mg : Str → Option Value} {base : Heap} {k : Nat} {C_NoRow : Addr} {sp_is_plain_row : DSp} {sp_text_of : DSp} (c_is_plain_row : Cal P w K mg base k "is_plain_row" ["thing"] sp_is_plain_row) (c_text_of : Cal P w K mg base k "text_of" ["row"] sp_text_of) (x_NoRow : ExcT K mg "NoRow" C_NoRow veB "ValueError.__new__") {f : Addr} (cdv : Value) (A : Around) (outer : List Env) (s : Shared) (H : Hp) (E : XK)
    (hr : Room k (A.deeper (PyProof.Rows.envOfC "row_text" (defScope s_row_text) s.heap.objs.size f cdv))) :
    PSs (cxOf (L2.CX P w) P w K mg base N_row_text "row_text" (defScope s_row_text) f cdv A outer s H E) (defBody s_row_text) (liftS K (fun c d _ H => E c d H) (W_row_text C_NoRow sp_is_plain_row sp_text_of)) :=
  (dss_cons (ds_if (dt_not (dt_val (de_call c_is_plain_row hr (by rfl) (da_cons (dv 0) da_nil))))
  (dss_one (ds_raise0 PySem.F.excBase_ValueError x_NoRow (by rfl) (takes_of rfl rfl rfl rfl) (by rfl)))
  dss_nil)
  (dss_one (ds_ret (de_call c_text_of hr (by rfl) (da_cons (dv 0) da_nil)))))

abbrev s_lines_of : Stmt := top 31
abbrev N_lines_of : List Str := ["block", "ahead", "found", "row"]
theorem sc_lines_of : FnScope N_lines_of ["block", "ahead"] (defScope s_lines_of) := ⟨rfl, rfl, rfl, by decide +kernel, rfl, by decide +kernel, by decide +kernel⟩
def W_lines_of (sp_lines_of : DSp) (sp_text_of : DSp) : DS :=
  (wSeq (wAsg (wLst wNil) (wName 2))
  (wSeq (wFor (wISeq (wVar 0)) (wName 3)
  (wIfS (wB (wOp (rEqB false) (wOp rIx2 (wVar 3) (wC (.int 0))) (wC (.str "either"))))
  (wSeq (wDrop (wAppend (wVar 2) (wOp rAdd (wVar 1) (wC (.str "either")))))
  (wSeq (wDrop (wExtend (wVar 2) (wCallF sp_lines_of (wCons (wOp rIx2 (wVar 3) (wC (.int 1))) (wCons (wOp rAdd (wVar 1) (wC (.str "  "))) wNil)))))
  (wSeq (wDrop (wAppend (wVar 2) (wOp rAdd (wVar 1) (wC (.str "or")))))
  (wDrop (wExtend (wVar 2) (wCallF sp_lines_of (wCons (wOp rIx2 (wVar 3) (wC (.int 2))) (wCons (wOp rAdd (wVar 1) (wC (.str "  "))) wNil))))))))
  (wIfS (wB (wOp (rEqB false) (wOp rIx2 (wVar 3) (wC (.int 0))) (wC (.str "again"))))
  (wSeq (wDrop (wAppend (wVar 2) (wOp rAdd (wVar 1) (wC (.str "again")))))
  (wDrop (wExtend (wVar 2) (wCallF sp_lines_of (wCons (wOp rIx2 (wVar 3) (wC (.int 1))) (wCons (wOp rAdd (wVar 1) (wC (.str "  "))) wNil))))))
  (wDrop (wAppend (wVar 2) (wOp rAdd (wVar 1) (wCallF sp_text_of (wCons (wVar 3) wNil))))))))
  (wRet (wVar 2))))
theorem d_lines_of {P : Program} {w : World} {K : PySem.W.Frag} {mg : Str → Option Value} {base : Heap} {k : Nat} {W : WX} {sp_lines_of : DSp} {sp_text_of : DSp} (c_lines_of : Cal P w K mg base k "lines_of" ["block", "ahead"] sp_lines_of) (c_text_of : Cal P w K mg base k "text_of" ["row"] sp_text_of) {f : Addr} (cdv : Value) (A : Around) (outer : List Env) (s : Shared) (H : Hp) (E : XK)
    (hr : Room k (A.deeper (PyProof.Rows.envOfC "lines_of" (defScope s_lines_of) s.heap.objs.size f cdv))) :
    PSs (cxOf CX0 P w K mg base N_lines_of "lines_of" (defScope s_lines_of) f cdv A outer s H E).nox (defBody s_lines_of) (liftS K W (W_lines_of sp_lines_of sp_text_of)) :=
  (dss_cons (ds_set 2 sc_lines_of.nd (de_lst da_nil))
  (dss_cons (ds_for PassesOwn.never (by rfl) (di_seq (dv 0)) (dg_name (vs := [3]) 3 sc_lines_of.nd)
  (dss_one (ds_if (dt_cmp (op_eqA hr.units) od_eq (de_ix ix_seq od_ix (dv 3) de_int) de_str (nomark _))
  (dss_cons (ds_expr (de_append (dv 2) (de_op op_addV od_add (dv 1) de_str)))
  (dss_cons (ds_expr (de_extend (dv 2) (de_call c_lines_of hr (by rfl) (da_cons (de_ix ix_seq od_ix (dv 3) de_int) (da_cons (de_op op_addV od_add (dv 1) de_str) da_nil)))))
  (dss_cons (ds_expr (de_append (dv 2) (de_op op_addV od_add (dv 1) de_str)))
  (dss_one (ds_expr (de_extend (dv 2) (de_call c_lines_of hr (by rfl) (da_cons (de_ix ix_seq od_ix (dv 3) de_int) (da_cons (de_op op_addV od_add (dv 1) de_str) da_nil)))))))))
  (dss_one (ds_if (dt_cmp (op_eqA hr.units) od_eq (de_ix ix_seq od_ix (dv 3) de_int) de_str (nomark _))
  (dss_cons (ds_expr (de_append (dv 2) (de_op op_addV od_add (dv 1) de_str)))
  (dss_one (ds_expr (de_extend (dv 2) (de_call c_lines_of hr (by rfl) (da_cons (de_ix ix_seq od_ix (dv 3) de_int) (da_cons (de_op op_addV od_add (dv 1) de_str) da_nil)))))))
  (dss_one (ds_expr (de_append (dv 2) (de_op op_addV od_add (dv 1) (de_call c_text_of hr (by rfl) (da_cons (dv 3) da_nil)))))))))))
  (dss_one (ds_ret (dv 2)))))

abbrev s_program_text : Stmt := top 32
abbrev N_program_text : List Str := ["program", "line"]
theorem sc_program_text : FnScope N_program_text ["program"] (defScope s_program_text) := ⟨rfl, rfl, rfl, by decide +kernel, rfl, by decide +kernel, by decide +kernel⟩
def W_program_text (C_Program : Addr) (sp_lines_of : DSp) : DS :=
  (wRet (wJoin (wC (.str "")) (wLcV (wISeq (wCallF sp_lines_of (wCons (wFld C_Program "block" (wVar 0)) (wCons (wC (.str "")) wNil)))) (wName 1) wYes (wOp rAdd (wVar 1) (wC (.str "\n"))) [1])))
theorem d_program_text {P : Program} {w : World} {K : PySem.W.Frag} {mg : Str → Option Value} {base : Heap} {k : Nat} {W : WX} {C_Program : Addr} {sp_lines_of : DSp} (c_lines_of : Cal P w K mg base k "lines_of" ["block", "ahead"] sp_lines_of) (cl_Program : Cls K C_Program) (n_Program_block : NoAttr K C_Program "block") {f : Addr} (cdv : Value) (A : Around) (outer : List Env) (s : Shared) (H : Hp) (E : XK)
    (hr : Room k (A.deeper (PyProof.Rows.envOfC "program_text" (defScope s_program_text) s.heap.objs.size f cdv))) :
    PSs (cxOf CX0 P w K mg base N_program_text "program_text" (defScope s_program_text) f cdv A outer s H E).nox (defBody s_program_text) (liftS K W (W_program_text C_Program sp_lines_of)) :=
  (dss_one (ds_ret (de_join de_str (de_lcV (own := [("line", 1)]) (by rfl) sc_program_text.nd (di_seq (de_call c_lines_of hr (by rfl) (da_cons (de_fld cl_Program n_Program_block (dv 0)) (da_cons de_str da_nil)))) (blkOk_by (own := [("line", 1)]) (N := N_program_text) (sc := defScope s_program_text) (by decide +kernel)) (fun _ _ _ _ _ => (dg_name (vs := [1]) 1 sc_program_text.nd)) (fun _ _ _ _ _ => dts_nil) (fun _ _ _ _ _ => (de_op op_addV od_add (dv 1) de_str))))))

abbrev s_integer_told : Stmt := top 36
abbrev N_integer_told : List Str := ["word", "digits", "sign"]
theorem sc_integer_told : FnScope N_integer_told ["word"] (defScope s_integer_told) := ⟨rfl, rfl, rfl, by decide +kernel, rfl, by decide +kernel, by decide +kernel⟩
def W_integer_told : DS :=
  (wSeq (wAsg (wIf (wB (wOp (rEqB false) (wSl (wVar 0) wNoPart (wPart (wC (.int 1)))) (wC (.str "-")))) (wSl (wVar 0) (wPart (wC (.int 1))) wNoPart) (wVar 0)) (wName 1))
  (wSeq (wIfS (wOr (wNot (wB (wChain (rCmpI fun i j => decide (i ≤ j)) (rCmpI fun i j => decide (i ≤ j)) (wC (.int 1)) (wCall rLenA (wCons (wVar 1) wNil)) (wC (.int 30))))) (wNot (wB (wCall rAll (wCons (wLcV (wIStr (wVar 1)) (wName 2) wYes (wOp (rInSign false) (wVar 2) (wC (.str "0123456789"))) [2]) wNil)))))
  (wRet (wC .non))
  wNext)
  (wSeq (wIfS (wAnd (wB (wOp (rEqB false) (wOp rIx2 (wVar 1) (wC (.int 0))) (wC (.str "0")))) (wB (wOp (rEqB true) (wVar 0) (wC (.str "0")))))
  (wRet (wC .non))
  wNext)
  (wRet (wCall rIntS (wCons (wVar 0) wNil))))))
theorem d_integer_told {P : Program} {w : World} {K : PySem.W.Frag} {mg : Str → Option Value} {base : Heap} {k : Nat} {W : WX} {t_FIGURES : Tok} (g_FIGURES : mg "FIGURES" = some (.str "0123456789" t_FIGURES)) {t_MOST_FIGURES : Tok} (g_MOST_FIGURES : mg "MOST_FIGURES" = some (.int 30 t_MOST_FIGURES)) (B : Bi mg) {f : Addr} (cdv : Value) (A : Around) (outer : List Env) (s : Shared) (H : Hp) (E : XK)
    (hr : Room k (A.deeper (PyProof.Rows.envOfC "integer_told" (defScope s_integer_told) s.heap.objs.size f cdv))) :
    PSs (cxOf CX0 P w K mg base N_integer_told "integer_told" (defScope s_integer_told) f cdv A outer s H E).nox (defBody s_integer_told) (liftS K W (W_integer_told)) :=
  (dss_cons (ds_set 1 sc_integer_told.nd (de_if (dt_cmp (op_eqA hr.units) od_eq (de_slice (dv 0) do_none (do_some de_int)) de_str (nomark _)) (de_slice (dv 0) (do_some de_int) do_none) (dv 0)))
  (dss_cons (ds_if (PW.pt (dw_or (dt_not (dt_chain op_le op_le od_cmpI od_cmpI de_int (de_callB call_lenA cd_lenA (by rfl) B.len PySem.boot_len (da_cons (dv 1) da_nil)) (de_gint (by rfl) g_MOST_FIGURES))) (dw_or1 (dt_not (dt_val (de_callB (cr_all (by rfl)) cd_all (by rfl) B.all PyProof.Rows.boot_all (da_cons (de_lcV (own := [("sign", 2)]) (by rfl) sc_integer_told.nd (di_str (dv 1)) (blkOk_by (own := [("sign", 2)]) (N := N_integer_told) (sc := defScope s_integer_told) (by decide +kernel)) (fun _ _ _ _ _ => (dg_name (vs := [2]) 2 sc_integer_told.nd)) (fun _ _ _ _ _ => dts_nil) (fun _ _ _ _ _ => (de_cmp op_in_sign od_inSign (dv 2) (de_gstr (by rfl) g_FIGURES) (by rfl)))) da_nil)))))))
  (dss_one (ds_ret de_non))
  dss_nil)
  (dss_cons (ds_if (PW.pt (dw_and (dt_cmp (op_eqA hr.units) od_eq (de_ix ix_seq od_ix (dv 1) de_int) de_str (nomark _)) (dw_and1 (dt_cmp (op_neA hr.units) od_ne (dv 0) de_str (nomark _)))))
  (dss_one (ds_ret de_non))
  dss_nil)
  (dss_one (ds_ret (de_callTy call_int_str cd_intS (by rfl) B.int PyProof.Rows.boot_int (da_cons (dv 0) da_nil)))))))

abbrev s_note_told : Stmt := top 37
abbrev N_note_told : List Str := ["name", "text", "op", "bracket", "rest", "ys", "other"]
theorem sc_note_told : FnScope N_note_told ["name", "text"] (defScope s_note_told) := ⟨rfl, rfl, rfl, by decide +kernel, rfl, by decide +kernel, by decide +kernel⟩
def W_note_told (sp_is_name : DSp) : DS :=
  (wSeq (wAsg (wPartition (wVar 1) (wC (.str "("))) (wGTup 3 (wGCons (wName 2) (wGCons (wName 3) (wGCons (wName 4) wGNil)))))
  (wSeq (wIfS (wOr (wNot (wB (wCallF sp_is_name (wCons (wVar 2) wNil)))) (wOr (wB (wOp (rEqB false) (wVar 3) (wC (.str "")))) (wB (wOp (rEqB true) (wSl (wVar 4) (wPart (wNeg (wC (.int 1)))) wNoPart) (wC (.str ")"))))))
  (wRet (wC .non))
  wNext)
  (wSeq (wAsg (wIf (wB (wOp (rEqB true) (wVar 4) (wC (.str ")")))) (wCall rTuple (wCons (wSplit (wSl (wVar 4) wNoPart (wPart (wNeg (wC (.int 1))))) (wC (.str ", "))) wNil)) (wTup wNil)) (wName 5))
  (wSeq (wIfS (wOr (wB (wOp (rCmpI fun i j => decide (j < i)) (wCall rLenA (wCons (wVar 5) wNil)) (wC (.int 3)))) (wNot (wB (wCall rAll (wCons (wLcV (wISeq (wVar 5)) (wName 6) wYes (wCallF sp_is_name (wCons (wVar 6) wNil)) [6]) wNil)))))
  (wRet (wC .non))
  wNext)
  (wRet (wTup (wCons (wC (.str "note")) (wCons (wVar 0) (wCons (wVar 2) (wCons (wVar 5) wNil))))))))))
theorem d_note_told {P : Program} {w : World} {K : PySem.W.Frag} {mg : Str → Option Value} {base : Heap} {k : Nat} {W : WX} {sp_is_name : DSp} {t_MOST_PARTS : Tok} (g_MOST_PARTS : mg "MOST_PARTS" = some (.int 3 t_MOST_PARTS)) (B : Bi mg) (c_is_name : Cal P w K mg base k "is_name" ["thing"] sp_is_name) {f : Addr} (cdv : Value) (A : Around) (outer : List Env) (s : Shared) (H : Hp) (E : XK)
    (hr : Room k (A.deeper (PyProof.Rows.envOfC "note_told" (defScope s_note_told) s.heap.objs.size f cdv))) :
    PSs (cxOf CX0 P w K mg base N_note_told "note_told" (defScope s_note_told) f cdv A outer s H E).nox (defBody s_note_told) (liftS K W (W_note_told sp_is_name)) :=
  (dss_cons (ds_asg (de_partition (dv 1) de_str) (dg_tup (by rfl) (dgs_cons (dg_name (vs := [2, 3, 4]) 2 sc_note_told.nd) (dgs_cons (dg_name (vs := [2, 3, 4]) 3 sc_note_told.nd) (dgs_cons (dg_name (vs := [2, 3, 4]) 4 sc_note_told.nd) dgs_nil)))))
  (dss_cons (ds_if (PW.pt (dw_or (dt_not (dt_val (de_call c_is_name hr (by rfl) (da_cons (dv 2) da_nil)))) (dw_or (dt_cmp (op_eqA hr.units) od_eq (dv 3) de_str (nomark _)) (dw_or1 (dt_cmp (op_neA hr.units) od_ne (de_slice (dv 4) (do_some (de_neg de_int)) do_none) de_str (nomark _))))))
  (dss_one (ds_ret de_non))
  dss_nil)
  (dss_cons (ds_set 5 sc_note_told.nd (de_if (dt_cmp (op_neA hr.units) od_ne (dv 4) de_str (nomark _)) (de_callTy call_tuple_of cd_tuple (by rfl) B.tuple PyProof.Rows.boot_tuple (da_cons (de_split (de_slice (dv 4) do_none (do_some (de_neg de_int))) de_str) da_nil)) (de_tup da_nil)))
  (dss_cons (ds_if (PW.pt (dw_or (dt_cmp op_gt od_cmpI (de_callB call_lenA cd_lenA (by rfl) B.len PySem.boot_len (da_cons (dv 5) da_nil)) (de_gint (by rfl) g_MOST_PARTS) (nomark _)) (dw_or1 (dt_not (dt_val (de_callB (cr_all (by rfl)) cd_all (by rfl) B.all PyProof.Rows.boot_all (da_cons (de_lcV (own := [("other", 6)]) (by rfl) sc_note_told.nd (di_seq (dv 5)) (blkOk_by (own := [("other", 6)]) (N := N_note_told) (sc := defScope s_note_told) (by decide +kernel)) (fun _ _ _ _ _ => (dg_name (vs := [6]) 6 sc_note_told.nd)) (fun _ _ _ _ _ => dts_nil) (fun _ _ _ _ _ => (de_call c_is_name hr (by rfl) (da_cons (dv 6) da_nil)))) da_nil)))))))
  (dss_one (ds_ret de_non))
  dss_nil)
  (dss_one (ds_ret (de_tup (da_cons de_str (da_cons (dv 0) (da_cons (dv 2) (da_cons (dv 5) da_nil)))))))))))

abbrev s_row_told : Stmt := top 38
abbrev N_row_told : List Str := ["text", "name", "middle", "rest", "number", "word"]
theorem sc_row_told : FnScope N_row_told ["text"] (defScope s_row_told) := ⟨rfl, rfl, rfl, by decide +kernel, rfl, by decide +kernel, by decide +kernel⟩
def W_row_told (sp_integer_told : DSp) (sp_is_name : DSp) (sp_note_told : DSp) : DS :=
  (wSeq (wAsg (wPartition (wVar 0) (wC (.str " = "))) (wGTup 3 (wGCons (wName 1) (wGCons (wName 2) (wGCons (wName 3) wGNil)))))
  (wSeq (wIfS (wAnd (wB (wOp (rEqB true) (wVar 2) (wC (.str "")))) (wB (wCallF sp_is_name (wCons (wVar 1) wNil))))
  (wSeq (wIfS (wB (wCallF sp_is_name (wCons (wVar 3) wNil)))
  (wRet (wTup (wCons (wC (.str "copy")) (wCons (wVar 1) (wCons (wVar 3) wNil)))))
  wNext)
  (wSeq (wAsg (wCallF sp_integer_told (wCons (wVar 3) wNil)) (wName 4))
  (wRet (wIf (wB (wOp (rIsN true) (wVar 4) (wC .non))) (wTup (wCons (wC (.str "give")) (wCons (wVar 1) (wCons (wVar 4) wNil)))) (wCallF sp_note_told (wCons (wVar 1) (wCons (wVar 3) wNil)))))))
  wNext)
  (wSeq (wAsg (wPartition (wVar 0) (wC (.str " "))) (wGTup 3 (wGCons (wName 5) (wGCons (wName 2) (wGCons (wName 1) wGNil)))))
  (wSeq (wIfS (wAnd (wB (wOp (rInS false) (wVar 5) (wTup (wCons (wC (.str "ask")) (wCons (wC (.str "print")) wNil))))) (wB (wCallF sp_is_name (wCons (wVar 1) wNil))))
  (wRet (wTup (wCons (wVar 5) (wCons (wVar 1) wNil))))
  wNext)
  (wRet (wC .non))))))
theorem d_row_told {P : Program} {w : World} {K : PySem.W.Frag} {mg : Str → Option Value} {base : Heap} {k : Nat} {W : WX} {sp_integer_told : DSp} {sp_is_name : DSp} {sp_note_told : DSp} (c_integer_told : Cal P w K mg base k "integer_told" ["word"] sp_integer_told) (c_is_name : Cal P w K mg base k "is_name" ["thing"] sp_is_name) (c_note_told : Cal P w K mg base k "note_told" ["name", "text"] sp_note_told) {f : Addr} (cdv : Value) (A : Around) (outer : List Env) (s : Shared) (H : Hp) (E : XK)
    (hr : Room k (A.deeper (PyProof.Rows.envOfC "row_told" (defScope s_row_told) s.heap.objs.size f cdv))) :
    PSs (cxOf CX0 P w K mg base N_row_told "row_told" (defScope s_row_told) f cdv A outer s H E).nox (defBody s_row_told) (liftS K W (W_row_told sp_integer_told sp_is_name sp_note_told)) :=
  (dss_cons (ds_asg (de_partition (dv 0) de_str) (dg_tup (by rfl) (dgs_cons (dg_name (vs := [1, 2, 3]) 1 sc_row_told.nd) (dgs_cons (dg_name (vs := [1, 2, 3]) 2 sc_row_told.nd) (dgs_cons (dg_name (vs := [1, 2, 3]) 3 sc_row_told.nd) dgs_nil)))))
  (dss_cons (ds_if (PW.pt (dw_and (dt_cmp (op_neA hr.units) od_ne (dv 2) de_str (nomark _)) (dw_and1 (dt_val (de_call c_is_name hr (by rfl) (da_cons (dv 1) da_nil))))))
  (dss_cons (ds_if (dt_val (de_call c_is_name hr (by rfl) (da_cons (dv 3) da_nil)))
  (dss_one (ds_ret (de_tup (da_cons de_str (da_cons (dv 1) (da_cons (dv 3) da_nil))))))
  dss_nil)
  (dss_cons (ds_set 4 sc_row_told.nd (de_call c_integer_told hr (by rfl) (da_cons (dv 3) da_nil)))
  (dss_one (ds_ret (de_if (dt_cmp op_notN od_notN (dv 4) de_non (nomark _)) (de_tup (da_cons de_str (da_cons (dv 1) (da_cons (dv 4) da_nil)))) (de_call c_note_told hr (by rfl) (da_cons (dv 1) (da_cons (dv 3) da_nil))))))))
  dss_nil)
  (dss_cons (ds_asg (de_partition (dv 0) de_str) (dg_tup (by rfl) (dgs_cons (dg_name (vs := [5, 2, 1]) 5 sc_row_told.nd) (dgs_cons (dg_name (vs := [5, 2, 1]) 2 sc_row_told.nd) (dgs_cons (dg_name (vs := [5, 2, 1]) 1 sc_row_told.nd) dgs_nil)))))
  (dss_cons (ds_if (PW.pt (dw_and (dt_cmp op_in_seq (od_inS false) (dv 5) (de_tup (da_cons de_str (da_cons de_str da_nil))) (by rfl)) (dw_and1 (dt_val (de_call c_is_name hr (by rfl) (da_cons (dv 1) da_nil))))))
  (dss_one (ds_ret (de_tup (da_cons (dv 5) (da_cons (dv 1) da_nil)))))
  dss_nil)
  (dss_one (ds_ret de_non))))))

abbrev s_Level_d__init_d_ : Stmt := inClass (top 39) 0
abbrev N_Level_d__init_d_ : List Str := ["self", "word", "first"]
theorem sc_Level_d__init_d_ : FnScope N_Level_d__init_d_ ["self", "word", "first"] (defScope s_Level_d__init_d_) := ⟨rfl, rfl, rfl, by decide +kernel, rfl, by decide +kernel, by decide +kernel⟩
def W_Level_d__init_d_ (C_Level : Addr) : DS :=
  (wSeq (wSetF C_Level "kept_word" (wVar 0) (wVar 1))
  (wSeq (wSetF C_Level "kept_rows" (wVar 0) (wLst wNil))
  (wSetF C_Level "kept_first" (wVar 0) (wVar 2))))
theorem d_Level_d__init_d_ {P : Program} {w : World} {K : PySem.W.Frag} {mg : Str → Option Value} {base : Heap} {k : Nat} {W : WX} {C_Level : Addr} (cl_Level : Cls K C_Level) (n_Level_kept_first : NoAttr K C_Level "kept_first") (n_Level_kept_rows : NoAttr K C_Level "kept_rows") (n_Level_kept_word : NoAttr K C_Level "kept_word") {f : Addr} (cdv : Value) (A : Around) (outer : List Env) (s : Shared) (H : Hp) (E : XK)
    (hr : Room k (A.deeper (PyProof.Rows.envOfC "Level.__init__" (defScope s_Level_d__init_d_) s.heap.objs.size f cdv))) :
    PSs (cxOf CX0 P w K mg base N_Level_d__init_d_ "Level.__init__" (defScope s_Level_d__init_d_) f cdv A outer s H E).nox (defBody s_Level_d__init_d_) (liftS K W (W_Level_d__init_d_ C_Level)) :=
  (dss_cons (ds_setF cl_Level n_Level_kept_word (dv 0) (dv 1))
  (dss_cons (ds_setF cl_Level n_Level_kept_rows (dv 0) (de_lst da_nil))
  (dss_one (ds_setF cl_Level n_Level_kept_first (dv 0) (dv 2)))))

abbrev s_Lines_d__init_d_ : Stmt := inClass (top 40) 0
abbrev N_Lines_d__init_d_ : List Str := ["self"]
theorem sc_Lines_d__init_d_ : FnScope N_Lines_d__init_d_ ["self"] (defScope s_Lines_d__init_d_) := ⟨rfl, rfl, rfl, by decide +kernel, rfl, by decide +kernel, by decide +kernel⟩
def W_Lines_d__init_d_ (K : PySem.W.Frag) (C_Level : Addr) (C_Lines : Addr) (sp_Level : DSp) : DS :=
  (wSetF C_Lines "kept_levels" (wVar 0) (wLst (wCons (wMake K C_Level sp_Level (wCons (wC (.str "all")) (wCons (wC .non) wNil))) wNil)))
theorem d_Lines_d__init_d_ {P : Program} {w : World} {K : PySem.W.Frag} {mg : Str → Option Value} {base : Heap} {k : Nat} {W : WX} {C_Level : Addr} {C_Lines : Addr} {sp_Level : DSp} (cl_Lines : Cls K C_Lines) {k_Level : Nat} (m_Level : CalM P w K mg base k_Level "Level" C_Level ["self", "word", "first"] sp_Level) (hk_Level : k_Level + 1 ≤ k) (n_Lines_kept_levels : NoAttr K C_Lines "kept_levels") {f : Addr} (cdv : Value) (A : Around) (outer : List Env) (s : Shared) (H : Hp) (E : XK)
    (hr : Room k (A.deeper (PyProof.Rows.envOfC "Lines.__init__" (defScope s_Lines_d__init_d_) s.heap.objs.size f cdv))) :
    PSs (cxOf CX0 P w K mg base N_Lines_d__init_d_ "Lines.__init__" (defScope s_Lines_d__init_d_) f cdv A outer s H E).nox (defBody s_Lines_d__init_d_) (liftS K W (W_Lines_d__init_d_ K C_Level C_Lines sp_Level)) :=
  (dss_one (ds_setF cl_Lines n_Lines_kept_levels (dv 0) (de_lst (da_cons (de_make m_Level (hr.mono hk_Level) (by rfl) (da_cons de_str (da_cons de_non da_nil))) da_nil))))

abbrev s_Lines_row_of : Stmt := inClass (top 40) 1
abbrev N_Lines_row_of : List Str := ["self", "text"]
theorem sc_Lines_row_of : FnScope N_Lines_row_of ["self", "text"] (defScope s_Lines_row_of) := ⟨rfl, rfl, rfl, by decide +kernel, rfl, by decide +kernel, by decide +kernel⟩
def W_Lines_row_of (sp_row_told : DSp) : DS :=
  (wRet (wCallF sp_row_told (wCons (wVar 1) wNil)))
theorem d_Lines_row_of {P : Program} {w : World} {K : PySem.W.Frag} {mg : Str → Option Value} {base : Heap} {k : Nat} {W : WX} {sp_row_told : DSp} (c_row_told : Cal P w K mg base k "row_told" ["text"] sp_row_told) {f : Addr} (cdv : Value) (A : Around) (outer : List Env) (s : Shared) (H : Hp) (E : XK)
    (hr : Room k (A.deeper (PyProof.Rows.envOfC "Lines.row_of" (defScope s_Lines_row_of) s.heap.objs.size f cdv))) :
    PSs (cxOf CX0 P w K mg base N_Lines_row_of "Lines.row_of" (defScope s_Lines_row_of) f cdv A outer s H E).nox (defBody s_Lines_row_of) (liftS K W (W_Lines_row_of sp_row_told)) :=
  (dss_one (ds_ret (de_call c_row_told hr (by rfl) (da_cons (dv 1) da_nil))))

abbrev s_Lines_shrink : Stmt := inClass (top 40) 2
abbrev N_Lines_shrink : List Str := ["self", "many", "number", "level", "rows", "row"]
theorem sc_Lines_shrink : FnScope N_Lines_shrink ["self", "many", "number"] (defScope s_Lines_shrink) := ⟨rfl, rfl, rfl, by decide +kernel, rfl, by decide +kernel, by decide +kernel⟩
def W_Lines_shrink (C_Level : Addr) (C_Lines : Addr) : DS :=
  (wWhile (wB (wOp (rCmpI fun i j => decide (j < i)) (wCall rLenA (wCons (wFld C_Lines "kept_levels" (wVar 0)) wNil)) (wVar 1)))
  (wSeq (wAsg (wPop (wFld C_Lines "kept_levels" (wVar 0))) (wName 3))
  (wSeq (wAsg (wCall rTuple (wCons (wFld C_Level "kept_rows" (wVar 3)) wNil)) (wName 4))
  (wSeq (wIfS (wB (wOp (rEqB false) (wFld C_Level "kept_word" (wVar 3)) (wC (.str "either"))))
  wNever
  wNext)
  (wSeq (wAsg (wIf (wB (wOp (rEqB false) (wFld C_Level "kept_word" (wVar 3)) (wC (.str "again")))) (wTup (wCons (wC (.str "again")) (wCons (wVar 4) wNil))) (wTup (wCons (wC (.str "either")) (wCons (wFld C_Level "kept_first" (wVar 3)) (wCons (wVar 4) wNil))))) (wName 5))
  (wDrop (wAppend (wFld C_Level "kept_rows" (wOp rIx2 (wFld C_Lines "kept_levels" (wVar 0)) (wNeg (wC (.int 1))))) (wVar 5))))))))
theorem d_Lines_shrink {P : Program} {w : World} {K : PySem.W.Frag} {mg : Str → Option Value} {base : Heap} {k : Nat} {W : WX} {C_Level : Addr} {C_Lines : Addr} (B : Bi mg) (cl_Level : Cls K C_Level) (cl_Lines : Cls K C_Lines) (n_Level_kept_first : NoAttr K C_Level "kept_first") (n_Level_kept_rows : NoAttr K C_Level "kept_rows") (n_Level_kept_word : NoAttr K C_Level "kept_word") (n_Lines_kept_levels : NoAttr K C_Lines "kept_levels") {f : Addr} (cdv : Value) (A : Around) (outer : List Env) (s : Shared) (H : Hp) (E : XK)
    (hr : Room k (A.deeper (PyProof.Rows.envOfC "Lines.shrink" (defScope s_Lines_shrink) s.heap.objs.size f cdv))) :
    PSs (cxOf CX0 P w K mg base N_Lines_shrink "Lines.shrink" (defScope s_Lines_shrink) f cdv A outer s H E).nox (defBody s_Lines_shrink) (liftS K W (W_Lines_shrink C_Level C_Lines)) :=
  (dss_one (ds_while PassesOwn.never (dt_cmp op_gt od_cmpI (de_callB call_lenA cd_lenA (by rfl) B.len PySem.boot_len (da_cons (de_fld cl_Lines n_Lines_kept_levels (dv 0)) da_nil)) (dv 1) (nomark _))
  (dss_cons (ds_set 3 sc_Lines_shrink.nd (de_pop (de_fld cl_Lines n_Lines_kept_levels (dv 0))))
  (dss_cons (ds_set 4 sc_Lines_shrink.nd (de_callTy call_tuple_of cd_tuple (by rfl) B.tuple PyProof.Rows.boot_tuple (da_cons (de_fld cl_Level n_Level_kept_rows (dv 3)) da_nil)))
  (dss_cons (ds_if (dt_cmp (op_eqA hr.units) od_eq (de_fld cl_Level n_Level_kept_word (dv 3)) de_str (nomark _))
  (dss_one ds_never)
  dss_nil)
  (dss_cons (ds_set 5 sc_Lines_shrink.nd (de_if (dt_cmp (op_eqA hr.units) od_eq (de_fld cl_Level n_Level_kept_word (dv 3)) de_str (nomark _)) (de_tup (da_cons de_str (da_cons (dv 4) da_nil))) (de_tup (da_cons de_str (da_cons (de_fld cl_Level n_Level_kept_first (dv 3)) (da_cons (dv 4) da_nil))))))
  (dss_one (ds_expr (de_append (de_fld cl_Level n_Level_kept_rows (de_ix ix_seq od_ix (de_fld cl_Lines n_Lines_kept_levels (dv 0)) (de_neg de_int))) (dv 5))))))))))

abbrev s_Lines_take_or : Stmt := inClass (top 40) 3
abbrev N_Lines_take_or : List Str := ["self", "deep", "number", "level"]
theorem sc_Lines_take_or : FnScope N_Lines_take_or ["self", "deep", "number"] (defScope s_Lines_take_or) := ⟨rfl, rfl, rfl, by decide +kernel, rfl, by decide +kernel, by decide +kernel⟩
def W_Lines_take_or (K : PySem.W.Frag) (C_Level : Addr) (C_Lines : Addr) (sm_Lines_shrink : DSp) (sp_Level : DSp) : DS :=
  (wSeq (wIfS (wB (wOp (rCmpI fun i j => decide (j < i)) (wOp rAdd (wVar 1) (wC (.int 2))) (wCall rLenA (wCons (wFld C_Lines "kept_levels" (wVar 0)) wNil))))
  wNever
  wNext)
  (wSeq (wDrop (wMeth C_Lines "shrink" sm_Lines_shrink (wVar 0) (wCons (wOp rAdd (wVar 1) (wC (.int 2))) (wCons (wVar 2) wNil))))
  (wSeq (wAsg (wPop (wFld C_Lines "kept_levels" (wVar 0))) (wName 3))
  (wSeq (wIfS (wB (wOp (rEqB true) (wFld C_Level "kept_word" (wVar 3)) (wC (.str "either"))))
  wNever
  wNext)
  (wDrop (wAppend (wFld C_Lines "kept_levels" (wVar 0)) (wMake K C_Level sp_Level (wCons (wC (.str "or")) (wCons (wCall rTuple (wCons (wFld C_Level "kept_rows" (wVar 3)) wNil)) wNil)))))))))
theorem d_Lines_take_or {P : Program} {w : World} {K : PySem.W.Frag} {mg : Str → Option Value} {base : Heap} {k : Nat} {W : WX} {C_Level : Addr} {C_Lines : Addr} {sm_Lines_shrink : DSp} {sp_Level : DSp} (B : Bi mg) (cl_Level : Cls K C_Level) (cl_Lines : Cls K C_Lines) {k_Level : Nat} (m_Level : CalM P w K mg base k_Level "Level" C_Level ["self", "word", "first"] sp_Level) (hk_Level : k_Level + 1 ≤ k) (me_Lines_shrink : CalMe P w K mg base k C_Lines "shrink" ["self", "many", "number"] sm_Lines_shrink) (n_Level_kept_rows : NoAttr K C_Level "kept_rows") (n_Level_kept_word : NoAttr K C_Level "kept_word") (n_Lines_kept_levels : NoAttr K C_Lines "kept_levels") {f : Addr} (cdv : Value) (A : Around) (outer : List Env) (s : Shared) (H : Hp) (E : XK)
    (hr : Room k (A.deeper (PyProof.Rows.envOfC "Lines.take_or" (defScope s_Lines_take_or) s.heap.objs.size f cdv))) :
    PSs (cxOf CX0 P w K mg base N_Lines_take_or "Lines.take_or" (defScope s_Lines_take_or) f cdv A outer s H E).nox (defBody s_Lines_take_or) (liftS K W (W_Lines_take_or K C_Level C_Lines sm_Lines_shrink sp_Level)) :=
  (dss_cons (ds_if (dt_cmp op_gt od_cmpI (de_op op_addV od_add (dv 1) de_int) (de_callB call_lenA cd_lenA (by rfl) B.len PySem.boot_len (da_cons (de_fld cl_Lines n_Lines_kept_levels (dv 0)) da_nil)) (nomark _))
  (dss_one ds_never)
  dss_nil)
  (dss_cons (ds_expr (de_meth me_Lines_shrink hr (dv 0) (da_cons (de_op op_addV od_add (dv 1) de_int) (da_cons (dv 2) da_nil))))
  (dss_cons (ds_set 3 sc_Lines_take_or.nd (de_pop (de_fld cl_Lines n_Lines_kept_levels (dv 0))))
  (dss_cons (ds_if (dt_cmp (op_neA hr.units) od_ne (de_fld cl_Level n_Level_kept_word (dv 3)) de_str (nomark _))
  (dss_one ds_never)
  dss_nil)
  (dss_one (ds_expr (de_append (de_fld cl_Lines n_Lines_kept_levels (dv 0)) (de_make m_Level (hr.mono hk_Level) (by rfl) (da_cons de_str (da_cons (de_callTy call_tuple_of cd_tuple (by rfl) B.tuple PyProof.Rows.boot_tuple (da_cons (de_fld cl_Level n_Level_kept_rows (dv 3)) da_nil)) da_nil))))))))))
end P3

namespace P3
open PySem PySem.Spec L2 DL

abbrev s_Lines_take_row : Stmt := inClass (top 40) 4
abbrev N_Lines_take_row : List Str := ["self", "text", "deep", "number", "row"]
theorem sc_Lines_take_row : FnScope N_Lines_take_row ["self", "text", "deep", "number"] (defScope s_Lines_take_row) := ⟨rfl, rfl, rfl, by decide +kernel, rfl, by decide +kernel, by decide +kernel⟩
def W_Lines_take_row (K : PySem.W.Frag) (C_Level : Addr) (C_Lines : Addr) (sm_Lines_row_of : DSp) (sm_Lines_shrink : DSp) (sp_Level : DSp) : DS :=
  (wSeq (wIfS (wB (wOp (rCmpI fun i j => decide (j < i)) (wOp rAdd (wVar 2) (wC (.int 1))) (wCall rLenA (wCons (wFld C_Lines "kept_levels" (wVar 0)) wNil))))
  wNever
  wNext)
  (wSeq (wAsg (wIf (wB (wOp (rInS false) (wVar 1) (wTup (wCons (wC (.str "either")) (wCons (wC (.str "again")) wNil))))) (wC .non) (wMeth C_Lines "row_of" sm_Lines_row_of (wVar 0) (wCons (wVar 1) wNil))) (wName 4))
  (wSeq (wIfS (wAnd (wB (wOp (rIsN false) (wVar 4) (wC .non))) (wB (wOp (rInS true) (wVar 1) (wTup (wCons (wC (.str "either")) (wCons (wC (.str "again")) wNil))))))
  wNever
  wNext)
  (wSeq (wDrop (wMeth C_Lines "shrink" sm_Lines_shrink (wVar 0) (wCons (wOp rAdd (wVar 2) (wC (.int 1))) (wCons (wVar 3) wNil))))
  (wIfS (wB (wOp (rIsN false) (wVar 4) (wC .non)))
  (wDrop (wAppend (wFld C_Lines "kept_levels" (wVar 0)) (wMake K C_Level sp_Level (wCons (wVar 1) (wCons (wC .non) wNil)))))
  (wDrop (wAppend (wFld C_Level "kept_rows" (wOp rIx2 (wFld C_Lines "kept_levels" (wVar 0)) (wNeg (wC (.int 1))))) (wVar 4))))))))
theorem d_Lines_take_row {P : Program} {w : World} {K : PySem.W.Frag} {mg : Str → Option Value} {base : Heap} {k : Nat} {W : WX} {C_Level : Addr} {C_Lines : Addr} {sm_Lines_row_of : DSp} {sm_Lines_shrink : DSp} {sp_Level : DSp} (B : Bi mg) (cl_Level : Cls K C_Level) (cl_Lines : Cls K C_Lines) {k_Level : Nat} (m_Level : CalM P w K mg base k_Level "Level" C_Level ["self", "word", "first"] sp_Level) (hk_Level : k_Level + 1 ≤ k) (me_Lines_row_of : CalMe P w K mg base k C_Lines "row_of" ["self", "text"] sm_Lines_row_of) (me_Lines_shrink : CalMe P w K mg base k C_Lines "shrink" ["self", "many", "number"] sm_Lines_shrink) (n_Level_kept_rows : NoAttr K C_Level "kept_rows") (n_Lines_kept_levels : NoAttr K C_Lines "kept_levels") {f : Addr} (cdv : Value) (A : Around) (outer : List Env) (s : Shared) (H : Hp) (E : XK)
    (hr : Room k (A.deeper (PyProof.Rows.envOfC "Lines.take_row" (defScope s_Lines_take_row) s.heap.objs.size f cdv))) :
    PSs (cxOf CX0 P w K mg base N_Lines_take_row "Lines.take_row" (defScope s_Lines_take_row) f cdv A outer s H E).nox (defBody s_Lines_take_row) (liftS K W (W_Lines_take_row K C_Level C_Lines sm_Lines_row_of sm_Lines_shrink sp_Level)) :=
  (dss_cons (ds_if (dt_cmp op_gt od_cmpI (de_op op_addV od_add (dv 2) de_int) (de_callB call_lenA cd_lenA (by rfl) B.len PySem.boot_len (da_cons (de_fld cl_Lines n_Lines_kept_levels (dv 0)) da_nil)) (nomark _))
  (dss_one ds_never)
  dss_nil)
  (dss_cons (ds_set 4 sc_Lines_take_row.nd (de_if (dt_cmp op_in_seq (od_inS false) (dv 1) (de_tup (da_cons de_str (da_cons de_str da_nil))) (by rfl)) de_non (de_meth me_Lines_row_of hr (dv 0) (da_cons (dv 1) da_nil))))
  (dss_cons (ds_if (PW.pt (dw_and (dt_cmp op_isN od_isN (dv 4) de_non (nomark _)) (dw_and1 (dt_cmp op_notIn_seq (od_inS true) (dv 1) (de_tup (da_cons de_str (da_cons de_str da_nil))) (by rfl)))))
  (dss_one ds_never)
  dss_nil)
  (dss_cons (ds_expr (de_meth me_Lines_shrink hr (dv 0) (da_cons (de_op op_addV od_add (dv 2) de_int) (da_cons (dv 3) da_nil))))
  (dss_one (ds_if (dt_cmp op_isN od_isN (dv 4) de_non (nomark _))
  (dss_one (ds_expr (de_append (de_fld cl_Lines n_Lines_kept_levels (dv 0)) (de_make m_Level (hr.mono hk_Level) (by rfl) (da_cons (dv 1) (da_cons de_non da_nil))))))
  (dss_one (ds_expr (de_append (de_fld cl_Level n_Level_kept_rows (de_ix ix_seq od_ix (de_fld cl_Lines n_Lines_kept_levels (dv 0)) (de_neg de_int))) (dv 4))))))))))

abbrev s_blanks_ahead : Stmt := top 41
abbrev N_blanks_ahead : List Str := ["line", "many"]
theorem sc_blanks_ahead : FnScope N_blanks_ahead ["line"] (defScope s_blanks_ahead) := ⟨rfl, rfl, rfl, by decide +kernel, rfl, by decide +kernel, by decide +kernel⟩
def W_blanks_ahead : DS :=
  (wSeq (wAsg (wC (.int 0)) (wName 1))
  (wSeq (wWhile (wAnd (wB (wOp (rCmpI fun i j => decide (i < j)) (wVar 1) (wCall rLenA (wCons (wVar 0) wNil)))) (wB (wOp (rEqB false) (wOp rIx2 (wVar 0) (wVar 1)) (wC (.str " ")))))
  (wAugI 1 (wC (.int 1)) (fun i j => i + j)))
  (wRet (wVar 1))))
theorem d_blanks_ahead {P : Program} {w : World} {K : PySem.W.Frag} {mg : Str → Option Value} {base : Heap} {k : Nat} {W : WX} (B : Bi mg) {f : Addr} (cdv : Value) (A : Around) (outer : List Env) (s : Shared) (H : Hp) (E : XK)
    (hr : Room k (A.deeper (PyProof.Rows.envOfC "blanks_ahead" (defScope s_blanks_ahead) s.heap.objs.size f cdv))) :
    PSs (cxOf CX0 P w K mg base N_blanks_ahead "blanks_ahead" (defScope s_blanks_ahead) f cdv A outer s H E).nox (defBody s_blanks_ahead) (liftS K W (W_blanks_ahead)) :=
  (dss_cons (ds_set 1 sc_blanks_ahead.nd de_int)
  (dss_cons (ds_while PassesOwn.never (PW.pt (dw_and (dt_cmp op_lt od_cmpI (dv 1) (de_callB call_lenA cd_lenA (by rfl) B.len PySem.boot_len (da_cons (dv 0) da_nil)) (nomark _)) (dw_and1 (dt_cmp (op_eqA hr.units) od_eq (de_ix ix_seq od_ix (dv 0) (dv 1)) de_str (nomark _)))))
  (dss_one (ds_augI 1 sc_blanks_ahead.nd de_int ip_add)))
  (dss_one (ds_ret (dv 1)))))

abbrev s_read_program : Stmt := top 42
abbrev N_read_program : List Str := ["text", "rows", "lines", "at", "line", "many"]
theorem sc_read_program : FnScope N_read_program ["text"] (defScope s_read_program) := ⟨rfl, rfl, rfl, by decide +kernel, rfl, by decide +kernel, by decide +kernel⟩
def W_read_program (K : PySem.W.Frag) (C_Level : Addr) (C_Lines : Addr) (C_Program : Addr) (OC : Addr → Bool) (sm_Lines_shrink : DSp) (sm_Lines_take_or : DSp) (sm_Lines_take_row : DSp) (sp_Lines : DSp) (sp_Program : DSp) (sp_blanks_ahead : DSp) : DS :=
  (wSeq (wIfS (wNot (wB (wIsi (ansB .str OC) (wVar 0))))
  wNever
  wNext)
  (wSeq (wAsg (wSplit (wVar 0) (wC (.str "\n"))) (wName 1))
  (wSeq (wAsg (wMake K C_Lines sp_Lines wNil) (wName 2))
  (wSeq (wFor (wIEnumL (wSl (wVar 1) wNoPart (wPart (wNeg (wC (.int 1)))))) (wGTup 2 (wGCons (wName 3) (wGCons (wName 4) wGNil)))
  (wSeq (wAsg (wCallF sp_blanks_ahead (wCons (wVar 4) wNil)) (wName 5))
  (wSeq (wIfS (wB (wOp (rEqB false) (wOp rMod (wVar 5) (wC (.int 2))) (wC (.int 1))))
  wNever
  wNext)
  (wIfS (wB (wOp (rEqB false) (wSl (wVar 4) (wPart (wVar 5)) wNoPart) (wC (.str "or"))))
  (wDrop (wMeth C_Lines "take_or" sm_Lines_take_or (wVar 2) (wCons (wOp rDiv (wVar 5) (wC (.int 2))) (wCons (wOp rAdd (wVar 3) (wC (.int 1))) wNil))))
  (wDrop (wMeth C_Lines "take_row" sm_Lines_take_row (wVar 2) (wCons (wSl (wVar 4) (wPart (wVar 5)) wNoPart) (wCons (wOp rDiv (wVar 5) (wC (.int 2))) (wCons (wOp rAdd (wVar 3) (wC (.int 1))) wNil)))))))))
  (wSeq (wIfS (wB (wOp (rEqB true) (wOp rIx2 (wVar 1) (wNeg (wC (.int 1)))) (wC (.str ""))))
  wNever
  wNext)
  (wSeq (wDrop (wMeth C_Lines "shrink" sm_Lines_shrink (wVar 2) (wCons (wC (.int 1)) (wCons (wCall rLenA (wCons (wVar 1) wNil)) wNil))))
  (wRet (wMake K C_Program sp_Program (wCons (wCall rTuple (wCons (wFld C_Level "kept_rows" (wOp rIx2 (wFld C_Lines "kept_levels" (wVar 2)) (wC (.int 0)))) wNil)) wNil)))))))))
theorem d_read_program {P : Program} {w : World} {K : PySem.W.Frag} {mg : Str → Option Value} {base : Heap} {k : Nat} {W : WX} {C_Level : Addr} {C_Lines : Addr} {C_Program : Addr} {OC : Addr → Bool} {sm_Lines_shrink : DSp} {sm_Lines_take_or : DSp} {sm_Lines_take_row : DSp} {sp_Lines : DSp} {sp_Program : DSp} {sp_blanks_ahead : DSp} (B : Bi mg) (c_blanks_ahead : Cal P w K mg base k "blanks_ahead" ["line"] sp_blanks_ahead) (cl_Level : Cls K C_Level) (cl_Lines : Cls K C_Lines) (hOC : ∀ (n : Tg) (C : Addr), OC C = true → ObjC K C ∧ PySem.W.kitOne K (.ref C) (.type n.nm) = some false) {k_Lines : Nat} (m_Lines : CalM P w K mg base k_Lines "Lines" C_Lines ["self"] sp_Lines) (hk_Lines : k_Lines + 1 ≤ k) {k_Program : Nat} (m_Program : CalM P w K mg base k_Program "Program" C_Program ["self", "block"] sp_Program) (hk_Program : k_Program + 1 ≤ k) (me_Lines_shrink : CalMe P w K mg base k C_Lines "shrink" ["self", "many", "number"] sm_Lines_shrink) (me_Lines_take_or : CalMe P w K mg base k C_Lines "take_or" ["self", "deep", "number"] sm_Lines_take_or) (me_Lines_take_row : CalMe P w K mg base k C_Lines "take_row" ["self", "text", "deep", "number"] sm_Lines_take_row) (n_Level_kept_rows : NoAttr K C_Level "kept_rows") (n_Lines_kept_levels : NoAttr K C_Lines "kept_levels") {f : Addr} (cdv : Value) (A : Around) (outer : List Env) (s : Shared) (H : Hp) (E : XK)
    (hr : Room k (A.deeper (PyProof.Rows.envOfC "read_program" (defScope s_read_program) s.heap.objs.size f cdv))) :
    PSs (cxOf CX0 P w K mg base N_read_program "read_program" (defScope s_read_program) f cdv A outer s H E).nox (defBody s_read_program) (liftS K W (W_read_program K C_Level C_Lines C_Program OC sm_Lines_shrink sm_Lines_take_or sm_Lines_take_row sp_Lines sp_Program sp_blanks_ahead)) :=
  (dss_cons (ds_if (dt_not (dt_val (de_isi (isA_B (n := .str) (hOC .str)) (by rfl) B.isinstance (dv 0) (pe_bltn (by rfl) B.str PyProof.Rows.boot_str (by rfl)))))
  (dss_one ds_never)
  dss_nil)
  (dss_cons (ds_set 1 sc_read_program.nd (de_split (dv 0) de_str))
  (dss_cons (ds_set 2 sc_read_program.nd (de_make0 m_Lines (hr.mono hk_Lines) (by rfl)))
  (dss_cons (ds_for PassesOwn.never (by rfl) (di_enumL (by rfl) B.enumerate (de_slice (dv 1) do_none (do_some (de_neg de_int)))) (dg_tup (by rfl) (dgs_cons (dg_name (vs := [3, 4]) 3 sc_read_program.nd) (dgs_cons (dg_name (vs := [3, 4]) 4 sc_read_program.nd) dgs_nil)))
  (dss_cons (ds_set 5 sc_read_program.nd (de_call c_blanks_ahead hr (by rfl) (da_cons (dv 4) da_nil)))
  (dss_cons (ds_if (dt_cmp (op_eqA hr.units) od_eq (de_op op_mod od_I2 (dv 5) de_int) de_int (nomark _))
  (dss_one ds_never)
  dss_nil)
  (dss_one (ds_if (dt_cmp (op_eqA hr.units) od_eq (de_slice (dv 4) (do_some (dv 5)) do_none) de_str (nomark _))
  (dss_one (ds_expr (de_meth me_Lines_take_or hr (dv 2) (da_cons (de_op op_fdiv od_I2 (dv 5) de_int) (da_cons (de_op op_addV od_add (dv 3) de_int) da_nil)))))
  (dss_one (ds_expr (de_meth me_Lines_take_row hr (dv 2) (da_cons (de_slice (dv 4) (do_some (dv 5)) do_none) (da_cons (de_op op_fdiv od_I2 (dv 5) de_int) (da_cons (de_op op_addV od_add (dv 3) de_int) da_nil)))))))))))
  (dss_cons (ds_if (dt_cmp (op_neA hr.units) od_ne (de_ix ix_seq od_ix (dv 1) (de_neg de_int)) de_str (nomark _))
  (dss_one ds_never)
  dss_nil)
  (dss_cons (ds_expr (de_meth me_Lines_shrink hr (dv 2) (da_cons de_int (da_cons (de_callB call_lenA cd_lenA (by rfl) B.len PySem.boot_len (da_cons (dv 1) da_nil)) da_nil))))
  (dss_one (ds_ret (de_make m_Program (hr.mono hk_Program) (by rfl) (da_cons (de_callTy call_tuple_of cd_tuple (by rfl) B.tuple PyProof.Rows.boot_tuple (da_cons (de_fld cl_Level n_Level_kept_rows (de_ix ix_seq od_ix (de_fld cl_Lines n_Lines_kept_levels (dv 2)) de_int)) da_nil)) da_nil))))))))))

abbrev s__law_hand : Stmt := top 44
abbrev N__law_hand : List Str := ["_law_script", "_law_cells", "_law_cell"]
theorem sc__law_hand : FnScope N__law_hand ["_law_script"] (defScope s__law_hand) := ⟨rfl, rfl, rfl, by decide +kernel, rfl, by decide +kernel, by decide +kernel⟩
def W__law_hand : DS :=
  (wSeq (wAsg (wLcV (wISeq (wSl (wVar 0) wNoPart (wPart (wC (.int 63))))) (wName 2) wYes (wCall rAbs (wCons (wCall rInt (wCons (wVar 2) wNil)) wNil)) [2]) (wName 1))
  (wRet (wLst (wCons (wVar 1) (wCons (wC (.int 0)) (wCons (wC (.int 0)) (wCons (wOp rAdd (wC (.int 1)) (wCall rLenA (wCons (wVar 1) wNil))) (wCons (wC (.int 0)) wNil))))))))
theorem d__law_hand {P : Program} {w : World} {K : PySem.W.Frag} {mg : Str → Option Value} {base : Heap} {k : Nat} {W : WX} (B : Bi mg) {f : Addr} (cdv : Value) (A : Around) (outer : List Env) (s : Shared) (H : Hp) (E : XK)
    (hr : Room k (A.deeper (PyProof.Rows.envOfC "_law_hand" (defScope s__law_hand) s.heap.objs.size f cdv))) :
    PSs (cxOf CX0 P w K mg base N__law_hand "_law_hand" (defScope s__law_hand) f cdv A outer s H E).nox (defBody s__law_hand) (liftS K W (W__law_hand)) :=
  (dss_cons (ds_setLcV (own := [("_law_cell", 2)]) 1 (by rfl) sc__law_hand.nd (di_seq (de_slice (dv 0) do_none (do_some de_int))) (blkOk_by (own := [("_law_cell", 2)]) (N := N__law_hand) (sc := defScope s__law_hand) (by decide +kernel)) (fun _ _ _ _ _ => (dg_name (vs := [2]) 2 sc__law_hand.nd)) (fun _ _ _ _ _ => dts_nil) (fun _ _ _ _ _ => (de_callB call_abs cd_abs (by rfl) B.abs PyProof.Rows.boot_abs (da_cons (de_callTy call_int1 cd_int (by rfl) B.int PyProof.Rows.boot_int (da_cons (dv 2) da_nil)) da_nil))) (sw_true (by rfl) (by rfl) (by rfl) (by decide +kernel)))
  (dss_one (ds_ret (de_lst (da_cons (dv 1) (da_cons de_int (da_cons de_int (da_cons (de_op op_addV od_add de_int (de_callB call_lenA cd_lenA (by rfl) B.len PySem.boot_len (da_cons (dv 1) da_nil))) (da_cons de_int da_nil)))))))))

abbrev s__law_draw : Stmt := top 45
abbrev N__law_draw : List Str := ["_law_hand_here", "_law_many", "_law_cell", "_law_digit", "_law_number"]
theorem sc__law_draw : FnScope N__law_draw ["_law_hand_here", "_law_many"] (defScope s__law_draw) := ⟨rfl, rfl, rfl, by decide +kernel, rfl, by decide +kernel, by decide +kernel⟩
def W__law_draw : DS :=
  (wSeq (wIfS (wAnd (wB (wOp (rEqB false) (wOp rIx2 (wVar 0) (wC (.int 2))) (wC (.int 0)))) (wB (wOp (rCmpI fun i j => decide (i < j)) (wOp rIx2 (wVar 0) (wC (.int 1))) (wCall rLenA (wCons (wOp rIx2 (wVar 0) (wC (.int 0))) wNil)))))
  (wSeq (wAsg (wOp rIx2 (wOp rIx2 (wVar 0) (wC (.int 0))) (wOp rIx2 (wVar 0) (wC (.int 1)))) (wName 2))
  (wSeq (wSetL (wOp rAdd (wOp rIx2 (wVar 0) (wC (.int 1))) (wC (.int 1))) (wVar 0) (wC (.int 1)))
  (wSeq (wSetL (wOp rMod (wCall rInt (wCons (wOp rAdd (wOp rAdd (wOp rMul (wOp rIx2 (wVar 0) (wC (.int 3))) (wC (.int 69621))) (wVar 2)) (wC (.int 11))) wNil)) (wC (.int 2147483629))) (wVar 0) (wC (.int 3)))
  (wIfS (wB (wOp (rCmpI fun i j => decide (j ≤ i)) (wVar 2) (wOp rPow (wC (.int 10)) (wC (.int 18)))))
  (wSetL (wVar 2) (wVar 0) (wC (.int 2)))
  wNext))))
  wNext)
  (wSeq (wIfS (wB (wOp (rCmpI fun i j => decide (j < i)) (wOp rIx2 (wVar 0) (wC (.int 2))) (wC (.int 0))))
  (wSeq (wAsg (wOp rMod (wCall rInt (wCons (wOp rIx2 (wVar 0) (wC (.int 2))) wNil)) (wVar 1)) (wName 3))
  (wSeq (wSetL (wOp rDiv (wOp rIx2 (wVar 0) (wC (.int 2))) (wVar 1)) (wVar 0) (wC (.int 2)))
  (wRet (wVar 3))))
  wNext)
  (wSeq (wSetL (wOp rAdd (wOp rIx2 (wVar 0) (wC (.int 4))) (wC (.int 1))) (wVar 0) (wC (.int 4)))
  (wSeq (wAsg (wOp rMod (wCall rInt (wCons (wOp rMul (wCall rInt (wCons (wOp rAdd (wOp rIx2 (wVar 0) (wC (.int 3))) (wOp rMul (wC (.int 7919)) (wOp rIx2 (wVar 0) (wC (.int 4))))) wNil)) (wC (.int 48271))) wNil)) (wC (.int 2147483647))) (wName 4))
  (wSeq (wAsg (wOp rMod (wCall rInt (wCons (wOp rMul (wVar 4) (wOp rAdd (wOp rDiv (wVar 4) (wC (.int 1009))) (wC (.int 69621)))) wNil)) (wC (.int 2147483647))) (wName 4))
  (wSeq (wAsg (wOp rMod (wCall rInt (wCons (wOp rMul (wVar 4) (wOp rAdd (wOp rDiv (wVar 4) (wC (.int 2003))) (wC (.int 40692)))) wNil)) (wC (.int 2147483399))) (wName 4))
  (wRet (wOp rMod (wCall rInt (wCons (wOp rDiv (wVar 4) (wC (.int 16))) wNil)) (wVar 1)))))))))
theorem d__law_draw {P : Program} {w : World} {K : PySem.W.Frag} {mg : Str → Option Value} {base : Heap} {k : Nat} {W : WX} (B : Bi mg) {f : Addr} (cdv : Value) (A : Around) (outer : List Env) (s : Shared) (H : Hp) (E : XK)
    (hr : Room k (A.deeper (PyProof.Rows.envOfC "_law_draw" (defScope s__law_draw) s.heap.objs.size f cdv))) :
    PSs (cxOf CX0 P w K mg base N__law_draw "_law_draw" (defScope s__law_draw) f cdv A outer s H E).nox (defBody s__law_draw) (liftS K W (W__law_draw)) :=
  (dss_cons (ds_if (PW.pt (dw_and (dt_cmp (op_eqA hr.units) od_eq (de_ix ix_seq od_ix (dv 0) de_int) de_int (nomark _)) (dw_and1 (dt_cmp op_lt od_cmpI (de_ix ix_seq od_ix (dv 0) de_int) (de_callB call_lenA cd_lenA (by rfl) B.len PySem.boot_len (da_cons (de_ix ix_seq od_ix (dv 0) de_int) da_nil)) (nomark _)))))
  (dss_cons (ds_set 2 sc__law_draw.nd (de_ix ix_seq od_ix (de_ix ix_seq od_ix (dv 0) de_int) (de_ix ix_seq od_ix (dv 0) de_int)))
  (dss_cons (ds_setL (de_op op_addV od_add (de_ix ix_seq od_ix (dv 0) de_int) de_int) (dv 0) de_int)
  (dss_cons (ds_setL (de_op op_mod od_I2 (de_callTy call_int1 cd_int (by rfl) B.int PyProof.Rows.boot_int (da_cons (de_op op_addV od_add (de_op op_addV od_add (de_op op_mul od_I2 (de_ix ix_seq od_ix (dv 0) de_int) de_int) (dv 2)) de_int) da_nil)) de_int) (dv 0) de_int)
  (dss_one (ds_if (dt_cmp op_ge od_cmpI (dv 2) (de_op op_pow od_I2 de_int de_int) (nomark _))
  (dss_one (ds_setL (dv 2) (dv 0) de_int))
  dss_nil)))))
  dss_nil)
  (dss_cons (ds_if (dt_cmp op_gt od_cmpI (de_ix ix_seq od_ix (dv 0) de_int) de_int (nomark _))
  (dss_cons (ds_set 3 sc__law_draw.nd (de_op op_mod od_I2 (de_callTy call_int1 cd_int (by rfl) B.int PyProof.Rows.boot_int (da_cons (de_ix ix_seq od_ix (dv 0) de_int) da_nil)) (dv 1)))
  (dss_cons (ds_setL (de_op op_fdiv od_I2 (de_ix ix_seq od_ix (dv 0) de_int) (dv 1)) (dv 0) de_int)
  (dss_one (ds_ret (dv 3)))))
  dss_nil)
  (dss_cons (ds_setL (de_op op_addV od_add (de_ix ix_seq od_ix (dv 0) de_int) de_int) (dv 0) de_int)
  (dss_cons (ds_set 4 sc__law_draw.nd (de_op op_mod od_I2 (de_callTy call_int1 cd_int (by rfl) B.int PyProof.Rows.boot_int (da_cons (de_op op_mul od_I2 (de_callTy call_int1 cd_int (by rfl) B.int PyProof.Rows.boot_int (da_cons (de_op op_addV od_add (de_ix ix_seq od_ix (dv 0) de_int) (de_op op_mul od_I2 de_int (de_ix ix_seq od_ix (dv 0) de_int))) da_nil)) de_int) da_nil)) de_int))
  (dss_cons (ds_set 4 sc__law_draw.nd (de_op op_mod od_I2 (de_callTy call_int1 cd_int (by rfl) B.int PyProof.Rows.boot_int (da_cons (de_op op_mul od_I2 (dv 4) (de_op op_addV od_add (de_op op_fdiv od_I2 (dv 4) de_int) de_int)) da_nil)) de_int))
  (dss_cons (ds_set 4 sc__law_draw.nd (de_op op_mod od_I2 (de_callTy call_int1 cd_int (by rfl) B.int PyProof.Rows.boot_int (da_cons (de_op op_mul od_I2 (dv 4) (de_op op_addV od_add (de_op op_fdiv od_I2 (dv 4) de_int) de_int)) da_nil)) de_int))
  (dss_one (ds_ret (de_op op_mod od_I2 (de_callTy call_int1 cd_int (by rfl) B.int PyProof.Rows.boot_int (da_cons (de_op op_fdiv od_I2 (dv 4) de_int) da_nil)) (dv 1))))))))))

abbrev s__law_any : Stmt := top 46
abbrev N__law_any : List Str := ["_law_hand_here", "_law_things"]
theorem sc__law_any : FnScope N__law_any ["_law_hand_here", "_law_things"] (defScope s__law_any) := ⟨rfl, rfl, rfl, by decide +kernel, rfl, by decide +kernel, by decide +kernel⟩
def W__law_any (sp__law_draw : DSp) : DS :=
  (wRet (wOp rIx2 (wVar 1) (wCallF sp__law_draw (wCons (wVar 0) (wCons (wCall rLenA (wCons (wVar 1) wNil)) wNil)))))
theorem d__law_any {P : Program} {w : World} {K : PySem.W.Frag} {mg : Str → Option Value} {base : Heap} {k : Nat} {W : WX} {sp__law_draw : DSp} (B : Bi mg) (c__law_draw : Cal P w K mg base k "_law_draw" ["_law_hand_here", "_law_many"] sp__law_draw) {f : Addr} (cdv : Value) (A : Around) (outer : List Env) (s : Shared) (H : Hp) (E : XK)
    (hr : Room k (A.deeper (PyProof.Rows.envOfC "_law_any" (defScope s__law_any) s.heap.objs.size f cdv))) :
    PSs (cxOf CX0 P w K mg base N__law_any "_law_any" (defScope s__law_any) f cdv A outer s H E).nox (defBody s__law_any) (liftS K W (W__law_any sp__law_draw)) :=
  (dss_one (ds_ret (de_ix ix_seq od_ix (dv 1) (de_call c__law_draw hr (by rfl) (da_cons (dv 0) (da_cons (de_callB call_lenA cd_lenA (by rfl) B.len PySem.boot_len (da_cons (dv 1) da_nil)) da_nil))))))

abbrev s__law_plain_row : Stmt := top 47
abbrev N__law_plain_row : List Str := ["_law_hand_here", "_law_names", "_law_ops", "_law_x", "_law_y", "_law_kind", "_law_k"]
theorem sc__law_plain_row : FnScope N__law_plain_row ["_law_hand_here", "_law_names", "_law_ops"] (defScope s__law_plain_row) := ⟨rfl, rfl, rfl, by decide +kernel, rfl, by decide +kernel, by decide +kernel⟩
def W__law_plain_row (sp__law_any : DSp) (sp__law_draw : DSp) : DS :=
  (wSeq (wPar 3 4 (wCons (wCallF sp__law_any (wCons (wVar 0) (wCons (wVar 1) wNil))) (wCons (wCallF sp__law_any (wCons (wVar 0) (wCons (wVar 1) wNil))) wNil)))
  (wSeq (wAsg (wCallF sp__law_draw (wCons (wVar 0) (wCons (wC (.int 8)) wNil))) (wName 5))
  (wSeq (wIfS (wB (wOp (rCmpI fun i j => decide (i < j)) (wVar 5) (wC (.int 4))))
  (wRet (wTup (wCons (wC (.str "note")) (wCons (wVar 3) (wCons (wCallF sp__law_any (wCons (wVar 0) (wCons (wVar 2) wNil))) (wCons (wCall rTuple (wCons (wLcV (wIRng1 (wCallF sp__law_draw (wCons (wVar 0) (wCons (wC (.int 4)) wNil)))) (wName 6) wYes (wCallF sp__law_any (wCons (wVar 0) (wCons (wVar 1) wNil))) [6]) wNil)) wNil))))))
  wNext)
  (wSeq (wIfS (wB (wOp (rEqB false) (wVar 5) (wC (.int 4))))
  (wRet (wTup (wCons (wC (.str "copy")) (wCons (wVar 3) (wCons (wVar 4) wNil)))))
  wNext)
  (wSeq (wIfS (wB (wOp (rEqB false) (wVar 5) (wC (.int 5))))
  (wRet (wTup (wCons (wC (.str "give")) (wCons (wVar 3) (wCons (wCallF sp__law_any (wCons (wVar 0) (wCons (wLstV (wCons (wC (.int 0)) (wCons (wC (.int 1)) (wCons (wNeg (wC (.int 1))) (wCons (wC (.int 7)) (wCons (wOp rPow (wC (.int 10)) (wC (.int 29))) (wCons (wNeg (wC (.int 12))) wNil))))))) wNil))) wNil)))))
  wNext)
  (wRet (wOp rIx2 (wLstV (wCons (wTup (wCons (wC (.str "ask")) (wCons (wVar 3) wNil))) (wCons (wTup (wCons (wC (.str "print")) (wCons (wVar 3) wNil))) wNil))) (wOp rSub (wVar 5) (wC (.int 6))))))))))
theorem d__law_plain_row {P : Program} {w : World} {K : PySem.W.Frag} {mg : Str → Option Value} {base : Heap} {k : Nat} {W : WX} {sp__law_any : DSp} {sp__law_draw : DSp} (B : Bi mg) (c__law_any : Cal P w K mg base k "_law_any" ["_law_hand_here", "_law_things"] sp__law_any) (c__law_draw : Cal P w K mg base k "_law_draw" ["_law_hand_here", "_law_many"] sp__law_draw) {f : Addr} (cdv : Value) (A : Around) (outer : List Env) (s : Shared) (H : Hp) (E : XK)
    (hr : Room k (A.deeper (PyProof.Rows.envOfC "_law_plain_row" (defScope s__law_plain_row) s.heap.objs.size f cdv))) :
    PSs (cxOf CX0 P w K mg base N__law_plain_row "_law_plain_row" (defScope s__law_plain_row) f cdv A outer s H E).nox (defBody s__law_plain_row) (liftS K W (W__law_plain_row sp__law_any sp__law_draw)) :=
  (dss_cons (ds_par 3 4 (by rfl) sc__law_plain_row.nd (da_cons (de_call c__law_any hr (by rfl) (da_cons (dv 0) (da_cons (dv 1) da_nil))) (da_cons (de_call c__law_any hr (by rfl) (da_cons (dv 0) (da_cons (dv 1) da_nil))) da_nil)))
  (dss_cons (ds_set 5 sc__law_plain_row.nd (de_call c__law_draw hr (by rfl) (da_cons (dv 0) (da_cons de_int da_nil))))
  (dss_cons (ds_if (dt_cmp op_lt od_cmpI (dv 5) de_int (nomark _))
  (dss_one (ds_ret (de_tup (da_cons de_str (da_cons (dv 3) (da_cons (de_call c__law_any hr (by rfl) (da_cons (dv 0) (da_cons (dv 2) da_nil))) (da_cons (de_callTy call_tuple_of cd_tuple (by rfl) B.tuple PyProof.Rows.boot_tuple (da_cons (de_lcV (own := [("_law_k", 6)]) (by rfl) sc__law_plain_row.nd (di_rng1 (by rfl) B.range (de_call c__law_draw hr (by rfl) (da_cons (dv 0) (da_cons de_int da_nil)))) (blkOk_by (own := [("_law_k", 6)]) (N := N__law_plain_row) (sc := defScope s__law_plain_row) (by decide +kernel)) (fun _ _ _ _ _ => (dg_name (vs := [6]) 6 sc__law_plain_row.nd)) (fun _ _ _ _ _ => dts_nil) (fun _ _ _ _ _ => (de_call c__law_any hr (by rfl) (da_cons (dv 0) (da_cons (dv 1) da_nil))))) da_nil)) da_nil)))))))
  dss_nil)
  (dss_cons (ds_if (dt_cmp (op_eqA hr.units) od_eq (dv 5) de_int (nomark _))
  (dss_one (ds_ret (de_tup (da_cons de_str (da_cons (dv 3) (da_cons (dv 4) da_nil))))))
  dss_nil)
  (dss_cons (ds_if (dt_cmp (op_eqA hr.units) od_eq (dv 5) de_int (nomark _))
  (dss_one (ds_ret (de_tup (da_cons de_str (da_cons (dv 3) (da_cons (de_call c__law_any hr (by rfl) (da_cons (dv 0) (da_cons (de_lstV (da_cons de_int (da_cons de_int (da_cons (de_neg de_int) (da_cons de_int (da_cons (de_op op_pow od_I2 de_int de_int) (da_cons (de_neg de_int) da_nil))))))) da_nil))) da_nil))))))
  dss_nil)
  (dss_one (ds_ret (de_ix ix_seq od_ix (de_lstV (da_cons (de_tup (da_cons de_str (da_cons (dv 3) da_nil))) (da_cons (de_tup (da_cons de_str (da_cons (dv 3) da_nil))) da_nil))) (de_op op_sub od_sub (dv 5) de_int)))))))))

abbrev s__law_block : Stmt := top 48
abbrev N__law_block : List Str := ["_law_hand_here", "_law_names", "_law_ops", "_law_deep_here", "_law_most", "_law_rows_here", "_law_left", "_law_turn", "_law_inner", "_law_row", "_law_k"]
theorem sc__law_block : FnScope N__law_block ["_law_hand_here", "_law_names", "_law_ops", "_law_deep_here", "_law_most"] (defScope s__law_block) := ⟨rfl, rfl, rfl, by decide +kernel, rfl, by decide +kernel, by decide +kernel⟩
def W__law_block (sp__law_block : DSp) (sp__law_draw : DSp) (sp__law_plain_row : DSp) (sp__law_size : DSp) : DS :=
  (wSeq (wAsg (wLst wNil) (wName 5))
  (wSeq (wAsg (wVar 4) (wName 6))
  (wSeq (wFor (wIRng1 (wCallF sp__law_draw (wCons (wVar 0) (wCons (wIf (wB (wOp (rEqB false) (wVar 3) (wC (.int 1)))) (wC (.int 6)) (wC (.int 4))) wNil)))) (wName 7)
  (wIfS (wAnd (wB (wOp (rCmpI fun i j => decide (j < i)) (wVar 6) (wC (.int 0)))) (wAnd (wB (wOp (rCmpI fun i j => decide (i < j)) (wVar 3) (wC (.int 4)))) (wB (wOp (rEqB false) (wCallF sp__law_draw (wCons (wVar 0) (wCons (wC (.int 3)) wNil))) (wC (.int 0))))))
  (wSeq (wAsg (wLcV (wIRng1 (wC (.int 2))) (wName 10) wYes (wCallF sp__law_block (wCons (wVar 0) (wCons (wVar 1) (wCons (wVar 2) (wCons (wOp rAdd (wVar 3) (wC (.int 1))) (wCons (wOp rDiv (wOp rSub (wVar 6) (wC (.int 1))) (wC (.int 2))) wNil)))))) [10]) (wName 8))
  (wSeq (wAsg (wOp rIx2 (wLstV (wCons (wTup (wCons (wC (.str "either")) (wCons (wOp rIx2 (wVar 8) (wC (.int 0))) (wCons (wOp rIx2 (wVar 8) (wC (.int 1))) wNil)))) (wCons (wTup (wCons (wC (.str "again")) (wCons (wOp rIx2 (wVar 8) (wC (.int 0))) wNil))) wNil))) (wCallF sp__law_draw (wCons (wVar 0) (wCons (wC (.int 2)) wNil)))) (wName 9))
  (wSeq (wDrop (wAppend (wVar 5) (wVar 9)))
  (wAsg (wOp rSub (wVar 6) (wCallF sp__law_size (wCons (wTup (wCons (wVar 9) wNil)) wNil))) (wName 6)))))
  (wIfS (wB (wOp (rCmpI fun i j => decide (j < i)) (wVar 6) (wC (.int 0))))
  (wSeq (wDrop (wAppend (wVar 5) (wCallF sp__law_plain_row (wCons (wVar 0) (wCons (wVar 1) (wCons (wVar 2) wNil))))))
  (wAsg (wOp rSub (wVar 6) (wC (.int 1))) (wName 6)))
  wNext)))
  (wRet (wCall rTuple (wCons (wVar 5) wNil))))))
theorem d__law_block {P : Program} {w : World} {K : PySem.W.Frag} {mg : Str → Option Value} {base : Heap} {k : Nat} {W : WX} {sp__law_block : DSp} {sp__law_draw : DSp} {sp__law_plain_row : DSp} {sp__law_size : DSp} (B : Bi mg) (c__law_block : Cal P w K mg base k "_law_block" ["_law_hand_here", "_law_names", "_law_ops", "_law_deep_here", "_law_most"] sp__law_block) (c__law_draw : Cal P w K mg base k "_law_draw" ["_law_hand_here", "_law_many"] sp__law_draw) (c__law_plain_row : Cal P w K mg base k "_law_plain_row" ["_law_hand_here", "_law_names", "_law_ops"] sp__law_plain_row) (c__law_size : Cal P w K mg base k "_law_size" ["_law_block_here"] sp__law_size) {f : Addr} (cdv : Value) (A : Around) (outer : List Env) (s : Shared) (H : Hp) (E : XK)
    (hr : Room k (A.deeper (PyProof.Rows.envOfC "_law_block" (defScope s__law_block) s.heap.objs.size f cdv))) :
    PSs (cxOf CX0 P w K mg base N__law_block "_law_block" (defScope s__law_block) f cdv A outer s H E).nox (defBody s__law_block) (liftS K W (W__law_block sp__law_block sp__law_draw sp__law_plain_row sp__law_size)) :=
  (dss_cons (ds_set 5 sc__law_block.nd (de_lst da_nil))
  (dss_cons (ds_set 6 sc__law_block.nd (dv 4))
  (dss_cons (ds_for PassesOwn.never (by rfl) (di_rng1 (by rfl) B.range (de_call c__law_draw hr (by rfl) (da_cons (dv 0) (da_cons (de_if (dt_cmp (op_eqA hr.units) od_eq (dv 3) de_int (nomark _)) de_int de_int) da_nil)))) (dg_name (vs := [7]) 7 sc__law_block.nd)
  (dss_one (ds_if (PW.pt (dw_and (dt_cmp op_gt od_cmpI (dv 6) de_int (nomark _)) (dw_and (dt_cmp op_lt od_cmpI (dv 3) de_int (nomark _)) (dw_and1 (dt_cmp (op_eqA hr.units) od_eq (de_call c__law_draw hr (by rfl) (da_cons (dv 0) (da_cons de_int da_nil))) de_int (nomark _))))))
  (dss_cons (ds_setLcV (own := [("_law_k", 10)]) 8 (by rfl) sc__law_block.nd (di_rng1 (by rfl) B.range de_int) (blkOk_by (own := [("_law_k", 10)]) (N := N__law_block) (sc := defScope s__law_block) (by decide +kernel)) (fun _ _ _ _ _ => (dg_name (vs := [10]) 10 sc__law_block.nd)) (fun _ _ _ _ _ => dts_nil) (fun _ _ _ _ _ => (de_call c__law_block hr (by rfl) (da_cons (dv 0) (da_cons (dv 1) (da_cons (dv 2) (da_cons (de_op op_addV od_add (dv 3) de_int) (da_cons (de_op op_fdiv od_I2 (de_op op_sub od_sub (dv 6) de_int) de_int) da_nil))))))) (sw_true (by rfl) (by rfl) (by rfl) (by decide +kernel)))
  (dss_cons (ds_set 9 sc__law_block.nd (de_ix ix_seq od_ix (de_lstV (da_cons (de_tup (da_cons de_str (da_cons (de_ix ix_seq od_ix (dv 8) de_int) (da_cons (de_ix ix_seq od_ix (dv 8) de_int) da_nil)))) (da_cons (de_tup (da_cons de_str (da_cons (de_ix ix_seq od_ix (dv 8) de_int) da_nil))) da_nil))) (de_call c__law_draw hr (by rfl) (da_cons (dv 0) (da_cons de_int da_nil)))))
  (dss_cons (ds_expr (de_append (dv 5) (dv 9)))
  (dss_one (ds_set 6 sc__law_block.nd (de_op op_sub od_sub (dv 6) (de_call c__law_size hr (by rfl) (da_cons (de_tup (da_cons (dv 9) da_nil)) da_nil))))))))
  (dss_one (ds_if (dt_cmp op_gt od_cmpI (dv 6) de_int (nomark _))
  (dss_cons (ds_expr (de_append (dv 5) (de_call c__law_plain_row hr (by rfl) (da_cons (dv 0) (da_cons (dv 1) (da_cons (dv 2) da_nil))))))
  (dss_one (ds_set 6 sc__law_block.nd (de_op op_sub od_sub (dv 6) de_int))))
  dss_nil)))))
  (dss_one (ds_ret (de_callTy call_tuple_of cd_tuple (by rfl) B.tuple PyProof.Rows.boot_tuple (da_cons (dv 5) da_nil)))))))

abbrev s__law_size : Stmt := top 49
abbrev N__law_size : List Str := ["_law_block_here", "_law_found", "_law_row", "_law_inner"]
theorem sc__law_size : FnScope N__law_size ["_law_block_here"] (defScope s__law_size) := ⟨rfl, rfl, rfl, by decide +kernel, rfl, by decide +kernel, by decide +kernel⟩
def W__law_size (sp__law_size : DSp) : DS :=
  (wSeq (wAsg (wC (.int 0)) (wName 1))
  (wSeq (wFor (wISeq (wVar 0)) (wName 2)
  (wSeq (wAsg (wOp rAdd (wVar 1) (wC (.int 1))) (wName 1))
  (wIfS (wB (wOp (rInS false) (wOp rIx2 (wVar 2) (wC (.int 0))) (wTup (wCons (wC (.str "either")) (wCons (wC (.str "again")) wNil)))))
  (wAsg (wOp rAdd (wVar 1) (wCall rSum (wCons (wLcV (wISeq (wSl (wVar 2) (wPart (wC (.int 1))) wNoPart)) (wName 3) wYes (wCallF sp__law_size (wCons (wVar 3) wNil)) [3]) wNil))) (wName 1))
  wNext)))
  (wRet (wVar 1))))
theorem d__law_size {P : Program} {w : World} {K : PySem.W.Frag} {mg : Str → Option Value} {base : Heap} {k : Nat} {W : WX} {sp__law_size : DSp} (B : Bi mg) (c__law_size : Cal P w K mg base k "_law_size" ["_law_block_here"] sp__law_size) {f : Addr} (cdv : Value) (A : Around) (outer : List Env) (s : Shared) (H : Hp) (E : XK)
    (hr : Room k (A.deeper (PyProof.Rows.envOfC "_law_size" (defScope s__law_size) s.heap.objs.size f cdv))) :
    PSs (cxOf CX0 P w K mg base N__law_size "_law_size" (defScope s__law_size) f cdv A outer s H E).nox (defBody s__law_size) (liftS K W (W__law_size sp__law_size)) :=
  (dss_cons (ds_set 1 sc__law_size.nd de_int)
  (dss_cons (ds_for PassesOwn.never (by rfl) (di_seq (dv 0)) (dg_name (vs := [2]) 2 sc__law_size.nd)
  (dss_cons (ds_set 1 sc__law_size.nd (de_op op_addV od_add (dv 1) de_int))
  (dss_one (ds_if (dt_cmp op_in_seq (od_inS false) (de_ix ix_seq od_ix (dv 2) de_int) (de_tup (da_cons de_str (da_cons de_str da_nil))) (by rfl))
  (dss_one (ds_set 1 sc__law_size.nd (de_op op_addV od_add (dv 1) (de_callB (cr_sum (by rfl)) cd_sum (by rfl) B.sum PyProof.Rows.boot_sum (da_cons (de_lcV (own := [("_law_inner", 3)]) (by rfl) sc__law_size.nd (di_seq (de_slice (dv 2) (do_some de_int) do_none)) (blkOk_by (own := [("_law_inner", 3)]) (N := N__law_size) (sc := defScope s__law_size) (by decide +kernel)) (fun _ _ _ _ _ => (dg_name (vs := [3]) 3 sc__law_size.nd)) (fun _ _ _ _ _ => dts_nil) (fun _ _ _ _ _ => (de_call c__law_size hr (by rfl) (da_cons (dv 3) da_nil)))) da_nil)))))
  dss_nil))))
  (dss_one (ds_ret (dv 1)))))

abbrev s__law_drawn : Stmt := top 50
abbrev N__law_drawn : List Str := ["_law_hand_here", "_law_names", "_law_ops"]
theorem sc__law_drawn : FnScope N__law_drawn ["_law_hand_here"] (defScope s__law_drawn) := ⟨rfl, rfl, rfl, by decide +kernel, rfl, by decide +kernel, by decide +kernel⟩
def W__law_drawn (sp__law_any : DSp) (sp__law_block : DSp) (sp__law_draw : DSp) : DS :=
  (wSeq (wAsg (wOp rIx2 (wLstV (wCons (wLstV (wCons (wC (.str "x")) (wCons (wC (.str "yy")) (wCons (wC (.str "either")) (wCons (wC (.str "ask")) (wCons (wC (.str "z")) wNil)))))) (wCons (wLstV (wCons (wC (.str "a")) (wCons (wC (.str "b")) wNil))) (wCons (wLstV (wCons (wC (.str "abcdefgh")) (wCons (wC (.str "or")) (wCons (wC (.str "print")) (wCons (wC (.str "q")) wNil))))) wNil)))) (wCallF sp__law_draw (wCons (wVar 0) (wCons (wC (.int 3)) wNil)))) (wName 1))
  (wSeq (wAsg (wCallF sp__law_any (wCons (wVar 0) (wCons (wLstV (wCons (wLstV (wCons (wC (.str "f")) (wCons (wC (.str "g")) wNil))) (wCons (wLstV (wCons (wC (.str "add")) (wCons (wC (.str "again")) (wCons (wC (.str "or")) wNil)))) (wCons (wLstV (wCons (wC (.str "x")) (wCons (wC (.str "ask")) (wCons (wC (.str "abcdefgh")) wNil)))) wNil)))) wNil))) (wName 2))
  (wRet (wCallF sp__law_block (wCons (wVar 0) (wCons (wVar 1) (wCons (wVar 2) (wCons (wC (.int 1)) (wCons (wC (.int 28)) wNil)))))))))
theorem d__law_drawn {P : Program} {w : World} {K : PySem.W.Frag} {mg : Str → Option Value} {base : Heap} {k : Nat} {W : WX} {sp__law_any : DSp} {sp__law_block : DSp} {sp__law_draw : DSp} (c__law_any : Cal P w K mg base k "_law_any" ["_law_hand_here", "_law_things"] sp__law_any) (c__law_block : Cal P w K mg base k "_law_block" ["_law_hand_here", "_law_names", "_law_ops", "_law_deep_here", "_law_most"] sp__law_block) (c__law_draw : Cal P w K mg base k "_law_draw" ["_law_hand_here", "_law_many"] sp__law_draw) {f : Addr} (cdv : Value) (A : Around) (outer : List Env) (s : Shared) (H : Hp) (E : XK)
    (hr : Room k (A.deeper (PyProof.Rows.envOfC "_law_drawn" (defScope s__law_drawn) s.heap.objs.size f cdv))) :
    PSs (cxOf CX0 P w K mg base N__law_drawn "_law_drawn" (defScope s__law_drawn) f cdv A outer s H E).nox (defBody s__law_drawn) (liftS K W (W__law_drawn sp__law_any sp__law_block sp__law_draw)) :=
  (dss_cons (ds_set 1 sc__law_drawn.nd (de_ix ix_seq od_ix (de_lstV (da_cons (de_lstV (da_cons de_str (da_cons de_str (da_cons de_str (da_cons de_str (da_cons de_str da_nil)))))) (da_cons (de_lstV (da_cons de_str (da_cons de_str da_nil))) (da_cons (de_lstV (da_cons de_str (da_cons de_str (da_cons de_str (da_cons de_str da_nil))))) da_nil)))) (de_call c__law_draw hr (by rfl) (da_cons (dv 0) (da_cons de_int da_nil)))))
  (dss_cons (ds_set 2 sc__law_drawn.nd (de_call c__law_any hr (by rfl) (da_cons (dv 0) (da_cons (de_lstV (da_cons (de_lstV (da_cons de_str (da_cons de_str da_nil))) (da_cons (de_lstV (da_cons de_str (da_cons de_str (da_cons de_str da_nil)))) (da_cons (de_lstV (da_cons de_str (da_cons de_str (da_cons de_str da_nil)))) da_nil)))) da_nil))))
  (dss_one (ds_ret (de_call c__law_block hr (by rfl) (da_cons (dv 0) (da_cons (dv 1) (da_cons (dv 2) (da_cons de_int (da_cons de_int da_nil))))))))))

abbrev s__law_rows : Stmt := top 51
abbrev N__law_rows : List Str := ["_law_block_here", "_law_found", "_law_row", "_law_inner"]
theorem sc__law_rows : FnScope N__law_rows ["_law_block_here"] (defScope s__law_rows) := ⟨rfl, rfl, rfl, by decide +kernel, rfl, by decide +kernel, by decide +kernel⟩
def W__law_rows (sp__law_rows : DSp) : DS :=
  (wSeq (wAsg (wLst wNil) (wName 1))
  (wSeq (wFor (wISeq (wVar 0)) (wName 2)
  (wSeq (wDrop (wAppend (wVar 1) (wVar 2)))
  (wIfS (wB (wOp (rInS false) (wOp rIx2 (wVar 2) (wC (.int 0))) (wTup (wCons (wC (.str "either")) (wCons (wC (.str "again")) wNil)))))
  (wFor (wISeq (wSl (wVar 2) (wPart (wC (.int 1))) wNoPart)) (wName 3)
  (wDrop (wExtend (wVar 1) (wCallF sp__law_rows (wCons (wVar 3) wNil)))))
  wNext)))
  (wRet (wVar 1))))
theorem d__law_rows {P : Program} {w : World} {K : PySem.W.Frag} {mg : Str → Option Value} {base : Heap} {k : Nat} {W : WX} {sp__law_rows : DSp} (c__law_rows : Cal P w K mg base k "_law_rows" ["_law_block_here"] sp__law_rows) {f : Addr} (cdv : Value) (A : Around) (outer : List Env) (s : Shared) (H : Hp) (E : XK)
    (hr : Room k (A.deeper (PyProof.Rows.envOfC "_law_rows" (defScope s__law_rows) s.heap.objs.size f cdv))) :
    PSs (cxOf CX0 P w K mg base N__law_rows "_law_rows" (defScope s__law_rows) f cdv A outer s H E).nox (defBody s__law_rows) (liftS K W (W__law_rows sp__law_rows)) :=
  (dss_cons (ds_set 1 sc__law_rows.nd (de_lst da_nil))
  (dss_cons (ds_for PassesOwn.never (by rfl) (di_seq (dv 0)) (dg_name (vs := [2]) 2 sc__law_rows.nd)
  (dss_cons (ds_expr (de_append (dv 1) (dv 2)))
  (dss_one (ds_if (dt_cmp op_in_seq (od_inS false) (de_ix ix_seq od_ix (dv 2) de_int) (de_tup (da_cons de_str (da_cons de_str da_nil))) (by rfl))
  (dss_one (ds_for PassesOwn.never (by rfl) (di_seq (de_slice (dv 2) (do_some de_int) do_none)) (dg_name (vs := [3]) 3 sc__law_rows.nd)
  (dss_one (ds_expr (de_extend (dv 1) (de_call c__law_rows hr (by rfl) (da_cons (dv 3) da_nil)))))))
  dss_nil))))
  (dss_one (ds_ret (dv 1)))))

abbrev s__law_deep : Stmt := top 52
abbrev N__law_deep : List Str := ["_law_hand_here", "_law_found", "_law_turn"]
theorem sc__law_deep : FnScope N__law_deep ["_law_hand_here"] (defScope s__law_deep) := ⟨rfl, rfl, rfl, by decide +kernel, rfl, by decide +kernel, by decide +kernel⟩
def W__law_deep (sp__law_draw : DSp) : DS :=
  (wSeq (wAsg (wOp rIx2 (wLstV (wCons (wC .non) (wCons (wTup wNil) (wCons (wC (.str "x")) wNil)))) (wCallF sp__law_draw (wCons (wVar 0) (wCons (wC (.int 3)) wNil)))) (wName 1))
  (wSeq (wFor (wIRng1 (wOp rAdd (wC (.int 14)) (wCallF sp__law_draw (wCons (wVar 0) (wCons (wC (.int 8)) wNil))))) (wName 2)
  (wAsg (wOp rIx2 (wLstV (wCons (wLstV (wCons (wVar 1) wNil)) (wCons (wTup (wCons (wVar 1) wNil)) (wCons (wDictV (wPCons (wC (.int 0)) (wVar 1) wPNil)) wNil)))) (wCallF sp__law_draw (wCons (wVar 0) (wCons (wC (.int 3)) wNil)))) (wName 1)))
  (wRet (wVar 1))))
theorem d__law_deep {P : Program} {w : World} {K : PySem.W.Frag} {mg : Str → Option Value} {base : Heap} {k : Nat} {W : WX} {sp__law_draw : DSp} (B : Bi mg) (c__law_draw : Cal P w K mg base k "_law_draw" ["_law_hand_here", "_law_many"] sp__law_draw) {f : Addr} (cdv : Value) (A : Around) (outer : List Env) (s : Shared) (H : Hp) (E : XK)
    (hr : Room k (A.deeper (PyProof.Rows.envOfC "_law_deep" (defScope s__law_deep) s.heap.objs.size f cdv))) :
    PSs (cxOf CX0 P w K mg base N__law_deep "_law_deep" (defScope s__law_deep) f cdv A outer s H E).nox (defBody s__law_deep) (liftS K W (W__law_deep sp__law_draw)) :=
  (dss_cons (ds_set 1 sc__law_deep.nd (de_ix ix_seq od_ix (de_lstV (da_cons de_non (da_cons (de_tup da_nil) (da_cons de_str da_nil)))) (de_call c__law_draw hr (by rfl) (da_cons (dv 0) (da_cons de_int da_nil)))))
  (dss_cons (ds_for PassesOwn.never (by rfl) (di_rng1 (by rfl) B.range (de_op op_addV od_add de_int (de_call c__law_draw hr (by rfl) (da_cons (dv 0) (da_cons de_int da_nil))))) (dg_name (vs := [2]) 2 sc__law_deep.nd)
  (dss_one (ds_set 1 sc__law_deep.nd (de_ix ix_seq od_ix (de_lstV (da_cons (de_lstV (da_cons (dv 1) da_nil)) (da_cons (de_tup (da_cons (dv 1) da_nil)) (da_cons (de_dictV (dp_cons de_int (dv 1) dp_nil)) da_nil)))) (de_call c__law_draw hr (by rfl) (da_cons (dv 0) (da_cons de_int da_nil)))))))
  (dss_one (ds_ret (dv 1)))))

abbrev s__law_row_text : Stmt := top 53
abbrev N__law_row_text : List Str := ["_law_row"]
theorem sc__law_row_text : FnScope N__law_row_text ["_law_row"] (defScope s__law_row_text) := ⟨rfl, rfl, rfl, by decide +kernel, rfl, by decide +kernel, by decide +kernel⟩
def W__law_row_text : DS :=
  (wSeq (wIfS (wB (wOp (rEqB false) (wOp rIx2 (wVar 0) (wC (.int 0))) (wC (.str "note"))))
  (wRet (wOp rAdd (wOp rAdd (wOp rAdd (wOp rAdd (wOp rAdd (wOp rIx2 (wVar 0) (wC (.int 1))) (wC (.str " = "))) (wOp rIx2 (wVar 0) (wC (.int 2)))) (wC (.str "("))) (wJoin (wC (.str ", ")) (wOp rIx2 (wVar 0) (wC (.int 3))))) (wC (.str ")"))))
  wNext)
  (wSeq (wIfS (wB (wOp (rInS false) (wOp rIx2 (wVar 0) (wC (.int 0))) (wTup (wCons (wC (.str "copy")) (wCons (wC (.str "give")) wNil)))))
  (wRet (wOp rAdd (wOp rAdd (wOp rIx2 (wVar 0) (wC (.int 1))) (wC (.str " = "))) (wCall rStr (wCons (wOp rIx2 (wVar 0) (wC (.int 2))) wNil))))
  wNext)
  (wRet (wOp rAdd (wOp rAdd (wOp rIx2 (wVar 0) (wC (.int 0))) (wC (.str " "))) (wOp rIx2 (wVar 0) (wC (.int 1)))))))
theorem d__law_row_text {P : Program} {w : World} {K : PySem.W.Frag} {mg : Str → Option Value} {base : Heap} {k : Nat} {W : WX} (B : Bi mg) {f : Addr} (cdv : Value) (A : Around) (outer : List Env) (s : Shared) (H : Hp) (E : XK)
    (hr : Room k (A.deeper (PyProof.Rows.envOfC "_law_row_text" (defScope s__law_row_text) s.heap.objs.size f cdv))) :
    PSs (cxOf CX0 P w K mg base N__law_row_text "_law_row_text" (defScope s__law_row_text) f cdv A outer s H E).nox (defBody s__law_row_text) (liftS K W (W__law_row_text)) :=
  (dss_cons (ds_if (dt_cmp (op_eqA hr.units) od_eq (de_ix ix_seq od_ix (dv 0) de_int) de_str (nomark _))
  (dss_one (ds_ret (de_op op_addV od_add (de_op op_addV od_add (de_op op_addV od_add (de_op op_addV od_add (de_op op_addV od_add (de_ix ix_seq od_ix (dv 0) de_int) de_str) (de_ix ix_seq od_ix (dv 0) de_int)) de_str) (de_join de_str (de_ix ix_seq od_ix (dv 0) de_int))) de_str)))
  dss_nil)
  (dss_cons (ds_if (dt_cmp op_in_seq (od_inS false) (de_ix ix_seq od_ix (dv 0) de_int) (de_tup (da_cons de_str (da_cons de_str da_nil))) (by rfl))
  (dss_one (ds_ret (de_op op_addV od_add (de_op op_addV od_add (de_ix ix_seq od_ix (dv 0) de_int) de_str) (de_callTy call_strA cd_strA (by rfl) B.str PyProof.Rows.boot_str (da_cons (de_ix ix_seq od_ix (dv 0) de_int) da_nil)))))
  dss_nil)
  (dss_one (ds_ret (de_op op_addV od_add (de_op op_addV od_add (de_ix ix_seq od_ix (dv 0) de_int) de_str) (de_ix ix_seq od_ix (dv 0) de_int))))))

abbrev s__law_lines : Stmt := top 54
abbrev N__law_lines : List Str := ["_law_block_here", "_law_deep_here", "_law_found", "_law_row"]
theorem sc__law_lines : FnScope N__law_lines ["_law_block_here", "_law_deep_here"] (defScope s__law_lines) := ⟨rfl, rfl, rfl, by decide +kernel, rfl, by decide +kernel, by decide +kernel⟩
def W__law_lines (sp__law_lines : DSp) (sp__law_row_text : DSp) : DS :=
  (wSeq (wAsg (wLst wNil) (wName 2))
  (wSeq (wFor (wISeq (wVar 0)) (wName 3)
  (wIfS (wB (wOp (rEqB false) (wOp rIx2 (wVar 3) (wC (.int 0))) (wC (.str "either"))))
  (wSeq (wDrop (wAppend (wVar 2) (wOp rAdd (wOp rMulS (wC (.str "  ")) (wVar 1)) (wC (.str "either")))))
  (wDrop (wExtend (wVar 2) (wOp rAdd (wOp rAdd (wCallF sp__law_lines (wCons (wOp rIx2 (wVar 3) (wC (.int 1))) (wCons (wOp rAdd (wVar 1) (wC (.int 1))) wNil))) (wLstV (wCons (wOp rAdd (wOp rMulS (wC (.str "  ")) (wVar 1)) (wC (.str "or"))) wNil))) (wCallF sp__law_lines (wCons (wOp rIx2 (wVar 3) (wC (.int 2))) (wCons (wOp rAdd (wVar 1) (wC (.int 1))) wNil)))))))
  (wIfS (wB (wOp (rEqB false) (wOp rIx2 (wVar 3) (wC (.int 0))) (wC (.str "again"))))
  (wSeq (wDrop (wAppend (wVar 2) (wOp rAdd (wOp rMulS (wC (.str "  ")) (wVar 1)) (wC (.str "again")))))
  (wDrop (wExtend (wVar 2) (wCallF sp__law_lines (wCons (wOp rIx2 (wVar 3) (wC (.int 1))) (wCons (wOp rAdd (wVar 1) (wC (.int 1))) wNil))))))
  (wDrop (wAppend (wVar 2) (wOp rAdd (wOp rMulS (wC (.str "  ")) (wVar 1)) (wCallF sp__law_row_text (wCons (wVar 3) wNil))))))))
  (wRet (wVar 2))))
theorem d__law_lines {P : Program} {w : World} {K : PySem.W.Frag} {mg : Str → Option Value} {base : Heap} {k : Nat} {W : WX} {sp__law_lines : DSp} {sp__law_row_text : DSp} (c__law_lines : Cal P w K mg base k "_law_lines" ["_law_block_here", "_law_deep_here"] sp__law_lines) (c__law_row_text : Cal P w K mg base k "_law_row_text" ["_law_row"] sp__law_row_text) {f : Addr} (cdv : Value) (A : Around) (outer : List Env) (s : Shared) (H : Hp) (E : XK)
    (hr : Room k (A.deeper (PyProof.Rows.envOfC "_law_lines" (defScope s__law_lines) s.heap.objs.size f cdv))) :
    PSs (cxOf CX0 P w K mg base N__law_lines "_law_lines" (defScope s__law_lines) f cdv A outer s H E).nox (defBody s__law_lines) (liftS K W (W__law_lines sp__law_lines sp__law_row_text)) :=
  (dss_cons (ds_set 2 sc__law_lines.nd (de_lst da_nil))
  (dss_cons (ds_for PassesOwn.never (by rfl) (di_seq (dv 0)) (dg_name (vs := [3]) 3 sc__law_lines.nd)
  (dss_one (ds_if (dt_cmp (op_eqA hr.units) od_eq (de_ix ix_seq od_ix (dv 3) de_int) de_str (nomark _))
  (dss_cons (ds_expr (de_append (dv 2) (de_op op_addV od_add (de_op op_repS od_mulS de_str (dv 1)) de_str)))
  (dss_one (ds_expr (de_extend (dv 2) (de_op op_addV od_add (de_op op_addV od_add (de_call c__law_lines hr (by rfl) (da_cons (de_ix ix_seq od_ix (dv 3) de_int) (da_cons (de_op op_addV od_add (dv 1) de_int) da_nil))) (de_lstV (da_cons (de_op op_addV od_add (de_op op_repS od_mulS de_str (dv 1)) de_str) da_nil))) (de_call c__law_lines hr (by rfl) (da_cons (de_ix ix_seq od_ix (dv 3) de_int) (da_cons (de_op op_addV od_add (dv 1) de_int) da_nil))))))))
  (dss_one (ds_if (dt_cmp (op_eqA hr.units) od_eq (de_ix ix_seq od_ix (dv 3) de_int) de_str (nomark _))
  (dss_cons (ds_expr (de_append (dv 2) (de_op op_addV od_add (de_op op_repS od_mulS de_str (dv 1)) de_str)))
  (dss_one (ds_expr (de_extend (dv 2) (de_call c__law_lines hr (by rfl) (da_cons (de_ix ix_seq od_ix (dv 3) de_int) (da_cons (de_op op_addV od_add (dv 1) de_int) da_nil)))))))
  (dss_one (ds_expr (de_append (dv 2) (de_op op_addV od_add (de_op op_repS od_mulS de_str (dv 1)) (de_call c__law_row_text hr (by rfl) (da_cons (dv 3) da_nil)))))))))))
  (dss_one (ds_ret (dv 2)))))
end P3

namespace P3
open PySem PySem.Spec L2 DL

abbrev s__law_told : Stmt := top 55
abbrev N__law_told : List Str := ["_law_row", "_law_told_here"]
theorem sc__law_told : FnScope N__law_told ["_law_row"] (defScope s__law_told) := ⟨rfl, rfl, rfl, by decide +kernel, rfl, by decide +kernel, by decide +kernel⟩
def W__law_told (ans_NoRow : Addr → Option Bool) (ans_PileError : Addr → Option Bool) (sp_row_text : DSp) : DS :=
  (wSeq (wAsg (wC .non) (wName 1))
  (wSeq (wTryM
  (wSetX 1 sp_row_text (wCons (wVar 0) wNil))
  [(none, ans_NoRow, fun a cls d => (wAsg (wC (.int 0)) (wName 1))), (none, ans_PileError, fun a cls d => (wAsg (wC (.int 1)) (wName 1)))])
  (wRet (wVar 1))))
theorem d__law_told {P : Program} {w : World} {K : PySem.W.Frag} {mg : Str → Option Value} {base : Heap} {k : Nat} {ans_NoRow : Addr → Option Bool} {ans_PileError : Addr → Option Bool} {sp_row_text : DSp} {C_NoRow : Addr} (g_NoRow : mg "NoRow" = some (.ref C_NoRow)) {C_PileError : Addr} (g_PileError : mg "PileError" = some (.ref C_PileError)) (cx_row_text : CalX P w K mg base k "row_text" ["row"] sp_row_text) (e_NoRow : ∀ A b, ans_NoRow A = some b → PySem.W.exmOne K (.ref A) (.ref C_NoRow) = some b) (e_PileError : ∀ A b, ans_PileError A = some b → PySem.W.exmOne K (.ref A) (.ref C_PileError) = some b) {f : Addr} (cdv : Value) (A : Around) (outer : List Env) (s : Shared) (H : Hp) (E : XK)
    (hr : Room k (A.deeper (PyProof.Rows.envOfC "_law_told" (defScope s__law_told) s.heap.objs.size f cdv))) :
    PSs (cxOf CX0 P w K mg base N__law_told "_law_told" (defScope s__law_told) f cdv A outer s H E).nox (defBody s__law_told) (liftS K (fun _ _ _ _ => False) (W__law_told ans_NoRow ans_PileError sp_row_text)) :=
  (dss_cons (ds_set 1 sc__law_told.nd de_non)
  (dss_cons (ds_tryM sc__law_told.nd rfl rfl takes0 (fun W' pn xe tk' p' => (dss_one (ds_setX 1 sc__law_told.nd tk' cx_row_text hr (by rfl) (da_cons (dv 0) da_nil)))) (MixD.no ⟨(by rfl), by decide, .inl g_NoRow⟩ e_NoRow (fun a oe cls d pn hz hf => (dss_one (ds_set 1 sc__law_told.nd de_int))) (MixD.no ⟨(by rfl), by decide, .inl g_PileError⟩ e_PileError (fun a oe cls d pn hz hf => (dss_one (ds_set 1 sc__law_told.nd de_int))) .nil)))
  (dss_one (ds_ret (dv 1)))))

abbrev s_law : Stmt := top 56
abbrev N_law : List Str := ["_law_script", "_law_hand_here", "_law_turn", "_law_block_here", "_law_text", "_law_program", "_law_told_here", "_law_row", "_law_deep_here", "_law_odd", "_law_big", "_law_line"]
theorem sc_law : FnScope N_law ["_law_script"] (defScope s_law) := ⟨rfl, rfl, rfl, by decide +kernel, rfl, by decide +kernel, by decide +kernel⟩
def W_law (K : PySem.W.Frag) (C_Program : Addr) (ans_Program : Tg ⊕ Addr → Option Bool) (nf_Program : Tg ⊕ Addr → Bool) (sp_Program : DSp) (sp__law_deep : DSp) (sp__law_draw : DSp) (sp__law_drawn : DSp) (sp__law_hand : DSp) (sp__law_lines : DSp) (sp__law_row_text : DSp) (sp__law_rows : DSp) (sp__law_told : DSp) (sp_program_text : DSp) (sp_read_program : DSp) (sq_Program : DSp) : DS :=
  (wSeq (wAsg (wCallF sp__law_hand (wCons (wVar 0) wNil)) (wName 1))
  (wSeq (wFor (wIRng1 (wC (.int 4))) (wName 2)
  (wSeq (wAsg (wCallF sp__law_drawn (wCons (wVar 1) wNil)) (wName 3))
  (wSeq (wAsg (wJoin (wC (.str "")) (wLcV (wISeq (wCallF sp__law_lines (wCons (wVar 3) (wCons (wC (.int 0)) wNil)))) (wName 11) wYes (wOp rAdd (wVar 11) (wC (.str "\n"))) [11])) (wName 4))
  (wSeq (wAsg (wMake K C_Program sp_Program (wCons (wVar 3) wNil)) (wName 5))
  (wSeq (wIfS (wB (wOp (rEqB true) (wCallF sp_program_text (wCons (wVar 5) wNil)) (wVar 4)))
  (wRet (wC (.bl false)))
  wNext)
  (wSeq (wAsg (wCallF sp_read_program (wCons (wVar 4) wNil)) (wName 6))
  (wSeq (wIfS (wOr (wNot (wB (wIsi ans_Program (wVar 6)))) (wOr (wB (wOp (rNeO C_Program nf_Program sq_Program) (wVar 6) (wVar 5))) (wB (wOp (rEqB true) (wFld C_Program "block" (wVar 6)) (wVar 3)))))
  (wRet (wC (.bl false)))
  wNext)
  (wFor (wISeq (wCallF sp__law_rows (wCons (wVar 3) wNil))) (wName 7)
  (wIfS (wB (wOp (rEqB true) (wCallF sp__law_told (wCons (wVar 7) wNil)) (wIf (wB (wOp (rInS false) (wOp rIx2 (wVar 7) (wC (.int 0))) (wTup (wCons (wC (.str "either")) (wCons (wC (.str "again")) wNil))))) (wC (.int 0)) (wCallF sp__law_row_text (wCons (wVar 7) wNil)))))
  (wRet (wC (.bl false)))
  wNext)))))))))
  (wSeq (wAsg (wCallF sp__law_deep (wCons (wVar 1) wNil)) (wName 8))
  (wSeq (wAsg (wLst (wCons (wC .non) (wCons (wTup wNil) (wCons (wTup (wCons (wC (.str "note")) (wCons (wC (.str "x")) (wCons (wC (.str "f")) wNil)))) (wCons (wLstV (wCons (wC (.str "ask")) (wCons (wC (.str "x")) wNil))) (wCons (wTup (wCons (wC (.str "ask")) (wCons (wC (.str "X")) wNil))) (wCons (wTup (wCons (wC (.str "give")) (wCons (wC (.str "x")) (wCons (wC (.bl true)) wNil)))) (wCons (wTup (wCons (wC (.str "give")) (wCons (wC (.str "x")) (wCons (wC (.str "1")) wNil)))) (wCons (wVar 8) wNil))))))))) (wName 9))
  (wSeq (wDrop (wExtend (wVar 9) (wLstV (wCons (wC (.str "ask x")) (wCons (wTup (wCons (wC (.str "note")) (wCons (wC (.str "x")) (wCons (wC (.str "f")) (wCons (wLstV (wCons (wC (.str "y")) wNil)) wNil))))) (wCons (wTup (wCons (wC (.str "copy")) (wCons (wC (.str "x")) (wCons (wC (.int 0)) wNil)))) (wCons (wTup (wCons (wC (.str "print")) (wCons (wC (.str "x")) (wCons (wC (.str "x")) wNil)))) (wCons (wTup (wCons (wC (.str "again")) (wCons (wTup wNil) wNil))) wNil))))))))
  (wSeq (wDrop (wExtend (wVar 9) (wLstV (wCons (wTup (wCons (wC (.str "either")) (wCons (wTup wNil) (wCons (wTup wNil) wNil)))) (wCons (wC (.int 0)) (wCons wDict0V wNil))))))
  (wSeq (wDrop (wExtend (wVar 9) (wLstV (wCons (wTup (wCons (wC (.str "note")) (wCons (wC (.str "x")) (wCons (wC (.str "f")) (wCons (wTup (wCons (wC (.str "a")) (wCons (wC (.str "b")) (wCons (wC (.str "c")) (wCons (wC (.str "d")) wNil))))) wNil))))) (wCons (wTup (wCons (wC (.str "ask")) (wCons (wC (.str "")) wNil))) (wCons (wTup (wCons (wC (.str "drop")) (wCons (wC (.str "x")) wNil))) (wCons (wMake K C_Program sp_Program (wCons (wTup wNil) wNil)) wNil)))))))
  (wSeq (wAsg (wTup (wCons (wC (.str "give")) (wCons (wC (.str "x")) (wCons (wOp rMul (wOp rAdd (wNeg (wC (.int 1))) (wOp rMul (wC (.int 2)) (wCallF sp__law_draw (wCons (wVar 1) (wCons (wC (.int 2)) wNil))))) (wOp rAdd (wOp rPow (wC (.int 10)) (wC (.int 29))) (wCallF sp__law_draw (wCons (wVar 1) (wCons (wC (.int 1000)) wNil))))) wNil)))) (wName 10))
  (wRet (wAndV (wOp (rEqB false) (wCallF sp__law_told (wCons (wOp rIx2 (wVar 9) (wCallF sp__law_draw (wCons (wVar 1) (wCons (wC (.int 20)) wNil)))) wNil)) (wC (.int 0))) (wOp (rEqB false) (wCallF sp__law_told (wCons (wVar 10) wNil)) (wOp rAdd (wC (.str "x = ")) (wCall rStr (wCons (wOp rIx2 (wVar 10) (wC (.int 2))) wNil))))))))))))))
theorem d_law {P : Program} {w : World} {K : PySem.W.Frag} {mg : Str → Option Value} {base : Heap} {k : Nat} {W : WX} {C_Program : Addr} {ans_Program : Tg ⊕ Addr → Option Bool} {nf_Program : Tg ⊕ Addr → Bool} {sp_Program : DSp} {sp__law_deep : DSp} {sp__law_draw : DSp} {sp__law_drawn : DSp} {sp__law_hand : DSp} {sp__law_lines : DSp} {sp__law_row_text : DSp} {sp__law_rows : DSp} {sp__law_told : DSp} {sp_program_text : DSp} {sp_read_program : DSp} {sq_Program : DSp} {a_Program : Addr} (g_Program : mg "Program" = some (.ref a_Program)) (B : Bi mg) (c__law_deep : Cal P w K mg base k "_law_deep" ["_law_hand_here"] sp__law_deep) (c__law_draw : Cal P w K mg base k "_law_draw" ["_law_hand_here", "_law_many"] sp__law_draw) (c__law_drawn : Cal P w K mg base k "_law_drawn" ["_law_hand_here"] sp__law_drawn) (c__law_hand : Cal P w K mg base k "_law_hand" ["_law_script"] sp__law_hand) (c__law_lines : Cal P w K mg base k "_law_lines" ["_law_block_here", "_law_deep_here"] sp__law_lines) (c__law_row_text : Cal P w K mg base k "_law_row_text" ["_law_row"] sp__law_row_text) (c__law_rows : Cal P w K mg base k "_law_rows" ["_law_block_here"] sp__law_rows) (c__law_told : Cal P w K mg base k "_law_told" ["_law_row"] sp__law_told) (c_program_text : Cal P w K mg base k "program_text" ["program"] sp_program_text) (c_read_program : Cal P w K mg base k "read_program" ["text"] sp_read_program) (cl_Program : Cls K C_Program) (i_Program : IsA K (.ref a_Program) ans_Program) {k_Program : Nat} (m_Program : CalM P w K mg base k_Program "Program" C_Program ["self", "block"] sp_Program) (hk_Program : k_Program + 1 ≤ k) (n_Program_block : NoAttr K C_Program "block") {kq_Program : Nat} (q_Program : EqO P w K mg base kq_Program C_Program sq_Program) (hq_Program : kq_Program + 1 ≤ k) (r_Program : ∀ t, nf_Program t = true → PySem.W.notFirst K C_Program (tagV t) = true ∧ ∀ A, t = .inr A → ObjC K A) {f : Addr} (cdv : Value) (A : Around) (outer : List Env) (s : Shared) (H : Hp) (E : XK)
    (hr : Room k (A.deeper (PyProof.Rows.envOfC "law" (defScope s_law) s.heap.objs.size f cdv))) :
    PSs (cxOf CX0 P w K mg base N_law "law" (defScope s_law) f cdv A outer s H E).nox (defBody s_law) (liftS K W (W_law K C_Program ans_Program nf_Program sp_Program sp__law_deep sp__law_draw sp__law_drawn sp__law_hand sp__law_lines sp__law_row_text sp__law_rows sp__law_told sp_program_text sp_read_program sq_Program)) :=
  (dss_cons (ds_set 1 sc_law.nd (de_call c__law_hand hr (by rfl) (da_cons (dv 0) da_nil)))
  (dss_cons (ds_for PassesOwn.never (by rfl) (di_rng1 (by rfl) B.range de_int) (dg_name (vs := [2]) 2 sc_law.nd)
  (dss_cons (ds_set 3 sc_law.nd (de_call c__law_drawn hr (by rfl) (da_cons (dv 1) da_nil)))
  (dss_cons (ds_set 4 sc_law.nd (de_join de_str (de_lcV (own := [("_law_line", 11)]) (by rfl) sc_law.nd (di_seq (de_call c__law_lines hr (by rfl) (da_cons (dv 3) (da_cons de_int da_nil)))) (blkOk_by (own := [("_law_line", 11)]) (N := N_law) (sc := defScope s_law) (by decide +kernel)) (fun _ _ _ _ _ => (dg_name (vs := [11]) 11 sc_law.nd)) (fun _ _ _ _ _ => dts_nil) (fun _ _ _ _ _ => (de_op op_addV od_add (dv 11) de_str)))))
  (dss_cons (ds_set 5 sc_law.nd (de_make m_Program (hr.mono hk_Program) (by rfl) (da_cons (dv 3) da_nil)))
  (dss_cons (ds_if (dt_cmp (op_neA hr.units) od_ne (de_call c_program_text hr (by rfl) (da_cons (dv 5) da_nil)) (dv 4) (nomark _))
  (dss_one (ds_ret de_bl))
  dss_nil)
  (dss_cons (ds_set 6 sc_law.nd (de_call c_read_program hr (by rfl) (da_cons (dv 4) da_nil)))
  (dss_cons (ds_if (PW.pt (dw_or (dt_not (dt_val (de_isi i_Program (by rfl) B.isinstance (dv 6) (pe_glob (v := .ref a_Program) (by rfl) g_Program (by rfl))))) (dw_or (dt_cmp (op_neO q_Program (hr.mono hq_Program)) (od_neOwn r_Program) (dv 6) (dv 5) (nomark _)) (dw_or1 (dt_cmp (op_neA hr.units) od_ne (de_fld cl_Program n_Program_block (dv 6)) (dv 3) (nomark _))))))
  (dss_one (ds_ret de_bl))
  dss_nil)
  (dss_one (ds_for PassesOwn.never (by rfl) (di_seq (de_call c__law_rows hr (by rfl) (da_cons (dv 3) da_nil))) (dg_name (vs := [7]) 7 sc_law.nd)
  (dss_one (ds_if (dt_cmp (op_neA hr.units) od_ne (de_call c__law_told hr (by rfl) (da_cons (dv 7) da_nil)) (de_if (dt_cmp op_in_seq (od_inS false) (de_ix ix_seq od_ix (dv 7) de_int) (de_tup (da_cons de_str (da_cons de_str da_nil))) (by rfl)) de_int (de_call c__law_row_text hr (by rfl) (da_cons (dv 7) da_nil))) (nomark _))
  (dss_one (ds_ret de_bl))
  dss_nil)))))))))))
  (dss_cons (ds_set 8 sc_law.nd (de_call c__law_deep hr (by rfl) (da_cons (dv 1) da_nil)))
  (dss_cons (ds_set 9 sc_law.nd (de_lst (da_cons de_non (da_cons (de_tup da_nil) (da_cons (de_tup (da_cons de_str (da_cons de_str (da_cons de_str da_nil)))) (da_cons (de_lstV (da_cons de_str (da_cons de_str da_nil))) (da_cons (de_tup (da_cons de_str (da_cons de_str da_nil))) (da_cons (de_tup (da_cons de_str (da_cons de_str (da_cons de_bl da_nil)))) (da_cons (de_tup (da_cons de_str (da_cons de_str (da_cons de_str da_nil)))) (da_cons (dv 8) da_nil))))))))))
  (dss_cons (ds_expr (de_extend (dv 9) (de_lstV (da_cons de_str (da_cons (de_tup (da_cons de_str (da_cons de_str (da_cons de_str (da_cons (de_lstV (da_cons de_str da_nil)) da_nil))))) (da_cons (de_tup (da_cons de_str (da_cons de_str (da_cons de_int da_nil)))) (da_cons (de_tup (da_cons de_str (da_cons de_str (da_cons de_str da_nil)))) (da_cons (de_tup (da_cons de_str (da_cons (de_tup da_nil) da_nil))) da_nil))))))))
  (dss_cons (ds_expr (de_extend (dv 9) (de_lstV (da_cons (de_tup (da_cons de_str (da_cons (de_tup da_nil) (da_cons (de_tup da_nil) da_nil)))) (da_cons de_int (da_cons de_dict0V da_nil))))))
  (dss_cons (ds_expr (de_extend (dv 9) (de_lstV (da_cons (de_tup (da_cons de_str (da_cons de_str (da_cons de_str (da_cons (de_tup (da_cons de_str (da_cons de_str (da_cons de_str (da_cons de_str da_nil))))) da_nil))))) (da_cons (de_tup (da_cons de_str (da_cons de_str da_nil))) (da_cons (de_tup (da_cons de_str (da_cons de_str da_nil))) (da_cons (de_make m_Program (hr.mono hk_Program) (by rfl) (da_cons (de_tup da_nil) da_nil)) da_nil)))))))
  (dss_cons (ds_set 10 sc_law.nd (de_tup (da_cons de_str (da_cons de_str (da_cons (de_op op_mul od_I2 (de_op op_addV od_add (de_neg de_int) (de_op op_mul od_I2 de_int (de_call c__law_draw hr (by rfl) (da_cons (dv 1) (da_cons de_int da_nil))))) (de_op op_addV od_add (de_op op_pow od_I2 de_int de_int) (de_call c__law_draw hr (by rfl) (da_cons (dv 1) (da_cons de_int da_nil))))) da_nil)))))
  (dss_one (ds_ret (de_and (de_cmp (op_eqA hr.units) od_eq (de_call c__law_told hr (by rfl) (da_cons (de_ix ix_seq od_ix (dv 9) (de_call c__law_draw hr (by rfl) (da_cons (dv 1) (da_cons de_int da_nil)))) da_nil)) de_int (nomark _)) (de_one (de_cmp (op_eqA hr.units) od_eq (de_call c__law_told hr (by rfl) (da_cons (dv 10) da_nil)) (de_op op_addV od_add de_str (de_callTy call_strA cd_strA (by rfl) B.str PyProof.Rows.boot_str (da_cons (de_ix ix_seq od_ix (dv 10) de_int) da_nil))) (nomark _))))))))))))))
end P3

/-! V3a: blocks as data; the program's checks. -/
namespace P3
open PySem PySem.Spec L2 DL
local macro_rules | `(tactic| trivial) => `(tactic| simp only [wSeq, wNext, wRet, wIfS, wAsg, wName, wVar, wC, wDrop, wOp, wCall, wCons, wNil, wIf, wB, wNot, wAnd, wOr, wAndV, wOrV, wNotV, wTup, wLst, wLstV, wFor, wISeq, wIRng1, wIRng2, wIEnum, wIStr, wChain, wIsi, wSl, wPart, wNoPart, wCallF, wCallL, wAppend, wExtend, wSetL, wSetD, wPar, wAugI, wGTup, wGCons, wGNil, wDGet, wDIn, wDict, wDictV, wPairs, wLcV, wLc, wYes, wSetF, wFld, wRev, wNeg, wNever, wLoop, wComp, wSortSet, wTry, wRaise, wCallSt, wRetX, wSetX, rEqO, rNeO, wMake, rIntA, rMulA, wTryM, wMixX, wRaise1, wXf, DEnds.off, wMeth, wPop, wTx1, onStr, wSplit, wPartition, wJoin, rSplit, rPartition, rJoin, rIntS, rStr, rMulS, wIEnumL,
  rNe0, DL.rAdd, DL.rSub, DL.rMul, DL.rDiv, DL.rMod, DL.rPow, DL.rI2, DL.rCmpI, DL.rEqB, DL.rIsN, DL.rInS, DL.rIx2, DL.ixSeq, DL.itemsOf, DL.listOf, DL.dictOf, DL.keyOf, DL.goL, DL.goK, DL.goI, DL.objOf, DL.rLenA, DL.rLen, DL.rSum, DL.rAll, DL.rTuple, DL.rList, DL.rAbs, DL.rInt, rKIn, rKGet, rIsBl, rEq0, lst2, gup_same, dwipe, slot_def, at0, at1, at2, at3, atm, cut1, cutAll,
  List.set_cons_zero, List.set_cons_succ, List.getElem?_cons_zero, List.getElem?_cons_succ, List.getElem?_nil, Option.join_some, Option.join_none, List.length_cons, List.length_nil, if_true, if_false, Bool.false_eq_true, reduceIte, Bool.not_true, Bool.not_false, Bool.true_xor, Bool.false_xor, Bool.xor_true, Bool.xor_false, true_and, and_true, reduceCtorEq, decide_true, decide_false, Option.isSome_some, Option.isSome_none, List.cons_append, List.nil_append,
  s_note_copy, s_note_give, s_note_ask, s_note_print, s_note_either, s_note_again, s_note_call, s_copy_note, s_copy_give, s_copy_ask, s_copy_print, s_copy_either, s_copy_again, s_copy_call, s_give_note, s_give_copy, s_give_ask, s_give_print, s_give_either, s_give_again, s_give_call, s_ask_note, s_ask_copy, s_ask_give, s_ask_print, s_ask_either, s_ask_again, s_ask_call, s_print_note, s_print_copy, s_print_give, s_print_ask, s_print_either, s_print_again, s_print_call, s_either_note, s_either_copy, s_either_give, s_either_ask, s_either_print, s_either_again, s_either_call, s_again_note, s_again_copy, s_again_give, s_again_ask, s_again_print, s_again_either, s_again_call, s_call_note, s_call_copy, s_call_give, s_call_ask, s_call_print, s_call_either, s_call_again, s_note, s_copy, s_give, s_ask, s_print, s_either, s_again, s_call, i_note, j_note, l_note, i_copy, j_copy, l_copy, i_give, j_give, l_give, i_ask, j_ask, l_ask, i_print, j_print, l_print, i_either, j_either, l_either, i_again, j_again, l_again, i_call, j_call, l_call,
  Nat.reduceAdd, Nat.zero_add, Int.reduceLT, Int.reduceLE, Int.reduceEq, Int.reduceAdd, Int.reduceNeg, Int.reduceSub, cz0, cz1, cz2, cz3, cz4, cz5, cz6, cz7, cz8, cz9, t_tup, t_str, t_int, t_bl, lt0, lt1, lt2, lt3, lt4, lt5, lt6, zl0, zl1, zl2, zl3, zl4, zl5, zl6, zl9, rn2, x51, x52, x53, x54, at4, lkb, fl1, fl2, flstr, flint, flnon, flbl, List.all_cons, List.all_nil, Bool.and_true])
local macro_rules | `(tactic| get_elem_tactic_trivial) => `(tactic| simp only [wSeq, wNext, wRet, wIfS, wAsg, wName, wVar, wC, wDrop, wOp, wCall, wCons, wNil, wIf, wB, wNot, wAnd, wOr, wAndV, wOrV, wNotV, wTup, wLst, wLstV, wFor, wISeq, wIRng1, wIRng2, wIEnum, wIStr, wChain, wIsi, wSl, wPart, wNoPart, wCallF, wCallL, wAppend, wExtend, wSetL, wSetD, wPar, wAugI, wGTup, wGCons, wGNil, wDGet, wDIn, wDict, wDictV, wPairs, wLcV, wLc, wYes, wSetF, wFld, wRev, wNeg, wNever, wSortSet, wTry, wRaise, wCallSt, wRetX, wSetX, rEqO, rNeO, wMake, rIntA, rMulA, wTryM, wMixX, wRaise1, wXf, DEnds.off, wMeth, wPop, wTx1, onStr, wSplit, wPartition, wJoin, rSplit, rPartition, rJoin, rIntS, rStr, rMulS, wIEnumL,
  rNe0, DL.rAdd, DL.rSub, DL.rMul, DL.rDiv, DL.rMod, DL.rPow, DL.rI2, DL.rCmpI, DL.rEqB, DL.rIsN, DL.rInS, DL.rIx2, DL.ixSeq, DL.itemsOf, DL.listOf, DL.dictOf, DL.keyOf, DL.goL, DL.goK, DL.goI, DL.objOf, DL.rLenA, DL.rLen, DL.rSum, DL.rAll, DL.rTuple, DL.rList, DL.rAbs, DL.rInt, rKIn, rKGet, rIsBl, rEq0, lst2, gup_same, dwipe, slot_def, at0, at1, at2, at3, atm, cut1, cutAll,
  List.set_cons_zero, List.set_cons_succ, List.getElem?_cons_zero, List.getElem?_cons_succ, List.getElem?_nil, Option.join_some, Option.join_none, List.length_cons, List.length_nil, if_true, if_false, Bool.false_eq_true, reduceIte, Bool.not_true, Bool.not_false, Bool.true_xor, Bool.false_xor, Bool.xor_true, Bool.xor_false, true_and, and_true, reduceCtorEq, decide_true, decide_false, Option.isSome_some, Option.isSome_none, List.cons_append, List.nil_append,
  s_note_copy, s_note_give, s_note_ask, s_note_print, s_note_either, s_note_again, s_note_call, s_copy_note, s_copy_give, s_copy_ask, s_copy_print, s_copy_either, s_copy_again, s_copy_call, s_give_note, s_give_copy, s_give_ask, s_give_print, s_give_either, s_give_again, s_give_call, s_ask_note, s_ask_copy, s_ask_give, s_ask_print, s_ask_either, s_ask_again, s_ask_call, s_print_note, s_print_copy, s_print_give, s_print_ask, s_print_either, s_print_again, s_print_call, s_either_note, s_either_copy, s_either_give, s_either_ask, s_either_print, s_either_again, s_either_call, s_again_note, s_again_copy, s_again_give, s_again_ask, s_again_print, s_again_either, s_again_call, s_call_note, s_call_copy, s_call_give, s_call_ask, s_call_print, s_call_either, s_call_again, s_note, s_copy, s_give, s_ask, s_print, s_either, s_again, s_call, i_note, j_note, l_note, i_copy, j_copy, l_copy, i_give, j_give, l_give, i_ask, j_ask, l_ask, i_print, j_print, l_print, i_either, j_either, l_either, i_again, j_again, l_again, i_call, j_call, l_call,
  Nat.reduceAdd, Nat.zero_add, Int.reduceLT, Int.reduceLE, Int.reduceEq, Int.reduceAdd, Int.reduceNeg, Int.reduceSub, cz0, cz1, cz2, cz3, cz4, cz5, cz6, cz7, cz8, cz9, t_tup, t_str, t_int, t_bl, lt0, lt1, lt2, lt3, lt4, lt5, lt6, zl0, zl1, zl2, zl3, zl4, zl5, zl6, zl9, rn2, x51, x52, x53, x54, at4, lkb, fl1, fl2, flstr, flint, flnon, flbl, List.all_cons, List.all_nil, Bool.and_true])

/-- rows without blocks -/
inductive PR where
  | note (x o : Str) (ps : List Str) | copy (x y : Str) | give (x : Str) (n : Int) | ask (x : Str) | prt (x : Str)
def PR.toD : PR → D
  | .note x o ps => .tup [.str "note", .str x, .str o, .tup (ps.map .str)]
  | .copy x y => .tup [.str "copy", .str x, .str y]
  | .give x n => .tup [.str "give", .str x, .int n]
  | .ask x => .tup [.str "ask", .str x]
  | .prt x => .tup [.str "print", .str x]
/-- blocks -/
inductive Blk where
  | nil | pl (r : PR) (t : Blk) | ei (a b t : Blk) | ag (a t : Blk)
def Blk.ds : Blk → List D
  | .nil => []
  | .pl r t => r.toD :: t.ds
  | .ei a b t => .tup [.str "either", .tup a.ds, .tup b.ds] :: t.ds
  | .ag a t => .tup [.str "again", .tup a.ds] :: t.ds
abbrev Blk.toD (b : Blk) : D := .tup b.ds
def Blk.size : Blk → Nat
  | .nil => 0
  | .pl _ t => 1 + t.size
  | .ei a b t => 1 + a.size + b.size + t.size
  | .ag a t => 1 + a.size + t.size
def nameOk (x : Str) : Prop := 1 ≤ x.length ∧ x.length ≤ 8 ∧ ∀ c ∈ x.cps.toList, c ∈ ("abcdefghijklmnopqrstuvwxyz" : Str).cps.toList
def PR.names : PR → List Str
  | .note x _ ps => x :: ps
  | .copy x y => [x, y]
  | .give x _ => [x]
  | .ask x => [x]
  | .prt x => [x]
def PR.ok (NS : List Str) (r : PR) : Prop := (∀ x ∈ r.names, nameOk x ∧ x ∈ NS) ∧ (match r with | .note _ o ps => nameOk o ∧ ps.length ≤ 3 | .give _ i => i.natAbs < 10 ^ 30 | _ => True)
/-- right blocks at a depth -/
def Blk.ok (NS : List Str) : Nat → Blk → Prop
  | _, .nil => True
  | d, .pl r t => r.ok NS ∧ t.ok NS d
  | d, .ei a b t => d + 1 ≤ 4 ∧ a.ds.length ≤ 12 ∧ b.ds.length ≤ 12 ∧ a.ok NS (d + 1) ∧ b.ok NS (d + 1) ∧ t.ok NS d
  | d, .ag a t => d + 1 ≤ 4 ∧ a.ds.length ≤ 12 ∧ a.ok NS (d + 1) ∧ t.ok NS d
theorem Blk.len_le : ∀ b : Blk, b.ds.length ≤ b.size
  | .nil => Nat.le_refl _
  | .pl r t => by have := t.len_le; simp only [Blk.ds, Blk.size, List.length_cons]; omega
  | .ei a b t => by have := t.len_le; simp only [Blk.ds, Blk.size, List.length_cons]; omega
  | .ag a t => by have := t.len_le; simp only [Blk.ds, Blk.size, List.length_cons]; omega

/-! ### checks -/
variable {K : PySem.W.Frag} {OC : Addr → Bool}
def isI : D → Bool
  | .int _ => true | _ => false
def sp_is_integer (OC : Addr → Bool) : DSp := fun ds G Q _ => ∃ x, ds = [x] ∧ okT OC x = true ∧ Q (.bl (isI x)) G
theorem isI_eq (x : D) : (if isT .int x = true then !(isT .bl x) else false) = isI x := by
  cases x <;> rfl
theorem v_is_integer {ds : List D} {G : Gh} {Q : DQ} {E : DXq} (h : sp_is_integer OC ds G Q E) : W_is_integer OC (endsOf K Q) (dstart N_is_integer ds) G := by
  obtain ⟨x, rfl, ok, q⟩ := h
  show wAndV (wIsi (ansB .int OC) (wVar 0)) (wNotV (wIsi (ansB .bl OC) (wVar 0))) [some x] G (endsOf K Q).rt
  trivial
  refine isK_ok ok ?_
  cases e : isT .int x with
  | false => dsimp only; refine rt_here ?_; have := isI_eq x; rw [e] at this; rw [show false = isI x from this]; exact q
  | true =>
    dsimp only
    refine isK_ok ok ?_
    refine rt_here ?_
    have := isI_eq x
    rw [e] at this
    rw [show (!isT .bl x) = isI x from this]; exact q
def inI (lo hi : Int) : D → Bool
  | .int i => decide (lo ≤ i) && decide (i ≤ hi)
  | _ => false
def sp_is_within (OC : Addr → Bool) : DSp := fun ds G Q _ => ∃ x lo hi, ds = [x, .int lo, .int hi] ∧ okT OC x = true ∧ Q (.bl (inI lo hi x)) G
/-! names -/
def sp_is_name : DSp := fun ds G Q _ => ∃ x, ds = [.str x] ∧ nameOk x ∧ Q (.bl true) G
theorem v_is_name {ds : List D} {G : Gh} {Q : DQ} {E : DXq} (h : sp_is_name ds G Q E) : W_is_name OC (endsOf K Q) (dstart N_is_name ds) G := by
  obtain ⟨x, rfl, ok, q⟩ := h
  show W_is_name OC (endsOf K Q) [some (.str x), none] G
  unfold W_is_name
  obtain ⟨h1, h2, h3⟩ := ok
  have e1 : decide ((1 : Int) ≤ ((x.length : Nat) : Int)) = true := decide_eq_true (by omega)
  have e2 : decide (((x.length : Nat) : Int) ≤ 8) = true := decide_eq_true (by omega)
  trivial
  refine isK_ok (d := .str x) rfl ?_
  show (match D.bl (decide ((1 : Int) ≤ ((x.length : Nat) : Int))) with | .bl true => _ | .bl false => _ | _ => False)
  rw [e1]
  show (match D.bl (decide (((x.length : Nat) : Int) ≤ 8)) with | .bl true => _ | .bl false => _ | _ => False)
  rw [e2]
  have hsz : (signs x).length ≤ sizeLine := by
    have : (signs x).length = x.length := by unfold signs; simp [Str.length]
    rw [this, sizeLine_eq]; omega
  refine comp_map (f := fun _ => .bl true) _ _ True.intro (by simpa using hsz) (fun d hd Q' hq => ?_) ?_
  · unfold signs at hd
    obtain ⟨c, hc, rfl⟩ := List.mem_map.mp hd
    show ∃ n, (⟨#[c]⟩ : Str) = ⟨#[n]⟩ ∧ Q' (.bl (false ^^ decide (n ∈ ("abcdefghijklmnopqrstuvwxyz" : Str).cps.toList))) G
    refine ⟨c, rfl, ?_⟩
    rw [decide_eq_true (h3 c hc)]
    exact hq
  · refine ⟨_, _, rfl, blsOf_map' (fun _ => true) (signs x), rt_here ?_⟩
    rw [all_id_map, List.all_eq_true.mpr fun _ _ => rfl]
    exact q

/-! rows -/
def sp_is_plain_row (NS : List Str) : DSp := fun ds G Q _ => ∃ r : PR, ds = [r.toD] ∧ r.ok NS ∧ Q (.bl true) G
theorem v_is_plain_row {NS : List Str} {ds : List D} {G : Gh} {Q : DQ} {E : DXq} (h : sp_is_plain_row NS ds G Q E) : W_is_plain_row OC (sp_is_integer OC) sp_is_name (endsOf K Q) (dstart N_is_plain_row ds) G := by
  obtain ⟨r, rfl, ok, q⟩ := h
  show W_is_plain_row OC (sp_is_integer OC) sp_is_name (endsOf K Q) [some r.toD, none] G
  unfold W_is_plain_row
  obtain ⟨ok1, ok2⟩ := ok
  cases r with
  | ask x =>
    have n1 := (ok1 x (by simp [PR.names])).1
    unfold PR.toD
    trivial
    refine isK_ok (d := .tup _) rfl ?_
    trivial
    refine isK_ok (d := .str _) rfl ?_
    trivial
    refine ⟨_, rfl, n1, ?_⟩
    trivial
    exact rt_here q
  | prt x =>
    have n1 := (ok1 x (by simp [PR.names])).1
    unfold PR.toD
    trivial
    refine isK_ok (d := .tup _) rfl ?_
    trivial
    refine isK_ok (d := .str _) rfl ?_
    trivial
    refine ⟨_, rfl, n1, ?_⟩
    trivial
    exact rt_here q
  | give x n =>
    have n1 := (ok1 x (by simp [PR.names])).1
    unfold PR.toD
    trivial
    refine isK_ok (d := .tup _) rfl ?_
    trivial
    refine isK_ok (d := .str _) rfl ?_
    trivial
    refine ⟨_, rfl, n1, ?_⟩
    trivial
    refine ⟨_, rfl, rfl, ?_⟩
    exact rt_here q
  | copy x y =>
    have n1 := (ok1 x (by simp [PR.names])).1
    have n2 := (ok1 y (by simp [PR.names])).1
    unfold PR.toD
    trivial
    refine isK_ok (d := .tup _) rfl ?_
    trivial
    refine isK_ok (d := .str _) rfl ?_
    trivial
    refine ⟨_, rfl, n1, ?_⟩
    trivial
    refine ⟨_, rfl, n2, ?_⟩
    exact rt_here q
  | note x o ps =>
    have n1 := (ok1 x (by simp [PR.names])).1
    have n2 : nameOk o := ok2.1
    have n3 : ps.length ≤ 3 := ok2.2
    unfold PR.toD
    trivial
    refine isK_ok (d := .tup _) rfl ?_
    trivial
    refine isK_ok (d := .str _) rfl ?_
    trivial
    refine ⟨_, rfl, n1, ?_⟩
    trivial
    refine ⟨_, rfl, n2, ?_⟩
    trivial
    refine isK_ok (d := .tup _) rfl ?_
    trivial
    rw [List.length_map, decide_eq_true (show ((ps.length : Nat) : Int) ≤ 3 by omega)]
    trivial
    refine comp_map (f := fun _ => .bl true) _ _ True.intro (by rw [List.length_map, sizeLine_eq]; simp only [List.length_nil]; omega) (fun d hd Q' hq => ?_) ?_
    · obtain ⟨c, hc, rfl⟩ := List.mem_map.mp hd
      trivial
      exact ⟨c, rfl, (ok1 c (by simp [PR.names, hc])).1, hq⟩
    · refine ⟨_, _, rfl, blsOf_map' (fun _ => true) _, rt_here ?_⟩
      rw [all_id_map, List.all_eq_true.mpr fun _ _ => rfl]
      exact q

/-! branches, inner blocks, first_wrong -/
def sp_is_branch : DSp := fun ds G Q _ => (∃ r : PR, ds = [r.toD] ∧ Q (.bl false) G) ∨ (∃ a b : Blk, ds = [.tup [.str "either", a.toD, b.toD]] ∧ Q (.bl true) G) ∨ ∃ a : Blk, ds = [.tup [.str "again", a.toD]] ∧ Q (.bl true) G
theorem v_is_branch {aB : Addr} {ds : List D} {G : Gh} {Q : DQ} {E : DXq} (h : sp_is_branch ds G Q E) : W_is_branch OC TB aB (endsOf K Q) (dstart N_is_branch ds) G := by
  have core : ∀ d : D, W_is_branch OC TB aB (endsOf K Q) [some d] G → W_is_branch OC TB aB (endsOf K Q) (dstart N_is_branch [d]) G := fun d h => h
  rcases h with ⟨r, rfl, q⟩ | ⟨a, b, rfl, q⟩ | ⟨a, rfl, q⟩
  · refine core _ ?_
    unfold W_is_branch
    cases r <;>
    · unfold PR.toD
      trivial
      refine isK_ok (d := .tup _) rfl ?_
      trivial
      refine isK_ok (d := .str _) rfl ?_
      trivial
      exact rt_here q
  · refine core _ ?_
    unfold W_is_branch
    trivial
    refine isK_ok (d := .tup _) rfl ?_
    trivial
    refine isK_ok (d := .str _) rfl ?_
    trivial
    exact rt_here q
  · refine core _ ?_
    unfold W_is_branch
    trivial
    refine isK_ok (d := .tup _) rfl ?_
    trivial
    refine isK_ok (d := .str _) rfl ?_
    trivial
    exact rt_here q
def sp_is_inner : DSp := fun ds G Q _ => ∃ (a : Blk) (k : Int), ds = [a.toD, .int k] ∧ a.ds.length ≤ 12 ∧ k ≤ 4 ∧ Q (.bl true) G
theorem v_is_inner {ds : List D} {G : Gh} {Q : DQ} {E : DXq} (h : sp_is_inner ds G Q E) : W_is_inner OC (endsOf K Q) (dstart N_is_inner ds) G := by
  obtain ⟨a, k, rfl, h1, h2, q⟩ := h
  show W_is_inner OC (endsOf K Q) [some a.toD, some (.int k)] G
  unfold W_is_inner
  trivial
  refine isK_ok (d := .tup _) rfl ?_
  rw [decide_eq_true (show ((a.ds.length : Nat) : Int) ≤ 12 by omega), decide_eq_true h2]
  trivial
  exact rt_here q
end P3

/-! V3b: first_wrong. -/
namespace P3
open PySem PySem.Spec L2 DL
local macro_rules | `(tactic| trivial) => `(tactic| simp only [wSeq, wNext, wRet, wIfS, wAsg, wName, wVar, wC, wDrop, wOp, wCall, wCons, wNil, wIf, wB, wNot, wAnd, wOr, wAndV, wOrV, wNotV, wTup, wLst, wLstV, wFor, wISeq, wIRng1, wIRng2, wIEnum, wIStr, wChain, wIsi, wSl, wPart, wNoPart, wCallF, wCallL, wAppend, wExtend, wSetL, wSetD, wPar, wAugI, wGTup, wGCons, wGNil, wDGet, wDIn, wDict, wDictV, wPairs, wLcV, wLc, wYes, wSetF, wFld, wRev, wNeg, wNever, wLoop, wComp, wSortSet, wTry, wRaise, wCallSt, wRetX, wSetX, rEqO, rNeO, wMake, rIntA, rMulA, wTryM, wMixX, wRaise1, wXf, DEnds.off, wMeth, wPop, wTx1, onStr, wSplit, wPartition, wJoin, rSplit, rPartition, rJoin, rIntS, rStr, rMulS, wIEnumL,
  rNe0, DL.rAdd, DL.rSub, DL.rMul, DL.rDiv, DL.rMod, DL.rPow, DL.rI2, DL.rCmpI, DL.rEqB, DL.rIsN, DL.rInS, DL.rIx2, DL.ixSeq, DL.itemsOf, DL.listOf, DL.dictOf, DL.keyOf, DL.goL, DL.goK, DL.goI, DL.objOf, DL.rLenA, DL.rLen, DL.rSum, DL.rAll, DL.rTuple, DL.rList, DL.rAbs, DL.rInt, rKIn, rKGet, rIsBl, rEq0, lst2, gup_same, dwipe, slot_def, at0, at1, at2, at3, atm, cut1, cutAll,
  List.set_cons_zero, List.set_cons_succ, List.getElem?_cons_zero, List.getElem?_cons_succ, List.getElem?_nil, Option.join_some, Option.join_none, List.length_cons, List.length_nil, if_true, if_false, Bool.false_eq_true, reduceIte, Bool.not_true, Bool.not_false, Bool.true_xor, Bool.false_xor, Bool.xor_true, Bool.xor_false, true_and, and_true, reduceCtorEq, decide_true, decide_false, Option.isSome_some, Option.isSome_none, List.cons_append, List.nil_append,
  s_note_copy, s_note_give, s_note_ask, s_note_print, s_note_either, s_note_again, s_note_call, s_copy_note, s_copy_give, s_copy_ask, s_copy_print, s_copy_either, s_copy_again, s_copy_call, s_give_note, s_give_copy, s_give_ask, s_give_print, s_give_either, s_give_again, s_give_call, s_ask_note, s_ask_copy, s_ask_give, s_ask_print, s_ask_either, s_ask_again, s_ask_call, s_print_note, s_print_copy, s_print_give, s_print_ask, s_print_either, s_print_again, s_print_call, s_either_note, s_either_copy, s_either_give, s_either_ask, s_either_print, s_either_again, s_either_call, s_again_note, s_again_copy, s_again_give, s_again_ask, s_again_print, s_again_either, s_again_call, s_call_note, s_call_copy, s_call_give, s_call_ask, s_call_print, s_call_either, s_call_again, s_note, s_copy, s_give, s_ask, s_print, s_either, s_again, s_call, i_note, j_note, l_note, i_copy, j_copy, l_copy, i_give, j_give, l_give, i_ask, j_ask, l_ask, i_print, j_print, l_print, i_either, j_either, l_either, i_again, j_again, l_again, i_call, j_call, l_call,
  Nat.reduceAdd, Nat.zero_add, Int.reduceLT, Int.reduceLE, Int.reduceEq, Int.reduceAdd, Int.reduceNeg, Int.reduceSub, cz0, cz1, cz2, cz3, cz4, cz5, cz6, cz7, cz8, cz9, t_tup, t_str, t_int, t_bl, lt0, lt1, lt2, lt3, lt4, lt5, lt6, zl0, zl1, zl2, zl3, zl4, zl5, zl6, zl9, rn2, x51, x52, x53, x54, at4, lkb, fl1, fl2, flstr, flint, flnon, flbl, List.all_cons, List.all_nil, Bool.and_true])
local macro_rules | `(tactic| get_elem_tactic_trivial) => `(tactic| simp only [wSeq, wNext, wRet, wIfS, wAsg, wName, wVar, wC, wDrop, wOp, wCall, wCons, wNil, wIf, wB, wNot, wAnd, wOr, wAndV, wOrV, wNotV, wTup, wLst, wLstV, wFor, wISeq, wIRng1, wIRng2, wIEnum, wIStr, wChain, wIsi, wSl, wPart, wNoPart, wCallF, wCallL, wAppend, wExtend, wSetL, wSetD, wPar, wAugI, wGTup, wGCons, wGNil, wDGet, wDIn, wDict, wDictV, wPairs, wLcV, wLc, wYes, wSetF, wFld, wRev, wNeg, wNever, wSortSet, wTry, wRaise, wCallSt, wRetX, wSetX, rEqO, rNeO, wMake, rIntA, rMulA, wTryM, wMixX, wRaise1, wXf, DEnds.off, wMeth, wPop, wTx1, onStr, wSplit, wPartition, wJoin, rSplit, rPartition, rJoin, rIntS, rStr, rMulS, wIEnumL,
  rNe0, DL.rAdd, DL.rSub, DL.rMul, DL.rDiv, DL.rMod, DL.rPow, DL.rI2, DL.rCmpI, DL.rEqB, DL.rIsN, DL.rInS, DL.rIx2, DL.ixSeq, DL.itemsOf, DL.listOf, DL.dictOf, DL.keyOf, DL.goL, DL.goK, DL.goI, DL.objOf, DL.rLenA, DL.rLen, DL.rSum, DL.rAll, DL.rTuple, DL.rList, DL.rAbs, DL.rInt, rKIn, rKGet, rIsBl, rEq0, lst2, gup_same, dwipe, slot_def, at0, at1, at2, at3, atm, cut1, cutAll,
  List.set_cons_zero, List.set_cons_succ, List.getElem?_cons_zero, List.getElem?_cons_succ, List.getElem?_nil, Option.join_some, Option.join_none, List.length_cons, List.length_nil, if_true, if_false, Bool.false_eq_true, reduceIte, Bool.not_true, Bool.not_false, Bool.true_xor, Bool.false_xor, Bool.xor_true, Bool.xor_false, true_and, and_true, reduceCtorEq, decide_true, decide_false, Option.isSome_some, Option.isSome_none, List.cons_append, List.nil_append,
  s_note_copy, s_note_give, s_note_ask, s_note_print, s_note_either, s_note_again, s_note_call, s_copy_note, s_copy_give, s_copy_ask, s_copy_print, s_copy_either, s_copy_again, s_copy_call, s_give_note, s_give_copy, s_give_ask, s_give_print, s_give_either, s_give_again, s_give_call, s_ask_note, s_ask_copy, s_ask_give, s_ask_print, s_ask_either, s_ask_again, s_ask_call, s_print_note, s_print_copy, s_print_give, s_print_ask, s_print_either, s_print_again, s_print_call, s_either_note, s_either_copy, s_either_give, s_either_ask, s_either_print, s_either_again, s_either_call, s_again_note, s_again_copy, s_again_give, s_again_ask, s_again_print, s_again_either, s_again_call, s_call_note, s_call_copy, s_call_give, s_call_ask, s_call_print, s_call_either, s_call_again, s_note, s_copy, s_give, s_ask, s_print, s_either, s_again, s_call, i_note, j_note, l_note, i_copy, j_copy, l_copy, i_give, j_give, l_give, i_ask, j_ask, l_ask, i_print, j_print, l_print, i_either, j_either, l_either, i_again, j_again, l_again, i_call, j_call, l_call,
  Nat.reduceAdd, Nat.zero_add, Int.reduceLT, Int.reduceLE, Int.reduceEq, Int.reduceAdd, Int.reduceNeg, Int.reduceSub, cz0, cz1, cz2, cz3, cz4, cz5, cz6, cz7, cz8, cz9, t_tup, t_str, t_int, t_bl, lt0, lt1, lt2, lt3, lt4, lt5, lt6, zl0, zl1, zl2, zl3, zl4, zl5, zl6, zl9, rn2, x51, x52, x53, x54, at4, lkb, fl1, fl2, flstr, flint, flnon, flbl, List.all_cons, List.all_nil, Bool.and_true])
variable {K : PySem.W.Frag} {OC : Addr → Bool}

/-- blocks of one row -/
inductive One : Blk → Prop
  | pl (r : PR) : One (.pl r .nil)
  | ei (a b : Blk) : One (.ei a b .nil)
  | ag (a : Blk) : One (.ag a .nil)
def sp_first_wrong (NS : List Str) (aP : Addr) (n : Nat) : DSp := fun ds G Q _ => ∃ (b : Blk) (k : Nat) (pl : Int), ds = [b.toD, .int k, .int pl, .ref aP] ∧ b.ok NS k ∧ 4 ≤ k + n ∧ Q (.tup [.non, .int (pl + b.size)]) G
theorem v_first_wrong {NS : List Str} {aP : Addr} {n : Nat} {ds : List D} {G : Gh} {Q : DQ} {E : DXq} (h : sp_first_wrong NS aP n ds G Q E) :
    W_first_wrong aP (recSp (sp_first_wrong NS aP) n) sp_is_branch sp_is_inner (sp_is_plain_row NS) (endsOf K Q) (dstart N_first_wrong ds) G := by
  obtain ⟨b, k, pl, rfl, ok, hn, q⟩ := h
  show W_first_wrong aP (recSp (sp_first_wrong NS aP) n) sp_is_branch sp_is_inner (sp_is_plain_row NS) (endsOf K Q) [some b.toD, some (.int k), some (.int pl), some (.ref aP), none, none, none, none] G
  unfold W_first_wrong
  trivial
  refine loop_rule (fun items σ G' => ∃ (t : Blk) (x4 x5 x6 x7 : Option D) (pl' : Int), items = t.ds ∧ σ = [some b.toD, some (.int k), some (.int pl'), some (.ref aP), x4, x5, x6, x7] ∧ G' = G ∧ t.ok NS k ∧ pl' + t.size = pl + b.size) ?_ ?_ _ _ _ ⟨b, none, none, none, none, pl, rfl, rfl, rfl, ok, rfl⟩
  · rintro σ G' ⟨t, x4, x5, x6, x7, pl', ht, rfl, rfl, _, e⟩
    cases t <;> first | cases ht | skip
    have e2 : pl' = pl + b.size := by simpa [Blk.size] using e
    subst e2
    trivial
    exact rt_here q
  · rintro d ds N σ G' hN ⟨t, x4, x5, x6, x7, pl', ht, rfl, rfl, ok', e⟩
    cases t with
    | nil => cases ht
    | pl r t =>
      cases ht
      trivial
      refine .inl ⟨r, rfl, ?_⟩
      trivial
      refine ⟨r, rfl, ok'.1, ?_⟩
      trivial
      exact hN _ _ ⟨t, _, _, _, _, _, rfl, rfl, rfl, ok'.2, by simp only [Blk.size] at e; omega⟩
    | ei a c t =>
      cases ht
      obtain ⟨h4, l1, l2, o1, o2, o3⟩ := ok'
      obtain ⟨n, rfl⟩ : ∃ m, n = m + 1 := ⟨n - 1, by omega⟩
      trivial
      refine .inr (.inl ⟨a, c, rfl, ?_⟩)
      trivial
      refine ⟨a, _, rfl, l1, by omega, ?_⟩
      trivial
      refine ⟨c, _, rfl, l2, by omega, ?_⟩
      trivial
      refine ⟨_, _, rfl, rfl, ?_⟩
      trivial
      refine ⟨a, k + 1, pl' + 1, rfl, o1, by omega, ?_⟩
      trivial
      refine ⟨c, k + 1, _, rfl, o2, by omega, ?_⟩
      trivial
      exact hN _ _ ⟨t, _, _, _, _, _, rfl, rfl, rfl, o3, by simp only [Blk.size] at e; omega⟩
    | ag a t =>
      cases ht
      obtain ⟨h4, l1, o1, o3⟩ := ok'
      obtain ⟨n, rfl⟩ : ∃ m, n = m + 1 := ⟨n - 1, by omega⟩
      trivial
      refine .inr (.inr ⟨a, rfl, ?_⟩)
      trivial
      refine ⟨a, _, rfl, l1, by omega, ?_⟩
      trivial
      refine ⟨_, _, rfl, rfl, ?_⟩
      trivial
      refine ⟨a, k + 1, pl' + 1, rfl, o1, by omega, ?_⟩
      trivial
      exact hN _ _ ⟨t, _, _, _, _, _, rfl, rfl, rfl, o3, by simp only [Blk.size] at e; omega⟩
end P3

/-! V3c: sizes. -/
namespace P3
open PySem PySem.Spec L2 DL
local macro_rules | `(tactic| trivial) => `(tactic| simp only [wSeq, wNext, wRet, wIfS, wAsg, wName, wVar, wC, wDrop, wOp, wCall, wCons, wNil, wIf, wB, wNot, wAnd, wOr, wAndV, wOrV, wNotV, wTup, wLst, wLstV, wFor, wISeq, wIRng1, wIRng2, wIEnum, wIStr, wChain, wIsi, wSl, wPart, wNoPart, wCallF, wCallL, wAppend, wExtend, wSetL, wSetD, wPar, wAugI, wGTup, wGCons, wGNil, wDGet, wDIn, wDict, wDictV, wPairs, wLcV, wLc, wYes, wSetF, wFld, wRev, wNeg, wNever, wLoop, wComp, wSortSet, wTry, wRaise, wCallSt, wRetX, wSetX, rEqO, rNeO, wMake, rIntA, rMulA, wTryM, wMixX, wRaise1, wXf, DEnds.off, wMeth, wPop, wTx1, onStr, wSplit, wPartition, wJoin, rSplit, rPartition, rJoin, rIntS, rStr, rMulS, wIEnumL,
  rNe0, DL.rAdd, DL.rSub, DL.rMul, DL.rDiv, DL.rMod, DL.rPow, DL.rI2, DL.rCmpI, DL.rEqB, DL.rIsN, DL.rInS, DL.rIx2, DL.ixSeq, DL.itemsOf, DL.listOf, DL.dictOf, DL.keyOf, DL.goL, DL.goK, DL.goI, DL.objOf, DL.rLenA, DL.rLen, DL.rSum, DL.rAll, DL.rTuple, DL.rList, DL.rAbs, DL.rInt, rKIn, rKGet, rIsBl, rEq0, lst2, gup_same, dwipe, slot_def, at0, at1, at2, at3, atm, cut1, cutAll,
  List.set_cons_zero, List.set_cons_succ, List.getElem?_cons_zero, List.getElem?_cons_succ, List.getElem?_nil, Option.join_some, Option.join_none, List.length_cons, List.length_nil, if_true, if_false, Bool.false_eq_true, reduceIte, Bool.not_true, Bool.not_false, Bool.true_xor, Bool.false_xor, Bool.xor_true, Bool.xor_false, true_and, and_true, reduceCtorEq, decide_true, decide_false, Option.isSome_some, Option.isSome_none, List.cons_append, List.nil_append,
  s_note_copy, s_note_give, s_note_ask, s_note_print, s_note_either, s_note_again, s_note_call, s_copy_note, s_copy_give, s_copy_ask, s_copy_print, s_copy_either, s_copy_again, s_copy_call, s_give_note, s_give_copy, s_give_ask, s_give_print, s_give_either, s_give_again, s_give_call, s_ask_note, s_ask_copy, s_ask_give, s_ask_print, s_ask_either, s_ask_again, s_ask_call, s_print_note, s_print_copy, s_print_give, s_print_ask, s_print_either, s_print_again, s_print_call, s_either_note, s_either_copy, s_either_give, s_either_ask, s_either_print, s_either_again, s_either_call, s_again_note, s_again_copy, s_again_give, s_again_ask, s_again_print, s_again_either, s_again_call, s_call_note, s_call_copy, s_call_give, s_call_ask, s_call_print, s_call_either, s_call_again, s_note, s_copy, s_give, s_ask, s_print, s_either, s_again, s_call, i_note, j_note, l_note, i_copy, j_copy, l_copy, i_give, j_give, l_give, i_ask, j_ask, l_ask, i_print, j_print, l_print, i_either, j_either, l_either, i_again, j_again, l_again, i_call, j_call, l_call,
  Nat.reduceAdd, Nat.zero_add, Int.reduceLT, Int.reduceLE, Int.reduceEq, Int.reduceAdd, Int.reduceNeg, Int.reduceSub, cz0, cz1, cz2, cz3, cz4, cz5, cz6, cz7, cz8, cz9, t_tup, t_str, t_int, t_bl, lt0, lt1, lt2, lt3, lt4, lt5, lt6, zl0, zl1, zl2, zl3, zl4, zl5, zl6, zl9, rn2, x51, x52, x53, x54, at4, lkb, fl1, fl2, flstr, flint, flnon, flbl, List.all_cons, List.all_nil, Bool.and_true])
local macro_rules | `(tactic| get_elem_tactic_trivial) => `(tactic| simp only [wSeq, wNext, wRet, wIfS, wAsg, wName, wVar, wC, wDrop, wOp, wCall, wCons, wNil, wIf, wB, wNot, wAnd, wOr, wAndV, wOrV, wNotV, wTup, wLst, wLstV, wFor, wISeq, wIRng1, wIRng2, wIEnum, wIStr, wChain, wIsi, wSl, wPart, wNoPart, wCallF, wCallL, wAppend, wExtend, wSetL, wSetD, wPar, wAugI, wGTup, wGCons, wGNil, wDGet, wDIn, wDict, wDictV, wPairs, wLcV, wLc, wYes, wSetF, wFld, wRev, wNeg, wNever, wSortSet, wTry, wRaise, wCallSt, wRetX, wSetX, rEqO, rNeO, wMake, rIntA, rMulA, wTryM, wMixX, wRaise1, wXf, DEnds.off, wMeth, wPop, wTx1, onStr, wSplit, wPartition, wJoin, rSplit, rPartition, rJoin, rIntS, rStr, rMulS, wIEnumL,
  rNe0, DL.rAdd, DL.rSub, DL.rMul, DL.rDiv, DL.rMod, DL.rPow, DL.rI2, DL.rCmpI, DL.rEqB, DL.rIsN, DL.rInS, DL.rIx2, DL.ixSeq, DL.itemsOf, DL.listOf, DL.dictOf, DL.keyOf, DL.goL, DL.goK, DL.goI, DL.objOf, DL.rLenA, DL.rLen, DL.rSum, DL.rAll, DL.rTuple, DL.rList, DL.rAbs, DL.rInt, rKIn, rKGet, rIsBl, rEq0, lst2, gup_same, dwipe, slot_def, at0, at1, at2, at3, atm, cut1, cutAll,
  List.set_cons_zero, List.set_cons_succ, List.getElem?_cons_zero, List.getElem?_cons_succ, List.getElem?_nil, Option.join_some, Option.join_none, List.length_cons, List.length_nil, if_true, if_false, Bool.false_eq_true, reduceIte, Bool.not_true, Bool.not_false, Bool.true_xor, Bool.false_xor, Bool.xor_true, Bool.xor_false, true_and, and_true, reduceCtorEq, decide_true, decide_false, Option.isSome_some, Option.isSome_none, List.cons_append, List.nil_append,
  s_note_copy, s_note_give, s_note_ask, s_note_print, s_note_either, s_note_again, s_note_call, s_copy_note, s_copy_give, s_copy_ask, s_copy_print, s_copy_either, s_copy_again, s_copy_call, s_give_note, s_give_copy, s_give_ask, s_give_print, s_give_either, s_give_again, s_give_call, s_ask_note, s_ask_copy, s_ask_give, s_ask_print, s_ask_either, s_ask_again, s_ask_call, s_print_note, s_print_copy, s_print_give, s_print_ask, s_print_either, s_print_again, s_print_call, s_either_note, s_either_copy, s_either_give, s_either_ask, s_either_print, s_either_again, s_either_call, s_again_note, s_again_copy, s_again_give, s_again_ask, s_again_print, s_again_either, s_again_call, s_call_note, s_call_copy, s_call_give, s_call_ask, s_call_print, s_call_either, s_call_again, s_note, s_copy, s_give, s_ask, s_print, s_either, s_again, s_call, i_note, j_note, l_note, i_copy, j_copy, l_copy, i_give, j_give, l_give, i_ask, j_ask, l_ask, i_print, j_print, l_print, i_either, j_either, l_either, i_again, j_again, l_again, i_call, j_call, l_call,
  Nat.reduceAdd, Nat.zero_add, Int.reduceLT, Int.reduceLE, Int.reduceEq, Int.reduceAdd, Int.reduceNeg, Int.reduceSub, cz0, cz1, cz2, cz3, cz4, cz5, cz6, cz7, cz8, cz9, t_tup, t_str, t_int, t_bl, lt0, lt1, lt2, lt3, lt4, lt5, lt6, zl0, zl1, zl2, zl3, zl4, zl5, zl6, zl9, rn2, x51, x52, x53, x54, at4, lkb, fl1, fl2, flstr, flint, flnon, flbl, List.all_cons, List.all_nil, Bool.and_true])
variable {K : PySem.W.Frag} {OC : Addr → Bool}

def sp_size_of (NS : List Str) (n : Nat) : DSp := fun ds G Q _ => ∃ (r : Blk) (k : Nat), One r ∧ ds = r.ds ∧ r.ok NS k ∧ 4 ≤ k + n ∧ r.size ≤ 30 ∧ Q (.int r.size) G
def sp_size_of_block (NS : List Str) (n : Nat) : DSp := fun ds G Q _ => ∃ (b : Blk) (k : Nat), ds = [b.toD] ∧ b.ok NS k ∧ 4 ≤ k + n ∧ b.size ≤ 30 ∧ Q (.int b.size) G
theorem v_size_of_block {NS : List Str} {n : Nat} {ds : List D} {G : Gh} {Q : DQ} {E : DXq} (h : sp_size_of_block NS n ds G Q E) : W_size_of_block (sp_size_of NS n) (endsOf K Q) (dstart N_size_of_block ds) G := by
  obtain ⟨b, k, rfl, ok, hn, hs, q⟩ := h
  show W_size_of_block (sp_size_of NS n) (endsOf K Q) [some b.toD, none] G
  unfold W_size_of_block
  trivial
  have hl := b.len_le
  refine comp_rule (fun items acc G' => ∃ (t : Blk) (ns : List Int), items = t.ds ∧ acc = ns.map D.int ∧ G' = G ∧ t.ok NS k ∧ ns.sum + t.size = b.size ∧ t.size ≤ 30 ∧ ns.length + t.ds.length = b.ds.length) ?_ ?_ _ _ _ ⟨b, [], rfl, rfl, rfl, ok, by simp, hs, by simp⟩
  · rintro acc G' ⟨t, ns, ht, rfl, rfl, _, e, _, _⟩
    cases t <;> first | cases ht | skip
    refine ⟨True.intro, _, ns, rfl, intsOf_map ns, rt_here ?_⟩
    have e2 : ns.sum = b.size := by simpa [Blk.size] using e
    rw [e2]; exact q
  · rintro d ds N acc G' hN ⟨t, ns, ht, rfl, rfl, ok', e, hs', hlen⟩
    have hsl : ns.length < sizeLine := by rw [sizeLine_eq]; omega
    cases t with
    | nil => cases ht
    | pl r t =>
      cases ht
      trivial
      refine ⟨.pl r .nil, k, .pl r, rfl, ⟨ok'.1, True.intro⟩, hn, by simp only [Blk.size]; omega, by rw [List.length_map]; exact hsl, hN _ _ ⟨t, ns ++ [1], rfl, by rw [List.map_append]; rfl, rfl, ok'.2, ?_, ?_, ?_⟩⟩
      · simp only [Blk.size] at e; rw [List.sum_append]; simp only [List.sum_cons, List.sum_nil]; omega
      · simp only [Blk.size] at hs'; omega
      · simp only [Blk.ds, List.length_cons] at hlen; rw [List.length_append]; simp only [List.length_cons, List.length_nil]; omega
    | ei a c t =>
      cases ht
      obtain ⟨h4, l1, l2, o1, o2, o3⟩ := ok'
      simp only [Blk.size] at e hs'
      trivial
      refine ⟨.ei a c .nil, k, .ei a c, rfl, ⟨h4, l1, l2, o1, o2, True.intro⟩, hn, by simp only [Blk.size]; omega, by rw [List.length_map]; exact hsl, hN _ _ ⟨t, ns ++ [((Blk.ei a c .nil).size : Int)], rfl, by rw [List.map_append]; rfl, rfl, o3, ?_, by omega, ?_⟩⟩
      · rw [List.sum_append]; simp only [List.sum_cons, List.sum_nil, Blk.size]; omega
      · simp only [Blk.ds, List.length_cons] at hlen; rw [List.length_append]; simp only [List.length_cons, List.length_nil]; omega
    | ag a t =>
      cases ht
      obtain ⟨h4, l1, o1, o3⟩ := ok'
      simp only [Blk.size] at e hs'
      trivial
      refine ⟨.ag a .nil, k, .ag a, rfl, ⟨h4, l1, o1, True.intro⟩, hn, by simp only [Blk.size]; omega, by rw [List.length_map]; exact hsl, hN _ _ ⟨t, ns ++ [((Blk.ag a .nil).size : Int)], rfl, by rw [List.map_append]; rfl, rfl, o3, ?_, by omega, ?_⟩⟩
      · rw [List.sum_append]; simp only [List.sum_cons, List.sum_nil, Blk.size]; omega
      · simp only [Blk.ds, List.length_cons] at hlen; rw [List.length_append]; simp only [List.length_cons, List.length_nil]; omega
theorem v_size_of {aB : Addr} {NS : List Str} {n : Nat} {ds : List D} {G : Gh} {Q : DQ} {E : DXq} (h : sp_size_of NS n ds G Q E) : W_size_of TB aB (recSp (sp_size_of_block NS) n) (endsOf K Q) (dstart N_size_of ds) G := by
  obtain ⟨r, k, one, rfl, ok, hn, hs, q⟩ := h
  have core : ∀ d : D, W_size_of TB aB (recSp (sp_size_of_block NS) n) (endsOf K Q) [some d, none] G → W_size_of TB aB (recSp (sp_size_of_block NS) n) (endsOf K Q) (dstart N_size_of [d]) G := fun d h => h
  cases one with
  | pl r =>
    refine core _ ?_
    unfold W_size_of
    cases r <;>
    · unfold PR.toD
      trivial
      exact rt_here q
  | ei a c =>
    obtain ⟨h4, l1, l2, o1, o2, o3⟩ := ok
    obtain ⟨n, rfl⟩ : ∃ m, n = m + 1 := ⟨n - 1, by omega⟩
    simp only [Blk.size] at hs
    refine core _ ?_
    unfold W_size_of
    trivial
    refine ⟨a, k + 1, rfl, o1, by omega, by omega, ?_⟩
    trivial
    refine ⟨c, k + 1, rfl, o2, by omega, by omega, ?_⟩
    trivial
    refine ⟨_, _, rfl, rfl, rt_here ?_⟩
    have : (1 + [((a.size : Nat) : Int), ((c.size : Nat) : Int)].sum) = (((Blk.ei a c .nil).size : Nat) : Int) := by simp only [Blk.size, List.sum_cons, List.sum_nil]; omega
    exact this ▸ q
  | ag a =>
    obtain ⟨h4, l1, o1, o3⟩ := ok
    obtain ⟨n, rfl⟩ : ∃ m, n = m + 1 := ⟨n - 1, by omega⟩
    simp only [Blk.size] at hs
    refine core _ ?_
    unfold W_size_of
    trivial
    refine ⟨a, k + 1, rfl, o1, by omega, by omega, ?_⟩
    trivial
    refine ⟨_, _, rfl, rfl, rt_here ?_⟩
    have : (1 + [((a.size : Nat) : Int)].sum) = (((Blk.ag a .nil).size : Nat) : Int) := by simp only [Blk.size, List.sum_cons, List.sum_nil]; omega
    exact this ▸ q
/-! the law's own size -/
def sp_lsize (NS : List Str) (n : Nat) : DSp := sp_size_of_block NS n
theorem v_lsize {NS : List Str} {n : Nat} {ds : List D} {G : Gh} {Q : DQ} {E : DXq} (h : sp_lsize NS n ds G Q E) : W__law_size (recSp (sp_lsize NS) n) (endsOf K Q) (dstart N__law_size ds) G := by
  obtain ⟨b, k, rfl, ok, hn, hs, q⟩ := h
  show W__law_size (recSp (sp_lsize NS) n) (endsOf K Q) [some b.toD, none, none, none] G
  unfold W__law_size
  trivial
  refine loop_rule (fun items σ G' => ∃ (t : Blk) (m : Int) (x2 x3 : Option D), items = t.ds ∧ σ = [some b.toD, some (.int m), x2, x3] ∧ G' = G ∧ t.ok NS k ∧ m + t.size = b.size ∧ t.size ≤ 30) ?_ ?_ _ _ _ ⟨b, 0, none, none, rfl, rfl, rfl, ok, by simp, hs⟩
  · rintro σ G' ⟨t, m, x2, x3, ht, rfl, rfl, _, e, _⟩
    cases t <;> first | cases ht | skip
    have e2 : m = b.size := by simpa [Blk.size] using e
    subst e2
    trivial
    exact rt_here q
  · rintro d ds N σ G' hN ⟨t, m, x2, x3, ht, rfl, rfl, ok', e, hs'⟩
    cases t with
    | nil => cases ht
    | pl r t =>
      cases ht
      simp only [Blk.size] at e hs'
      cases r <;>
      · unfold PR.toD
        trivial
        exact hN _ _ ⟨t, _, _, _, rfl, rfl, rfl, ok'.2, by omega, by omega⟩
    | ei a c t =>
      cases ht
      obtain ⟨h4, l1, l2, o1, o2, o3⟩ := ok'
      obtain ⟨n, rfl⟩ : ∃ m, n = m + 1 := ⟨n - 1, by omega⟩
      simp only [Blk.size] at e hs'
      trivial
      refine ⟨a, k + 1, rfl, o1, by omega, by omega, ?_⟩
      trivial
      refine ⟨c, k + 1, rfl, o2, by omega, by omega, ?_⟩
      trivial
      refine ⟨_, _, rfl, rfl, ?_⟩
      trivial
      exact hN _ _ ⟨t, _, _, _, rfl, rfl, rfl, o3, by simp only [List.sum_cons, List.sum_nil]; omega, by omega⟩
    | ag a t =>
      cases ht
      obtain ⟨h4, l1, o1, o3⟩ := ok'
      obtain ⟨n, rfl⟩ : ∃ m, n = m + 1 := ⟨n - 1, by omega⟩
      simp only [Blk.size] at e hs'
      trivial
      refine ⟨a, k + 1, rfl, o1, by omega, by omega, ?_⟩
      trivial
      refine ⟨_, _, rfl, rfl, ?_⟩
      trivial
      exact hN _ _ ⟨t, _, _, _, rfl, rfl, rfl, o3, by simp only [List.sum_cons, List.sum_nil]; omega, by omega⟩
end P3

/-! V3d: the rows in their order. -/
namespace P3
open PySem PySem.Spec L2 DL
local macro_rules | `(tactic| trivial) => `(tactic| simp only [wSeq, wNext, wRet, wIfS, wAsg, wName, wVar, wC, wDrop, wOp, wCall, wCons, wNil, wIf, wB, wNot, wAnd, wOr, wAndV, wOrV, wNotV, wTup, wLst, wLstV, wFor, wISeq, wIRng1, wIRng2, wIEnum, wIStr, wChain, wIsi, wSl, wPart, wNoPart, wCallF, wCallL, wAppend, wExtend, wSetL, wSetD, wPar, wAugI, wGTup, wGCons, wGNil, wDGet, wDIn, wDict, wDictV, wPairs, wLcV, wLc, wYes, wSetF, wFld, wRev, wNeg, wNever, wLoop, wComp, wSortSet, wTry, wRaise, wCallSt, wRetX, wSetX, rEqO, rNeO, wMake, rIntA, rMulA, wTryM, wMixX, wRaise1, wXf, DEnds.off, wMeth, wPop, wTx1, onStr, wSplit, wPartition, wJoin, rSplit, rPartition, rJoin, rIntS, rStr, rMulS, wIEnumL,
  rNe0, DL.rAdd, DL.rSub, DL.rMul, DL.rDiv, DL.rMod, DL.rPow, DL.rI2, DL.rCmpI, DL.rEqB, DL.rIsN, DL.rInS, DL.rIx2, DL.ixSeq, DL.itemsOf, DL.listOf, DL.dictOf, DL.keyOf, DL.goL, DL.goK, DL.goI, DL.objOf, DL.rLenA, DL.rLen, DL.rSum, DL.rAll, DL.rTuple, DL.rList, DL.rAbs, DL.rInt, rKIn, rKGet, rIsBl, rEq0, lst2, gup_same, dwipe, slot_def, at0, at1, at2, at3, atm, cut1, cutAll,
  List.set_cons_zero, List.set_cons_succ, List.getElem?_cons_zero, List.getElem?_cons_succ, List.getElem?_nil, Option.join_some, Option.join_none, List.length_cons, List.length_nil, if_true, if_false, Bool.false_eq_true, reduceIte, Bool.not_true, Bool.not_false, Bool.true_xor, Bool.false_xor, Bool.xor_true, Bool.xor_false, true_and, and_true, reduceCtorEq, decide_true, decide_false, Option.isSome_some, Option.isSome_none, List.cons_append, List.nil_append,
  s_note_copy, s_note_give, s_note_ask, s_note_print, s_note_either, s_note_again, s_note_call, s_copy_note, s_copy_give, s_copy_ask, s_copy_print, s_copy_either, s_copy_again, s_copy_call, s_give_note, s_give_copy, s_give_ask, s_give_print, s_give_either, s_give_again, s_give_call, s_ask_note, s_ask_copy, s_ask_give, s_ask_print, s_ask_either, s_ask_again, s_ask_call, s_print_note, s_print_copy, s_print_give, s_print_ask, s_print_either, s_print_again, s_print_call, s_either_note, s_either_copy, s_either_give, s_either_ask, s_either_print, s_either_again, s_either_call, s_again_note, s_again_copy, s_again_give, s_again_ask, s_again_print, s_again_either, s_again_call, s_call_note, s_call_copy, s_call_give, s_call_ask, s_call_print, s_call_either, s_call_again, s_note, s_copy, s_give, s_ask, s_print, s_either, s_again, s_call, i_note, j_note, l_note, i_copy, j_copy, l_copy, i_give, j_give, l_give, i_ask, j_ask, l_ask, i_print, j_print, l_print, i_either, j_either, l_either, i_again, j_again, l_again, i_call, j_call, l_call,
  Nat.reduceAdd, Nat.zero_add, Int.reduceLT, Int.reduceLE, Int.reduceEq, Int.reduceAdd, Int.reduceNeg, Int.reduceSub, cz0, cz1, cz2, cz3, cz4, cz5, cz6, cz7, cz8, cz9, t_tup, t_str, t_int, t_bl, lt0, lt1, lt2, lt3, lt4, lt5, lt6, zl0, zl1, zl2, zl3, zl4, zl5, zl6, zl9, rn2, x51, x52, x53, x54, at4, lkb, fl1, fl2, flstr, flint, flnon, flbl, List.all_cons, List.all_nil, Bool.and_true])
local macro_rules | `(tactic| get_elem_tactic_trivial) => `(tactic| simp only [wSeq, wNext, wRet, wIfS, wAsg, wName, wVar, wC, wDrop, wOp, wCall, wCons, wNil, wIf, wB, wNot, wAnd, wOr, wAndV, wOrV, wNotV, wTup, wLst, wLstV, wFor, wISeq, wIRng1, wIRng2, wIEnum, wIStr, wChain, wIsi, wSl, wPart, wNoPart, wCallF, wCallL, wAppend, wExtend, wSetL, wSetD, wPar, wAugI, wGTup, wGCons, wGNil, wDGet, wDIn, wDict, wDictV, wPairs, wLcV, wLc, wYes, wSetF, wFld, wRev, wNeg, wNever, wSortSet, wTry, wRaise, wCallSt, wRetX, wSetX, rEqO, rNeO, wMake, rIntA, rMulA, wTryM, wMixX, wRaise1, wXf, DEnds.off, wMeth, wPop, wTx1, onStr, wSplit, wPartition, wJoin, rSplit, rPartition, rJoin, rIntS, rStr, rMulS, wIEnumL,
  rNe0, DL.rAdd, DL.rSub, DL.rMul, DL.rDiv, DL.rMod, DL.rPow, DL.rI2, DL.rCmpI, DL.rEqB, DL.rIsN, DL.rInS, DL.rIx2, DL.ixSeq, DL.itemsOf, DL.listOf, DL.dictOf, DL.keyOf, DL.goL, DL.goK, DL.goI, DL.objOf, DL.rLenA, DL.rLen, DL.rSum, DL.rAll, DL.rTuple, DL.rList, DL.rAbs, DL.rInt, rKIn, rKGet, rIsBl, rEq0, lst2, gup_same, dwipe, slot_def, at0, at1, at2, at3, atm, cut1, cutAll,
  List.set_cons_zero, List.set_cons_succ, List.getElem?_cons_zero, List.getElem?_cons_succ, List.getElem?_nil, Option.join_some, Option.join_none, List.length_cons, List.length_nil, if_true, if_false, Bool.false_eq_true, reduceIte, Bool.not_true, Bool.not_false, Bool.true_xor, Bool.false_xor, Bool.xor_true, Bool.xor_false, true_and, and_true, reduceCtorEq, decide_true, decide_false, Option.isSome_some, Option.isSome_none, List.cons_append, List.nil_append,
  s_note_copy, s_note_give, s_note_ask, s_note_print, s_note_either, s_note_again, s_note_call, s_copy_note, s_copy_give, s_copy_ask, s_copy_print, s_copy_either, s_copy_again, s_copy_call, s_give_note, s_give_copy, s_give_ask, s_give_print, s_give_either, s_give_again, s_give_call, s_ask_note, s_ask_copy, s_ask_give, s_ask_print, s_ask_either, s_ask_again, s_ask_call, s_print_note, s_print_copy, s_print_give, s_print_ask, s_print_either, s_print_again, s_print_call, s_either_note, s_either_copy, s_either_give, s_either_ask, s_either_print, s_either_again, s_either_call, s_again_note, s_again_copy, s_again_give, s_again_ask, s_again_print, s_again_either, s_again_call, s_call_note, s_call_copy, s_call_give, s_call_ask, s_call_print, s_call_either, s_call_again, s_note, s_copy, s_give, s_ask, s_print, s_either, s_again, s_call, i_note, j_note, l_note, i_copy, j_copy, l_copy, i_give, j_give, l_give, i_ask, j_ask, l_ask, i_print, j_print, l_print, i_either, j_either, l_either, i_again, j_again, l_again, i_call, j_call, l_call,
  Nat.reduceAdd, Nat.zero_add, Int.reduceLT, Int.reduceLE, Int.reduceEq, Int.reduceAdd, Int.reduceNeg, Int.reduceSub, cz0, cz1, cz2, cz3, cz4, cz5, cz6, cz7, cz8, cz9, t_tup, t_str, t_int, t_bl, lt0, lt1, lt2, lt3, lt4, lt5, lt6, zl0, zl1, zl2, zl3, zl4, zl5, zl6, zl9, rn2, x51, x52, x53, x54, at4, lkb, fl1, fl2, flstr, flint, flnon, flbl, List.all_cons, List.all_nil, Bool.and_true])
variable {K : PySem.W.Frag} {OC : Addr → Bool}

/-- the first of a block, what comes behind where it is empty -/
def sel : Blk → Int → Int → Int
  | .nil, _, a => a
  | _, f, _ => f
theorem sel_ite (b : Blk) (f a : Int) : sel b f a = if decide (0 < b.ds.length) = true then f else a := by
  cases b <;> simp [sel, Blk.ds]
theorem sel_pos {b : Blk} {f a : Int} (h : decide ((0 : Int) < ((b.ds.length : Nat) : Int)) = true) : sel b f a = f := by
  rw [sel_ite, if_pos]; rw [decide_eq_true_eq] at h ⊢; omega
theorem sel_neg {b : Blk} {f a : Int} (h : ¬ decide ((0 : Int) < ((b.ds.length : Nat) : Int)) = true) : sel b f a = a := by
  rw [sel_ite, if_neg]; rw [decide_eq_true_eq] at h ⊢; omega
/-- all rows of a block, in their order: row, next places; the first stands at f, behind all comes a -/
def nxs : Blk → Int → Int → List (D × List Int)
  | .nil, _, _ => []
  | .pl r t, f, a => (r.toD, [sel t (f + 1) a]) :: nxs t (f + 1) a
  | .ei x y t, f, a => (.tup [.str "either", x.toD, y.toD], [sel x (f + 1) (sel t (f + 1 + x.size + y.size) a), sel y (f + 1 + x.size) (sel t (f + 1 + x.size + y.size) a)]) ::
      (nxs x (f + 1) (sel t (f + 1 + x.size + y.size) a) ++ (nxs y (f + 1 + x.size) (sel t (f + 1 + x.size + y.size) a) ++ nxs t (f + 1 + x.size + y.size) a))
  | .ag x t, f, a => (.tup [.str "again", x.toD], [sel x (f + 1) f, sel t (f + 1 + x.size) a]) :: (nxs x (f + 1) f ++ nxs t (f + 1 + x.size) a)
theorem nxs_length : ∀ (b : Blk) (f a : Int), (nxs b f a).length = b.size
  | .nil, _, _ => rfl
  | .pl r t, f, a => by simp only [nxs, Blk.size, List.length_cons, nxs_length t]; omega
  | .ei x y t, f, a => by simp only [nxs, Blk.size, List.length_cons, List.length_append, nxs_length t, nxs_length x, nxs_length y]; omega
  | .ag x t, f, a => by simp only [nxs, Blk.size, List.length_cons, List.length_append, nxs_length t, nxs_length x]; omega
def rowD (r : D × List Int) : D := .tup [r.1, .tup (r.2.map .int)]
def sp_lay_rows (NS : List Str) (n : Nat) : DSp := fun ds G Q _ => ∃ (p : Addr) (b : Blk) (after : Int) (k : Nat) (rows : List D), ds = [.ref p, b.toD, .int after] ∧ G p = some (.lst rows) ∧ b.ok NS k ∧ 4 ≤ k + n ∧ b.size ≤ 30 ∧ rows.length + b.size ≤ 100 ∧
  ∀ G', Sub (gup G p (.lst (rows ++ (nxs b rows.length after).map rowD))) G' → Q .non G'
theorem set_mid {α : Type} (xs : List α) (a b : α) (ys : List α) : (xs ++ a :: ys).set xs.length b = xs ++ b :: ys := by
  rw [List.set_append_right _ _ (Nat.le_refl _), Nat.sub_self]; rfl
theorem v_lay_rows {NS : List Str} {n : Nat} {ds : List D} {G : Gh} {Q : DQ} {E : DXq} (h : sp_lay_rows NS n ds G Q E) : W_lay_rows (recSp (sp_lay_rows NS) n) (sp_size_of NS n) (endsOf K Q) (dstart N_lay_rows ds) G := by
  obtain ⟨p, b, after, k, rows, rfl, hp, ok, hn, hs, hr, q⟩ := h
  show W_lay_rows (recSp (sp_lay_rows NS) n) (sp_size_of NS n) (endsOf K Q) [some (.ref p), some b.toD, some (.int after), none, none, none, none, none, none] G
  unfold W_lay_rows
  show wLoop (fun _ => True) _ _ (pairsFrom 0 b.ds) _ _ _
  refine loop_rule (fun items σ G' => ∃ (t : Blk) (i : Nat) (rows' : List D) (x3 x4 x5 x6 x7 x8 : Option D), items = pairsFrom i t.ds ∧ σ = [some (.ref p), some b.toD, some (.int after), x3, x4, x5, x6, x7, x8] ∧ Sub (gup G p (.lst rows')) G' ∧ t.ok NS k ∧
    i + t.ds.length = b.ds.length ∧ t.size ≤ 30 ∧ rows'.length + t.size ≤ 100 ∧ rows' ++ (nxs t rows'.length after).map rowD = rows ++ (nxs b rows.length after).map rowD) ?_ ?_ _ _ _ ⟨b, 0, rows, none, none, none, none, none, none, rfl, rfl, by rw [gup_id hp]; exact .refl, ok, by omega, hs, hr, rfl⟩
  · rintro σ G' ⟨t, i, rows', x3, x4, x5, x6, x7, x8, ht, rfl, hG, _, _, _, _, e⟩
    cases t <;> first | cases ht | skip
    refine ⟨True.intro, nx_here (q _ ?_)⟩
    have e2 : rows' = rows ++ (nxs b rows.length after).map rowD := by simpa [nxs] using e
    rw [← e2]; exact hG
  · rintro d ds N σ G' hN ⟨t, i, rows', x3, x4, x5, x6, x7, x8, ht, rfl, hG, ok', hi, hs', hr', e⟩
    have hp' : G' p = some (.lst rows') := hG p _ gup_same
    have hsl : rows'.length < sizeLine := by rw [sizeLine_eq]; omega
    cases t with
    | nil => cases ht
    | pl r t =>
      cases ht
      simp only [Blk.ds, List.length_cons] at hi
      simp only [Blk.size] at hs' hr'
      refine ⟨True.intro, ?_⟩
      simp only [wGTup, wGCons, wGNil, wName, wSeq, wAsg, wCall, wCons, wNil, wVar, slot_def, DL.rLenA, DL.dictOf, DL.goK, DL.rLen, DL.itemsOf, DL.goL, hp', List.set_cons_zero, List.set_cons_succ, List.getElem?_cons_zero, List.getElem?_cons_succ, Option.join_some, List.length_cons, List.length_nil, Nat.reduceAdd, true_and]
      refine wIf_val (b := decide (0 < t.ds.length)) (va := .int ((rows'.length : Int) + 1)) (vb := .int after) (fun P hP => ?_) (fun _ P hP => ?_) (fun _ P hP => ?_) ?_
      · trivial
        have : decide ((i : Int) + 1 < ((b.ds.length : Nat) : Int)) = decide (0 < t.ds.length) := by rw [decide_eq_decide]; omega
        rw [this]; exact hP
      · trivial
        exact ⟨.pl r .nil, k, .pl r, rfl, ⟨ok'.1, True.intro⟩, hn, by simp only [Blk.size]; omega, hP⟩
      · trivial
        exact hP
      · rw [show (if decide (0 < t.ds.length) = true then D.int ((rows'.length : Int) + 1) else .int after) = .int (sel t ((rows'.length : Int) + 1) after) by rw [sel_ite]; split <;> rfl]
        generalize hL : sel t ((rows'.length : Int) + 1) after = L
        have fin : ∀ (x3 x4 x5 x6 x7 x8 : Option D), N [some (.ref p), some b.toD, some (.int after), x3, x4, x5, x6, x7, x8] (gup G' p (.lst (rows' ++ [D.tup [r.toD, .tup [.int L]]]))) := fun x3 x4 x5 x6 x7 x8 =>
          hN _ _ ⟨t, i + 1, rows' ++ [D.tup [r.toD, .tup [.int L]]], x3, x4, x5, x6, x7, x8, rfl, rfl, hG.set, ok'.2, by omega, by omega, by rw [List.length_append]; simp only [List.length_cons, List.length_nil]; omega, by
            rw [← e, List.append_assoc]; subst hL; simp only [nxs, List.map_cons, rowD, List.map_nil, List.length_append, List.length_cons, List.length_nil, List.singleton_append]; rfl⟩
        cases r <;>
        · unfold PR.toD at fin ⊢
          trivial
          simp only [hp']
          trivial
          refine ⟨hsl, ?_⟩
          exact fin _ _ _ _ _ _
    | ei x y t =>
      cases ht
      obtain ⟨h4, l1, l2, o1, o2, o3⟩ := ok'
      obtain ⟨n, rfl⟩ : ∃ m, n = m + 1 := ⟨n - 1, by omega⟩
      simp only [Blk.ds, List.length_cons] at hi
      simp only [Blk.size] at hs' hr'
      refine ⟨True.intro, ?_⟩
      simp only [wGTup, wGCons, wGNil, wName, wSeq, wAsg, wCall, wCons, wNil, wVar, slot_def, DL.rLenA, DL.dictOf, DL.goK, DL.rLen, DL.itemsOf, DL.goL, hp', List.set_cons_zero, List.set_cons_succ, List.getElem?_cons_zero, List.getElem?_cons_succ, Option.join_some, List.length_cons, List.length_nil, Nat.reduceAdd, true_and]
      refine wIf_val (b := decide (0 < t.ds.length)) (va := .int ((rows'.length : Int) + 1 + x.size + y.size)) (vb := .int after) (fun P hP => ?_) (fun _ P hP => ?_) (fun _ P hP => ?_) ?_
      · trivial
        have : decide ((i : Int) + 1 < ((b.ds.length : Nat) : Int)) = decide (0 < t.ds.length) := by rw [decide_eq_decide]; omega
        rw [this]; exact hP
      · trivial
        refine ⟨.ei x y .nil, k, .ei x y, rfl, ⟨h4, l1, l2, o1, o2, True.intro⟩, hn, by simp only [Blk.size]; omega, ?_⟩
        show P (D.int ((rows'.length : Int) + (((Blk.ei x y .nil).size : Nat) : Int))) G'
        rw [show (rows'.length : Int) + (((Blk.ei x y .nil).size : Nat) : Int) = (rows'.length : Int) + 1 + x.size + y.size by simp only [Blk.size]; omega]
        exact hP
      · trivial
        exact hP
      · rw [show (if decide (0 < t.ds.length) = true then D.int ((rows'.length : Int) + 1 + x.size + y.size) else .int after) = .int (sel t ((rows'.length : Int) + 1 + x.size + y.size) after) by rw [sel_ite]; split <;> rfl]
        generalize hL : sel t ((rows'.length : Int) + 1 + x.size + y.size) after = L
        trivial
        simp only [hp']
        trivial
        refine ⟨hsl, fun q hq => ?_⟩
        have hqp : q ≠ p := fun z => by rw [z, gup_same] at hq; cases hq
        have hpq : p ≠ q := Ne.symm hqp
        have hix : ∀ (c : D) (l : List D), ixN (rows' ++ c :: l).length (rows'.length : Int) = some rows'.length := fun c l => ixN_in (by rw [List.length_append]; simp)
        simp only [gup_ne hpq, gup_same]
        split <;>
        · refine ⟨p, x, L, k + 1, _, rfl, by rw [gup_ne hpq, gup_ne hpq, gup_same], o1, by omega, by omega, by rw [List.length_append]; simp only [List.length_cons, List.length_nil]; omega, fun G3 hG3 => ?_⟩
          have h3p := hG3 p _ gup_same
          have h3q := hG3 q _ (by rw [gup_ne hqp]; exact gup_same)
          simp only [h3p, h3q]
          trivial
          split <;>
          · refine ⟨p, y, L, k + 1, _, rfl, by rw [gup_ne hpq, h3p], o2, by omega, by omega, by simp only [List.length_append, List.length_map, nxs_length, List.length_cons, List.length_nil]; omega, fun G4 hG4 => ?_⟩
            have h4p := hG4 p _ gup_same
            have h4q := hG4 q _ (by rw [gup_ne hqp]; exact gup_same)
            have hsub : ∀ R, Sub (gup G p (.lst R)) (gup G4 p (.lst R)) := fun R a o ea => by
              by_cases z : a = p
              · subst z; rw [gup_same] at ea ⊢; exact ea
              · rw [gup_ne z] at ea ⊢
                have e1 : G' a = some o := hG a o (by rw [gup_ne z]; exact ea)
                have zq : a ≠ q := fun w => by rw [w] at e1 z; rw [gup_ne z, e1] at hq; cases hq
                have e3 : G3 a = some o := hG3 a o (by rw [gup_ne z, gup_ne zq, gup_ne zq, gup_ne z]; exact e1)
                exact hG4 a o (by rw [gup_ne z, gup_ne zq]; exact e3)
            simp only [h4p, h4q]
            rw [List.append_assoc, List.append_assoc, List.singleton_append, hix]
            dsimp only
            rw [set_mid]
            refine hN _ _ ⟨t, i + 1, _, _, _, _, _, _, _, rfl, rfl, hsub _, o3, by omega, by omega, ?_, ?_⟩
            · simp only [List.length_append, List.length_map, nxs_length, List.length_cons, List.length_nil]; omega
            · rw [← e]
              subst hL
              simp only [nxs, List.map_cons, rowD, List.map_nil, List.map_append, List.length_append, List.length_map, nxs_length, List.length_cons, List.length_nil, List.append_assoc, List.cons_append, List.nil_append, Nat.zero_add]
              rw [show (((rows'.length + 1 : Nat)) : Int) = (rows'.length : Int) + 1 by omega]
              first | rw [sel_pos (b := x) (by assumption)] | rw [sel_neg (b := x) (by assumption)]
              first | rw [sel_pos (b := y) (by assumption)] | rw [sel_neg (b := y) (by assumption)]
              rw [show ((rows'.length + (x.size + 1) : Nat) : Int) = (rows'.length : Int) + 1 + x.size by omega, show ((rows'.length + (x.size + y.size + 1) : Nat) : Int) = (rows'.length : Int) + 1 + x.size + y.size by omega]
    | ag x t =>
      cases ht
      obtain ⟨h4, l1, o1, o3⟩ := ok'
      obtain ⟨n, rfl⟩ : ∃ m, n = m + 1 := ⟨n - 1, by omega⟩
      simp only [Blk.ds, List.length_cons] at hi
      simp only [Blk.size] at hs' hr'
      refine ⟨True.intro, ?_⟩
      simp only [wGTup, wGCons, wGNil, wName, wSeq, wAsg, wCall, wCons, wNil, wVar, slot_def, DL.rLenA, DL.dictOf, DL.goK, DL.rLen, DL.itemsOf, DL.goL, hp', List.set_cons_zero, List.set_cons_succ, List.getElem?_cons_zero, List.getElem?_cons_succ, Option.join_some, List.length_cons, List.length_nil, Nat.reduceAdd, true_and]
      refine wIf_val (b := decide (0 < t.ds.length)) (va := .int ((rows'.length : Int) + 1 + x.size)) (vb := .int after) (fun P hP => ?_) (fun _ P hP => ?_) (fun _ P hP => ?_) ?_
      · trivial
        have : decide ((i : Int) + 1 < ((b.ds.length : Nat) : Int)) = decide (0 < t.ds.length) := by rw [decide_eq_decide]; omega
        rw [this]; exact hP
      · trivial
        refine ⟨.ag x .nil, k, .ag x, rfl, ⟨h4, l1, o1, True.intro⟩, hn, by simp only [Blk.size]; omega, ?_⟩
        show P (D.int ((rows'.length : Int) + (((Blk.ag x .nil).size : Nat) : Int))) G'
        rw [show (rows'.length : Int) + (((Blk.ag x .nil).size : Nat) : Int) = (rows'.length : Int) + 1 + x.size by simp only [Blk.size]; omega]
        exact hP
      · trivial
        exact hP
      · rw [show (if decide (0 < t.ds.length) = true then D.int ((rows'.length : Int) + 1 + x.size) else .int after) = .int (sel t ((rows'.length : Int) + 1 + x.size) after) by rw [sel_ite]; split <;> rfl]
        generalize hL : sel t ((rows'.length : Int) + 1 + x.size) after = L
        trivial
        simp only [hp']
        trivial
        refine ⟨hsl, ?_⟩
        have hix : ∀ d : D, ixN (rows' ++ [d]).length (rows'.length : Int) = some rows'.length := fun d => ixN_in (by rw [List.length_append]; simp)
        have fin : ∀ (B : Int), sel x ((rows'.length : Int) + 1) rows'.length = B → ∀ (x3 x4 x5 x6 x7 x8 : Option D) (c : D) (G2 : Gh), G2 = gup (gup G' p (.lst (rows' ++ [c]))) p (.lst (rows' ++ [D.tup [.tup [.str "again", .tup x.ds], .tup [.int B, .int L]]])) →
            sp_lay_rows NS n [.ref p, .tup x.ds, .int rows'.length] G2 (fun _ G3 => N [some (.ref p), some b.toD, some (.int after), x3, x4, x5, x6, x7, x8] G3) noX := by
          rintro B hB x3 x4 x5 x6 x7 x8 c G2 rfl
          refine ⟨p, x, rows'.length, k + 1, _, rfl, gup_same, o1, by omega, by omega, by rw [List.length_append]; simp only [List.length_cons, List.length_nil]; omega, fun G3 hG3 => ?_⟩
          have hG3' := hG3
          rw [gup_gup, gup_gup] at hG3'
          refine hN _ _ ⟨t, i + 1, _, x3, x4, x5, x6, x7, x8, rfl, rfl, hG.set.trans hG3', o3, by omega, by omega, ?_, ?_⟩
          · simp only [List.length_append, List.length_map, nxs_length, List.length_cons, List.length_nil]; omega
          · rw [← e]
            subst hL hB
            simp only [nxs, List.map_cons, rowD, List.map_nil, List.map_append, List.length_append, List.length_map, nxs_length, List.length_cons, List.length_nil, List.append_assoc, List.cons_append, List.nil_append]
            rw [show (((rows'.length + (0 + 1) : Nat)) : Int) = (rows'.length : Int) + 1 by omega, show (((rows'.length + (x.size + 1) : Nat)) : Int) = (rows'.length : Int) + 1 + x.size by omega]
        split <;>
        · rw [hix]
          dsimp only
          rw [set_mid]
          exact fin _ (by first | exact sel_pos (by assumption) | exact sel_neg (by assumption)) _ _ _ _ _ _ _ _ rfl
end P3

/-! V3e: rows_of, names_of, Program. -/
namespace P3
open PySem PySem.Spec L2 DL
local macro_rules | `(tactic| trivial) => `(tactic| simp only [wSeq, wNext, wRet, wIfS, wAsg, wName, wVar, wC, wDrop, wOp, wCall, wCons, wNil, wIf, wB, wNot, wAnd, wOr, wAndV, wOrV, wNotV, wTup, wLst, wLstV, wFor, wISeq, wIRng1, wIRng2, wIEnum, wIStr, wChain, wIsi, wSl, wPart, wNoPart, wCallF, wCallL, wAppend, wExtend, wSetL, wSetD, wPar, wAugI, wGTup, wGCons, wGNil, wDGet, wDIn, wDict, wDictV, wPairs, wLcV, wLc, wYes, wSetF, wFld, wRev, wNeg, wNever, wLoop, wComp, wSortSet, wTry, wRaise, wCallSt, wRetX, wSetX, rEqO, rNeO, wMake, rIntA, rMulA, wTryM, wMixX, wRaise1, wXf, DEnds.off, wMeth, wPop, wTx1, onStr, wSplit, wPartition, wJoin, rSplit, rPartition, rJoin, rIntS, rStr, rMulS, wIEnumL,
  rNe0, DL.rAdd, DL.rSub, DL.rMul, DL.rDiv, DL.rMod, DL.rPow, DL.rI2, DL.rCmpI, DL.rEqB, DL.rIsN, DL.rInS, DL.rIx2, DL.ixSeq, DL.itemsOf, DL.listOf, DL.dictOf, DL.keyOf, DL.goL, DL.goK, DL.goI, DL.objOf, DL.rLenA, DL.rLen, DL.rSum, DL.rAll, DL.rTuple, DL.rList, DL.rAbs, DL.rInt, rKIn, rKGet, rIsBl, rEq0, lst2, gup_same, dwipe, slot_def, at0, at1, at2, at3, atm, cut1, cutAll,
  List.set_cons_zero, List.set_cons_succ, List.getElem?_cons_zero, List.getElem?_cons_succ, List.getElem?_nil, Option.join_some, Option.join_none, List.length_cons, List.length_nil, if_true, if_false, Bool.false_eq_true, reduceIte, Bool.not_true, Bool.not_false, Bool.true_xor, Bool.false_xor, Bool.xor_true, Bool.xor_false, true_and, and_true, reduceCtorEq, decide_true, decide_false, Option.isSome_some, Option.isSome_none, List.cons_append, List.nil_append,
  s_note_copy, s_note_give, s_note_ask, s_note_print, s_note_either, s_note_again, s_note_call, s_copy_note, s_copy_give, s_copy_ask, s_copy_print, s_copy_either, s_copy_again, s_copy_call, s_give_note, s_give_copy, s_give_ask, s_give_print, s_give_either, s_give_again, s_give_call, s_ask_note, s_ask_copy, s_ask_give, s_ask_print, s_ask_either, s_ask_again, s_ask_call, s_print_note, s_print_copy, s_print_give, s_print_ask, s_print_either, s_print_again, s_print_call, s_either_note, s_either_copy, s_either_give, s_either_ask, s_either_print, s_either_again, s_either_call, s_again_note, s_again_copy, s_again_give, s_again_ask, s_again_print, s_again_either, s_again_call, s_call_note, s_call_copy, s_call_give, s_call_ask, s_call_print, s_call_either, s_call_again, s_note, s_copy, s_give, s_ask, s_print, s_either, s_again, s_call, i_note, j_note, l_note, i_copy, j_copy, l_copy, i_give, j_give, l_give, i_ask, j_ask, l_ask, i_print, j_print, l_print, i_either, j_either, l_either, i_again, j_again, l_again, i_call, j_call, l_call,
  Nat.reduceAdd, Nat.zero_add, Int.reduceLT, Int.reduceLE, Int.reduceEq, Int.reduceAdd, Int.reduceNeg, Int.reduceSub, cz0, cz1, cz2, cz3, cz4, cz5, cz6, cz7, cz8, cz9, t_tup, t_str, t_int, t_bl, lt0, lt1, lt2, lt3, lt4, lt5, lt6, zl0, zl1, zl2, zl3, zl4, zl5, zl6, zl9, rn2, x51, x52, x53, x54, at4, lkb, fl1, fl2, flstr, flint, flnon, flbl, List.all_cons, List.all_nil, Bool.and_true])
local macro_rules | `(tactic| get_elem_tactic_trivial) => `(tactic| simp only [wSeq, wNext, wRet, wIfS, wAsg, wName, wVar, wC, wDrop, wOp, wCall, wCons, wNil, wIf, wB, wNot, wAnd, wOr, wAndV, wOrV, wNotV, wTup, wLst, wLstV, wFor, wISeq, wIRng1, wIRng2, wIEnum, wIStr, wChain, wIsi, wSl, wPart, wNoPart, wCallF, wCallL, wAppend, wExtend, wSetL, wSetD, wPar, wAugI, wGTup, wGCons, wGNil, wDGet, wDIn, wDict, wDictV, wPairs, wLcV, wLc, wYes, wSetF, wFld, wRev, wNeg, wNever, wSortSet, wTry, wRaise, wCallSt, wRetX, wSetX, rEqO, rNeO, wMake, rIntA, rMulA, wTryM, wMixX, wRaise1, wXf, DEnds.off, wMeth, wPop, wTx1, onStr, wSplit, wPartition, wJoin, rSplit, rPartition, rJoin, rIntS, rStr, rMulS, wIEnumL,
  rNe0, DL.rAdd, DL.rSub, DL.rMul, DL.rDiv, DL.rMod, DL.rPow, DL.rI2, DL.rCmpI, DL.rEqB, DL.rIsN, DL.rInS, DL.rIx2, DL.ixSeq, DL.itemsOf, DL.listOf, DL.dictOf, DL.keyOf, DL.goL, DL.goK, DL.goI, DL.objOf, DL.rLenA, DL.rLen, DL.rSum, DL.rAll, DL.rTuple, DL.rList, DL.rAbs, DL.rInt, rKIn, rKGet, rIsBl, rEq0, lst2, gup_same, dwipe, slot_def, at0, at1, at2, at3, atm, cut1, cutAll,
  List.set_cons_zero, List.set_cons_succ, List.getElem?_cons_zero, List.getElem?_cons_succ, List.getElem?_nil, Option.join_some, Option.join_none, List.length_cons, List.length_nil, if_true, if_false, Bool.false_eq_true, reduceIte, Bool.not_true, Bool.not_false, Bool.true_xor, Bool.false_xor, Bool.xor_true, Bool.xor_false, true_and, and_true, reduceCtorEq, decide_true, decide_false, Option.isSome_some, Option.isSome_none, List.cons_append, List.nil_append,
  s_note_copy, s_note_give, s_note_ask, s_note_print, s_note_either, s_note_again, s_note_call, s_copy_note, s_copy_give, s_copy_ask, s_copy_print, s_copy_either, s_copy_again, s_copy_call, s_give_note, s_give_copy, s_give_ask, s_give_print, s_give_either, s_give_again, s_give_call, s_ask_note, s_ask_copy, s_ask_give, s_ask_print, s_ask_either, s_ask_again, s_ask_call, s_print_note, s_print_copy, s_print_give, s_print_ask, s_print_either, s_print_again, s_print_call, s_either_note, s_either_copy, s_either_give, s_either_ask, s_either_print, s_either_again, s_either_call, s_again_note, s_again_copy, s_again_give, s_again_ask, s_again_print, s_again_either, s_again_call, s_call_note, s_call_copy, s_call_give, s_call_ask, s_call_print, s_call_either, s_call_again, s_note, s_copy, s_give, s_ask, s_print, s_either, s_again, s_call, i_note, j_note, l_note, i_copy, j_copy, l_copy, i_give, j_give, l_give, i_ask, j_ask, l_ask, i_print, j_print, l_print, i_either, j_either, l_either, i_again, j_again, l_again, i_call, j_call, l_call,
  Nat.reduceAdd, Nat.zero_add, Int.reduceLT, Int.reduceLE, Int.reduceEq, Int.reduceAdd, Int.reduceNeg, Int.reduceSub, cz0, cz1, cz2, cz3, cz4, cz5, cz6, cz7, cz8, cz9, t_tup, t_str, t_int, t_bl, lt0, lt1, lt2, lt3, lt4, lt5, lt6, zl0, zl1, zl2, zl3, zl4, zl5, zl6, zl9, rn2, x51, x52, x53, x54, at4, lkb, fl1, fl2, flstr, flint, flnon, flbl, List.all_cons, List.all_nil, Bool.and_true])
variable {K : PySem.W.Frag} {OC : Addr → Bool}

/-! rows_of -/
def sp_rows_of (NS : List Str) : DSp := fun ds G Q _ => ∃ (b : Blk), ds = [b.toD] ∧ b.ok NS 1 ∧ b.size ≤ 30 ∧ Q (.lst ((nxs b 0 b.size).map rowD)) G
theorem v_rows_of {NS : List Str} {ds : List D} {G : Gh} {Q : DQ} {E : DXq} (h : sp_rows_of NS ds G Q E) : W_rows_of (sp_lay_rows NS 3) (sp_size_of_block NS 3) (endsOf K Q) (dstart N_rows_of ds) G := by
  obtain ⟨b, rfl, ok, hs, q⟩ := h
  show W_rows_of (sp_lay_rows NS 3) (sp_size_of_block NS 3) (endsOf K Q) [some b.toD, none] G
  unfold W_rows_of
  trivial
  intro p hp
  refine ⟨b, 1, rfl, ok, by omega, hs, ?_⟩
  refine ⟨p, b, b.size, 1, [], rfl, gup_same, ok, by omega, hs, by simp; omega, fun G' hG => ?_⟩
  rw [gup_gup] at hG
  exact ⟨.lst ((nxs b 0 b.size).map rowD), G, .lst (hG p _ gup_same) ((Sub.refl.up hp).trans hG) hp, q⟩
/-! names -/
def sp_names_in (NS : List Str) : DSp := fun ds G Q _ => ∃ r : PR, ds = [r.toD] ∧ r.ok NS ∧ Q (.lst (r.names.map .str)) G
theorem v_names_in {NS : List Str} {ds : List D} {G : Gh} {Q : DQ} {E : DXq} (h : sp_names_in NS ds G Q E) : W_names_in (endsOf K Q) (dstart N_names_in ds) G := by
  obtain ⟨r, rfl, ok, q⟩ := h
  show W_names_in (endsOf K Q) [some r.toD] G
  unfold W_names_in
  cases r with
  | note x o ps =>
    have n3 : ps.length ≤ 3 := ok.2.2
    unfold PR.toD
    trivial
    refine ⟨by rw [List.length_map, sizeLine_eq]; omega, rt_here q⟩
  | _ =>
    unfold PR.toD
    trivial
    exact rt_here q
inductive RowOk (NS : List Str) : D → Prop
  | pl (r : PR) (h : r.ok NS) : RowOk NS r.toD
  | ei (x y : D) : RowOk NS (.tup [.str "either", x, y])
  | ag (x : D) : RowOk NS (.tup [.str "again", x])
theorem nxs_ok {NS : List Str} : ∀ (b : Blk) (k : Nat) (f a : Int), b.ok NS k → ∀ r ∈ nxs b f a, RowOk NS r.1
  | .nil, _, _, _, _, r, h => by simp [nxs] at h
  | .pl p t, k, f, a, ok, r, h => by
    rcases List.mem_cons.mp h with h | h
    · subst h; exact .pl p ok.1
    · exact nxs_ok t k _ _ ok.2 r h
  | .ei x y t, k, f, a, ok, r, h => by
    obtain ⟨_, _, _, o1, o2, o3⟩ := ok
    rcases List.mem_cons.mp h with h | h
    · subst h; exact .ei _ _
    · rcases List.mem_append.mp h with h | h
      · exact nxs_ok x _ _ _ o1 r h
      · rcases List.mem_append.mp h with h | h
        · exact nxs_ok y _ _ _ o2 r h
        · exact nxs_ok t _ _ _ o3 r h
  | .ag x t, k, f, a, ok, r, h => by
    obtain ⟨_, _, o1, o3⟩ := ok
    rcases List.mem_cons.mp h with h | h
    · subst h; exact .ag _
    · rcases List.mem_append.mp h with h | h
      · exact nxs_ok x _ _ _ o1 r h
      · exact nxs_ok t _ _ _ o3 r h
theorem nodup_le : ∀ (ys NS : List Str), ys.Nodup → (∀ y ∈ ys, y ∈ NS) → ys.length ≤ NS.length
  | [], NS, _, _ => Nat.zero_le _
  | y :: ys, NS, nd, h => by
    obtain ⟨n1, n2⟩ := List.nodup_cons.mp nd
    have hy := h y List.mem_cons_self
    have := nodup_le ys (NS.erase y) n2 fun z hz => (List.mem_erase_of_ne (fun e => n1 (by subst e; exact hz))).mpr (h z (List.mem_cons_of_mem _ hz))
    rw [List.length_erase_of_mem hy] at this
    have := List.length_pos_of_mem hy
    rw [List.length_cons]; omega
def sp_names_of (NS : List Str) : DSp := fun ds G Q _ => ∃ L : List (D × List Int), ds = [.lst (L.map rowD)] ∧ (∀ r ∈ L, RowOk NS r.1) ∧ L.length ≤ 30 ∧ ∀ ys : List D, ys.length ≤ NS.length → Q (.lst ys) G
theorem v_names_of {aB : Addr} {NS : List Str} {ds : List D} {G : Gh} {Q : DQ} {E : DXq} (h : sp_names_of NS ds G Q E) : W_names_of TB aB (sp_names_in NS) (endsOf K Q) (dstart N_names_of ds) G := by
  obtain ⟨L, rfl, ok, hl, q⟩ := h
  show W_names_of TB aB (sp_names_in NS) (endsOf K Q) [some (.lst (L.map rowD)), none, none, none] G
  unfold W_names_of
  trivial
  intro p hp
  refine loop_rule (fun items σ G' => ∃ (M : List (D × List Int)) (xs : List Str) (x2 x3 : Option D), items = M.map rowD ∧ σ = [some (.lst (L.map rowD)), some (.ref p), x2, x3] ∧ G' = gup G p (.lst (xs.map .str)) ∧ (∀ r ∈ M, RowOk NS r.1) ∧ (∀ x ∈ xs, x ∈ NS) ∧ xs.length + 4 * M.length ≤ 120) ?_ ?_ _ _ _ ⟨L, [], none, none, rfl, rfl, rfl, ok, by simp, by simp; omega⟩
  · rintro σ G' ⟨M, xs, x2, x3, hM, rfl, rfl, _, hx, hlen⟩
    trivial
    refine ⟨_, xs, rfl, strsOf_map xs, by omega, fun ys s1 s2 s3 s4 => ?_⟩
    refine ⟨.lst (ys.map .str), G, .sub (Sub.refl.up hp), q _ ?_⟩
    rw [List.length_map]
    exact nodup_le ys NS s2 fun y hy => hx y ((s3 y).1 hy)
  · rintro d ds N σ G' hN ⟨M, xs, x2, x3, hM, rfl, rfl, hok, hx, hlen⟩
    cases M with
    | nil => cases hM
    | cons r M =>
      cases hM
      obtain ⟨d, l⟩ := r
      have hr := hok (d, l) List.mem_cons_self
      have hok' : ∀ r ∈ M, RowOk NS r.1 := fun r h => hok r (List.mem_cons_of_mem _ h)
      rw [List.length_cons] at hlen
      have stay : ∀ (x2 x3 : Option D), N [some (.lst (L.map rowD)), some (.ref p), x2, x3] (gup G p (.lst (xs.map .str))) := fun x2 x3 => hN _ _ ⟨M, xs, x2, x3, rfl, rfl, rfl, hok', hx, by omega⟩
      have more : ∀ (r : PR), r.ok NS → ∀ (x2 x3 : Option D), (xs.map D.str).length + (r.names.map D.str).length ≤ sizeLine ∧ N [some (.lst (L.map rowD)), some (.ref p), x2, x3] (gup (gup G p (.lst (xs.map .str))) p (.lst (xs.map D.str ++ r.names.map D.str))) := fun r ok x2 x3 => by
        have hn : r.names.length ≤ 4 := by
          cases r with
          | note x o ps => have : ps.length ≤ 3 := ok.2.2; simp only [PR.names, List.length_cons]; omega
          | _ => simp [PR.names]
        refine ⟨by rw [List.length_map, List.length_map, sizeLine_eq]; omega, hN _ _ ⟨M, xs ++ r.names, x2, x3, rfl, rfl, by rw [gup_gup, List.map_append], hok', fun x h => ?_, by rw [List.length_append]; omega⟩⟩
        rcases List.mem_append.mp h with h | h
        · exact hx x h
        · exact (ok.1 x h).2
      unfold rowD
      cases hr with
      | ei x y => trivial; exact stay _ _
      | ag x => trivial; exact stay _ _
      | pl r ok =>
        cases r <;>
        · have m := more _ ok
          unfold PR.toD at *
          trivial
          refine ⟨_, rfl, ok, ?_⟩
          trivial
          exact m _ _
/-! Program(block) -/
def prg (C : Addr) (b : Blk) : D := .obj C [("block", b.toD)]
def sp_init (NS : List Str) (C : Addr) : DSp := fun ds G Q _ => ∃ (p : Addr) (b : Blk), ds = [.ref p, b.toD] ∧ G p = some (.ins C []) ∧ b.ok NS 1 ∧ b.ds.length ≤ 12 ∧ b.size ≤ 30 ∧ NS.length ≤ 8 ∧ Q .non (gup G p (.ins C [("block", b.toD)]))
theorem v_init {aP C : Addr} {NS : List Str} {ds : List D} {G : Gh} {Q : DQ} {E : DXq} (h : sp_init NS C ds G Q E) : W_Program_d__init_d_ C OC aP (sp_first_wrong NS aP 3) (sp_names_of NS) (sp_rows_of NS) (endsOf K Q) (dstart N_Program_d__init_d_ ds) G := by
  obtain ⟨p, b, rfl, hp, ok, hl, hs, hn, q⟩ := h
  show W_Program_d__init_d_ C OC aP (sp_first_wrong NS aP 3) (sp_names_of NS) (sp_rows_of NS) (endsOf K Q) [some (.ref p), some b.toD, none, none] G
  unfold W_Program_d__init_d_
  trivial
  refine isK_ok (d := .tup _) rfl ?_
  trivial
  refine ⟨b, 1, 0, rfl, ok, by omega, ?_⟩
  trivial
  simp only [Int.zero_add, decide_eq_false (show ¬ ((12 : Int) < ((b.ds.length : Nat) : Int)) by omega), decide_eq_false (show ¬ ((30 : Int) < ((b.size : Nat) : Int)) by omega)]
  trivial
  refine ⟨b, rfl, ok, hs, ?_⟩
  refine ⟨nxs b 0 b.size, rfl, nxs_ok b 1 _ _ ok, by rw [nxs_length]; omega, fun ys hy => ?_⟩
  trivial
  simp only [decide_eq_false (show ¬ ((8 : Int) < ((ys.length : Nat) : Int)) by omega)]
  simp only [hp]
  (try trivial)
  exact ⟨by decide, nx_here q⟩
end P3

/-! V3g: ways judged by the program. -/
namespace P3
open PySem PySem.Spec L2 DL
local macro_rules | `(tactic| trivial) => `(tactic| simp only [wSeq, wNext, wRet, wIfS, wAsg, wName, wVar, wC, wDrop, wOp, wCall, wCons, wNil, wIf, wB, wNot, wAnd, wOr, wAndV, wOrV, wNotV, wTup, wLst, wLstV, wFor, wISeq, wIRng1, wIRng2, wIEnum, wIStr, wChain, wIsi, wSl, wPart, wNoPart, wCallF, wCallL, wAppend, wExtend, wSetL, wSetD, wPar, wAugI, wGTup, wGCons, wGNil, wDGet, wDIn, wDict, wDictV, wPairs, wLcV, wLc, wYes, wSetF, wFld, wRev, wNeg, wNever, wLoop, wComp, wSortSet, wTry, wRaise, wCallSt, wRetX, wSetX, rEqO, rNeO, wMake, rIntA, rMulA, wTryM, wMixX, wRaise1, wXf, DEnds.off, wMeth, wPop, wTx1, onStr, wSplit, wPartition, wJoin, rSplit, rPartition, rJoin, rIntS, rStr, rMulS, wIEnumL,
  rNe0, DL.rAdd, DL.rSub, DL.rMul, DL.rDiv, DL.rMod, DL.rPow, DL.rI2, DL.rCmpI, DL.rEqB, DL.rIsN, DL.rInS, DL.rIx2, DL.ixSeq, DL.itemsOf, DL.listOf, DL.dictOf, DL.keyOf, DL.goL, DL.goK, DL.goI, DL.objOf, DL.rLenA, DL.rLen, DL.rSum, DL.rAll, DL.rTuple, DL.rList, DL.rAbs, DL.rInt, rKIn, rKGet, rIsBl, rEq0, lst2, gup_same, dwipe, slot_def, at0, at1, at2, at3, atm, cut1, cutAll,
  List.set_cons_zero, List.set_cons_succ, List.getElem?_cons_zero, List.getElem?_cons_succ, List.getElem?_nil, Option.join_some, Option.join_none, List.length_cons, List.length_nil, if_true, if_false, Bool.false_eq_true, reduceIte, Bool.not_true, Bool.not_false, Bool.true_xor, Bool.false_xor, Bool.xor_true, Bool.xor_false, true_and, and_true, reduceCtorEq, decide_true, decide_false, Option.isSome_some, Option.isSome_none, List.cons_append, List.nil_append,
  s_note_copy, s_note_give, s_note_ask, s_note_print, s_note_either, s_note_again, s_note_call, s_copy_note, s_copy_give, s_copy_ask, s_copy_print, s_copy_either, s_copy_again, s_copy_call, s_give_note, s_give_copy, s_give_ask, s_give_print, s_give_either, s_give_again, s_give_call, s_ask_note, s_ask_copy, s_ask_give, s_ask_print, s_ask_either, s_ask_again, s_ask_call, s_print_note, s_print_copy, s_print_give, s_print_ask, s_print_either, s_print_again, s_print_call, s_either_note, s_either_copy, s_either_give, s_either_ask, s_either_print, s_either_again, s_either_call, s_again_note, s_again_copy, s_again_give, s_again_ask, s_again_print, s_again_either, s_again_call, s_call_note, s_call_copy, s_call_give, s_call_ask, s_call_print, s_call_either, s_call_again, s_note, s_copy, s_give, s_ask, s_print, s_either, s_again, s_call, i_note, j_note, l_note, i_copy, j_copy, l_copy, i_give, j_give, l_give, i_ask, j_ask, l_ask, i_print, j_print, l_print, i_either, j_either, l_either, i_again, j_again, l_again, i_call, j_call, l_call,
  Nat.reduceAdd, Nat.zero_add, Int.reduceLT, Int.reduceLE, Int.reduceEq, Int.reduceAdd, Int.reduceNeg, Int.reduceSub, cz0, cz1, cz2, cz3, cz4, cz5, cz6, cz7, cz8, cz9, t_tup, t_str, t_int, t_bl, lt0, lt1, lt2, lt3, lt4, lt5, lt6, zl0, zl1, zl2, zl3, zl4, zl5, zl6, zl9, rn2, x51, x52, x53, x54, at4, lkb, fl1, fl2, flstr, flint, flnon, flbl, List.all_cons, List.all_nil, Bool.and_true])
local macro_rules | `(tactic| get_elem_tactic_trivial) => `(tactic| simp only [wSeq, wNext, wRet, wIfS, wAsg, wName, wVar, wC, wDrop, wOp, wCall, wCons, wNil, wIf, wB, wNot, wAnd, wOr, wAndV, wOrV, wNotV, wTup, wLst, wLstV, wFor, wISeq, wIRng1, wIRng2, wIEnum, wIStr, wChain, wIsi, wSl, wPart, wNoPart, wCallF, wCallL, wAppend, wExtend, wSetL, wSetD, wPar, wAugI, wGTup, wGCons, wGNil, wDGet, wDIn, wDict, wDictV, wPairs, wLcV, wLc, wYes, wSetF, wFld, wRev, wNeg, wNever, wSortSet, wTry, wRaise, wCallSt, wRetX, wSetX, rEqO, rNeO, wMake, rIntA, rMulA, wTryM, wMixX, wRaise1, wXf, DEnds.off, wMeth, wPop, wTx1, onStr, wSplit, wPartition, wJoin, rSplit, rPartition, rJoin, rIntS, rStr, rMulS, wIEnumL,
  rNe0, DL.rAdd, DL.rSub, DL.rMul, DL.rDiv, DL.rMod, DL.rPow, DL.rI2, DL.rCmpI, DL.rEqB, DL.rIsN, DL.rInS, DL.rIx2, DL.ixSeq, DL.itemsOf, DL.listOf, DL.dictOf, DL.keyOf, DL.goL, DL.goK, DL.goI, DL.objOf, DL.rLenA, DL.rLen, DL.rSum, DL.rAll, DL.rTuple, DL.rList, DL.rAbs, DL.rInt, rKIn, rKGet, rIsBl, rEq0, lst2, gup_same, dwipe, slot_def, at0, at1, at2, at3, atm, cut1, cutAll,
  List.set_cons_zero, List.set_cons_succ, List.getElem?_cons_zero, List.getElem?_cons_succ, List.getElem?_nil, Option.join_some, Option.join_none, List.length_cons, List.length_nil, if_true, if_false, Bool.false_eq_true, reduceIte, Bool.not_true, Bool.not_false, Bool.true_xor, Bool.false_xor, Bool.xor_true, Bool.xor_false, true_and, and_true, reduceCtorEq, decide_true, decide_false, Option.isSome_some, Option.isSome_none, List.cons_append, List.nil_append,
  s_note_copy, s_note_give, s_note_ask, s_note_print, s_note_either, s_note_again, s_note_call, s_copy_note, s_copy_give, s_copy_ask, s_copy_print, s_copy_either, s_copy_again, s_copy_call, s_give_note, s_give_copy, s_give_ask, s_give_print, s_give_either, s_give_again, s_give_call, s_ask_note, s_ask_copy, s_ask_give, s_ask_print, s_ask_either, s_ask_again, s_ask_call, s_print_note, s_print_copy, s_print_give, s_print_ask, s_print_either, s_print_again, s_print_call, s_either_note, s_either_copy, s_either_give, s_either_ask, s_either_print, s_either_again, s_either_call, s_again_note, s_again_copy, s_again_give, s_again_ask, s_again_print, s_again_either, s_again_call, s_call_note, s_call_copy, s_call_give, s_call_ask, s_call_print, s_call_either, s_call_again, s_note, s_copy, s_give, s_ask, s_print, s_either, s_again, s_call, i_note, j_note, l_note, i_copy, j_copy, l_copy, i_give, j_give, l_give, i_ask, j_ask, l_ask, i_print, j_print, l_print, i_either, j_either, l_either, i_again, j_again, l_again, i_call, j_call, l_call,
  Nat.reduceAdd, Nat.zero_add, Int.reduceLT, Int.reduceLE, Int.reduceEq, Int.reduceAdd, Int.reduceNeg, Int.reduceSub, cz0, cz1, cz2, cz3, cz4, cz5, cz6, cz7, cz8, cz9, t_tup, t_str, t_int, t_bl, lt0, lt1, lt2, lt3, lt4, lt5, lt6, zl0, zl1, zl2, zl3, zl4, zl5, zl6, zl9, rn2, x51, x52, x53, x54, at4, lkb, fl1, fl2, flstr, flint, flnon, flbl, List.all_cons, List.all_nil, Bool.and_true])
variable {K : PySem.W.Frag} {OC : Addr → Bool}

/-! ways -/
def nxtOf (L : List (D × List Int)) (i : Int) : List Int := ((L[i.toNat]?).map (·.2)).getD []
def sp_nexts_in : DSp := fun ds G Q _ => ∃ (L : List (D × List Int)) (i : Int), ds = [.lst (L.map rowD), .int i] ∧ 0 ≤ i ∧ Q (.tup ((nxtOf L i).map .int)) G
def intD : D → Int
  | .int i => i | _ => 0
def dAt (ds : List D) (k : Nat) : D := (ds[k]?).getD .non
def stepOk (nx : Int → List Int) (ds : List D) (k : Nat) : Bool := inF (dAt ds (k + 1)) ((nx (intD (dAt ds k))).map .int)
def wayOf (n : Nat) (nx : Int → List Int) : D → Bool
  | .tup ds => !ds.isEmpty && ds.all (inI 0 n) && (List.range (ds.length - 1)).all (stepOk nx ds)
  | _ => false
def okThing (OC : Addr → Bool) (d : D) : Prop := okT OC d = true ∧ ∀ ds, d = .tup ds → (∀ x ∈ ds, okT OC x = true) ∧ ds.length ≤ 1000
theorem comp_rng {chk : Gh → Prop} {g : DG} {te : DE} {σ : DSt} {f : Nat → D} {G : Gh} {Q : List D → Gh → Prop} {lo : Int} {n : Nat} (hc : chk G) (hl : n ≤ sizeLine)
    (h : ∀ k, k < n → ∀ Q' : DQ, Q' (f k) G → g (.int (lo + (k : Nat))) σ G fun σ1 G1 => te σ1 G1 Q') (q : Q ((List.range n).map f) G) : wComp chk g wYes te σ (rng lo n) [] G Q := by
  have : ∀ (m : Nat) (i : Nat) (acc : List D), i + m = n → acc = (List.range i).map f → wComp chk g wYes te σ ((List.range' i m).map fun i => D.int (lo + (i : Nat))) acc G Q := by
    intro m
    induction m with
    | zero => intro i acc e1 e2; refine ⟨hc, ?_⟩; have : i = n := by omega
              subst this; subst e2; exact q
    | succ m ih =>
      intro i acc e1 e2
      rw [List.range'_succ, List.map_cons]
      refine ⟨hc, ?_⟩
      exact h i (by omega) (fun y G3 => acc.length < sizeLine ∧ wComp chk g wYes te σ ((List.range' (i + 1) m).map fun i => D.int (lo + (i : Nat))) (acc ++ [y]) G3 Q)
        ⟨by rw [e2, List.length_map, List.length_range]; omega, ih (i + 1) (acc ++ [f i]) (by omega) (by rw [e2, List.range_succ, List.map_append]; rfl)⟩
  have k := this n 0 [] (by omega) rfl
  unfold rng
  rw [List.range_eq_range']
  exact k
theorem inI_int {lo hi : Int} {d : D} (h : inI lo hi d = true) : ∃ i, d = .int i ∧ lo ≤ i ∧ i ≤ hi := by
  cases d with
  | int i => simp only [inI, Bool.and_eq_true, decide_eq_true_eq] at h; exact ⟨i, rfl, h⟩
  | _ => cases h
end P3

/-! V3h: draws. -/
namespace P3
open PySem PySem.Spec L2 DL
local macro_rules | `(tactic| trivial) => `(tactic| simp only [wSeq, wNext, wRet, wIfS, wAsg, wName, wVar, wC, wDrop, wOp, wCall, wCons, wNil, wIf, wB, wNot, wAnd, wOr, wAndV, wOrV, wNotV, wTup, wLst, wLstV, wFor, wISeq, wIRng1, wIRng2, wIEnum, wIStr, wChain, wIsi, wSl, wPart, wNoPart, wCallF, wCallL, wAppend, wExtend, wSetL, wSetD, wPar, wAugI, wGTup, wGCons, wGNil, wDGet, wDIn, wDict, wDictV, wPairs, wLcV, wLc, wYes, wSetF, wFld, wRev, wNeg, wNever, wLoop, wComp, wSortSet, wTry, wRaise, wCallSt, wRetX, wSetX, rEqO, rNeO, wMake, rIntA, rMulA, wTryM, wMixX, wRaise1, wXf, DEnds.off, wMeth, wPop, wTx1, onStr, wSplit, wPartition, wJoin, rSplit, rPartition, rJoin, rIntS, rStr, rMulS, wIEnumL,
  rNe0, DL.rAdd, DL.rSub, DL.rMul, DL.rDiv, DL.rMod, DL.rPow, DL.rI2, DL.rCmpI, DL.rEqB, DL.rIsN, DL.rInS, DL.rIx2, DL.ixSeq, DL.itemsOf, DL.listOf, DL.dictOf, DL.keyOf, DL.goL, DL.goK, DL.goI, DL.objOf, DL.rLenA, DL.rLen, DL.rSum, DL.rAll, DL.rTuple, DL.rList, DL.rAbs, DL.rInt, rKIn, rKGet, rIsBl, rEq0, lst2, gup_same, dwipe, slot_def, at0, at1, at2, at3, atm, cut1, cutAll,
  List.set_cons_zero, List.set_cons_succ, List.getElem?_cons_zero, List.getElem?_cons_succ, List.getElem?_nil, Option.join_some, Option.join_none, List.length_cons, List.length_nil, if_true, if_false, Bool.false_eq_true, reduceIte, Bool.not_true, Bool.not_false, Bool.true_xor, Bool.false_xor, Bool.xor_true, Bool.xor_false, true_and, and_true, reduceCtorEq, decide_true, decide_false, Option.isSome_some, Option.isSome_none, List.cons_append, List.nil_append,
  s_note_copy, s_note_give, s_note_ask, s_note_print, s_note_either, s_note_again, s_note_call, s_copy_note, s_copy_give, s_copy_ask, s_copy_print, s_copy_either, s_copy_again, s_copy_call, s_give_note, s_give_copy, s_give_ask, s_give_print, s_give_either, s_give_again, s_give_call, s_ask_note, s_ask_copy, s_ask_give, s_ask_print, s_ask_either, s_ask_again, s_ask_call, s_print_note, s_print_copy, s_print_give, s_print_ask, s_print_either, s_print_again, s_print_call, s_either_note, s_either_copy, s_either_give, s_either_ask, s_either_print, s_either_again, s_either_call, s_again_note, s_again_copy, s_again_give, s_again_ask, s_again_print, s_again_either, s_again_call, s_call_note, s_call_copy, s_call_give, s_call_ask, s_call_print, s_call_either, s_call_again, s_note, s_copy, s_give, s_ask, s_print, s_either, s_again, s_call, i_note, j_note, l_note, i_copy, j_copy, l_copy, i_give, j_give, l_give, i_ask, j_ask, l_ask, i_print, j_print, l_print, i_either, j_either, l_either, i_again, j_again, l_again, i_call, j_call, l_call,
  Nat.reduceAdd, Nat.zero_add, Int.reduceLT, Int.reduceLE, Int.reduceEq, Int.reduceAdd, Int.reduceNeg, Int.reduceSub, cz0, cz1, cz2, cz3, cz4, cz5, cz6, cz7, cz8, cz9, t_tup, t_str, t_int, t_bl, lt0, lt1, lt2, lt3, lt4, lt5, lt6, zl0, zl1, zl2, zl3, zl4, zl5, zl6, zl9, rn2, x51, x52, x53, x54, at4, lkb, fl1, fl2, flstr, flint, flnon, flbl, List.all_cons, List.all_nil, Bool.and_true])
local macro_rules | `(tactic| get_elem_tactic_trivial) => `(tactic| simp only [wSeq, wNext, wRet, wIfS, wAsg, wName, wVar, wC, wDrop, wOp, wCall, wCons, wNil, wIf, wB, wNot, wAnd, wOr, wAndV, wOrV, wNotV, wTup, wLst, wLstV, wFor, wISeq, wIRng1, wIRng2, wIEnum, wIStr, wChain, wIsi, wSl, wPart, wNoPart, wCallF, wCallL, wAppend, wExtend, wSetL, wSetD, wPar, wAugI, wGTup, wGCons, wGNil, wDGet, wDIn, wDict, wDictV, wPairs, wLcV, wLc, wYes, wSetF, wFld, wRev, wNeg, wNever, wSortSet, wTry, wRaise, wCallSt, wRetX, wSetX, rEqO, rNeO, wMake, rIntA, rMulA, wTryM, wMixX, wRaise1, wXf, DEnds.off, wMeth, wPop, wTx1, onStr, wSplit, wPartition, wJoin, rSplit, rPartition, rJoin, rIntS, rStr, rMulS, wIEnumL,
  rNe0, DL.rAdd, DL.rSub, DL.rMul, DL.rDiv, DL.rMod, DL.rPow, DL.rI2, DL.rCmpI, DL.rEqB, DL.rIsN, DL.rInS, DL.rIx2, DL.ixSeq, DL.itemsOf, DL.listOf, DL.dictOf, DL.keyOf, DL.goL, DL.goK, DL.goI, DL.objOf, DL.rLenA, DL.rLen, DL.rSum, DL.rAll, DL.rTuple, DL.rList, DL.rAbs, DL.rInt, rKIn, rKGet, rIsBl, rEq0, lst2, gup_same, dwipe, slot_def, at0, at1, at2, at3, atm, cut1, cutAll,
  List.set_cons_zero, List.set_cons_succ, List.getElem?_cons_zero, List.getElem?_cons_succ, List.getElem?_nil, Option.join_some, Option.join_none, List.length_cons, List.length_nil, if_true, if_false, Bool.false_eq_true, reduceIte, Bool.not_true, Bool.not_false, Bool.true_xor, Bool.false_xor, Bool.xor_true, Bool.xor_false, true_and, and_true, reduceCtorEq, decide_true, decide_false, Option.isSome_some, Option.isSome_none, List.cons_append, List.nil_append,
  s_note_copy, s_note_give, s_note_ask, s_note_print, s_note_either, s_note_again, s_note_call, s_copy_note, s_copy_give, s_copy_ask, s_copy_print, s_copy_either, s_copy_again, s_copy_call, s_give_note, s_give_copy, s_give_ask, s_give_print, s_give_either, s_give_again, s_give_call, s_ask_note, s_ask_copy, s_ask_give, s_ask_print, s_ask_either, s_ask_again, s_ask_call, s_print_note, s_print_copy, s_print_give, s_print_ask, s_print_either, s_print_again, s_print_call, s_either_note, s_either_copy, s_either_give, s_either_ask, s_either_print, s_either_again, s_either_call, s_again_note, s_again_copy, s_again_give, s_again_ask, s_again_print, s_again_either, s_again_call, s_call_note, s_call_copy, s_call_give, s_call_ask, s_call_print, s_call_either, s_call_again, s_note, s_copy, s_give, s_ask, s_print, s_either, s_again, s_call, i_note, j_note, l_note, i_copy, j_copy, l_copy, i_give, j_give, l_give, i_ask, j_ask, l_ask, i_print, j_print, l_print, i_either, j_either, l_either, i_again, j_again, l_again, i_call, j_call, l_call,
  Nat.reduceAdd, Nat.zero_add, Int.reduceLT, Int.reduceLE, Int.reduceEq, Int.reduceAdd, Int.reduceNeg, Int.reduceSub, cz0, cz1, cz2, cz3, cz4, cz5, cz6, cz7, cz8, cz9, t_tup, t_str, t_int, t_bl, lt0, lt1, lt2, lt3, lt4, lt5, lt6, zl0, zl1, zl2, zl3, zl4, zl5, zl6, zl9, rn2, x51, x52, x53, x54, at4, lkb, fl1, fl2, flstr, flint, flnon, flbl, List.all_cons, List.all_nil, Bool.and_true])
variable {K : PySem.W.Frag} {OC : Addr → Bool}

/-! the hand: cells, place, what is left of a big cell, seed, count -/
structure Hd where
  cells : List Int
  at_ : Int
  big : Int
  seed : Int
  cnt : Int
def Hd.ok (h : Hd) : Prop := (∀ c ∈ h.cells, 0 ≤ c) ∧ h.cells.length ≤ 63 ∧ 0 ≤ h.at_ ∧ 0 ≤ h.big
def Hd.d (h : Hd) : List D := [.lst (h.cells.map .int), .int h.at_, .int h.big, .int h.seed, .int h.cnt]
/-- G' is G with some hand at p -/
def HdG (p : Addr) (G G' : Gh) : Prop := ∃ h : Hd, h.ok ∧ G' = gup G p (.lst h.d)
theorem HdG.trans {p : Addr} {G G' G'' : Gh} (a : HdG p G G') (b : HdG p G' G'') : HdG p G G'' := by
  obtain ⟨h, _, rfl⟩ := a
  obtain ⟨h', ok, rfl⟩ := b
  exact ⟨h', ok, gup_gup⟩
theorem HdG.self {p : Addr} {G G' : Gh} (a : HdG p G G') : HdG p G' G' := by
  obtain ⟨h, ok, rfl⟩ := a
  exact ⟨h, ok, by rw [gup_gup]⟩
theorem cm_ok (x y : Int) : CMul (x % 2147483647) y := .inl ⟨Int.lt_of_lt_of_le (by decide) (Int.emod_nonneg _ (by decide)), Int.lt_trans (Int.emod_lt_of_pos _ (by decide)) (by decide)⟩
def sp_draw : DSp := fun ds G Q _ => ∃ (p : Addr) (m : Int), ds = [.ref p, .int m] ∧ HdG p G G ∧ 1 ≤ m ∧ m ≤ 1000 ∧ ∀ G' r, HdG p G G' → 0 ≤ r → r < m → Q (.int r) G'
theorem v_draw {ds : List D} {G : Gh} {Q : DQ} {E : DXq} (h : sp_draw ds G Q E) : W__law_draw (endsOf K Q) (dstart N__law_draw ds) G := by
  obtain ⟨p, m, rfl, hG, m1, m2, q⟩ := h
  show W__law_draw (endsOf K Q) [some (.ref p), some (.int m), none, none, none] G
  obtain ⟨h, ⟨hc, hl, ha, hb⟩, e⟩ := hG
  have hp : G p = some (.lst h.d) := by rw [e]; exact gup_same
  unfold W__law_draw
  refine seq_rule (fun σ' G' => ∃ x2, σ' = [some (.ref p), some (.int m), x2, none, none] ∧ HdG p G G') (fun N hN => ?_) ?_
  · have stay : N [some (.ref p), some (.int m), none, none, none] G := hN _ _ ⟨none, rfl, h, ⟨hc, hl, ha, hb⟩, e⟩
    try trivial
    simp only [hp, Hd.d]
    try trivial
    split
    · split
      · rename_i hat
        have hat : h.at_ < ((h.cells.map D.int).length : Nat) := of_decide_eq_true hat
        rw [List.length_map] at hat
        obtain ⟨j, hj⟩ : ∃ j : Nat, h.at_ = j := ⟨h.at_.toNat, by omega⟩
        have hj2 : j < h.cells.length := by omega
        have ec : atI (h.cells.map D.int) h.at_ = some (.int h.cells[j]) := by
          rw [hj, atI_in (by rw [List.length_map]; exact hj2), List.getElem?_map, List.getElem?_eq_getElem hj2]; rfl
        have hcell := hc h.cells[j] (List.getElem_mem hj2)
        simp only [ec]
        refine ⟨.inr ⟨by decide, by decide⟩, ⟨by decide, by decide, by decide⟩, ?_⟩
        have fin : ∀ (x2 : Option D) (a b s c : Int), 0 ≤ a → 0 ≤ b → N [some (.ref p), some (.int m), x2, none, none] (gup G p (.lst [.lst (h.cells.map .int), .int a, .int b, .int s, .int c])) := fun x2 a b s c h1 h2 =>
          hN _ _ ⟨x2, rfl, ⟨h.cells, a, b, s, c⟩, ⟨hc, hl, h1, h2⟩, rfl⟩
        simp only [gup_gup]
        split
        · exact fin _ _ _ _ _ (by omega) hcell
        · exact fin _ _ _ _ _ (by omega) hb
      · exact stay
    · exact stay
  · rintro σ' G' ⟨x2, rfl, h', ⟨hc', hl', ha', hb'⟩, rfl⟩
    try trivial
    simp only [Hd.d]
    try trivial
    have ret : ∀ (h2 : Hd) (r : Int), h2.ok → 0 ≤ r → r < m → Q (.int r) (gup G p (.lst h2.d)) := fun h2 r ok r0 r1 => q _ r ⟨h2, ok, rfl⟩ r0 r1
    have m0 : 0 < m := by omega
    split
    · refine ⟨m0, ⟨m0, by omega⟩, ?_⟩
      simp only [gup_gup]
      exact rt_here (ret ⟨h'.cells, h'.at_, h'.big / m, h'.seed, h'.cnt⟩ _ ⟨hc', hl', ha', Int.ediv_nonneg hb' (by omega)⟩ (Int.emod_nonneg _ (by omega)) (Int.emod_lt_of_pos _ m0))
    · refine ⟨.inl ⟨by decide, by decide⟩, .inr ⟨by decide, by decide⟩, ⟨by decide, by decide⟩, cm_ok _ _, ⟨by decide, by decide⟩, cm_ok _ _, ⟨by decide, by decide⟩, m0, ?_⟩
      simp only [gup_gup]
      exact rt_here (ret ⟨h'.cells, h'.at_, h'.big, h'.seed, h'.cnt + 1⟩ _ ⟨hc', hl', ha', hb'⟩ (Int.emod_nonneg _ (by omega)) (Int.emod_lt_of_pos _ m0))

/-! one of things -/
def seqOf : D → Option (List D)
  | .tup ds => some ds
  | .lst ds => some ds
  | _ => none
def sp_any : DSp := fun ds G Q _ => ∃ (p : Addr) (x : D) (xs : List D), ds = [.ref p, x] ∧ seqOf x = some xs ∧ HdG p G G ∧ xs ≠ [] ∧ xs.length ≤ 1000 ∧ ∀ G' d, HdG p G G' → d ∈ xs → Q d G'
theorem v_any {ds : List D} {G : Gh} {Q : DQ} {E : DXq} (h : sp_any ds G Q E) : W__law_any sp_draw (endsOf K Q) (dstart N__law_any ds) G := by
  obtain ⟨p, x, xs, rfl, hx, hG, h0, hl, q⟩ := h
  show W__law_any sp_draw (endsOf K Q) [some (.ref p), some x] G
  unfold W__law_any
  have hpos : 0 < xs.length := List.length_pos_iff.mpr h0
  have step : ∀ r : Int, 0 ≤ r → r < xs.length → ∃ d, atI xs r = some d ∧ d ∈ xs := fun r r0 r1 => by
    obtain ⟨j, rfl⟩ : ∃ j : Nat, r = j := ⟨r.toNat, by omega⟩
    have hj : j < xs.length := by omega
    exact ⟨xs[j], by rw [atI_in hj, List.getElem?_eq_getElem hj], List.getElem_mem hj⟩
  cases x with
  | tup ds =>
    cases hx
    try trivial
    refine ⟨p, _, rfl, hG, by omega, by omega, fun G' r hG' r0 r1 => ?_⟩
    obtain ⟨d, e, hd⟩ := step r r0 r1
    try trivial
    simp only [e]
    exact rt_here (q G' d hG' hd)
  | lst ds =>
    cases hx
    try trivial
    refine ⟨p, _, rfl, hG, by omega, by omega, fun G' r hG' r0 r1 => ?_⟩
    obtain ⟨d, e, hd⟩ := step r r0 r1
    try trivial
    simp only [e]
    exact rt_here (q G' d hG' hd)
  | _ => cases hx
/-! rows -/
def nms (xs : List Str) : D := .lst (xs.map .str)
def sp_lplain (NS OS : List Str) : DSp := fun ds G Q _ => ∃ (p : Addr), ds = [.ref p, nms NS, nms OS] ∧ HdG p G G ∧ NS ≠ [] ∧ NS.length ≤ 8 ∧ OS ≠ [] ∧ OS.length ≤ 8 ∧ (∀ x ∈ NS, nameOk x) ∧ (∀ x ∈ OS, nameOk x) ∧ ∀ G' (r : PR), HdG p G G' → r.ok NS → Q r.toD G'
theorem v_lplain {NS OS : List Str} {ds : List D} {G : Gh} {Q : DQ} {E : DXq} (h : sp_lplain NS OS ds G Q E) : W__law_plain_row sp_any sp_draw (endsOf K Q) (dstart N__law_plain_row ds) G := by
  obtain ⟨p, rfl, hG, n0, n1, o0, o1, hN, hO, q⟩ := h
  show W__law_plain_row sp_any sp_draw (endsOf K Q) [some (.ref p), some (nms NS), some (nms OS), none, none, none, none] G
  have anyN : ∀ G1, HdG p G G1 → ∀ Q' : DQ, (∀ G2 (x : Str), HdG p G G2 → x ∈ NS → Q' (.str x) G2) → sp_any [.ref p, nms NS] G1 Q' noX := fun G1 h1 Q' hQ => ⟨p, _, _, rfl, rfl, h1.self, by simpa using n0, by rw [List.length_map]; omega, fun G2 d h2 hd => by
    obtain ⟨x, hx, rfl⟩ := List.mem_map.mp hd
    exact hQ G2 x (h1.trans h2) hx⟩
  have anyO : ∀ G1, HdG p G G1 → ∀ Q' : DQ, (∀ G2 (x : Str), HdG p G G2 → x ∈ OS → Q' (.str x) G2) → sp_any [.ref p, nms OS] G1 Q' noX := fun G1 h1 Q' hQ => ⟨p, _, _, rfl, rfl, h1.self, by simpa using o0, by rw [List.length_map]; omega, fun G2 d h2 hd => by
    obtain ⟨x, hx, rfl⟩ := List.mem_map.mp hd
    exact hQ G2 x (h1.trans h2) hx⟩
  unfold W__law_plain_row
  try trivial
  refine anyN G hG _ fun G1 x h1 hx => ?_
  refine anyN G1 h1 _ fun G2 y h2 hy => ?_
  try trivial
  refine ⟨p, 8, rfl, h2.self, by decide, by decide, fun G3 kd h3 k0 k1 => ?_⟩
  have h3 := h2.trans h3
  try trivial
  by_cases k4 : kd < 4
  · simp only [decide_eq_true k4]
    try trivial
    refine anyO G3 h3 _ fun G4 o h4 ho => ?_
    refine ⟨p, 4, rfl, h4.self, by decide, by decide, fun G5 m h5 m0 m1 => ?_⟩
    have h5 := h4.trans h5
    try trivial
    refine ⟨by omega, by omega, ?_⟩
    refine comp_rule (fun items acc G' => ∃ ps : List Str, acc = ps.map D.str ∧ ps.length + items.length = m.toNat ∧ HdG p G G' ∧ ∀ z ∈ ps, z ∈ NS) ?_ ?_ _ _ _ ⟨[], rfl, by simp [rng], h5, by simp⟩
    · rintro acc G6 ⟨ps, rfl, hlen, h6, hps⟩
      try trivial
      refine rt_here (q G6 (.note x o ps) h6 ⟨fun z hz => ?_, hO _ ho, by rw [List.length_nil] at hlen; omega⟩)
      rcases List.mem_cons.mp hz with rfl | hz
      · exact ⟨hN _ hx, hx⟩
      · exact ⟨hN _ (hps _ hz), hps _ hz⟩
    · rintro d ds N acc G6 hNN ⟨ps, rfl, hlen, h6, hps⟩
      try trivial
      refine anyN G6 h6 _ fun G7 z h7 hz => ?_
      refine ⟨by rw [List.length_map, sizeLine_eq]; rw [List.length_cons] at hlen; omega, hNN _ _ ⟨ps ++ [z], by rw [List.map_append]; rfl, by rw [List.length_append]; rw [List.length_cons] at hlen; simp only [List.length_cons, List.length_nil]; omega, h7, fun u hu => ?_⟩⟩
      rcases List.mem_append.mp hu with hu | hu
      · exact hps u hu
      · rw [List.mem_singleton.mp hu]; exact hz
  · simp only [decide_eq_false k4]
    try trivial
    by_cases k5 : kd = 4
    · subst k5
      try trivial
      exact rt_here (q G3 (.copy x y) h3 ⟨fun z hz => by
        simp only [PR.names, List.mem_cons, List.not_mem_nil, or_false] at hz
        rcases hz with rfl | rfl
        · exact ⟨hN _ hx, hx⟩
        · exact ⟨hN _ hy, hy⟩, True.intro⟩)
    · simp only [decide_eq_false k5]
      try trivial
      by_cases k6 : kd = 5
      · subst k6
        try trivial
        refine ⟨⟨by decide, by decide, by decide⟩, ?_⟩
        refine ⟨p, _, _, rfl, rfl, h3.self, by simp, by simp, fun G4 d h4 hd => ?_⟩
        have h4 := h3.trans h4
        have fin : ∀ n : Int, n.natAbs < 10 ^ 30 → (endsOf K Q).rt (D.tup [.str "give", .str x, .int n]) G4 := fun n hn => rt_here (q G4 (.give x n) h4 ⟨fun z hz => by
          simp only [PR.names, List.mem_cons, List.not_mem_nil, or_false] at hz
          subst hz
          exact ⟨hN _ hx, hx⟩, hn⟩)
        simp only [List.mem_cons, List.not_mem_nil, or_false] at hd
        try trivial
        rcases hd with rfl | rfl | rfl | rfl | rfl | rfl <;> exact fin _ (by decide)
      · simp only [decide_eq_false k6]
        try trivial
        have hk : kd = 6 ∨ kd = 7 := by omega
        have one : ∀ z ∈ [x], nameOk z ∧ z ∈ NS := fun z hz => by rw [List.mem_singleton.mp hz]; exact ⟨hN _ hx, hx⟩
        rcases hk with rfl | rfl
        · try trivial
          exact rt_here (q G3 (.ask x) h3 ⟨one, True.intro⟩)
        · try trivial
          exact rt_here (q G3 (.prt x) h3 ⟨one, True.intro⟩)
end P3

/-! V3i: drawn blocks. -/
namespace P3
open PySem PySem.Spec L2 DL
local macro_rules | `(tactic| trivial) => `(tactic| simp only [wSeq, wNext, wRet, wIfS, wAsg, wName, wVar, wC, wDrop, wOp, wCall, wCons, wNil, wIf, wB, wNot, wAnd, wOr, wAndV, wOrV, wNotV, wTup, wLst, wLstV, wFor, wISeq, wIRng1, wIRng2, wIEnum, wIStr, wChain, wIsi, wSl, wPart, wNoPart, wCallF, wCallL, wAppend, wExtend, wSetL, wSetD, wPar, wAugI, wGTup, wGCons, wGNil, wDGet, wDIn, wDict, wDictV, wPairs, wLcV, wLc, wYes, wSetF, wFld, wRev, wNeg, wNever, wLoop, wComp, wSortSet, wTry, wRaise, wCallSt, wRetX, wSetX, rEqO, rNeO, wMake, rIntA, rMulA, wTryM, wMixX, wRaise1, wXf, DEnds.off, wMeth, wPop, wTx1, onStr, wSplit, wPartition, wJoin, rSplit, rPartition, rJoin, rIntS, rStr, rMulS, wIEnumL,
  rNe0, DL.rAdd, DL.rSub, DL.rMul, DL.rDiv, DL.rMod, DL.rPow, DL.rI2, DL.rCmpI, DL.rEqB, DL.rIsN, DL.rInS, DL.rIx2, DL.ixSeq, DL.itemsOf, DL.listOf, DL.dictOf, DL.keyOf, DL.goL, DL.goK, DL.goI, DL.objOf, DL.rLenA, DL.rLen, DL.rSum, DL.rAll, DL.rTuple, DL.rList, DL.rAbs, DL.rInt, rKIn, rKGet, rIsBl, rEq0, lst2, gup_same, dwipe, slot_def, at0, at1, at2, at3, atm, cut1, cutAll,
  List.set_cons_zero, List.set_cons_succ, List.getElem?_cons_zero, List.getElem?_cons_succ, List.getElem?_nil, Option.join_some, Option.join_none, List.length_cons, List.length_nil, if_true, if_false, Bool.false_eq_true, reduceIte, Bool.not_true, Bool.not_false, Bool.true_xor, Bool.false_xor, Bool.xor_true, Bool.xor_false, true_and, and_true, reduceCtorEq, decide_true, decide_false, Option.isSome_some, Option.isSome_none, List.cons_append, List.nil_append,
  s_note_copy, s_note_give, s_note_ask, s_note_print, s_note_either, s_note_again, s_note_call, s_copy_note, s_copy_give, s_copy_ask, s_copy_print, s_copy_either, s_copy_again, s_copy_call, s_give_note, s_give_copy, s_give_ask, s_give_print, s_give_either, s_give_again, s_give_call, s_ask_note, s_ask_copy, s_ask_give, s_ask_print, s_ask_either, s_ask_again, s_ask_call, s_print_note, s_print_copy, s_print_give, s_print_ask, s_print_either, s_print_again, s_print_call, s_either_note, s_either_copy, s_either_give, s_either_ask, s_either_print, s_either_again, s_either_call, s_again_note, s_again_copy, s_again_give, s_again_ask, s_again_print, s_again_either, s_again_call, s_call_note, s_call_copy, s_call_give, s_call_ask, s_call_print, s_call_either, s_call_again, s_note, s_copy, s_give, s_ask, s_print, s_either, s_again, s_call, i_note, j_note, l_note, i_copy, j_copy, l_copy, i_give, j_give, l_give, i_ask, j_ask, l_ask, i_print, j_print, l_print, i_either, j_either, l_either, i_again, j_again, l_again, i_call, j_call, l_call,
  Nat.reduceAdd, Nat.zero_add, Int.reduceLT, Int.reduceLE, Int.reduceEq, Int.reduceAdd, Int.reduceNeg, Int.reduceSub, cz0, cz1, cz2, cz3, cz4, cz5, cz6, cz7, cz8, cz9, t_tup, t_str, t_int, t_bl, lt0, lt1, lt2, lt3, lt4, lt5, lt6, zl0, zl1, zl2, zl3, zl4, zl5, zl6, zl9, rn2, x51, x52, x53, x54, at4, lkb, fl1, fl2, flstr, flint, flnon, flbl, List.all_cons, List.all_nil, Bool.and_true])
local macro_rules | `(tactic| get_elem_tactic_trivial) => `(tactic| simp only [wSeq, wNext, wRet, wIfS, wAsg, wName, wVar, wC, wDrop, wOp, wCall, wCons, wNil, wIf, wB, wNot, wAnd, wOr, wAndV, wOrV, wNotV, wTup, wLst, wLstV, wFor, wISeq, wIRng1, wIRng2, wIEnum, wIStr, wChain, wIsi, wSl, wPart, wNoPart, wCallF, wCallL, wAppend, wExtend, wSetL, wSetD, wPar, wAugI, wGTup, wGCons, wGNil, wDGet, wDIn, wDict, wDictV, wPairs, wLcV, wLc, wYes, wSetF, wFld, wRev, wNeg, wNever, wSortSet, wTry, wRaise, wCallSt, wRetX, wSetX, rEqO, rNeO, wMake, rIntA, rMulA, wTryM, wMixX, wRaise1, wXf, DEnds.off, wMeth, wPop, wTx1, onStr, wSplit, wPartition, wJoin, rSplit, rPartition, rJoin, rIntS, rStr, rMulS, wIEnumL,
  rNe0, DL.rAdd, DL.rSub, DL.rMul, DL.rDiv, DL.rMod, DL.rPow, DL.rI2, DL.rCmpI, DL.rEqB, DL.rIsN, DL.rInS, DL.rIx2, DL.ixSeq, DL.itemsOf, DL.listOf, DL.dictOf, DL.keyOf, DL.goL, DL.goK, DL.goI, DL.objOf, DL.rLenA, DL.rLen, DL.rSum, DL.rAll, DL.rTuple, DL.rList, DL.rAbs, DL.rInt, rKIn, rKGet, rIsBl, rEq0, lst2, gup_same, dwipe, slot_def, at0, at1, at2, at3, atm, cut1, cutAll,
  List.set_cons_zero, List.set_cons_succ, List.getElem?_cons_zero, List.getElem?_cons_succ, List.getElem?_nil, Option.join_some, Option.join_none, List.length_cons, List.length_nil, if_true, if_false, Bool.false_eq_true, reduceIte, Bool.not_true, Bool.not_false, Bool.true_xor, Bool.false_xor, Bool.xor_true, Bool.xor_false, true_and, and_true, reduceCtorEq, decide_true, decide_false, Option.isSome_some, Option.isSome_none, List.cons_append, List.nil_append,
  s_note_copy, s_note_give, s_note_ask, s_note_print, s_note_either, s_note_again, s_note_call, s_copy_note, s_copy_give, s_copy_ask, s_copy_print, s_copy_either, s_copy_again, s_copy_call, s_give_note, s_give_copy, s_give_ask, s_give_print, s_give_either, s_give_again, s_give_call, s_ask_note, s_ask_copy, s_ask_give, s_ask_print, s_ask_either, s_ask_again, s_ask_call, s_print_note, s_print_copy, s_print_give, s_print_ask, s_print_either, s_print_again, s_print_call, s_either_note, s_either_copy, s_either_give, s_either_ask, s_either_print, s_either_again, s_either_call, s_again_note, s_again_copy, s_again_give, s_again_ask, s_again_print, s_again_either, s_again_call, s_call_note, s_call_copy, s_call_give, s_call_ask, s_call_print, s_call_either, s_call_again, s_note, s_copy, s_give, s_ask, s_print, s_either, s_again, s_call, i_note, j_note, l_note, i_copy, j_copy, l_copy, i_give, j_give, l_give, i_ask, j_ask, l_ask, i_print, j_print, l_print, i_either, j_either, l_either, i_again, j_again, l_again, i_call, j_call, l_call,
  Nat.reduceAdd, Nat.zero_add, Int.reduceLT, Int.reduceLE, Int.reduceEq, Int.reduceAdd, Int.reduceNeg, Int.reduceSub, cz0, cz1, cz2, cz3, cz4, cz5, cz6, cz7, cz8, cz9, t_tup, t_str, t_int, t_bl, lt0, lt1, lt2, lt3, lt4, lt5, lt6, zl0, zl1, zl2, zl3, zl4, zl5, zl6, zl9, rn2, x51, x52, x53, x54, at4, lkb, fl1, fl2, flstr, flint, flnon, flbl, List.all_cons, List.all_nil, Bool.and_true])
variable {K : PySem.W.Frag} {OC : Addr → Bool}

theorem HdG.put {p q : Addr} {G G1 : Gh} {x y : GO} (h : HdG p (gup G q x) G1) (n : q ≠ p) : HdG p (gup G q y) (gup G1 q y) := by
  obtain ⟨hd, ok, rfl⟩ := h
  refine ⟨hd, ok, ?_⟩
  funext a
  unfold gup
  by_cases z : a = q
  · subst z; simp [n]
  · simp [z]
theorem HdG.at_q {p q : Addr} {G G1 : Gh} {x : GO} (h : HdG p (gup G q x) G1) (n : q ≠ p) : G1 q = some x := by
  obtain ⟨hd, ok, rfl⟩ := h
  rw [gup_ne n, gup_same]
theorem HdG.new {p q : Addr} {A : Gh} {x : GO} (h : HdG p A A) (n : q ≠ p) : HdG p (gup A q x) (gup A q x) := by
  obtain ⟨hd, ok, e⟩ := h
  refine ⟨hd, ok, ?_⟩
  have hp : A p = some (.lst hd.d) := by rw [e]; exact gup_same
  exact (gup_id (by rw [gup_ne (Ne.symm n)]; exact hp)).symm
def Blk.app : Blk → Blk → Blk
  | .nil, u => u
  | .pl r t, u => .pl r (t.app u)
  | .ei a b t, u => .ei a b (t.app u)
  | .ag a t, u => .ag a (t.app u)
theorem Blk.app_ds : ∀ (b u : Blk), (b.app u).ds = b.ds ++ u.ds
  | .nil, u => rfl
  | .pl r t, u => by simp only [Blk.app, Blk.ds, List.cons_append, Blk.app_ds t u]
  | .ei a b t, u => by simp only [Blk.app, Blk.ds, List.cons_append, Blk.app_ds t u]
  | .ag a t, u => by simp only [Blk.app, Blk.ds, List.cons_append, Blk.app_ds t u]
theorem Blk.app_size : ∀ (b u : Blk), (b.app u).size = b.size + u.size
  | .nil, u => by simp [Blk.app, Blk.size]
  | .pl r t, u => by simp only [Blk.app, Blk.size, Blk.app_size t u]; omega
  | .ei a b t, u => by simp only [Blk.app, Blk.size, Blk.app_size t u]; omega
  | .ag a t, u => by simp only [Blk.app, Blk.size, Blk.app_size t u]; omega
theorem Blk.app_ok {NS : List Str} {k : Nat} {u : Blk} : ∀ (b : Blk), b.ok NS k → u.ok NS k → (b.app u).ok NS k
  | .nil, _, h => h
  | .pl r t, ok, h => ⟨ok.1, Blk.app_ok t ok.2 h⟩
  | .ei a b t, ⟨h1, h2, h3, h4, h5, h6⟩, h => ⟨h1, h2, h3, h4, h5, Blk.app_ok t h6 h⟩
  | .ag a t, ⟨h1, h2, h3, h4⟩, h => ⟨h1, h2, h3, Blk.app_ok t h4 h⟩
def sp_lblock (NS OS : List Str) (n : Nat) : DSp := fun ds G Q _ => ∃ (p : Addr) (k : Nat) (most : Int), ds = [.ref p, nms NS, nms OS, .int k, .int most] ∧ HdG p G G ∧ NS ≠ [] ∧ NS.length ≤ 8 ∧ OS ≠ [] ∧ OS.length ≤ 8 ∧ (∀ x ∈ NS, nameOk x) ∧ (∀ x ∈ OS, nameOk x) ∧
  1 ≤ k ∧ 4 ≤ k + n ∧ 0 ≤ most ∧ most ≤ 28 ∧ ∀ G' (b : Blk), HdG p G G' → b.ok NS k → b.ds.length ≤ 5 → (b.size : Int) ≤ most → Q b.toD G'
theorem v_lblock {NS OS : List Str} {n : Nat} {ds : List D} {G : Gh} {Q : DQ} {E : DXq} (h : sp_lblock NS OS n ds G Q E) : W__law_block (recSp (sp_lblock NS OS) n) sp_draw (sp_lplain NS OS) (sp_lsize NS 3) (endsOf K Q) (dstart N__law_block ds) G := by
  obtain ⟨p, k, most, rfl, hG, n0, n1, o0, o1, hN, hO, k1, kn, m0, m28, qq⟩ := h
  show W__law_block (recSp (sp_lblock NS OS) n) sp_draw (sp_lplain NS OS) (sp_lsize NS 3) (endsOf K Q) [some (.ref p), some (nms NS), some (nms OS), some (.int k), some (.int most), none, none, none, none, none, none] G
  unfold W__law_block
  try trivial
  intro q hq
  have hqp : q ≠ p := fun z => by
    obtain ⟨hd, _, e⟩ := hG
    rw [z, e, gup_same] at hq; cases hq
  have hG0 : HdG p (gup G q (.lst [])) (gup G q (.lst [])) := by
    obtain ⟨hd, ok, e⟩ := hG
    refine ⟨hd, ok, ?_⟩
    have hp : G p = some (.lst hd.d) := by rw [e]; exact gup_same
    exact (gup_id (by rw [gup_ne (Ne.symm hqp)]; exact hp)).symm
  have many : ∃ m : Int, 1 ≤ m ∧ m ≤ 6 ∧ (if decide ((k : Int) = 1) = true then D.int 6 else .int 4) = .int m := by
    by_cases h : decide ((k : Int) = 1) = true
    · exact ⟨6, by omega, by omega, by rw [if_pos h]⟩
    · exact ⟨4, by omega, by omega, by rw [if_neg h]⟩
  have drawn : ∀ (m : Int), 1 ≤ m → m ≤ 6 → ∀ Q' : DQ, (∀ G1 r, HdG p (gup G q (.lst [])) G1 → 0 ≤ r → r ≤ 5 → Q' (.int r) G1) → sp_draw [.ref p, .int m] (gup G q (.lst [])) Q' noX := fun m h1 h2 Q' hQ =>
    ⟨p, m, rfl, hG0, h1, by omega, fun G1 r hg r0 r1 => hQ G1 r hg r0 (by omega)⟩
  have hq1 : ∀ {X : GO} (G1 : Gh), HdG p (gup G q X) G1 → G1 q = some X := fun G1 h => h.at_q hqp
  split <;>
  · refine drawn _ (by omega) (by omega) _ fun G1 r hg r0 r1 => ?_
    try trivial
    refine ⟨by omega, by omega, ?_⟩
    refine loop_rule (fun items σ G' => ∃ (b : Blk) (left : Int) (x7 x8 x9 x10 : Option D), σ = [some (.ref p), some (nms NS), some (nms OS), some (.int k), some (.int most), some (.ref q), some (.int left), x7, x8, x9, x10] ∧ HdG p (gup G q (.lst b.ds)) G' ∧ b.ok NS k ∧ 0 ≤ left ∧
      (b.size : Int) + left ≤ most ∧ b.ds.length + items.length ≤ 5) ?_ ?_ _ _ _ ⟨.nil, most, none, none, none, none, rfl, hg, True.intro, m0, by simp [Blk.size], by simp [Blk.ds, rng]; omega⟩
    · rintro σ G' ⟨b, left, x7, x8, x9, x10, rfl, hg', ok, l0, hs, hl⟩
      have e := hq1 _ hg'
      try trivial
      simp only [e]
      obtain ⟨hd, okh, rfl⟩ := hg'
      refine ⟨b.toD, gup G p (.lst hd.d), .sub fun a o ea => ?_, qq _ b ⟨hd, okh, rfl⟩ ok (by omega) (by omega)⟩
      by_cases z : a = p
      · subst z; rw [gup_same] at ea ⊢; exact ea
      · rw [gup_ne z] at ea ⊢
        rw [gup_ne (fun w => by rw [w, hq] at ea; cases ea)]; exact ea
    · rintro d ds NN σ G' hNN ⟨b, left, x7, x8, x9, x10, rfl, hg', ok, l0, hs, hl⟩
      rw [List.length_cons] at hl
      try trivial
      by_cases c1 : 0 < left
      · simp only [decide_eq_true c1]
        try trivial
        by_cases c2 : (k : Int) < 4
        · simp only [decide_eq_true c2]
          try trivial
          refine ⟨p, 3, rfl, hg'.self, by decide, by decide, fun G2 r2 h2 r20 r21 => ?_⟩
          have h2 := hg'.trans h2
          try trivial
          by_cases c3 : r2 = 0
          · simp only [decide_eq_true c3]
            try trivial
            obtain ⟨n, rfl⟩ : ∃ m, n = m + 1 := ⟨n - 1, by omega⟩
            have step : ∀ (Gx : Gh), HdG p (gup G q (.lst b.ds)) Gx → ∀ Q' : DQ, (∀ G3 (a : Blk), HdG p (gup G q (.lst b.ds)) G3 → a.ok NS (k + 1) → a.ds.length ≤ 5 → (a.size : Int) ≤ (left - 1) / 2 → Q' a.toD G3) →
                CDiv (left - 1) 2 ∧ sp_lblock NS OS n [.ref p, nms NS, nms OS, .int ((k : Int) + 1), .int ((left - 1) / 2)] Gx Q' noX := fun Gx hx Q' hQ =>
              ⟨⟨by decide, by decide⟩, p, k + 1, (left - 1) / 2, rfl, hx.self, n0, n1, o0, o1, hN, hO, by omega, by omega, by omega, by omega, fun G3 a h3 oka la sa => hQ G3 a (hx.trans h3) oka la sa⟩
            have fin : ∀ (r : Blk) (d : D), r.ds = [d] → r.ok NS k → (r.size : Int) ≤ left → ∀ (Gx : Gh), HdG p (gup G q (.lst b.ds)) Gx → ∀ (x7 x8 x9 x10 : Option D), NN [some (.ref p), some (nms NS), some (nms OS), some (.int k), some (.int most), some (.ref q), some (.int (left - r.size)), x7, x8, x9, x10] (gup Gx q (.lst (b.ds ++ [d]))) :=
              fun r d hd okr sr Gx hx x7 x8 x9 x10 => hNN _ _ ⟨b.app r, left - r.size, _, _, _, _, rfl, by rw [Blk.app_ds, hd]; exact hx.put hqp, Blk.app_ok b ok okr, by omega, by rw [Blk.app_size]; omega, by rw [Blk.app_ds, hd, List.length_append]; simp only [List.length_cons, List.length_nil]; omega⟩
            refine ⟨by decide, by decide, ?_⟩
            try simp only [rn2]
            try trivial
            simp only [recSp, recSpB]
            refine step G2 h2 _ fun G3 a h3 oka la sa => ?_
            try trivial
            refine step G3 h3 _ fun G4 c h4 okc lc sc => ?_
            try trivial
            refine ⟨p, 2, rfl, h4.self, by decide, by decide, fun G5 r3 h5 r30 r31 => ?_⟩
            have h5 := h4.trans h5
            have h01 : r3 = 0 ∨ r3 = 1 := by omega
            rcases h01 with rfl | rfl
            · try trivial
              simp only [hq1 _ h5]
              try trivial
              refine ⟨by rw [sizeLine_eq]; omega, .ei a c .nil, k, rfl, ⟨by omega, by omega, by omega, oka, okc, True.intro⟩, by omega, by simp only [Blk.size]; omega, ?_⟩
              try trivial
              exact fin (.ei a c .nil) _ rfl ⟨by omega, by omega, by omega, oka, okc, True.intro⟩ (by simp only [Blk.size]; omega) G5 h5 _ _ _ _
            · try trivial
              simp only [hq1 _ h5]
              try trivial
              refine ⟨by rw [sizeLine_eq]; omega, .ag a .nil, k, rfl, ⟨by omega, by omega, oka, True.intro⟩, by omega, by simp only [Blk.size]; omega, ?_⟩
              try trivial
              exact fin (.ag a .nil) _ rfl ⟨by omega, by omega, oka, True.intro⟩ (by simp only [Blk.size]; omega) G5 h5 _ _ _ _
          · simp only [decide_eq_false c3]
            try trivial
            simp only [hq1 _ h2]
            try trivial
            refine ⟨p, rfl, h2.self, n0, n1, o0, o1, hN, hO, fun G3 r h3 hr => ?_⟩
            have h3 := h2.trans h3
            simp only [hq1 _ h3]
            try trivial
            refine ⟨by rw [sizeLine_eq]; omega, ?_⟩
            exact hNN _ _ ⟨b.app (.pl r .nil), left - 1, _, _, _, _, rfl, by rw [Blk.app_ds]; exact h3.put hqp, Blk.app_ok b ok ⟨hr, True.intro⟩, by omega, by rw [Blk.app_size]; simp only [Blk.size]; omega, by rw [Blk.app_ds, List.length_append]; simp only [Blk.ds, List.length_cons, List.length_nil]; omega⟩
        · simp only [decide_eq_false c2]
          try trivial
          simp only [hq1 _ hg']
          try trivial
          refine ⟨p, rfl, hg'.self, n0, n1, o0, o1, hN, hO, fun G2 r h2 hr => ?_⟩
          have h2 := hg'.trans h2
          simp only [hq1 _ h2]
          try trivial
          refine ⟨by rw [sizeLine_eq]; omega, ?_⟩
          exact hNN _ _ ⟨b.app (.pl r .nil), left - 1, _, _, _, _, rfl, by rw [Blk.app_ds]; exact h2.put hqp, Blk.app_ok b ok ⟨hr, True.intro⟩, by omega, by rw [Blk.app_size]; simp only [Blk.size]; omega, by rw [Blk.app_ds, List.length_append]; simp only [Blk.ds, List.length_cons, List.length_nil]; omega⟩
      · simp only [decide_eq_false c1]
        try trivial
        exact hNN _ _ ⟨b, left, _, x8, x9, x10, rfl, hg', ok, l0, hs, by omega⟩
end P3

/-! V3j: drawn programs, the law's own next places. -/
namespace P3
open PySem PySem.Spec L2 DL
local macro_rules | `(tactic| trivial) => `(tactic| simp only [wSeq, wNext, wRet, wIfS, wAsg, wName, wVar, wC, wDrop, wOp, wCall, wCons, wNil, wIf, wB, wNot, wAnd, wOr, wAndV, wOrV, wNotV, wTup, wLst, wLstV, wFor, wISeq, wIRng1, wIRng2, wIEnum, wIStr, wChain, wIsi, wSl, wPart, wNoPart, wCallF, wCallL, wAppend, wExtend, wSetL, wSetD, wPar, wAugI, wGTup, wGCons, wGNil, wDGet, wDIn, wDict, wDictV, wPairs, wLcV, wLc, wYes, wSetF, wFld, wRev, wNeg, wNever, wLoop, wComp, wSortSet, wTry, wRaise, wCallSt, wRetX, wSetX, rEqO, rNeO, wMake, rIntA, rMulA, wTryM, wMixX, wRaise1, wXf, DEnds.off, wMeth, wPop, wTx1, onStr, wSplit, wPartition, wJoin, rSplit, rPartition, rJoin, rIntS, rStr, rMulS, wIEnumL,
  rNe0, DL.rAdd, DL.rSub, DL.rMul, DL.rDiv, DL.rMod, DL.rPow, DL.rI2, DL.rCmpI, DL.rEqB, DL.rIsN, DL.rInS, DL.rIx2, DL.ixSeq, DL.itemsOf, DL.listOf, DL.dictOf, DL.keyOf, DL.goL, DL.goK, DL.goI, DL.objOf, DL.rLenA, DL.rLen, DL.rSum, DL.rAll, DL.rTuple, DL.rList, DL.rAbs, DL.rInt, rKIn, rKGet, rIsBl, rEq0, lst2, gup_same, dwipe, slot_def, at0, at1, at2, at3, atm, cut1, cutAll,
  List.set_cons_zero, List.set_cons_succ, List.getElem?_cons_zero, List.getElem?_cons_succ, List.getElem?_nil, Option.join_some, Option.join_none, List.length_cons, List.length_nil, if_true, if_false, Bool.false_eq_true, reduceIte, Bool.not_true, Bool.not_false, Bool.true_xor, Bool.false_xor, Bool.xor_true, Bool.xor_false, true_and, and_true, reduceCtorEq, decide_true, decide_false, Option.isSome_some, Option.isSome_none, List.cons_append, List.nil_append,
  s_note_copy, s_note_give, s_note_ask, s_note_print, s_note_either, s_note_again, s_note_call, s_copy_note, s_copy_give, s_copy_ask, s_copy_print, s_copy_either, s_copy_again, s_copy_call, s_give_note, s_give_copy, s_give_ask, s_give_print, s_give_either, s_give_again, s_give_call, s_ask_note, s_ask_copy, s_ask_give, s_ask_print, s_ask_either, s_ask_again, s_ask_call, s_print_note, s_print_copy, s_print_give, s_print_ask, s_print_either, s_print_again, s_print_call, s_either_note, s_either_copy, s_either_give, s_either_ask, s_either_print, s_either_again, s_either_call, s_again_note, s_again_copy, s_again_give, s_again_ask, s_again_print, s_again_either, s_again_call, s_call_note, s_call_copy, s_call_give, s_call_ask, s_call_print, s_call_either, s_call_again, s_note, s_copy, s_give, s_ask, s_print, s_either, s_again, s_call, i_note, j_note, l_note, i_copy, j_copy, l_copy, i_give, j_give, l_give, i_ask, j_ask, l_ask, i_print, j_print, l_print, i_either, j_either, l_either, i_again, j_again, l_again, i_call, j_call, l_call,
  Nat.reduceAdd, Nat.zero_add, Int.reduceLT, Int.reduceLE, Int.reduceEq, Int.reduceAdd, Int.reduceNeg, Int.reduceSub, cz0, cz1, cz2, cz3, cz4, cz5, cz6, cz7, cz8, cz9, t_tup, t_str, t_int, t_bl, lt0, lt1, lt2, lt3, lt4, lt5, lt6, zl0, zl1, zl2, zl3, zl4, zl5, zl6, zl9, rn2, x51, x52, x53, x54, at4, lkb, fl1, fl2, flstr, flint, flnon, flbl, List.all_cons, List.all_nil, Bool.and_true])
local macro_rules | `(tactic| get_elem_tactic_trivial) => `(tactic| simp only [wSeq, wNext, wRet, wIfS, wAsg, wName, wVar, wC, wDrop, wOp, wCall, wCons, wNil, wIf, wB, wNot, wAnd, wOr, wAndV, wOrV, wNotV, wTup, wLst, wLstV, wFor, wISeq, wIRng1, wIRng2, wIEnum, wIStr, wChain, wIsi, wSl, wPart, wNoPart, wCallF, wCallL, wAppend, wExtend, wSetL, wSetD, wPar, wAugI, wGTup, wGCons, wGNil, wDGet, wDIn, wDict, wDictV, wPairs, wLcV, wLc, wYes, wSetF, wFld, wRev, wNeg, wNever, wSortSet, wTry, wRaise, wCallSt, wRetX, wSetX, rEqO, rNeO, wMake, rIntA, rMulA, wTryM, wMixX, wRaise1, wXf, DEnds.off, wMeth, wPop, wTx1, onStr, wSplit, wPartition, wJoin, rSplit, rPartition, rJoin, rIntS, rStr, rMulS, wIEnumL,
  rNe0, DL.rAdd, DL.rSub, DL.rMul, DL.rDiv, DL.rMod, DL.rPow, DL.rI2, DL.rCmpI, DL.rEqB, DL.rIsN, DL.rInS, DL.rIx2, DL.ixSeq, DL.itemsOf, DL.listOf, DL.dictOf, DL.keyOf, DL.goL, DL.goK, DL.goI, DL.objOf, DL.rLenA, DL.rLen, DL.rSum, DL.rAll, DL.rTuple, DL.rList, DL.rAbs, DL.rInt, rKIn, rKGet, rIsBl, rEq0, lst2, gup_same, dwipe, slot_def, at0, at1, at2, at3, atm, cut1, cutAll,
  List.set_cons_zero, List.set_cons_succ, List.getElem?_cons_zero, List.getElem?_cons_succ, List.getElem?_nil, Option.join_some, Option.join_none, List.length_cons, List.length_nil, if_true, if_false, Bool.false_eq_true, reduceIte, Bool.not_true, Bool.not_false, Bool.true_xor, Bool.false_xor, Bool.xor_true, Bool.xor_false, true_and, and_true, reduceCtorEq, decide_true, decide_false, Option.isSome_some, Option.isSome_none, List.cons_append, List.nil_append,
  s_note_copy, s_note_give, s_note_ask, s_note_print, s_note_either, s_note_again, s_note_call, s_copy_note, s_copy_give, s_copy_ask, s_copy_print, s_copy_either, s_copy_again, s_copy_call, s_give_note, s_give_copy, s_give_ask, s_give_print, s_give_either, s_give_again, s_give_call, s_ask_note, s_ask_copy, s_ask_give, s_ask_print, s_ask_either, s_ask_again, s_ask_call, s_print_note, s_print_copy, s_print_give, s_print_ask, s_print_either, s_print_again, s_print_call, s_either_note, s_either_copy, s_either_give, s_either_ask, s_either_print, s_either_again, s_either_call, s_again_note, s_again_copy, s_again_give, s_again_ask, s_again_print, s_again_either, s_again_call, s_call_note, s_call_copy, s_call_give, s_call_ask, s_call_print, s_call_either, s_call_again, s_note, s_copy, s_give, s_ask, s_print, s_either, s_again, s_call, i_note, j_note, l_note, i_copy, j_copy, l_copy, i_give, j_give, l_give, i_ask, j_ask, l_ask, i_print, j_print, l_print, i_either, j_either, l_either, i_again, j_again, l_again, i_call, j_call, l_call,
  Nat.reduceAdd, Nat.zero_add, Int.reduceLT, Int.reduceLE, Int.reduceEq, Int.reduceAdd, Int.reduceNeg, Int.reduceSub, cz0, cz1, cz2, cz3, cz4, cz5, cz6, cz7, cz8, cz9, t_tup, t_str, t_int, t_bl, lt0, lt1, lt2, lt3, lt4, lt5, lt6, zl0, zl1, zl2, zl3, zl4, zl5, zl6, zl9, rn2, x51, x52, x53, x54, at4, lkb, fl1, fl2, flstr, flint, flnon, flbl, List.all_cons, List.all_nil, Bool.and_true])
variable {K : PySem.W.Frag} {OC : Addr → Bool}

/-! a drawn program -/
def NSs : List (List Str) := [["x", "yy", "either", "ask", "z"], ["a", "b"], ["abcdefgh", "or", "print", "q"]]
def OSs : List (List Str) := [["f", "g"], ["add", "again", "or"], ["x", "ask", "abcdefgh"]]
theorem NSs_ok : ∀ NS ∈ NSs, NS ≠ [] ∧ NS.length ≤ 8 ∧ ∀ x ∈ NS, nameOk x := by unfold nameOk NSs; decide +kernel
theorem OSs_ok : ∀ NS ∈ OSs, NS ≠ [] ∧ NS.length ≤ 8 ∧ ∀ x ∈ NS, nameOk x := by unfold nameOk OSs; decide +kernel
def sp_drawn : DSp := fun ds G Q _ => ∃ p : Addr, ds = [.ref p] ∧ HdG p G G ∧ ∀ G' (b : Blk) (NS : List Str), HdG p G G' → NS.length ≤ 8 → b.ok NS 1 → b.ds.length ≤ 12 → b.size ≤ 28 → Q b.toD G'
abbrev lblocks : DSp := anySp fun i : List Str × List Str => sp_lblock i.1 i.2 3
theorem v_drawn {ds : List D} {G : Gh} {Q : DQ} {E : DXq} (h : sp_drawn ds G Q E) : W__law_drawn sp_any lblocks sp_draw (endsOf K Q) (dstart N__law_drawn ds) G := by
  obtain ⟨p, rfl, hG, q⟩ := h
  show W__law_drawn sp_any lblocks sp_draw (endsOf K Q) [some (.ref p), none, none] G
  unfold W__law_drawn
  have go : ∀ NS ∈ NSs, ∀ OS ∈ OSs, ∀ G1, HdG p G G1 → lblocks [.ref p, nms NS, nms OS, .int 1, .int 28] G1 (endsOf K Q).rt noX := fun NS h1 OS h2 G1 hg => by
    obtain ⟨a1, a2, a3⟩ := NSs_ok NS h1
    obtain ⟨b1, b2, b3⟩ := OSs_ok OS h2
    exact ⟨(NS, OS), p, 1, 28, rfl, hg.self, a1, a2, b1, b2, a3, b3, by omega, by omega, by omega, by omega, fun G' b hb ok l s => rt_here (q G' b NS (hg.trans hb) a2 ok (by omega) (by omega))⟩
  try trivial
  refine ⟨p, 3, rfl, hG, by decide, by decide, fun G1 r h1 r0 r1 => ?_⟩
  try trivial
  have hr : r = 0 ∨ r = 1 ∨ r = 2 := by omega
  rcases hr with rfl | rfl | rfl <;>
  · try trivial
    refine ⟨p, _, _, rfl, rfl, h1.self, by simp, by simp, fun G2 d h2 hd => ?_⟩
    have h2 := h1.trans h2
    simp only [List.mem_cons, List.not_mem_nil, or_false] at hd
    rcases hd with rfl | rfl | rfl
    · first | exact go ["x", "yy", "either", "ask", "z"] (by simp [NSs]) ["f", "g"] (by simp [OSs]) G2 h2 | exact go ["a", "b"] (by simp [NSs]) ["f", "g"] (by simp [OSs]) G2 h2 | exact go ["abcdefgh", "or", "print", "q"] (by simp [NSs]) ["f", "g"] (by simp [OSs]) G2 h2
    · first | exact go ["x", "yy", "either", "ask", "z"] (by simp [NSs]) ["add", "again", "or"] (by simp [OSs]) G2 h2 | exact go ["a", "b"] (by simp [NSs]) ["add", "again", "or"] (by simp [OSs]) G2 h2 | exact go ["abcdefgh", "or", "print", "q"] (by simp [NSs]) ["add", "again", "or"] (by simp [OSs]) G2 h2
    · first | exact go ["x", "yy", "either", "ask", "z"] (by simp [NSs]) ["x", "ask", "abcdefgh"] (by simp [OSs]) G2 h2 | exact go ["a", "b"] (by simp [NSs]) ["x", "ask", "abcdefgh"] (by simp [OSs]) G2 h2 | exact go ["abcdefgh", "or", "print", "q"] (by simp [NSs]) ["x", "ask", "abcdefgh"] (by simp [OSs]) G2 h2
/-! the law's dict of next places -/
def ents : Int → List (D × List Int) → List (Key × D)
  | _, [] => []
  | f, r :: t => (.inl f, .tup (r.2.map .int)) :: ents (f + 1) t
theorem ents_app : ∀ (a b : List (D × List Int)) (f : Int), ents f (a ++ b) = ents f a ++ ents (f + a.length) b
  | [], b, f => by simp [ents]
  | r :: a, b, f => by
    simp only [ents, List.cons_append, ents_app a b, List.length_cons]
    rw [show f + 1 + ((a.length : Nat) : Int) = f + ((a.length + 1 : Nat) : Int) by omega]
theorem ents_length : ∀ (a : List (D × List Int)) (f : Int), (ents f a).length = a.length
  | [], f => rfl
  | r :: a, f => by simp [ents, ents_length a]
/-- no key of kvs stands in f .. f + n - 1 -/
def Out (kvs : List (Key × D)) (f : Int) (n : Nat) : Prop := ∀ kv ∈ kvs, ∃ i : Int, kv.1 = .inl i ∧ (i < f ∨ f + n ≤ i)
theorem Out.put {kvs : List (Key × D)} {f : Int} {n : Nat} {v : D} (h : Out kvs f n) (hn : 0 < n) : putD kvs (.inl f) v = kvs ++ [(.inl f, v)] := by
  unfold putD
  rw [if_neg]
  intro hc
  obtain ⟨kv, hm, e⟩ := List.any_eq_true.mp hc
  obtain ⟨i, e1, h1⟩ := h kv hm
  have e := of_decide_eq_true e
  rw [e1] at e
  cases e
  omega
theorem Out.app {kvs more : List (Key × D)} {f : Int} {n : Nat} (h : Out kvs f n) (k : Out more f n) : Out (kvs ++ more) f n := fun kv hm => (List.mem_append.mp hm).elim (h kv) (k kv)
theorem Out.less {kvs : List (Key × D)} {f g : Int} {n m : Nat} (h : Out kvs f n) (a : f ≤ g) (b : g + m ≤ f + n) : Out kvs g m := fun kv hm => by
  obtain ⟨i, e, c⟩ := h kv hm
  exact ⟨i, e, by omega⟩
theorem ents_out : ∀ (L : List (D × List Int)) (f g : Int) (n : Nat), f + L.length ≤ g → Out (ents f L) g n
  | [], f, g, n, h => fun kv hm => by simp [ents] at hm
  | r :: L, f, g, n, h => fun kv hm => by
    rw [List.length_cons] at h
    rcases List.mem_cons.mp hm with hm | hm
    · subst hm; exact ⟨f, rfl, by omega⟩
    · exact ents_out L (f + 1) g n (by omega) kv hm
def sp_llay (NS : List Str) (n : Nat) : DSp := fun ds G Q _ => ∃ (q : Addr) (b : Blk) (f a : Int) (k : Nat) (kvs : List (Key × D)), ds = [b.toD, .int f, .int a, .ref q] ∧ G q = some (.dic kvs) ∧ 1 ≤ k ∧ b.ok NS k ∧ 4 ≤ k + n ∧ b.size ≤ 28 ∧ kvs.length + b.size ≤ 100 ∧ Out kvs f b.size ∧
  Q .non (gup G q (.dic (kvs ++ ents f (nxs b f a))))
theorem sel_e1 {b : Blk} {f a : Int} (h : (!b.ds.isEmpty) = true) : sel b f a = f := by cases b <;> first | rfl | cases h
theorem sel_e0 {b : Blk} {f a : Int} (h : ¬ (!b.ds.isEmpty) = true) : sel b f a = a := by cases b <;> first | rfl | exact (h rfl).elim
theorem isEmpty_sel (b : Blk) (f a : Int) : (if (!b.ds.isEmpty) = true then D.int f else .int a) = .int (sel b f a) := by
  cases b <;> rfl
end P3

/-! V3k: the law's own judge; deep things. -/
namespace P3
open PySem PySem.Spec L2 DL
local macro_rules | `(tactic| trivial) => `(tactic| simp only [wSeq, wNext, wRet, wIfS, wAsg, wName, wVar, wC, wDrop, wOp, wCall, wCons, wNil, wIf, wB, wNot, wAnd, wOr, wAndV, wOrV, wNotV, wTup, wLst, wLstV, wFor, wISeq, wIRng1, wIRng2, wIEnum, wIStr, wChain, wIsi, wSl, wPart, wNoPart, wCallF, wCallL, wAppend, wExtend, wSetL, wSetD, wPar, wAugI, wGTup, wGCons, wGNil, wDGet, wDIn, wDict, wDictV, wPairs, wLcV, wLc, wYes, wSetF, wFld, wRev, wNeg, wNever, wLoop, wComp, wSortSet, wTry, wRaise, wCallSt, wRetX, wSetX, rEqO, rNeO, wMake, rIntA, rMulA, wTryM, wMixX, wRaise1, wXf, DEnds.off, wMeth, wPop, wTx1, onStr, wSplit, wPartition, wJoin, rSplit, rPartition, rJoin, rIntS, rStr, rMulS, wIEnumL,
  rNe0, DL.rAdd, DL.rSub, DL.rMul, DL.rDiv, DL.rMod, DL.rPow, DL.rI2, DL.rCmpI, DL.rEqB, DL.rIsN, DL.rInS, DL.rIx2, DL.ixSeq, DL.itemsOf, DL.listOf, DL.dictOf, DL.keyOf, DL.goL, DL.goK, DL.goI, DL.objOf, DL.rLenA, DL.rLen, DL.rSum, DL.rAll, DL.rTuple, DL.rList, DL.rAbs, DL.rInt, rKIn, rKGet, rIsBl, rEq0, lst2, gup_same, dwipe, slot_def, at0, at1, at2, at3, atm, cut1, cutAll,
  List.set_cons_zero, List.set_cons_succ, List.getElem?_cons_zero, List.getElem?_cons_succ, List.getElem?_nil, Option.join_some, Option.join_none, List.length_cons, List.length_nil, if_true, if_false, Bool.false_eq_true, reduceIte, Bool.not_true, Bool.not_false, Bool.true_xor, Bool.false_xor, Bool.xor_true, Bool.xor_false, true_and, and_true, reduceCtorEq, decide_true, decide_false, Option.isSome_some, Option.isSome_none, List.cons_append, List.nil_append,
  s_note_copy, s_note_give, s_note_ask, s_note_print, s_note_either, s_note_again, s_note_call, s_copy_note, s_copy_give, s_copy_ask, s_copy_print, s_copy_either, s_copy_again, s_copy_call, s_give_note, s_give_copy, s_give_ask, s_give_print, s_give_either, s_give_again, s_give_call, s_ask_note, s_ask_copy, s_ask_give, s_ask_print, s_ask_either, s_ask_again, s_ask_call, s_print_note, s_print_copy, s_print_give, s_print_ask, s_print_either, s_print_again, s_print_call, s_either_note, s_either_copy, s_either_give, s_either_ask, s_either_print, s_either_again, s_either_call, s_again_note, s_again_copy, s_again_give, s_again_ask, s_again_print, s_again_either, s_again_call, s_call_note, s_call_copy, s_call_give, s_call_ask, s_call_print, s_call_either, s_call_again, s_note, s_copy, s_give, s_ask, s_print, s_either, s_again, s_call, i_note, j_note, l_note, i_copy, j_copy, l_copy, i_give, j_give, l_give, i_ask, j_ask, l_ask, i_print, j_print, l_print, i_either, j_either, l_either, i_again, j_again, l_again, i_call, j_call, l_call,
  Nat.reduceAdd, Nat.zero_add, Int.reduceLT, Int.reduceLE, Int.reduceEq, Int.reduceAdd, Int.reduceNeg, Int.reduceSub, cz0, cz1, cz2, cz3, cz4, cz5, cz6, cz7, cz8, cz9, t_tup, t_str, t_int, t_bl, lt0, lt1, lt2, lt3, lt4, lt5, lt6, zl0, zl1, zl2, zl3, zl4, zl5, zl6, zl9, rn2, x51, x52, x53, x54, at4, lkb, fl1, fl2, flstr, flint, flnon, flbl, List.all_cons, List.all_nil, Bool.and_true])
local macro_rules | `(tactic| get_elem_tactic_trivial) => `(tactic| simp only [wSeq, wNext, wRet, wIfS, wAsg, wName, wVar, wC, wDrop, wOp, wCall, wCons, wNil, wIf, wB, wNot, wAnd, wOr, wAndV, wOrV, wNotV, wTup, wLst, wLstV, wFor, wISeq, wIRng1, wIRng2, wIEnum, wIStr, wChain, wIsi, wSl, wPart, wNoPart, wCallF, wCallL, wAppend, wExtend, wSetL, wSetD, wPar, wAugI, wGTup, wGCons, wGNil, wDGet, wDIn, wDict, wDictV, wPairs, wLcV, wLc, wYes, wSetF, wFld, wRev, wNeg, wNever, wSortSet, wTry, wRaise, wCallSt, wRetX, wSetX, rEqO, rNeO, wMake, rIntA, rMulA, wTryM, wMixX, wRaise1, wXf, DEnds.off, wMeth, wPop, wTx1, onStr, wSplit, wPartition, wJoin, rSplit, rPartition, rJoin, rIntS, rStr, rMulS, wIEnumL,
  rNe0, DL.rAdd, DL.rSub, DL.rMul, DL.rDiv, DL.rMod, DL.rPow, DL.rI2, DL.rCmpI, DL.rEqB, DL.rIsN, DL.rInS, DL.rIx2, DL.ixSeq, DL.itemsOf, DL.listOf, DL.dictOf, DL.keyOf, DL.goL, DL.goK, DL.goI, DL.objOf, DL.rLenA, DL.rLen, DL.rSum, DL.rAll, DL.rTuple, DL.rList, DL.rAbs, DL.rInt, rKIn, rKGet, rIsBl, rEq0, lst2, gup_same, dwipe, slot_def, at0, at1, at2, at3, atm, cut1, cutAll,
  List.set_cons_zero, List.set_cons_succ, List.getElem?_cons_zero, List.getElem?_cons_succ, List.getElem?_nil, Option.join_some, Option.join_none, List.length_cons, List.length_nil, if_true, if_false, Bool.false_eq_true, reduceIte, Bool.not_true, Bool.not_false, Bool.true_xor, Bool.false_xor, Bool.xor_true, Bool.xor_false, true_and, and_true, reduceCtorEq, decide_true, decide_false, Option.isSome_some, Option.isSome_none, List.cons_append, List.nil_append,
  s_note_copy, s_note_give, s_note_ask, s_note_print, s_note_either, s_note_again, s_note_call, s_copy_note, s_copy_give, s_copy_ask, s_copy_print, s_copy_either, s_copy_again, s_copy_call, s_give_note, s_give_copy, s_give_ask, s_give_print, s_give_either, s_give_again, s_give_call, s_ask_note, s_ask_copy, s_ask_give, s_ask_print, s_ask_either, s_ask_again, s_ask_call, s_print_note, s_print_copy, s_print_give, s_print_ask, s_print_either, s_print_again, s_print_call, s_either_note, s_either_copy, s_either_give, s_either_ask, s_either_print, s_either_again, s_either_call, s_again_note, s_again_copy, s_again_give, s_again_ask, s_again_print, s_again_either, s_again_call, s_call_note, s_call_copy, s_call_give, s_call_ask, s_call_print, s_call_either, s_call_again, s_note, s_copy, s_give, s_ask, s_print, s_either, s_again, s_call, i_note, j_note, l_note, i_copy, j_copy, l_copy, i_give, j_give, l_give, i_ask, j_ask, l_ask, i_print, j_print, l_print, i_either, j_either, l_either, i_again, j_again, l_again, i_call, j_call, l_call,
  Nat.reduceAdd, Nat.zero_add, Int.reduceLT, Int.reduceLE, Int.reduceEq, Int.reduceAdd, Int.reduceNeg, Int.reduceSub, cz0, cz1, cz2, cz3, cz4, cz5, cz6, cz7, cz8, cz9, t_tup, t_str, t_int, t_bl, lt0, lt1, lt2, lt3, lt4, lt5, lt6, zl0, zl1, zl2, zl3, zl4, zl5, zl6, zl9, rn2, x51, x52, x53, x54, at4, lkb, fl1, fl2, flstr, flint, flnon, flbl, List.all_cons, List.all_nil, Bool.and_true])
variable {K : PySem.W.Frag} {OC : Addr → Bool}

def due (b : Blk) : List (Key × D) := (.inl (b.size : Int), .tup []) :: ents 0 (nxs b 0 b.size)
def sp_nexts (NS : List Str) : DSp := fun ds G Q _ => ∃ b : Blk, ds = [b.toD] ∧ b.ok NS 1 ∧ b.size ≤ 28 ∧ Q (.dic (due b)) G
theorem valD_ents : ∀ (L : List (D × List Int)) (f i : Int), valD (ents f L) (.inl i) = if f ≤ i then (L[(i - f).toNat]?).map (fun r => D.tup (r.2.map .int)) else none
  | [], f, i => by simp [ents, valD]
  | r :: L, f, i => by
    have ih := valD_ents L (f + 1) i
    unfold valD at ih ⊢
    rw [ents, List.find?_cons]
    by_cases e : f = i
    · subst e
      rw [decide_eq_true rfl]
      rw [if_pos (Int.le_refl _), Int.sub_self]
      rfl
    · rw [decide_eq_false (fun z => e (by cases z; rfl))]
      dsimp only
      rw [ih]
      by_cases h : f ≤ i
      · rw [if_pos h, if_pos (by omega), show (i - f).toNat = (i - (f + 1)).toNat + 1 by omega]
        rfl
      · rw [if_neg h, if_neg (by omega)]
theorem due_val (b : Blk) (i : Int) (h0 : 0 ≤ i) (h1 : i ≤ b.size) : valD (due b) (.inl i) = some (.tup ((nxtOf (nxs b 0 b.size) i).map .int)) := by
  unfold due
  have e := valD_ents (nxs b 0 b.size) 0 i
  rw [if_pos h0, Int.sub_zero] at e
  unfold valD at e ⊢
  rw [List.find?_cons]
  by_cases z : (b.size : Int) = i
  · rw [decide_eq_true (by rw [z])]
    have : nxtOf (nxs b 0 b.size) i = [] := by
      unfold nxtOf
      rw [List.getElem?_eq_none (by rw [nxs_length]; omega)]; rfl
    rw [this]; rfl
  · rw [decide_eq_false (fun w => z (by cases w; rfl))]
    dsimp only
    rw [e]
    have hj : i.toNat < (nxs b 0 b.size).length := by rw [nxs_length]; omega
    unfold nxtOf
    rw [List.getElem?_eq_getElem hj]; rfl
theorem due_none (b : Blk) (i : Int) (h : ¬ (0 ≤ i ∧ i ≤ b.size)) : valD (due b) (.inl i) = none := by
  unfold due
  have e := valD_ents (nxs b 0 b.size) 0 i
  unfold valD at e ⊢
  rw [List.find?_cons, decide_eq_false (fun w => by cases w; omega)]
  dsimp only
  rw [e]
  by_cases h0 : 0 ≤ i
  · rw [if_pos h0, List.getElem?_eq_none (by rw [nxs_length]; omega)]; rfl
  · rw [if_neg h0]
theorem due_in (b : Blk) (i : Int) : (valD (due b) (.inl i)).isSome = inI 0 b.size (.int i) := by
  by_cases h : 0 ≤ i ∧ i ≤ b.size
  · rw [due_val b i h.1 h.2]; simp [inI, h.1, h.2]
  · rw [due_none b i h]
    by_cases h0 : 0 ≤ i
    · have : ¬ i ≤ b.size := fun z => h ⟨h0, z⟩
      simp [inI, this]
    · simp [inI, h0]
/-! something deep -/
def sp_deep (OC : Addr → Bool) : DSp := fun ds G Q _ => ∃ p : Addr, ds = [.ref p] ∧ HdG p G G ∧ ∀ G' d, HdG p G G' → okThing OC d → (∀ i, d ≠ .int i) → Q d G'
theorem v_deep {ds : List D} {G : Gh} {Q : DQ} {E : DXq} (h : sp_deep OC ds G Q E) : W__law_deep sp_draw (endsOf K Q) (dstart N__law_deep ds) G := by
  obtain ⟨p, rfl, hG, q⟩ := h
  show W__law_deep sp_draw (endsOf K Q) [some (.ref p), none, none] G
  unfold W__law_deep
  have plain : ∀ d : D, okT OC d = true → (∀ ds, d ≠ .tup ds) → (∀ i, d ≠ .int i) → okThing OC d ∧ ∀ i, d ≠ .int i := fun d h1 h2 h3 => ⟨⟨h1, fun ds e => (h2 ds e).elim⟩, h3⟩
  refine seq_rule (fun σ' G' => ∃ d, σ' = [some (.ref p), some d, none] ∧ HdG p G G' ∧ okThing OC d ∧ ∀ i, d ≠ .int i) (fun N hN => ?_) ?_
  · try trivial
    refine ⟨p, 3, rfl, hG, by decide, by decide, fun G1 r h1 r0 r1 => ?_⟩
    have hr : r = 0 ∨ r = 1 ∨ r = 2 := by omega
    rcases hr with rfl | rfl | rfl
    · try trivial
      exact hN _ _ ⟨_, rfl, h1, plain _ rfl (fun _ e => by cases e) (fun _ e => by cases e)⟩
    · try trivial
      exact hN _ _ ⟨_, rfl, h1, ⟨rfl, fun ds e => by cases e; exact ⟨fun x hx => by simp at hx, by simp⟩⟩, fun _ e => by cases e⟩
    · try trivial
      exact hN _ _ ⟨_, rfl, h1, plain _ rfl (fun _ e => by cases e) (fun _ e => by cases e)⟩
  · rintro σ' G' ⟨d, rfl, h1, ok, ni⟩
    try trivial
    refine ⟨p, 8, rfl, h1.self, by decide, by decide, fun G1 r h2 r0 r1 => ?_⟩
    have h2 := h1.trans h2
    try trivial
    refine ⟨by omega, by omega, ?_⟩
    refine loop_rule (fun items σ G' => ∃ (d : D) (x2 : Option D), σ = [some (.ref p), some d, x2] ∧ HdG p G G' ∧ okThing OC d ∧ ∀ i, d ≠ .int i) ?_ ?_ _ _ _ ⟨d, none, rfl, h2, ok, ni⟩
    · rintro σ G' ⟨d, x2, rfl, h3, ok, ni⟩
      try trivial
      exact rt_here (q _ d h3 ok ni)
    · rintro e es N σ G' hN ⟨d, x2, rfl, h3, ok, ni⟩
      have ok1 : ∀ x ∈ [d], okT OC x = true := fun x hx => by rw [List.mem_singleton.mp hx]; exact ok.1
      try trivial
      refine ⟨_, rfl, (by show 1 ≤ 15; omega), ?_⟩
      refine ⟨p, 3, rfl, h3.self, by decide, by decide, fun G4 r h4 r0 r1 => ?_⟩
      have h4 := h3.trans h4
      have hr : r = 0 ∨ r = 1 ∨ r = 2 := by omega
      rcases hr with rfl | rfl | rfl
      · try trivial
        exact hN _ _ ⟨_, _, rfl, h4, plain _ rfl (fun _ e => by cases e) (fun _ e => by cases e)⟩
      · try trivial
        exact hN _ _ ⟨_, _, rfl, h4, ⟨rfl, fun ds e => by cases e; exact ⟨ok1, by simp⟩⟩, fun _ e => by cases e⟩
      · try trivial
        exact hN _ _ ⟨_, _, rfl, h4, plain _ rfl (fun _ e => by cases e) (fun _ e => by cases e)⟩
end P3

/-! V4c: the law's own rows. -/
namespace P3
open PySem PySem.Spec L2 DL
local macro_rules | `(tactic| trivial) => `(tactic| simp only [wSeq, wNext, wRet, wIfS, wAsg, wName, wVar, wC, wDrop, wOp, wCall, wCons, wNil, wIf, wB, wNot, wAnd, wOr, wAndV, wOrV, wNotV, wTup, wLst, wLstV, wFor, wISeq, wIRng1, wIRng2, wIEnum, wIStr, wChain, wIsi, wSl, wPart, wNoPart, wCallF, wCallL, wAppend, wExtend, wSetL, wSetD, wPar, wAugI, wGTup, wGCons, wGNil, wDGet, wDIn, wDict, wDictV, wPairs, wLcV, wLc, wYes, wSetF, wFld, wRev, wNeg, wNever, wLoop, wComp, wSortSet, wTry, wRaise, wCallSt, wRetX, wSetX, rEqO, rNeO, wMake, rIntA, rMulA, wTryM, wMixX, wRaise1, wXf, DEnds.off, wMeth, wPop, wTx1, onStr, wSplit, wPartition, wJoin, rSplit, rPartition, rJoin, rIntS, rStr, rMulS, wIEnumL,
  rNe0, DL.rAdd, DL.rSub, DL.rMul, DL.rDiv, DL.rMod, DL.rPow, DL.rI2, DL.rCmpI, DL.rEqB, DL.rIsN, DL.rInS, DL.rIx2, DL.ixSeq, DL.itemsOf, DL.listOf, DL.dictOf, DL.keyOf, DL.goL, DL.goK, DL.goI, DL.objOf, DL.rLenA, DL.rLen, DL.rSum, DL.rAll, DL.rTuple, DL.rList, DL.rAbs, DL.rInt, rKIn, rKGet, rIsBl, rEq0, lst2, gup_same, dwipe, slot_def, at0, at1, at2, at3, atm, cut1, cutAll,
  List.set_cons_zero, List.set_cons_succ, List.getElem?_cons_zero, List.getElem?_cons_succ, List.getElem?_nil, Option.join_some, Option.join_none, List.length_cons, List.length_nil, if_true, if_false, Bool.false_eq_true, reduceIte, Bool.not_true, Bool.not_false, Bool.true_xor, Bool.false_xor, Bool.xor_true, Bool.xor_false, true_and, and_true, reduceCtorEq, decide_true, decide_false, Option.isSome_some, Option.isSome_none, List.cons_append, List.nil_append,
  s_note_copy, s_note_give, s_note_ask, s_note_print, s_note_either, s_note_again, s_note_call, s_copy_note, s_copy_give, s_copy_ask, s_copy_print, s_copy_either, s_copy_again, s_copy_call, s_give_note, s_give_copy, s_give_ask, s_give_print, s_give_either, s_give_again, s_give_call, s_ask_note, s_ask_copy, s_ask_give, s_ask_print, s_ask_either, s_ask_again, s_ask_call, s_print_note, s_print_copy, s_print_give, s_print_ask, s_print_either, s_print_again, s_print_call, s_either_note, s_either_copy, s_either_give, s_either_ask, s_either_print, s_either_again, s_either_call, s_again_note, s_again_copy, s_again_give, s_again_ask, s_again_print, s_again_either, s_again_call, s_call_note, s_call_copy, s_call_give, s_call_ask, s_call_print, s_call_either, s_call_again, s_note, s_copy, s_give, s_ask, s_print, s_either, s_again, s_call, i_note, j_note, l_note, i_copy, j_copy, l_copy, i_give, j_give, l_give, i_ask, j_ask, l_ask, i_print, j_print, l_print, i_either, j_either, l_either, i_again, j_again, l_again, i_call, j_call, l_call,
  Nat.reduceAdd, Nat.zero_add, Int.reduceLT, Int.reduceLE, Int.reduceEq, Int.reduceAdd, Int.reduceNeg, Int.reduceSub, cz0, cz1, cz2, cz3, cz4, cz5, cz6, cz7, cz8, cz9, t_tup, t_str, t_int, t_bl, lt0, lt1, lt2, lt3, lt4, lt5, lt6, zl0, zl1, zl2, zl3, zl4, zl5, zl6, zl9, rn2, x51, x52, x53, x54, at4, lkb, fl1, fl2, flstr, flint, flnon, flbl, List.all_cons, List.all_nil, Bool.and_true])
local macro_rules | `(tactic| get_elem_tactic_trivial) => `(tactic| simp only [wSeq, wNext, wRet, wIfS, wAsg, wName, wVar, wC, wDrop, wOp, wCall, wCons, wNil, wIf, wB, wNot, wAnd, wOr, wAndV, wOrV, wNotV, wTup, wLst, wLstV, wFor, wISeq, wIRng1, wIRng2, wIEnum, wIStr, wChain, wIsi, wSl, wPart, wNoPart, wCallF, wCallL, wAppend, wExtend, wSetL, wSetD, wPar, wAugI, wGTup, wGCons, wGNil, wDGet, wDIn, wDict, wDictV, wPairs, wLcV, wLc, wYes, wSetF, wFld, wRev, wNeg, wNever, wSortSet, wTry, wRaise, wCallSt, wRetX, wSetX, rEqO, rNeO, wMake, rIntA, rMulA, wTryM, wMixX, wRaise1, wXf, DEnds.off, wMeth, wPop, wTx1, onStr, wSplit, wPartition, wJoin, rSplit, rPartition, rJoin, rIntS, rStr, rMulS, wIEnumL,
  rNe0, DL.rAdd, DL.rSub, DL.rMul, DL.rDiv, DL.rMod, DL.rPow, DL.rI2, DL.rCmpI, DL.rEqB, DL.rIsN, DL.rInS, DL.rIx2, DL.ixSeq, DL.itemsOf, DL.listOf, DL.dictOf, DL.keyOf, DL.goL, DL.goK, DL.goI, DL.objOf, DL.rLenA, DL.rLen, DL.rSum, DL.rAll, DL.rTuple, DL.rList, DL.rAbs, DL.rInt, rKIn, rKGet, rIsBl, rEq0, lst2, gup_same, dwipe, slot_def, at0, at1, at2, at3, atm, cut1, cutAll,
  List.set_cons_zero, List.set_cons_succ, List.getElem?_cons_zero, List.getElem?_cons_succ, List.getElem?_nil, Option.join_some, Option.join_none, List.length_cons, List.length_nil, if_true, if_false, Bool.false_eq_true, reduceIte, Bool.not_true, Bool.not_false, Bool.true_xor, Bool.false_xor, Bool.xor_true, Bool.xor_false, true_and, and_true, reduceCtorEq, decide_true, decide_false, Option.isSome_some, Option.isSome_none, List.cons_append, List.nil_append,
  s_note_copy, s_note_give, s_note_ask, s_note_print, s_note_either, s_note_again, s_note_call, s_copy_note, s_copy_give, s_copy_ask, s_copy_print, s_copy_either, s_copy_again, s_copy_call, s_give_note, s_give_copy, s_give_ask, s_give_print, s_give_either, s_give_again, s_give_call, s_ask_note, s_ask_copy, s_ask_give, s_ask_print, s_ask_either, s_ask_again, s_ask_call, s_print_note, s_print_copy, s_print_give, s_print_ask, s_print_either, s_print_again, s_print_call, s_either_note, s_either_copy, s_either_give, s_either_ask, s_either_print, s_either_again, s_either_call, s_again_note, s_again_copy, s_again_give, s_again_ask, s_again_print, s_again_either, s_again_call, s_call_note, s_call_copy, s_call_give, s_call_ask, s_call_print, s_call_either, s_call_again, s_note, s_copy, s_give, s_ask, s_print, s_either, s_again, s_call, i_note, j_note, l_note, i_copy, j_copy, l_copy, i_give, j_give, l_give, i_ask, j_ask, l_ask, i_print, j_print, l_print, i_either, j_either, l_either, i_again, j_again, l_again, i_call, j_call, l_call,
  Nat.reduceAdd, Nat.zero_add, Int.reduceLT, Int.reduceLE, Int.reduceEq, Int.reduceAdd, Int.reduceNeg, Int.reduceSub, cz0, cz1, cz2, cz3, cz4, cz5, cz6, cz7, cz8, cz9, t_tup, t_str, t_int, t_bl, lt0, lt1, lt2, lt3, lt4, lt5, lt6, zl0, zl1, zl2, zl3, zl4, zl5, zl6, zl9, rn2, x51, x52, x53, x54, at4, lkb, fl1, fl2, flstr, flint, flnon, flbl, List.all_cons, List.all_nil, Bool.and_true])
variable {K : PySem.W.Frag} {OC : Addr → Bool}
def Blk.rows : Blk → List D
  | .nil => []
  | .pl r t => r.toD :: t.rows
  | .ei a b t => .tup [.str "either", a.toD, b.toD] :: (a.rows ++ (b.rows ++ t.rows))
  | .ag a t => .tup [.str "again", a.toD] :: (a.rows ++ t.rows)
theorem nxs_rows : ∀ (b : Blk) (f a : Int), (nxs b f a).map (·.1) = b.rows
  | .nil, _, _ => rfl
  | .pl r t, f, a => by simp only [nxs, Blk.rows, List.map_cons, nxs_rows t]
  | .ei x y t, f, a => by simp only [nxs, Blk.rows, List.map_cons, List.map_append, nxs_rows t, nxs_rows x, nxs_rows y]
  | .ag x t, f, a => by simp only [nxs, Blk.rows, List.map_cons, List.map_append, nxs_rows t, nxs_rows x]
theorem rows_length (b : Blk) : b.rows.length = b.size := by rw [← nxs_rows b 0 0, List.length_map, nxs_length]
def sp_lrows (NS : List Str) (n : Nat) : DSp := fun ds G Q _ => ∃ (b : Blk) (k : Nat), ds = [b.toD] ∧ b.ok NS k ∧ 4 ≤ k + n ∧ b.size ≤ 30 ∧ Q (.lst b.rows) G
theorem v_lrows {NS : List Str} {n : Nat} {ds : List D} {G : Gh} {Q : DQ} {E : DXq} (h : sp_lrows NS n ds G Q E) : W__law_rows (recSp (sp_lrows NS) n) (endsOf K Q) (dstart N__law_rows ds) G := by
  obtain ⟨b, k, rfl, ok, hn, hs, q⟩ := h
  show W__law_rows (recSp (sp_lrows NS) n) (endsOf K Q) [some b.toD, none, none, none] G
  unfold W__law_rows
  try trivial
  intro p hp
  have bnd : ∀ n : Nat, n ≤ 1000 → n ≤ sizeLine := fun n h => by rw [sizeLine_eq]; omega
  refine loop_rule (fun items σ G' => ∃ (t : Blk) (xs : List D) (x2 x3 : Option D), items = t.ds ∧ σ = [some b.toD, some (.ref p), x2, x3] ∧ G' = gup G p (.lst xs) ∧ t.ok NS k ∧ xs ++ t.rows = b.rows ∧ t.size ≤ 30) ?_ ?_ _ _ _ ⟨b, [], none, none, rfl, rfl, rfl, ok, rfl, hs⟩
  · rintro σ G' ⟨t, xs, x2, x3, ht, rfl, rfl, _, e, _⟩
    cases t <;> first | cases ht | skip
    have e2 : xs = b.rows := by simpa [Blk.rows] using e
    subst e2
    try trivial
    exact ⟨.lst b.rows, G, .lst gup_same (Sub.refl.up hp) hp, q⟩
  · rintro d ds N σ G' hN ⟨t, xs, x2, x3, ht, rfl, rfl, ok', e, hs'⟩
    have hxs : xs.length ≤ 30 := by have := congrArg List.length e; rw [List.length_append, rows_length, rows_length] at this; omega
    have hsl : xs.length < sizeLine := by rw [sizeLine_eq]; omega
    cases t with
    | nil => cases ht
    | pl r t =>
      cases ht
      simp only [Blk.size] at hs'
      have fin := fun (x2 x3 : Option D) => hN [some b.toD, some (.ref p), x2, x3] (gup G p (.lst (xs ++ [r.toD]))) ⟨t, xs ++ [r.toD], x2, x3, rfl, rfl, rfl, ok'.2, by rw [List.append_assoc]; exact e, by omega⟩
      cases r <;>
      · unfold PR.toD at fin ⊢
        try trivial
        refine ⟨hsl, ?_⟩
        simp only [gup_gup]
        exact fin _ _
    | ei x y t =>
      cases ht
      obtain ⟨h4, l1, l2, o1, o2, o3⟩ := ok'
      obtain ⟨n, rfl⟩ : ∃ m, n = m + 1 := ⟨n - 1, by omega⟩
      simp only [Blk.size] at hs'
      have hx := rows_length x
      have hy := rows_length y
      try trivial
      refine ⟨hsl, ?_⟩
      simp only [recSp, recSpB]
      refine ⟨x, k + 1, rfl, o1, by omega, by omega, ?_⟩
      try trivial
      refine ⟨bnd _ (by simp only [List.length_append, List.length_cons, List.length_nil]; omega), ?_⟩
      refine ⟨y, k + 1, rfl, o2, by omega, by omega, ?_⟩
      try trivial
      refine ⟨bnd _ (by simp only [List.length_append, List.length_cons, List.length_nil]; omega), ?_⟩
      simp only [gup_gup]
      exact hN _ _ ⟨t, _, _, _, rfl, rfl, rfl, o3, by simp only [Blk.rows] at e; rw [← e]; simp only [List.append_assoc, List.cons_append, List.nil_append], by omega⟩
    | ag x t =>
      cases ht
      obtain ⟨h4, l1, o1, o3⟩ := ok'
      obtain ⟨n, rfl⟩ : ∃ m, n = m + 1 := ⟨n - 1, by omega⟩
      simp only [Blk.size] at hs'
      have hx := rows_length x
      try trivial
      refine ⟨hsl, ?_⟩
      simp only [recSp, recSpB]
      refine ⟨x, k + 1, rfl, o1, by omega, by omega, ?_⟩
      try trivial
      refine ⟨bnd _ (by simp only [List.length_append, List.length_cons, List.length_nil]; omega), ?_⟩
      simp only [gup_gup]
      exact hN _ _ ⟨t, _, _, _, rfl, rfl, rfl, o3, by simp only [Blk.rows] at e; rw [← e]; simp only [List.append_assoc, List.cons_append, List.nil_append], by omega⟩
end P3

/-! V4d: rising texts, each once, are one list. -/
namespace P3
open PySem PySem.Spec L2 DL
abbrev LeS (a b : Str) : Prop := ltCps b.cps.toList a.cps.toList = false
theorem leS_antisymm {a b : Str} (h : LeS a b) (k : LeS b a) : a = b := by
  unfold LeS at h k
  rw [PyProof.Rows.ltCps_eq, decide_eq_false_iff_not] at h k
  have e : a.cps.toList = b.cps.toList := List.le_antisymm (List.not_lt.mp h) (List.not_lt.mp k)
  cases a; cases b
  simp only [Str.mk.injEq]
  exact Array.toList_inj.mp e
theorem leS_trans {a b c : Str} (h : LeS a b) (k : LeS b c) : LeS a c := by
  unfold LeS at h k ⊢
  rw [PyProof.Rows.ltCps_eq, decide_eq_false_iff_not] at h k ⊢
  exact List.not_lt.mpr (List.le_trans (List.not_lt.mp h) (List.not_lt.mp k))
theorem rising_pw : ∀ (l : List Str) (p : Str), PyProof.Rows.risingS p l = true → (p :: l).Pairwise LeS
  | [], p, _ => by simp
  | x :: r, p, h => by
    unfold PyProof.Rows.risingS at h
    rw [Bool.and_eq_true] at h
    have h1 : LeS p x := by simpa using h.1
    have ih := rising_pw r x h.2
    refine List.pairwise_cons.mpr ⟨fun y hy => ?_, ih⟩
    rcases List.mem_cons.mp hy with e | hy
    · rw [e]; exact h1
    · exact leS_trans h1 (List.rel_of_pairwise_cons ih hy)
theorem sorted_pw (l : List Str) (h : PyProof.Rows.sortedS l = true) : l.Pairwise LeS := by
  cases l with
  | nil => exact .nil
  | cons x r => exact rising_pw r x h
theorem uniq : ∀ (xs ys : List Str), xs.Pairwise LeS → ys.Pairwise LeS → xs.Nodup → ys.Nodup → (∀ k, k ∈ xs ↔ k ∈ ys) → xs = ys
  | [], [], _, _, _, _, _ => rfl
  | [], y :: ys, _, _, _, _, h => by have := (h y).mpr List.mem_cons_self; simp at this
  | x :: xs, [], _, _, _, _, h => by have := (h x).mp List.mem_cons_self; simp at this
  | x :: xs, y :: ys, p, q, n, m, h => by
    have e : x = y := by
      have hx := (h x).mp List.mem_cons_self
      have hy := (h y).mpr List.mem_cons_self
      rcases List.mem_cons.mp hx with e | hx
      · exact e
      · rcases List.mem_cons.mp hy with e | hy
        · exact e.symm
        · exact leS_antisymm (List.rel_of_pairwise_cons p hy) (List.rel_of_pairwise_cons q hx)
    subst e
    obtain ⟨n1, n2⟩ := List.nodup_cons.mp n
    obtain ⟨m1, m2⟩ := List.nodup_cons.mp m
    rw [uniq xs ys (List.pairwise_cons.mp p).2 (List.pairwise_cons.mp q).2 n2 m2 fun k => ⟨fun hk => ?_, fun hk => ?_⟩]
    · rcases List.mem_cons.mp ((h k).mp (List.mem_cons_of_mem _ hk)) with e | z
      · exact (n1 (e ▸ hk)).elim
      · exact z
    · rcases List.mem_cons.mp ((h k).mpr (List.mem_cons_of_mem _ hk)) with e | z
      · exact (m1 (e ▸ hk)).elim
      · exact z
theorem sorted_uniq {xs ys : List Str} (h1 : PyProof.Rows.sortedS xs = true) (h2 : PyProof.Rows.sortedS ys = true) (n1 : xs.Nodup) (n2 : ys.Nodup) (h : ∀ k, k ∈ xs ↔ k ∈ ys) : xs = ys := uniq xs ys (sorted_pw xs h1) (sorted_pw ys h2) n1 n2 h
end P3

/-! V4e: names, exactly. -/
namespace P3
open PySem PySem.Spec L2 DL
local macro_rules | `(tactic| trivial) => `(tactic| simp only [wSeq, wNext, wRet, wIfS, wAsg, wName, wVar, wC, wDrop, wOp, wCall, wCons, wNil, wIf, wB, wNot, wAnd, wOr, wAndV, wOrV, wNotV, wTup, wLst, wLstV, wFor, wISeq, wIRng1, wIRng2, wIEnum, wIStr, wChain, wIsi, wSl, wPart, wNoPart, wCallF, wCallL, wAppend, wExtend, wSetL, wSetD, wPar, wAugI, wGTup, wGCons, wGNil, wDGet, wDIn, wDict, wDictV, wPairs, wLcV, wLc, wYes, wSetF, wFld, wRev, wNeg, wNever, wLoop, wComp, wSortSet, wTry, wRaise, wCallSt, wRetX, wSetX, rEqO, rNeO, wMake, rIntA, rMulA, wTryM, wMixX, wRaise1, wXf, DEnds.off, wMeth, wPop, wTx1, onStr, wSplit, wPartition, wJoin, rSplit, rPartition, rJoin, rIntS, rStr, rMulS, wIEnumL,
  rNe0, DL.rAdd, DL.rSub, DL.rMul, DL.rDiv, DL.rMod, DL.rPow, DL.rI2, DL.rCmpI, DL.rEqB, DL.rIsN, DL.rInS, DL.rIx2, DL.ixSeq, DL.itemsOf, DL.listOf, DL.dictOf, DL.keyOf, DL.goL, DL.goK, DL.goI, DL.objOf, DL.rLenA, DL.rLen, DL.rSum, DL.rAll, DL.rTuple, DL.rList, DL.rAbs, DL.rInt, rKIn, rKGet, rIsBl, rEq0, lst2, gup_same, dwipe, slot_def, at0, at1, at2, at3, atm, cut1, cutAll,
  List.set_cons_zero, List.set_cons_succ, List.getElem?_cons_zero, List.getElem?_cons_succ, List.getElem?_nil, Option.join_some, Option.join_none, List.length_cons, List.length_nil, if_true, if_false, Bool.false_eq_true, reduceIte, Bool.not_true, Bool.not_false, Bool.true_xor, Bool.false_xor, Bool.xor_true, Bool.xor_false, true_and, and_true, reduceCtorEq, decide_true, decide_false, Option.isSome_some, Option.isSome_none, List.cons_append, List.nil_append,
  s_note_copy, s_note_give, s_note_ask, s_note_print, s_note_either, s_note_again, s_note_call, s_copy_note, s_copy_give, s_copy_ask, s_copy_print, s_copy_either, s_copy_again, s_copy_call, s_give_note, s_give_copy, s_give_ask, s_give_print, s_give_either, s_give_again, s_give_call, s_ask_note, s_ask_copy, s_ask_give, s_ask_print, s_ask_either, s_ask_again, s_ask_call, s_print_note, s_print_copy, s_print_give, s_print_ask, s_print_either, s_print_again, s_print_call, s_either_note, s_either_copy, s_either_give, s_either_ask, s_either_print, s_either_again, s_either_call, s_again_note, s_again_copy, s_again_give, s_again_ask, s_again_print, s_again_either, s_again_call, s_call_note, s_call_copy, s_call_give, s_call_ask, s_call_print, s_call_either, s_call_again, s_note, s_copy, s_give, s_ask, s_print, s_either, s_again, s_call, i_note, j_note, l_note, i_copy, j_copy, l_copy, i_give, j_give, l_give, i_ask, j_ask, l_ask, i_print, j_print, l_print, i_either, j_either, l_either, i_again, j_again, l_again, i_call, j_call, l_call,
  Nat.reduceAdd, Nat.zero_add, Int.reduceLT, Int.reduceLE, Int.reduceEq, Int.reduceAdd, Int.reduceNeg, Int.reduceSub, cz0, cz1, cz2, cz3, cz4, cz5, cz6, cz7, cz8, cz9, t_tup, t_str, t_int, t_bl, lt0, lt1, lt2, lt3, lt4, lt5, lt6, zl0, zl1, zl2, zl3, zl4, zl5, zl6, zl9, rn2, x51, x52, x53, x54, at4, lkb, fl1, fl2, flstr, flint, flnon, flbl, List.all_cons, List.all_nil, Bool.and_true])
local macro_rules | `(tactic| get_elem_tactic_trivial) => `(tactic| simp only [wSeq, wNext, wRet, wIfS, wAsg, wName, wVar, wC, wDrop, wOp, wCall, wCons, wNil, wIf, wB, wNot, wAnd, wOr, wAndV, wOrV, wNotV, wTup, wLst, wLstV, wFor, wISeq, wIRng1, wIRng2, wIEnum, wIStr, wChain, wIsi, wSl, wPart, wNoPart, wCallF, wCallL, wAppend, wExtend, wSetL, wSetD, wPar, wAugI, wGTup, wGCons, wGNil, wDGet, wDIn, wDict, wDictV, wPairs, wLcV, wLc, wYes, wSetF, wFld, wRev, wNeg, wNever, wSortSet, wTry, wRaise, wCallSt, wRetX, wSetX, rEqO, rNeO, wMake, rIntA, rMulA, wTryM, wMixX, wRaise1, wXf, DEnds.off, wMeth, wPop, wTx1, onStr, wSplit, wPartition, wJoin, rSplit, rPartition, rJoin, rIntS, rStr, rMulS, wIEnumL,
  rNe0, DL.rAdd, DL.rSub, DL.rMul, DL.rDiv, DL.rMod, DL.rPow, DL.rI2, DL.rCmpI, DL.rEqB, DL.rIsN, DL.rInS, DL.rIx2, DL.ixSeq, DL.itemsOf, DL.listOf, DL.dictOf, DL.keyOf, DL.goL, DL.goK, DL.goI, DL.objOf, DL.rLenA, DL.rLen, DL.rSum, DL.rAll, DL.rTuple, DL.rList, DL.rAbs, DL.rInt, rKIn, rKGet, rIsBl, rEq0, lst2, gup_same, dwipe, slot_def, at0, at1, at2, at3, atm, cut1, cutAll,
  List.set_cons_zero, List.set_cons_succ, List.getElem?_cons_zero, List.getElem?_cons_succ, List.getElem?_nil, Option.join_some, Option.join_none, List.length_cons, List.length_nil, if_true, if_false, Bool.false_eq_true, reduceIte, Bool.not_true, Bool.not_false, Bool.true_xor, Bool.false_xor, Bool.xor_true, Bool.xor_false, true_and, and_true, reduceCtorEq, decide_true, decide_false, Option.isSome_some, Option.isSome_none, List.cons_append, List.nil_append,
  s_note_copy, s_note_give, s_note_ask, s_note_print, s_note_either, s_note_again, s_note_call, s_copy_note, s_copy_give, s_copy_ask, s_copy_print, s_copy_either, s_copy_again, s_copy_call, s_give_note, s_give_copy, s_give_ask, s_give_print, s_give_either, s_give_again, s_give_call, s_ask_note, s_ask_copy, s_ask_give, s_ask_print, s_ask_either, s_ask_again, s_ask_call, s_print_note, s_print_copy, s_print_give, s_print_ask, s_print_either, s_print_again, s_print_call, s_either_note, s_either_copy, s_either_give, s_either_ask, s_either_print, s_either_again, s_either_call, s_again_note, s_again_copy, s_again_give, s_again_ask, s_again_print, s_again_either, s_again_call, s_call_note, s_call_copy, s_call_give, s_call_ask, s_call_print, s_call_either, s_call_again, s_note, s_copy, s_give, s_ask, s_print, s_either, s_again, s_call, i_note, j_note, l_note, i_copy, j_copy, l_copy, i_give, j_give, l_give, i_ask, j_ask, l_ask, i_print, j_print, l_print, i_either, j_either, l_either, i_again, j_again, l_again, i_call, j_call, l_call,
  Nat.reduceAdd, Nat.zero_add, Int.reduceLT, Int.reduceLE, Int.reduceEq, Int.reduceAdd, Int.reduceNeg, Int.reduceSub, cz0, cz1, cz2, cz3, cz4, cz5, cz6, cz7, cz8, cz9, t_tup, t_str, t_int, t_bl, lt0, lt1, lt2, lt3, lt4, lt5, lt6, zl0, zl1, zl2, zl3, zl4, zl5, zl6, zl9, rn2, x51, x52, x53, x54, at4, lkb, fl1, fl2, flstr, flint, flnon, flbl, List.all_cons, List.all_nil, Bool.and_true])
variable {K : PySem.W.Frag} {OC : Addr → Bool}
/-- rows and the names that they hold, in their order -/
inductive RowsN (NS : List Str) : List D → List Str → Prop
  | nil : RowsN NS [] []
  | pl (r : PR) (ok : r.ok NS) {L : List D} {xs : List Str} (t : RowsN NS L xs) : RowsN NS (r.toD :: L) (r.names ++ xs)
  | ei (x y : D) {L : List D} {xs : List Str} (t : RowsN NS L xs) : RowsN NS (.tup [.str "either", x, y] :: L) xs
  | ag (x : D) {L : List D} {xs : List Str} (t : RowsN NS L xs) : RowsN NS (.tup [.str "again", x] :: L) xs
def Blk.nm : Blk → List Str
  | .nil => []
  | .pl r t => r.names ++ t.nm
  | .ei a b t => a.nm ++ (b.nm ++ t.nm)
  | .ag a t => a.nm ++ t.nm
theorem RowsN.app {NS : List Str} {L M : List D} {xs ys : List Str} (a : RowsN NS L xs) (b : RowsN NS M ys) : RowsN NS (L ++ M) (xs ++ ys) := by
  induction a with
  | nil => exact b
  | pl r ok t ih => rw [List.append_assoc]; exact .pl r ok ih
  | ei x y t ih => exact .ei x y ih
  | ag x t ih => exact .ag x ih
theorem blk_rowsN {NS : List Str} : ∀ (b : Blk) (k : Nat), b.ok NS k → RowsN NS b.rows b.nm
  | .nil, _, _ => .nil
  | .pl r t, k, ok => .pl r ok.1 (blk_rowsN t k ok.2)
  | .ei x y t, k, ⟨_, _, _, o1, o2, o3⟩ => .ei _ _ ((blk_rowsN x _ o1).app ((blk_rowsN y _ o2).app (blk_rowsN t k o3)))
  | .ag x t, k, ⟨_, _, o1, o3⟩ => .ag _ ((blk_rowsN x _ o1).app (blk_rowsN t k o3))
theorem names_le {NS : List Str} {r : PR} (ok : r.ok NS) : r.names.length ≤ 4 := by
  cases r with
  | note x o ps => have : ps.length ≤ 3 := ok.2.2; simp only [PR.names, List.length_cons]; omega
  | _ => simp [PR.names]
theorem RowsN.length {NS : List Str} {L : List D} {xs : List Str} (a : RowsN NS L xs) : xs.length ≤ 4 * L.length := by
  induction a with
  | nil => exact Nat.zero_le _
  | pl r ok t ih => rw [List.length_append, List.length_cons]; have := names_le ok; omega
  | ei x y t ih => rw [List.length_cons]; omega
  | ag x t ih => rw [List.length_cons]; omega
def sp_names_of2 (NS : List Str) : DSp := fun ds G Q _ => ∃ (L : List (D × List Int)) (xs : List Str), ds = [.lst (L.map rowD)] ∧ RowsN NS (L.map (·.1)) xs ∧ L.length ≤ 30 ∧ ∀ ys : List Str, PyProof.Rows.sortedS ys = true → ys.Nodup → (∀ k, k ∈ ys ↔ k ∈ xs) → Q (.lst (ys.map .str)) G
theorem v_names_of2 {aB : Addr} {NS : List Str} {ds : List D} {G : Gh} {Q : DQ} {E : DXq} (h : sp_names_of2 NS ds G Q E) : W_names_of TB aB (sp_names_in NS) (endsOf K Q) (dstart N_names_of ds) G := by
  obtain ⟨L, all, rfl, hR, hl, q⟩ := h
  show W_names_of TB aB (sp_names_in NS) (endsOf K Q) [some (.lst (L.map rowD)), none, none, none] G
  unfold W_names_of
  try trivial
  intro p hp
  have hlen := hR.length
  rw [List.length_map] at hlen
  refine loop_rule (fun items σ G' => ∃ (M : List (D × List Int)) (xs ys : List Str) (x2 x3 : Option D), items = M.map rowD ∧ σ = [some (.lst (L.map rowD)), some (.ref p), x2, x3] ∧ G' = gup G p (.lst (xs.map .str)) ∧ RowsN NS (M.map (·.1)) ys ∧ xs ++ ys = all) ?_ ?_ _ _ _ ⟨L, [], all, none, none, rfl, rfl, rfl, hR, rfl⟩
  · rintro σ G' ⟨M, xs, ys, x2, x3, hM, rfl, rfl, hN, e⟩
    cases M with
    | cons _ _ => cases hM
    | nil =>
      cases hN
      rw [List.append_nil] at e
      subst e
      try trivial
      refine ⟨_, xs, rfl, strsOf_map xs, by omega, fun zs s1 s2 s3 s4 => ?_⟩
      exact ⟨.lst (zs.map .str), G, .sub (Sub.refl.up hp), q zs s1 s2 s3⟩
  · rintro d ds N σ G' hN ⟨M, xs, ys, x2, x3, hM, rfl, rfl, hR', e⟩
    cases M with
    | nil => cases hM
    | cons r M =>
      cases hM
      obtain ⟨d, l⟩ := r
      have hxs : xs.length ≤ 120 := by have := congrArg List.length e; rw [List.length_append] at this; omega
      rw [List.map_cons] at hR'
      dsimp only at hR'
      unfold rowD
      generalize hd : d = dd at hR'
      cases hR' with
      | ei x y t => subst hd; try trivial
                    exact hN _ _ ⟨M, xs, ys, _, _, rfl, rfl, rfl, t, e⟩
      | ag x t => subst hd; try trivial
                  exact hN _ _ ⟨M, xs, ys, _, _, rfl, rfl, rfl, t, e⟩
      | @pl r ok _ zs t =>
        subst hd
        have hz : (r.names ++ zs).length ≤ 120 := by have := congrArg List.length e; rw [List.length_append] at this; omega
        rw [List.length_append] at hz
        have more : ∀ (x2 x3 : Option D), (xs.map D.str).length + (r.names.map D.str).length ≤ sizeLine ∧ N [some (.lst (L.map rowD)), some (.ref p), x2, x3] (gup (gup G p (.lst (xs.map .str))) p (.lst (xs.map D.str ++ r.names.map D.str))) := fun x2 x3 =>
          ⟨by rw [List.length_map, List.length_map, sizeLine_eq]; omega, hN _ _ ⟨M, xs ++ r.names, zs, x2, x3, rfl, rfl, by rw [gup_gup, List.map_append], t, by rw [List.append_assoc]; exact e⟩⟩
        cases r <;>
        · have m := more
          unfold PR.toD at *
          try trivial
          refine ⟨_, rfl, ok, ?_⟩
          try trivial
          exact m _ _
end P3

/-! V4f: names of both sides. -/
namespace P3
open PySem PySem.Spec L2 DL
local macro_rules | `(tactic| trivial) => `(tactic| simp only [wSeq, wNext, wRet, wIfS, wAsg, wName, wVar, wC, wDrop, wOp, wCall, wCons, wNil, wIf, wB, wNot, wAnd, wOr, wAndV, wOrV, wNotV, wTup, wLst, wLstV, wFor, wISeq, wIRng1, wIRng2, wIEnum, wIStr, wChain, wIsi, wSl, wPart, wNoPart, wCallF, wCallL, wAppend, wExtend, wSetL, wSetD, wPar, wAugI, wGTup, wGCons, wGNil, wDGet, wDIn, wDict, wDictV, wPairs, wLcV, wLc, wYes, wSetF, wFld, wRev, wNeg, wNever, wLoop, wComp, wSortSet, wTry, wRaise, wCallSt, wRetX, wSetX, rEqO, rNeO, wMake, rIntA, rMulA, wTryM, wMixX, wRaise1, wXf, DEnds.off, wMeth, wPop, wTx1, onStr, wSplit, wPartition, wJoin, rSplit, rPartition, rJoin, rIntS, rStr, rMulS, wIEnumL,
  rNe0, DL.rAdd, DL.rSub, DL.rMul, DL.rDiv, DL.rMod, DL.rPow, DL.rI2, DL.rCmpI, DL.rEqB, DL.rIsN, DL.rInS, DL.rIx2, DL.ixSeq, DL.itemsOf, DL.listOf, DL.dictOf, DL.keyOf, DL.goL, DL.goK, DL.goI, DL.objOf, DL.rLenA, DL.rLen, DL.rSum, DL.rAll, DL.rTuple, DL.rList, DL.rAbs, DL.rInt, rKIn, rKGet, rIsBl, rEq0, lst2, gup_same, dwipe, slot_def, at0, at1, at2, at3, atm, cut1, cutAll,
  List.set_cons_zero, List.set_cons_succ, List.getElem?_cons_zero, List.getElem?_cons_succ, List.getElem?_nil, Option.join_some, Option.join_none, List.length_cons, List.length_nil, if_true, if_false, Bool.false_eq_true, reduceIte, Bool.not_true, Bool.not_false, Bool.true_xor, Bool.false_xor, Bool.xor_true, Bool.xor_false, true_and, and_true, reduceCtorEq, decide_true, decide_false, Option.isSome_some, Option.isSome_none, List.cons_append, List.nil_append,
  s_note_copy, s_note_give, s_note_ask, s_note_print, s_note_either, s_note_again, s_note_call, s_copy_note, s_copy_give, s_copy_ask, s_copy_print, s_copy_either, s_copy_again, s_copy_call, s_give_note, s_give_copy, s_give_ask, s_give_print, s_give_either, s_give_again, s_give_call, s_ask_note, s_ask_copy, s_ask_give, s_ask_print, s_ask_either, s_ask_again, s_ask_call, s_print_note, s_print_copy, s_print_give, s_print_ask, s_print_either, s_print_again, s_print_call, s_either_note, s_either_copy, s_either_give, s_either_ask, s_either_print, s_either_again, s_either_call, s_again_note, s_again_copy, s_again_give, s_again_ask, s_again_print, s_again_either, s_again_call, s_call_note, s_call_copy, s_call_give, s_call_ask, s_call_print, s_call_either, s_call_again, s_note, s_copy, s_give, s_ask, s_print, s_either, s_again, s_call, i_note, j_note, l_note, i_copy, j_copy, l_copy, i_give, j_give, l_give, i_ask, j_ask, l_ask, i_print, j_print, l_print, i_either, j_either, l_either, i_again, j_again, l_again, i_call, j_call, l_call,
  Nat.reduceAdd, Nat.zero_add, Int.reduceLT, Int.reduceLE, Int.reduceEq, Int.reduceAdd, Int.reduceNeg, Int.reduceSub, cz0, cz1, cz2, cz3, cz4, cz5, cz6, cz7, cz8, cz9, t_tup, t_str, t_int, t_bl, lt0, lt1, lt2, lt3, lt4, lt5, lt6, zl0, zl1, zl2, zl3, zl4, zl5, zl6, zl9, rn2, x51, x52, x53, x54, at4, lkb, fl1, fl2, flstr, flint, flnon, flbl, List.all_cons, List.all_nil, Bool.and_true])
local macro_rules | `(tactic| get_elem_tactic_trivial) => `(tactic| simp only [wSeq, wNext, wRet, wIfS, wAsg, wName, wVar, wC, wDrop, wOp, wCall, wCons, wNil, wIf, wB, wNot, wAnd, wOr, wAndV, wOrV, wNotV, wTup, wLst, wLstV, wFor, wISeq, wIRng1, wIRng2, wIEnum, wIStr, wChain, wIsi, wSl, wPart, wNoPart, wCallF, wCallL, wAppend, wExtend, wSetL, wSetD, wPar, wAugI, wGTup, wGCons, wGNil, wDGet, wDIn, wDict, wDictV, wPairs, wLcV, wLc, wYes, wSetF, wFld, wRev, wNeg, wNever, wSortSet, wTry, wRaise, wCallSt, wRetX, wSetX, rEqO, rNeO, wMake, rIntA, rMulA, wTryM, wMixX, wRaise1, wXf, DEnds.off, wMeth, wPop, wTx1, onStr, wSplit, wPartition, wJoin, rSplit, rPartition, rJoin, rIntS, rStr, rMulS, wIEnumL,
  rNe0, DL.rAdd, DL.rSub, DL.rMul, DL.rDiv, DL.rMod, DL.rPow, DL.rI2, DL.rCmpI, DL.rEqB, DL.rIsN, DL.rInS, DL.rIx2, DL.ixSeq, DL.itemsOf, DL.listOf, DL.dictOf, DL.keyOf, DL.goL, DL.goK, DL.goI, DL.objOf, DL.rLenA, DL.rLen, DL.rSum, DL.rAll, DL.rTuple, DL.rList, DL.rAbs, DL.rInt, rKIn, rKGet, rIsBl, rEq0, lst2, gup_same, dwipe, slot_def, at0, at1, at2, at3, atm, cut1, cutAll,
  List.set_cons_zero, List.set_cons_succ, List.getElem?_cons_zero, List.getElem?_cons_succ, List.getElem?_nil, Option.join_some, Option.join_none, List.length_cons, List.length_nil, if_true, if_false, Bool.false_eq_true, reduceIte, Bool.not_true, Bool.not_false, Bool.true_xor, Bool.false_xor, Bool.xor_true, Bool.xor_false, true_and, and_true, reduceCtorEq, decide_true, decide_false, Option.isSome_some, Option.isSome_none, List.cons_append, List.nil_append,
  s_note_copy, s_note_give, s_note_ask, s_note_print, s_note_either, s_note_again, s_note_call, s_copy_note, s_copy_give, s_copy_ask, s_copy_print, s_copy_either, s_copy_again, s_copy_call, s_give_note, s_give_copy, s_give_ask, s_give_print, s_give_either, s_give_again, s_give_call, s_ask_note, s_ask_copy, s_ask_give, s_ask_print, s_ask_either, s_ask_again, s_ask_call, s_print_note, s_print_copy, s_print_give, s_print_ask, s_print_either, s_print_again, s_print_call, s_either_note, s_either_copy, s_either_give, s_either_ask, s_either_print, s_either_again, s_either_call, s_again_note, s_again_copy, s_again_give, s_again_ask, s_again_print, s_again_either, s_again_call, s_call_note, s_call_copy, s_call_give, s_call_ask, s_call_print, s_call_either, s_call_again, s_note, s_copy, s_give, s_ask, s_print, s_either, s_again, s_call, i_note, j_note, l_note, i_copy, j_copy, l_copy, i_give, j_give, l_give, i_ask, j_ask, l_ask, i_print, j_print, l_print, i_either, j_either, l_either, i_again, j_again, l_again, i_call, j_call, l_call,
  Nat.reduceAdd, Nat.zero_add, Int.reduceLT, Int.reduceLE, Int.reduceEq, Int.reduceAdd, Int.reduceNeg, Int.reduceSub, cz0, cz1, cz2, cz3, cz4, cz5, cz6, cz7, cz8, cz9, t_tup, t_str, t_int, t_bl, lt0, lt1, lt2, lt3, lt4, lt5, lt6, zl0, zl1, zl2, zl3, zl4, zl5, zl6, zl9, rn2, x51, x52, x53, x54, at4, lkb, fl1, fl2, flstr, flint, flnon, flbl, List.all_cons, List.all_nil, Bool.and_true])
variable {K : PySem.W.Frag} {OC : Addr → Bool}
theorem h_note : inF (.str "note") [.str "give", .str "ask", .str "print"] = false := by decide +kernel
theorem h_copy : inF (.str "copy") [.str "give", .str "ask", .str "print"] = false := by decide +kernel
theorem h_give : inF (.str "give") [.str "give", .str "ask", .str "print"] = true := by decide +kernel
theorem h_ask : inF (.str "ask") [.str "give", .str "ask", .str "print"] = true := by decide +kernel
theorem h_print : inF (.str "print") [.str "give", .str "ask", .str "print"] = true := by decide +kernel
theorem h_either : inF (.str "either") [.str "give", .str "ask", .str "print"] = false := by decide +kernel
theorem h_again : inF (.str "again") [.str "give", .str "ask", .str "print"] = false := by decide +kernel
def sp_names (NS : List Str) (C : Addr) : DSp := fun ds G Q _ => ∃ b : Blk, ds = [prg C b] ∧ b.ok NS 1 ∧ b.size ≤ 30 ∧ ∀ ys : List Str, PyProof.Rows.sortedS ys = true → ys.Nodup → (∀ k, k ∈ ys ↔ k ∈ b.nm) → Q (.tup (ys.map .str)) G
def sp_lnames (NS : List Str) : DSp := fun ds G Q _ => ∃ b : Blk, ds = [b.toD] ∧ b.ok NS 1 ∧ b.size ≤ 30 ∧ ∀ ys : List Str, PyProof.Rows.sortedS ys = true → ys.Nodup → (∀ k, k ∈ ys ↔ k ∈ b.nm) → Q (.tup (ys.map .str)) G
end P3

/-! V5a: the program's checks, of anything. -/
namespace P3
open PySem PySem.Spec L2 DL
local macro_rules | `(tactic| trivial) => `(tactic| simp only [wSeq, wNext, wRet, wIfS, wAsg, wName, wVar, wC, wDrop, wOp, wCall, wCons, wNil, wIf, wB, wNot, wAnd, wOr, wAndV, wOrV, wNotV, wTup, wLst, wLstV, wFor, wISeq, wIRng1, wIRng2, wIEnum, wIStr, wChain, wIsi, wSl, wPart, wNoPart, wCallF, wCallL, wAppend, wExtend, wSetL, wSetD, wPar, wAugI, wGTup, wGCons, wGNil, wDGet, wDIn, wDict, wDictV, wPairs, wLcV, wLc, wYes, wSetF, wFld, wRev, wNeg, wNever, wLoop, wComp, wSortSet, wTry, wRaise, wCallSt, wRetX, wSetX, rEqO, rNeO, wMake, rIntA, rMulA, wTryM, wMixX, wRaise1, wXf, DEnds.off, wMeth, wPop, wTx1, onStr, wSplit, wPartition, wJoin, rSplit, rPartition, rJoin, rIntS, rStr, rMulS, wIEnumL,
  rNe0, DL.rAdd, DL.rSub, DL.rMul, DL.rDiv, DL.rMod, DL.rPow, DL.rI2, DL.rCmpI, DL.rEqB, DL.rIsN, DL.rInS, DL.rIx2, DL.ixSeq, DL.itemsOf, DL.listOf, DL.dictOf, DL.keyOf, DL.goL, DL.goK, DL.goI, DL.objOf, DL.rLenA, DL.rLen, DL.rSum, DL.rAll, DL.rTuple, DL.rList, DL.rAbs, DL.rInt, rKIn, rKGet, rIsBl, rEq0, lst2, gup_same, dwipe, slot_def, at0, at1, at2, at3, atm, cut1, cutAll,
  List.set_cons_zero, List.set_cons_succ, List.getElem?_cons_zero, List.getElem?_cons_succ, List.getElem?_nil, Option.join_some, Option.join_none, List.length_cons, List.length_nil, if_true, if_false, Bool.false_eq_true, reduceIte, Bool.not_true, Bool.not_false, Bool.true_xor, Bool.false_xor, Bool.xor_true, Bool.xor_false, true_and, and_true, reduceCtorEq, decide_true, decide_false, Option.isSome_some, Option.isSome_none, List.cons_append, List.nil_append,
  s_note_copy, s_note_give, s_note_ask, s_note_print, s_note_either, s_note_again, s_note_call, s_copy_note, s_copy_give, s_copy_ask, s_copy_print, s_copy_either, s_copy_again, s_copy_call, s_give_note, s_give_copy, s_give_ask, s_give_print, s_give_either, s_give_again, s_give_call, s_ask_note, s_ask_copy, s_ask_give, s_ask_print, s_ask_either, s_ask_again, s_ask_call, s_print_note, s_print_copy, s_print_give, s_print_ask, s_print_either, s_print_again, s_print_call, s_either_note, s_either_copy, s_either_give, s_either_ask, s_either_print, s_either_again, s_either_call, s_again_note, s_again_copy, s_again_give, s_again_ask, s_again_print, s_again_either, s_again_call, s_call_note, s_call_copy, s_call_give, s_call_ask, s_call_print, s_call_either, s_call_again, s_note, s_copy, s_give, s_ask, s_print, s_either, s_again, s_call, i_note, j_note, l_note, i_copy, j_copy, l_copy, i_give, j_give, l_give, i_ask, j_ask, l_ask, i_print, j_print, l_print, i_either, j_either, l_either, i_again, j_again, l_again, i_call, j_call, l_call,
  Nat.reduceAdd, Nat.zero_add, Int.reduceLT, Int.reduceLE, Int.reduceEq, Int.reduceAdd, Int.reduceNeg, Int.reduceSub, cz0, cz1, cz2, cz3, cz4, cz5, cz6, cz7, cz8, cz9, t_tup, t_str, t_int, t_bl, lt0, lt1, lt2, lt3, lt4, lt5, lt6, zl0, zl1, zl2, zl3, zl4, zl5, zl6, zl9, rn2, x51, x52, x53, x54, at4, lkb, fl1, fl2, flstr, flint, flnon, flbl, List.all_cons, List.all_nil, Bool.and_true])
local macro_rules | `(tactic| get_elem_tactic_trivial) => `(tactic| simp only [wSeq, wNext, wRet, wIfS, wAsg, wName, wVar, wC, wDrop, wOp, wCall, wCons, wNil, wIf, wB, wNot, wAnd, wOr, wAndV, wOrV, wNotV, wTup, wLst, wLstV, wFor, wISeq, wIRng1, wIRng2, wIEnum, wIStr, wChain, wIsi, wSl, wPart, wNoPart, wCallF, wCallL, wAppend, wExtend, wSetL, wSetD, wPar, wAugI, wGTup, wGCons, wGNil, wDGet, wDIn, wDict, wDictV, wPairs, wLcV, wLc, wYes, wSetF, wFld, wRev, wNeg, wNever, wSortSet, wTry, wRaise, wCallSt, wRetX, wSetX, rEqO, rNeO, wMake, rIntA, rMulA, wTryM, wMixX, wRaise1, wXf, DEnds.off, wMeth, wPop, wTx1, onStr, wSplit, wPartition, wJoin, rSplit, rPartition, rJoin, rIntS, rStr, rMulS, wIEnumL,
  rNe0, DL.rAdd, DL.rSub, DL.rMul, DL.rDiv, DL.rMod, DL.rPow, DL.rI2, DL.rCmpI, DL.rEqB, DL.rIsN, DL.rInS, DL.rIx2, DL.ixSeq, DL.itemsOf, DL.listOf, DL.dictOf, DL.keyOf, DL.goL, DL.goK, DL.goI, DL.objOf, DL.rLenA, DL.rLen, DL.rSum, DL.rAll, DL.rTuple, DL.rList, DL.rAbs, DL.rInt, rKIn, rKGet, rIsBl, rEq0, lst2, gup_same, dwipe, slot_def, at0, at1, at2, at3, atm, cut1, cutAll,
  List.set_cons_zero, List.set_cons_succ, List.getElem?_cons_zero, List.getElem?_cons_succ, List.getElem?_nil, Option.join_some, Option.join_none, List.length_cons, List.length_nil, if_true, if_false, Bool.false_eq_true, reduceIte, Bool.not_true, Bool.not_false, Bool.true_xor, Bool.false_xor, Bool.xor_true, Bool.xor_false, true_and, and_true, reduceCtorEq, decide_true, decide_false, Option.isSome_some, Option.isSome_none, List.cons_append, List.nil_append,
  s_note_copy, s_note_give, s_note_ask, s_note_print, s_note_either, s_note_again, s_note_call, s_copy_note, s_copy_give, s_copy_ask, s_copy_print, s_copy_either, s_copy_again, s_copy_call, s_give_note, s_give_copy, s_give_ask, s_give_print, s_give_either, s_give_again, s_give_call, s_ask_note, s_ask_copy, s_ask_give, s_ask_print, s_ask_either, s_ask_again, s_ask_call, s_print_note, s_print_copy, s_print_give, s_print_ask, s_print_either, s_print_again, s_print_call, s_either_note, s_either_copy, s_either_give, s_either_ask, s_either_print, s_either_again, s_either_call, s_again_note, s_again_copy, s_again_give, s_again_ask, s_again_print, s_again_either, s_again_call, s_call_note, s_call_copy, s_call_give, s_call_ask, s_call_print, s_call_either, s_call_again, s_note, s_copy, s_give, s_ask, s_print, s_either, s_again, s_call, i_note, j_note, l_note, i_copy, j_copy, l_copy, i_give, j_give, l_give, i_ask, j_ask, l_ask, i_print, j_print, l_print, i_either, j_either, l_either, i_again, j_again, l_again, i_call, j_call, l_call,
  Nat.reduceAdd, Nat.zero_add, Int.reduceLT, Int.reduceLE, Int.reduceEq, Int.reduceAdd, Int.reduceNeg, Int.reduceSub, cz0, cz1, cz2, cz3, cz4, cz5, cz6, cz7, cz8, cz9, t_tup, t_str, t_int, t_bl, lt0, lt1, lt2, lt3, lt4, lt5, lt6, zl0, zl1, zl2, zl3, zl4, zl5, zl6, zl9, rn2, x51, x52, x53, x54, at4, lkb, fl1, fl2, flstr, flint, flnon, flbl, List.all_cons, List.all_nil, Bool.and_true])
variable {K : PySem.W.Frag} {OC : Addr → Bool}
/-- things that may be looked at, tuples of at most m -/
inductive Fine (OC : Addr → Bool) (m : Nat) : D → Prop
  | leaf {d : D} (h : okT OC d = true) (n : ∀ ds, d ≠ .tup ds) : Fine OC m d
  | tup {ds : List D} (hl : ds.length ≤ m) (h : ∀ x ∈ ds, Fine OC m x) : Fine OC m (.tup ds)
theorem Fine.ok {m : Nat} {d : D} (h : Fine OC m d) : okT OC d = true := by
  cases h with
  | leaf h _ => exact h
  | tup _ _ => rfl
theorem Fine.items {m : Nat} {ds : List D} (h : Fine OC m (.tup ds)) : ds.length ≤ m ∧ ∀ x ∈ ds, Fine OC m x := by
  cases h with
  | leaf _ n => exact (n ds rfl).elim
  | tup hl h => exact ⟨hl, h⟩
theorem Fine.le {m n : Nat} {d : D} (h : Fine OC m d) (hn : m ≤ n) : Fine OC n d := by
  induction h with
  | leaf h n => exact .leaf h n
  | tup hl _ ih => exact .tup (Nat.le_trans hl hn) ih
theorem isK_b {d : D} {T : Tg} {G : Gh} {P : Bool → Prop} (h : okT OC d = true) : ∀ b, isT T d = b → P b → isK ((tagOf G d).bind (ansB T OC)) P := fun b e p => isK_ok h (e ▸ p)
def nameB : D → Bool
  | .str x => decide ((1 : Int) ≤ ((x.length : Nat) : Int)) && (decide (((x.length : Nat) : Int) ≤ 8) && x.cps.toList.all fun c => decide (c ∈ ("abcdefghijklmnopqrstuvwxyz" : Str).cps.toList))
  | _ => false
theorem nameB_str {x : Str} : nameB (.str x) = true ↔ nameOk x := by
  unfold nameB nameOk
  simp only [Bool.and_eq_true, decide_eq_true_eq, List.all_eq_true]
  constructor
  · rintro ⟨a, b, c⟩; exact ⟨by omega, by omega, c⟩
  · rintro ⟨a, b, c⟩; exact ⟨by omega, by omega, c⟩
theorem nameB_iff {d : D} : nameB d = true ↔ ∃ x, d = .str x ∧ nameOk x := by
  constructor
  · intro h
    cases d with
    | str x => exact ⟨x, rfl, nameB_str.mp h⟩
    | _ => cases h
  · rintro ⟨x, rfl, h⟩; exact nameB_str.mpr h
theorem signs_len (x : Str) : (signs x).length = x.length := by unfold signs; simp [Str.length]
def sp_is_nameG (OC : Addr → Bool) : DSp := fun ds G Q _ => ∃ x, ds = [x] ∧ okT OC x = true ∧ Q (.bl (nameB x)) G
theorem v_is_nameG {ds : List D} {G : Gh} {Q : DQ} {E : DXq} (h : sp_is_nameG OC ds G Q E) : W_is_name OC (endsOf K Q) (dstart N_is_name ds) G := by
  obtain ⟨x, rfl, ok, q⟩ := h
  show W_is_name OC (endsOf K Q) [some x, none] G
  unfold W_is_name
  try trivial
  cases x with
  | str x =>
    refine isK_ok (d := .str x) rfl ?_
    replace q : Q (.bl (decide ((1 : Int) ≤ ((x.length : Nat) : Int)) && (decide (((x.length : Nat) : Int) ≤ 8) && x.cps.toList.all fun c => decide (c ∈ ("abcdefghijklmnopqrstuvwxyz" : Str).cps.toList)))) G := q
    show (match D.bl (decide ((1 : Int) ≤ ((x.length : Nat) : Int))) with | .bl true => _ | .bl false => _ | _ => False)
    cases e1 : decide ((1 : Int) ≤ ((x.length : Nat) : Int)) with
    | false => rw [e1, Bool.false_and] at q; exact rt_here q
    | true =>
      rw [e1, Bool.true_and] at q
      show (match D.bl (decide (((x.length : Nat) : Int) ≤ 8)) with | .bl true => _ | .bl false => _ | _ => False)
      cases e2 : decide (((x.length : Nat) : Int) ≤ 8) with
      | false => rw [e2, Bool.false_and] at q; exact rt_here q
      | true =>
        rw [e2, Bool.true_and] at q
        have h8 := of_decide_eq_true e2
        have hsz : (signs x).length ≤ sizeLine := by rw [signs_len, sizeLine_eq]; omega
        have step := comp_map (chk := fun _ => True) (g := wName 1) (te := wOp (rInSign false) (wVar 1) (wC (.str "abcdefghijklmnopqrstuvwxyz"))) (σ := [some (.str x), none]) (f := fun d => match d with | .str ⟨#[c]⟩ => .bl (decide (c ∈ ("abcdefghijklmnopqrstuvwxyz" : Str).cps.toList)) | _ => .non) (G := G)
          (Q := fun acc G2 => wCall rAll (wCons (wC (.lst acc)) wNil) [] G2 (endsOf K Q).rt) (signs x) [] True.intro (by simpa using hsz) (fun d hd Q' hq => ?_) ?_
        · exact step
        · unfold signs at hd
          obtain ⟨c, hc, rfl⟩ := List.mem_map.mp hd
          refine ⟨c, rfl, ?_⟩
          rw [Bool.false_xor]
          exact hq
        · have e3 : (signs x).map (fun d => match d with | .str ⟨#[c]⟩ => D.bl (decide (c ∈ ("abcdefghijklmnopqrstuvwxyz" : Str).cps.toList)) | _ => .non) = x.cps.toList.map fun c => D.bl (decide (c ∈ ("abcdefghijklmnopqrstuvwxyz" : Str).cps.toList)) := by
            unfold signs
            rw [List.map_map]
            rfl
          rw [List.nil_append, e3]
          refine ⟨_, _, rfl, blsOf_map' (fun c => decide (c ∈ ("abcdefghijklmnopqrstuvwxyz" : Str).cps.toList)) x.cps.toList, rt_here ?_⟩
          rw [all_id_map]
          exact q
  | _ => exact isK_b ok false rfl (rt_here q)
def partsB : D → Bool
  | .tup ps => decide (((ps.length : Nat) : Int) ≤ 3) && ps.all nameB
  | _ => false
abbrev askB (w : Str) : Bool := inF (.str w) [.str "ask", .str "print"]
/-- rows that are no either and no again -/
def plainB : D → Bool
  | .tup [.str w, x] => nameB x && askB w
  | .tup [.str w, x, y] => nameB x && (!askB w && (if decide (w = "copy") then nameB y else decide (w = "give") && isI y))
  | .tup [.str w, x, y, z] => nameB x && (!askB w && (!decide (w = "copy") && (!decide (w = "give") && (decide (w = "note") && (nameB y && partsB z)))))
  | _ => false
def sp_is_plain_rowG (OC : Addr → Bool) : DSp := fun ds G Q _ => ∃ x, ds = [x] ∧ Fine OC 1000 x ∧ Q (.bl (plainB x)) G
theorem len_ne {n : Nat} {k : Int} (h : k < ((n : Nat) : Int)) : decide (((n : Nat) : Int) = k) = false := decide_eq_false (by omega)
theorem len_ge {n : Nat} {k : Int} (h : k ≤ ((n : Nat) : Int)) : decide (((n : Nat) : Int) < k) = false := decide_eq_false (by omega)
theorem all_parts {chk : Gh → Prop} {G : Gh} {Q : DQ} {σ : DSt} {ps : List D} (hc : chk G) (hl : ps.length ≤ 1000) (hp : ∀ x ∈ ps, okT OC x = true) {i : Nat} (hs : ∀ d, slot (σ.set i (some d)) i = some d)
    (q : Q (.bl (ps.all nameB)) G) : wComp chk (wName i) wYes (wCallF (sp_is_nameG OC) (wCons (wVar i) wNil)) σ ps [] G fun acc G2 => rAll [.lst acc] G2 Q := by
  refine comp_map (f := fun d => .bl (nameB d)) _ _ hc (by rw [List.length_nil, sizeLine_eq]; omega) (fun d hd Q' hq => ?_) ?_
  · show wVar i (σ.set i (some d)) G _
    unfold wVar
    rw [hs]
    exact ⟨d, rfl, hp d hd, hq⟩
  · refine ⟨_, _, rfl, blsOf_map' nameB ps, ?_⟩
    rw [all_id_map]
    exact q
theorem v_is_plain_rowG {ds : List D} {G : Gh} {Q : DQ} {E : DXq} (h : sp_is_plain_rowG OC ds G Q E) : W_is_plain_row OC (sp_is_integer OC) (sp_is_nameG OC) (endsOf K Q) (dstart N_is_plain_row ds) G := by
  obtain ⟨x, rfl, ok, q⟩ := h
  show W_is_plain_row OC (sp_is_integer OC) (sp_is_nameG OC) (endsOf K Q) [some x, none] G
  unfold W_is_plain_row
  try trivial
  cases x with
  | tup ds =>
    obtain ⟨_, it⟩ := ok.items
    refine isK_ok (d := .tup ds) rfl ?_
    match ds, it, q with
    | [], it, q => try trivial
                   exact rt_here q
    | [d0], it, q =>
      try trivial
      have q : Q (.bl false) G := by cases d0 <;> exact q
      exact rt_here q
    | d0 :: d1 :: r, it, q =>
      have o0 := (it d0 (by simp)).ok
      have o1 := (it d1 (by simp)).ok
      have l1 : decide ((((r.length + 1 + 1 : Nat)) : Int) < 2) = false := len_ge (by omega)
      try trivial
      simp only [l1]
      try trivial
      cases d0 with
      | str w =>
        refine isK_ok (d := .str w) rfl ?_
        try trivial
        refine ⟨d1, rfl, o1, ?_⟩
        cases n1 : nameB d1 with
        | false =>
          try trivial
          have q : Q (.bl false) G := by
            match r, q with
            | [], q => simp only [plainB, n1, Bool.false_and] at q; exact q
            | [y], q => simp only [plainB, n1, Bool.false_and] at q; exact q
            | [y, z], q => simp only [plainB, n1, Bool.false_and] at q; exact q
            | y :: z :: u :: r, q => exact q
          exact rt_here q
        | true =>
          try trivial
          cases a : inF (.str w) [.str "ask", .str "print"] with
          | true =>
            try trivial
            match r, q with
            | [], q => simp only [plainB, askB, n1, a, Bool.true_and] at q
                       try trivial
                       exact rt_here q
            | [y], q => simp only [plainB, askB, n1, a, Bool.true_and, Bool.not_true, Bool.false_and] at q
                        try trivial
                        exact rt_here q
            | [y, z], q => simp only [plainB, askB, n1, a, Bool.true_and, Bool.not_true, Bool.false_and] at q
                           try trivial
                           exact rt_here q
            | y :: z :: u :: r, q =>
              replace q : Q (.bl false) G := q
              have l2 : decide ((((r.length + 1 + 1 + 1 + 1 + 1 : Nat)) : Int) = 2) = false := len_ne (by omega)
              try trivial
              simp only [l2]
              exact rt_here q
          | false =>
            try trivial
            cases c : decide (w = ("copy" : Str)) with
            | true =>
              try trivial
              match r, it, q with
              | [], it, q => simp only [plainB, askB, n1, a, Bool.true_and] at q
                             try trivial
                             exact rt_here q
              | [y], it, q => simp only [plainB, askB, n1, a, c, Bool.true_and, Bool.not_false, if_true] at q
                              try trivial
                              exact ⟨y, rfl, (it y (by simp)).ok, rt_here q⟩
              | [y, z], it, q => simp only [plainB, askB, n1, a, c, Bool.true_and, Bool.not_true, Bool.not_false, Bool.false_and] at q
                                 try trivial
                                 exact rt_here q
              | y :: z :: u :: r, it, q =>
                replace q : Q (.bl false) G := q
                have l2 : decide ((((r.length + 1 + 1 + 1 + 1 + 1 : Nat)) : Int) = 3) = false := len_ne (by omega)
                try trivial
                simp only [l2]
                exact rt_here q
            | false =>
              try trivial
              cases g : decide (w = ("give" : Str)) with
              | true =>
                try trivial
                match r, it, q with
                | [], it, q => simp only [plainB, askB, n1, a, Bool.true_and] at q
                               try trivial
                               exact rt_here q
                | [y], it, q => simp only [plainB, askB, n1, a, c, g, Bool.true_and, Bool.not_false, Bool.false_eq_true, if_false] at q
                                try trivial
                                exact ⟨y, rfl, (it y (by simp)).ok, rt_here q⟩
                | [y, z], it, q => simp only [plainB, askB, n1, a, c, g, Bool.true_and, Bool.not_true, Bool.not_false, Bool.false_and] at q
                                   try trivial
                                   exact rt_here q
                | y :: z :: u :: r, it, q =>
                  replace q : Q (.bl false) G := q
                  have l2 : decide ((((r.length + 1 + 1 + 1 + 1 + 1 : Nat)) : Int) = 3) = false := len_ne (by omega)
                  try trivial
                  simp only [l2]
                  exact rt_here q
              | false =>
                try trivial
                match r, it, q with
                | [], it, q =>
                  simp only [plainB, askB, n1, a, Bool.true_and] at q
                  cases o : decide (w = ("note" : Str)) with
                  | false => try trivial
                             exact rt_here q
                  | true => try trivial
                            exact rt_here q
                | [y], it, q =>
                  simp only [plainB, askB, n1, a, c, g, Bool.true_and, Bool.not_false, Bool.false_eq_true, if_false, Bool.false_and] at q
                  cases o : decide (w = ("note" : Str)) with
                  | false => try trivial
                             exact rt_here q
                  | true => try trivial
                            exact rt_here q
                | y :: z :: u :: r, it, q =>
                  replace q : Q (.bl false) G := q
                  have l2 : decide ((((r.length + 1 + 1 + 1 + 1 + 1 : Nat)) : Int) = 4) = false := len_ne (by omega)
                  cases o : decide (w = ("note" : Str)) with
                  | false => try trivial
                             exact rt_here q
                  | true => try trivial
                            simp only [l2]
                            try trivial
                            exact rt_here q
                | [y, z], it, q =>
                  simp only [plainB, askB, n1, a, c, g, Bool.true_and, Bool.not_false] at q
                  cases o : decide (w = ("note" : Str)) with
                  | false => rw [o, Bool.false_and] at q
                             try trivial
                             exact rt_here q
                  | true =>
                    rw [o, Bool.true_and] at q
                    try trivial
                    refine ⟨y, rfl, (it y (by simp)).ok, ?_⟩
                    cases n2 : nameB y with
                    | false => rw [n2, Bool.false_and] at q
                               try trivial
                               exact rt_here q
                    | true =>
                      rw [n2, Bool.true_and] at q
                      try trivial
                      have fz := it z (by simp)
                      cases z with
                      | tup ps =>
                        obtain ⟨lp, ip⟩ := fz.items
                        refine isK_ok (d := .tup ps) rfl ?_
                        try trivial
                        replace q : Q (.bl (decide (((ps.length : Nat) : Int) ≤ 3) && ps.all nameB)) G := q
                        cases l3 : decide (((ps.length : Nat) : Int) ≤ 3) with
                        | false => rw [l3, Bool.false_and] at q
                                   exact rt_here q
                        | true =>
                          rw [l3, Bool.true_and] at q
                          try trivial
                          exact all_parts True.intro lp (fun x hx => (ip x hx).ok) (fun d => rfl) (rt_here q)
                      | _ => exact isK_b fz.ok false rfl (rt_here q)
      | _ => exact isK_b o0 false rfl (by
          try trivial
          exact rt_here q)
  | _ => exact isK_b ok.ok false rfl (by
      try trivial
      exact rt_here q)
end P3

/-! V3m: the hand; ways that are led. -/
namespace P3
open PySem PySem.Spec L2 DL
local macro_rules | `(tactic| trivial) => `(tactic| simp only [wSeq, wNext, wRet, wIfS, wAsg, wName, wVar, wC, wDrop, wOp, wCall, wCons, wNil, wIf, wB, wNot, wAnd, wOr, wAndV, wOrV, wNotV, wTup, wLst, wLstV, wFor, wISeq, wIRng1, wIRng2, wIEnum, wIStr, wChain, wIsi, wSl, wPart, wNoPart, wCallF, wCallL, wAppend, wExtend, wSetL, wSetD, wPar, wAugI, wGTup, wGCons, wGNil, wDGet, wDIn, wDict, wDictV, wPairs, wLcV, wLc, wYes, wSetF, wFld, wRev, wNeg, wNever, wLoop, wComp, wSortSet, wTry, wRaise, wCallSt, wRetX, wSetX, rEqO, rNeO, wMake, rIntA, rMulA, wTryM, wMixX, wRaise1, wXf, DEnds.off, wMeth, wPop, wTx1, onStr, wSplit, wPartition, wJoin, rSplit, rPartition, rJoin, rIntS, rStr, rMulS, wIEnumL,
  rNe0, DL.rAdd, DL.rSub, DL.rMul, DL.rDiv, DL.rMod, DL.rPow, DL.rI2, DL.rCmpI, DL.rEqB, DL.rIsN, DL.rInS, DL.rIx2, DL.ixSeq, DL.itemsOf, DL.listOf, DL.dictOf, DL.keyOf, DL.goL, DL.goK, DL.goI, DL.objOf, DL.rLenA, DL.rLen, DL.rSum, DL.rAll, DL.rTuple, DL.rList, DL.rAbs, DL.rInt, rKIn, rKGet, rIsBl, rEq0, lst2, gup_same, dwipe, slot_def, at0, at1, at2, at3, atm, cut1, cutAll,
  List.set_cons_zero, List.set_cons_succ, List.getElem?_cons_zero, List.getElem?_cons_succ, List.getElem?_nil, Option.join_some, Option.join_none, List.length_cons, List.length_nil, if_true, if_false, Bool.false_eq_true, reduceIte, Bool.not_true, Bool.not_false, Bool.true_xor, Bool.false_xor, Bool.xor_true, Bool.xor_false, true_and, and_true, reduceCtorEq, decide_true, decide_false, Option.isSome_some, Option.isSome_none, List.cons_append, List.nil_append,
  s_note_copy, s_note_give, s_note_ask, s_note_print, s_note_either, s_note_again, s_note_call, s_copy_note, s_copy_give, s_copy_ask, s_copy_print, s_copy_either, s_copy_again, s_copy_call, s_give_note, s_give_copy, s_give_ask, s_give_print, s_give_either, s_give_again, s_give_call, s_ask_note, s_ask_copy, s_ask_give, s_ask_print, s_ask_either, s_ask_again, s_ask_call, s_print_note, s_print_copy, s_print_give, s_print_ask, s_print_either, s_print_again, s_print_call, s_either_note, s_either_copy, s_either_give, s_either_ask, s_either_print, s_either_again, s_either_call, s_again_note, s_again_copy, s_again_give, s_again_ask, s_again_print, s_again_either, s_again_call, s_call_note, s_call_copy, s_call_give, s_call_ask, s_call_print, s_call_either, s_call_again, s_note, s_copy, s_give, s_ask, s_print, s_either, s_again, s_call, i_note, j_note, l_note, i_copy, j_copy, l_copy, i_give, j_give, l_give, i_ask, j_ask, l_ask, i_print, j_print, l_print, i_either, j_either, l_either, i_again, j_again, l_again, i_call, j_call, l_call,
  Nat.reduceAdd, Nat.zero_add, Int.reduceLT, Int.reduceLE, Int.reduceEq, Int.reduceAdd, Int.reduceNeg, Int.reduceSub, cz0, cz1, cz2, cz3, cz4, cz5, cz6, cz7, cz8, cz9, t_tup, t_str, t_int, t_bl, lt0, lt1, lt2, lt3, lt4, lt5, lt6, zl0, zl1, zl2, zl3, zl4, zl5, zl6, zl9, rn2, x51, x52, x53, x54, at4, lkb, fl1, fl2, flstr, flint, flnon, flbl, List.all_cons, List.all_nil, Bool.and_true])
local macro_rules | `(tactic| get_elem_tactic_trivial) => `(tactic| simp only [wSeq, wNext, wRet, wIfS, wAsg, wName, wVar, wC, wDrop, wOp, wCall, wCons, wNil, wIf, wB, wNot, wAnd, wOr, wAndV, wOrV, wNotV, wTup, wLst, wLstV, wFor, wISeq, wIRng1, wIRng2, wIEnum, wIStr, wChain, wIsi, wSl, wPart, wNoPart, wCallF, wCallL, wAppend, wExtend, wSetL, wSetD, wPar, wAugI, wGTup, wGCons, wGNil, wDGet, wDIn, wDict, wDictV, wPairs, wLcV, wLc, wYes, wSetF, wFld, wRev, wNeg, wNever, wSortSet, wTry, wRaise, wCallSt, wRetX, wSetX, rEqO, rNeO, wMake, rIntA, rMulA, wTryM, wMixX, wRaise1, wXf, DEnds.off, wMeth, wPop, wTx1, onStr, wSplit, wPartition, wJoin, rSplit, rPartition, rJoin, rIntS, rStr, rMulS, wIEnumL,
  rNe0, DL.rAdd, DL.rSub, DL.rMul, DL.rDiv, DL.rMod, DL.rPow, DL.rI2, DL.rCmpI, DL.rEqB, DL.rIsN, DL.rInS, DL.rIx2, DL.ixSeq, DL.itemsOf, DL.listOf, DL.dictOf, DL.keyOf, DL.goL, DL.goK, DL.goI, DL.objOf, DL.rLenA, DL.rLen, DL.rSum, DL.rAll, DL.rTuple, DL.rList, DL.rAbs, DL.rInt, rKIn, rKGet, rIsBl, rEq0, lst2, gup_same, dwipe, slot_def, at0, at1, at2, at3, atm, cut1, cutAll,
  List.set_cons_zero, List.set_cons_succ, List.getElem?_cons_zero, List.getElem?_cons_succ, List.getElem?_nil, Option.join_some, Option.join_none, List.length_cons, List.length_nil, if_true, if_false, Bool.false_eq_true, reduceIte, Bool.not_true, Bool.not_false, Bool.true_xor, Bool.false_xor, Bool.xor_true, Bool.xor_false, true_and, and_true, reduceCtorEq, decide_true, decide_false, Option.isSome_some, Option.isSome_none, List.cons_append, List.nil_append,
  s_note_copy, s_note_give, s_note_ask, s_note_print, s_note_either, s_note_again, s_note_call, s_copy_note, s_copy_give, s_copy_ask, s_copy_print, s_copy_either, s_copy_again, s_copy_call, s_give_note, s_give_copy, s_give_ask, s_give_print, s_give_either, s_give_again, s_give_call, s_ask_note, s_ask_copy, s_ask_give, s_ask_print, s_ask_either, s_ask_again, s_ask_call, s_print_note, s_print_copy, s_print_give, s_print_ask, s_print_either, s_print_again, s_print_call, s_either_note, s_either_copy, s_either_give, s_either_ask, s_either_print, s_either_again, s_either_call, s_again_note, s_again_copy, s_again_give, s_again_ask, s_again_print, s_again_either, s_again_call, s_call_note, s_call_copy, s_call_give, s_call_ask, s_call_print, s_call_either, s_call_again, s_note, s_copy, s_give, s_ask, s_print, s_either, s_again, s_call, i_note, j_note, l_note, i_copy, j_copy, l_copy, i_give, j_give, l_give, i_ask, j_ask, l_ask, i_print, j_print, l_print, i_either, j_either, l_either, i_again, j_again, l_again, i_call, j_call, l_call,
  Nat.reduceAdd, Nat.zero_add, Int.reduceLT, Int.reduceLE, Int.reduceEq, Int.reduceAdd, Int.reduceNeg, Int.reduceSub, cz0, cz1, cz2, cz3, cz4, cz5, cz6, cz7, cz8, cz9, t_tup, t_str, t_int, t_bl, lt0, lt1, lt2, lt3, lt4, lt5, lt6, zl0, zl1, zl2, zl3, zl4, zl5, zl6, zl9, rn2, x51, x52, x53, x54, at4, lkb, fl1, fl2, flstr, flint, flnon, flbl, List.all_cons, List.all_nil, Bool.and_true])
variable {K : PySem.W.Frag} {OC : Addr → Bool}

/-! the hand -/
def sp_hand : DSp := fun ds G Q _ => ∃ ns : List Int, ds = [.scr ns] ∧ ∀ (p : Addr) (h : Hd), G p = none → h.ok → Q (.ref p) (gup G p (.lst h.d))
theorem cut63 (ns : List Int) : cutD (ns.map D.int) none (some 63) = (ns.take 63).map D.int := by
  unfold cutD HT.sIx
  rw [List.length_map]
  simp only [List.drop_zero, Nat.sub_zero, ← List.map_take]
  congr 1
  have : (if (63 : Int) < 0 then ((63 : Int) + (ns.length : Int)).toNat else min (63 : Int).toNat ns.length) = min 63 ns.length := by rw [if_neg (by decide)]; rfl
  rw [this, List.take_eq_take_iff]
  omega
theorem v_hand {ds : List D} {G : Gh} {Q : DQ} {E : DXq} (h : sp_hand ds G Q E) : W__law_hand (endsOf K Q) (dstart N__law_hand ds) G := by
  obtain ⟨ns, rfl, q⟩ := h
  show W__law_hand (endsOf K Q) [some (.scr ns), none, none] G
  unfold W__law_hand
  try trivial
  rw [cut63]
  have hl : (ns.take 63).length ≤ 63 := by rw [List.length_take]; omega
  refine comp_map (f := fun d => .int (if intD d < 0 then -intD d else intD d)) _ _ (by first | exact True.intro | rfl) (by rw [List.length_map, sizeLine_eq]; simp only [List.length_nil]; omega) (fun d hd Q' hq => ?_) ?_
  · obtain ⟨i, _, rfl⟩ := List.mem_map.mp hd
    try trivial
    exact hq
  · try trivial
    intro p hp
    refine rt_here ?_
    have k := q p ⟨(ns.take 63).map fun i => if i < 0 then -i else i, 0, 0, 1 + (((ns.take 63).length : Nat) : Int), 0⟩ hp ⟨fun c hc => ?_, by rw [List.length_map]; exact hl, Int.le_refl _, Int.le_refl _⟩
    · unfold Hd.d at k
      dsimp only at k
      rw [List.map_map] at k
      simp only [List.length_map, List.map_map]
      exact k
    · obtain ⟨i, _, rfl⟩ := List.mem_map.mp hc
      split <;> omega
end P3

/-! V6a: things that may be looked at. -/
namespace P3
open PySem PySem.Spec L2 DL
local macro_rules | `(tactic| trivial) => `(tactic| simp only [wSeq, wNext, wRet, wIfS, wAsg, wName, wVar, wC, wDrop, wOp, wCall, wCons, wNil, wIf, wB, wNot, wAnd, wOr, wAndV, wOrV, wNotV, wTup, wLst, wLstV, wFor, wISeq, wIRng1, wIRng2, wIEnum, wIStr, wChain, wIsi, wSl, wPart, wNoPart, wCallF, wCallL, wAppend, wExtend, wSetL, wSetD, wPar, wAugI, wGTup, wGCons, wGNil, wDGet, wDIn, wDict, wDictV, wPairs, wLcV, wLc, wYes, wSetF, wFld, wRev, wNeg, wNever, wLoop, wComp, wSortSet, wTry, wRaise, wCallSt, wRetX, wSetX, rEqO, rNeO, wMake, rIntA, rMulA, wTryM, wMixX, wRaise1, wXf, DEnds.off, wMeth, wPop, wTx1, onStr, wSplit, wPartition, wJoin, rSplit, rPartition, rJoin, rIntS, rStr, rMulS, wIEnumL,
  rNe0, DL.rAdd, DL.rSub, DL.rMul, DL.rDiv, DL.rMod, DL.rPow, DL.rI2, DL.rCmpI, DL.rEqB, DL.rIsN, DL.rInS, DL.rIx2, DL.ixSeq, DL.itemsOf, DL.listOf, DL.dictOf, DL.keyOf, DL.goL, DL.goK, DL.goI, DL.objOf, DL.rLenA, DL.rLen, DL.rSum, DL.rAll, DL.rTuple, DL.rList, DL.rAbs, DL.rInt, rKIn, rKGet, rIsBl, rEq0, lst2, gup_same, dwipe, slot_def, at0, at1, at2, at3, atm, cut1, cutAll,
  List.set_cons_zero, List.set_cons_succ, List.getElem?_cons_zero, List.getElem?_cons_succ, List.getElem?_nil, Option.join_some, Option.join_none, List.length_cons, List.length_nil, if_true, if_false, Bool.false_eq_true, reduceIte, Bool.not_true, Bool.not_false, Bool.true_xor, Bool.false_xor, Bool.xor_true, Bool.xor_false, true_and, and_true, reduceCtorEq, decide_true, decide_false, Option.isSome_some, Option.isSome_none, List.cons_append, List.nil_append,
  s_note_copy, s_note_give, s_note_ask, s_note_print, s_note_either, s_note_again, s_note_call, s_copy_note, s_copy_give, s_copy_ask, s_copy_print, s_copy_either, s_copy_again, s_copy_call, s_give_note, s_give_copy, s_give_ask, s_give_print, s_give_either, s_give_again, s_give_call, s_ask_note, s_ask_copy, s_ask_give, s_ask_print, s_ask_either, s_ask_again, s_ask_call, s_print_note, s_print_copy, s_print_give, s_print_ask, s_print_either, s_print_again, s_print_call, s_either_note, s_either_copy, s_either_give, s_either_ask, s_either_print, s_either_again, s_either_call, s_again_note, s_again_copy, s_again_give, s_again_ask, s_again_print, s_again_either, s_again_call, s_call_note, s_call_copy, s_call_give, s_call_ask, s_call_print, s_call_either, s_call_again, s_note, s_copy, s_give, s_ask, s_print, s_either, s_again, s_call, i_note, j_note, l_note, i_copy, j_copy, l_copy, i_give, j_give, l_give, i_ask, j_ask, l_ask, i_print, j_print, l_print, i_either, j_either, l_either, i_again, j_again, l_again, i_call, j_call, l_call,
  Nat.reduceAdd, Nat.zero_add, Int.reduceLT, Int.reduceLE, Int.reduceEq, Int.reduceAdd, Int.reduceNeg, Int.reduceSub, cz0, cz1, cz2, cz3, cz4, cz5, cz6, cz7, cz8, cz9, t_tup, t_str, t_int, t_bl, lt0, lt1, lt2, lt3, lt4, lt5, lt6, zl0, zl1, zl2, zl3, zl4, zl5, zl6, zl9, rn2, x51, x52, x53, x54, at4, lkb, fl1, fl2, flstr, flint, flnon, flbl, List.all_cons, List.all_nil, Bool.and_true])
local macro_rules | `(tactic| get_elem_tactic_trivial) => `(tactic| simp only [wSeq, wNext, wRet, wIfS, wAsg, wName, wVar, wC, wDrop, wOp, wCall, wCons, wNil, wIf, wB, wNot, wAnd, wOr, wAndV, wOrV, wNotV, wTup, wLst, wLstV, wFor, wISeq, wIRng1, wIRng2, wIEnum, wIStr, wChain, wIsi, wSl, wPart, wNoPart, wCallF, wCallL, wAppend, wExtend, wSetL, wSetD, wPar, wAugI, wGTup, wGCons, wGNil, wDGet, wDIn, wDict, wDictV, wPairs, wLcV, wLc, wYes, wSetF, wFld, wRev, wNeg, wNever, wSortSet, wTry, wRaise, wCallSt, wRetX, wSetX, rEqO, rNeO, wMake, rIntA, rMulA, wTryM, wMixX, wRaise1, wXf, DEnds.off, wMeth, wPop, wTx1, onStr, wSplit, wPartition, wJoin, rSplit, rPartition, rJoin, rIntS, rStr, rMulS, wIEnumL,
  rNe0, DL.rAdd, DL.rSub, DL.rMul, DL.rDiv, DL.rMod, DL.rPow, DL.rI2, DL.rCmpI, DL.rEqB, DL.rIsN, DL.rInS, DL.rIx2, DL.ixSeq, DL.itemsOf, DL.listOf, DL.dictOf, DL.keyOf, DL.goL, DL.goK, DL.goI, DL.objOf, DL.rLenA, DL.rLen, DL.rSum, DL.rAll, DL.rTuple, DL.rList, DL.rAbs, DL.rInt, rKIn, rKGet, rIsBl, rEq0, lst2, gup_same, dwipe, slot_def, at0, at1, at2, at3, atm, cut1, cutAll,
  List.set_cons_zero, List.set_cons_succ, List.getElem?_cons_zero, List.getElem?_cons_succ, List.getElem?_nil, Option.join_some, Option.join_none, List.length_cons, List.length_nil, if_true, if_false, Bool.false_eq_true, reduceIte, Bool.not_true, Bool.not_false, Bool.true_xor, Bool.false_xor, Bool.xor_true, Bool.xor_false, true_and, and_true, reduceCtorEq, decide_true, decide_false, Option.isSome_some, Option.isSome_none, List.cons_append, List.nil_append,
  s_note_copy, s_note_give, s_note_ask, s_note_print, s_note_either, s_note_again, s_note_call, s_copy_note, s_copy_give, s_copy_ask, s_copy_print, s_copy_either, s_copy_again, s_copy_call, s_give_note, s_give_copy, s_give_ask, s_give_print, s_give_either, s_give_again, s_give_call, s_ask_note, s_ask_copy, s_ask_give, s_ask_print, s_ask_either, s_ask_again, s_ask_call, s_print_note, s_print_copy, s_print_give, s_print_ask, s_print_either, s_print_again, s_print_call, s_either_note, s_either_copy, s_either_give, s_either_ask, s_either_print, s_either_again, s_either_call, s_again_note, s_again_copy, s_again_give, s_again_ask, s_again_print, s_again_either, s_again_call, s_call_note, s_call_copy, s_call_give, s_call_ask, s_call_print, s_call_either, s_call_again, s_note, s_copy, s_give, s_ask, s_print, s_either, s_again, s_call, i_note, j_note, l_note, i_copy, j_copy, l_copy, i_give, j_give, l_give, i_ask, j_ask, l_ask, i_print, j_print, l_print, i_either, j_either, l_either, i_again, j_again, l_again, i_call, j_call, l_call,
  Nat.reduceAdd, Nat.zero_add, Int.reduceLT, Int.reduceLE, Int.reduceEq, Int.reduceAdd, Int.reduceNeg, Int.reduceSub, cz0, cz1, cz2, cz3, cz4, cz5, cz6, cz7, cz8, cz9, t_tup, t_str, t_int, t_bl, lt0, lt1, lt2, lt3, lt4, lt5, lt6, zl0, zl1, zl2, zl3, zl4, zl5, zl6, zl9, rn2, x51, x52, x53, x54, at4, lkb, fl1, fl2, flstr, flint, flnon, flbl, List.all_cons, List.all_nil, Bool.and_true])
variable {K : PySem.W.Frag} {OC : Addr → Bool}
def subOf : D → Option (List D)
  | .tup (.str w :: .tup is :: _) => if decide (w = "either") || decide (w = "again") then some is else none
  | _ => none
def h0B : D → Bool
  | .tup (d0 :: _ :: _) => flatD d0
  | _ => true
theorem strs_fine {m : Nat} (xs : List Str) : ∀ x ∈ xs.map D.str, Fine OC m x := fun x hx => by
  obtain ⟨y, _, rfl⟩ := List.mem_map.mp hx
  exact .leaf rfl (fun _ e => by cases e)
theorem leafF {m : Nat} {d : D} (h : okT OC d = true) (n : ∀ ds, d ≠ .tup ds) : Fine OC m d := .leaf h n
theorem fine_cons {m : Nat} {d : D} {ds : List D} (a : Fine OC m d) (b : ∀ x ∈ ds, Fine OC m x) : ∀ x ∈ d :: ds, Fine OC m x := fun x hx => (List.mem_cons.mp hx).elim (fun e => e ▸ a) (b x)
theorem fine_nil {m : Nat} : ∀ x ∈ ([] : List D), Fine OC m x := fun _ h => by cases h
theorem strF {m : Nat} {x : Str} : Fine OC m (.str x) := .leaf rfl (fun _ e => by cases e)
theorem pr_fine {NS : List Str} {r : PR} (ok : r.ok NS) {m : Nat} (h : 4 ≤ m) : Fine OC m r.toD := by
  cases r with
  | note x o ps => exact .tup (by simp; omega) (fine_cons strF (fine_cons strF (fine_cons strF (fine_cons (.tup (by rw [List.length_map]; have : ps.length ≤ 3 := ok.2.2; omega) (strs_fine ps)) fine_nil))))
  | copy x y => exact .tup (by simp; omega) (fine_cons strF (fine_cons strF (fine_cons strF fine_nil)))
  | give x n => exact .tup (by simp; omega) (fine_cons strF (fine_cons strF (fine_cons (.leaf rfl (fun _ e => by cases e)) fine_nil)))
  | ask x => exact .tup (by simp; omega) (fine_cons strF (fine_cons strF fine_nil))
  | prt x => exact .tup (by simp; omega) (fine_cons strF (fine_cons strF fine_nil))
theorem blk_fine {NS : List Str} {m : Nat} (hm : 12 ≤ m) : ∀ (b : Blk) (k : Nat), b.ok NS k → ∀ x ∈ b.ds, Fine OC m x
  | .nil, _, _ => fine_nil
  | .pl r t, k, ok => fine_cons (pr_fine ok.1 (by omega)) (blk_fine hm t k ok.2)
  | .ei a b t, k, ⟨_, la, lb, o1, o2, o3⟩ => fine_cons (.tup (by simp; omega) (fine_cons strF (fine_cons (.tup (by omega) (blk_fine hm a _ o1)) (fine_cons (.tup (by omega) (blk_fine hm b _ o2)) fine_nil)))) (blk_fine hm t k o3)
  | .ag a t, k, ⟨_, la, o1, o3⟩ => fine_cons (.tup (by simp; omega) (fine_cons strF (fine_cons (.tup (by omega) (blk_fine hm a _ o1)) fine_nil))) (blk_fine hm t k o3)
def finB : Nat → D → Bool
  | n + 1, .tup ds => decide (ds.length ≤ 40) && ds.all (finB n)
  | _, .non => true | _, .bl _ => true | _, .int _ => true | _, .str _ => true | _, .lst _ => true | _, .dic _ => true
  | _, _ => false
theorem finB_ok : ∀ (n : Nat) (d : D), finB n d = true → Fine OC 40 d := by
  intro n
  induction n with
  | zero =>
    intro d h
    cases d with
    | tup ds => simp [finB] at h
    | _ => first | (simp [finB] at h; done) | (exact .leaf rfl (fun _ e => by cases e))
  | succ n ih =>
    intro d h
    cases d with
    | tup ds =>
      have h : (decide (ds.length ≤ 40) && ds.all (finB n)) = true := h
      rw [Bool.and_eq_true, decide_eq_true_eq, List.all_eq_true] at h
      exact .tup h.1 fun x hx => ih x (h.2 x hx)
    | _ => first | (simp [finB] at h; done) | (exact .leaf rfl (fun _ e => by cases e))
/-- something deep: no row that blocks can be put in -/
def DeepD (OC : Addr → Bool) (d : D) : Prop := Fine OC 40 d ∧ h0B d = true ∧ subOf d = none ∧ ∀ ds, d = .tup ds → ds.length ≤ 1
def sp_deepG (OC : Addr → Bool) : DSp := fun ds G Q _ => ∃ p : Addr, ds = [.ref p] ∧ HdG p G G ∧ ∀ G' d, HdG p G G' → DeepD OC d → Q d G'
theorem deep_leaf {d : D} (h1 : okT OC d = true) (h2 : ∀ ds, d ≠ .tup ds) : DeepD OC d := ⟨.leaf h1 h2, by cases d <;> first | rfl | exact (h2 _ rfl).elim, by cases d <;> first | rfl | exact (h2 _ rfl).elim, fun ds e => (h2 ds e).elim⟩
theorem v_deepG {ds : List D} {G : Gh} {Q : DQ} {E : DXq} (h : sp_deepG OC ds G Q E) : W__law_deep sp_draw (endsOf K Q) (dstart N__law_deep ds) G := by
  obtain ⟨p, rfl, hG, q⟩ := h
  show W__law_deep sp_draw (endsOf K Q) [some (.ref p), none, none] G
  unfold W__law_deep
  refine seq_rule (fun σ' G' => ∃ d, σ' = [some (.ref p), some d, none] ∧ HdG p G G' ∧ DeepD OC d) (fun N hN => ?_) ?_
  · try trivial
    refine ⟨p, 3, rfl, hG, by decide, by decide, fun G1 r h1 r0 r1 => ?_⟩
    have hr : r = 0 ∨ r = 1 ∨ r = 2 := by omega
    rcases hr with rfl | rfl | rfl
    · try trivial
      exact hN _ _ ⟨_, rfl, h1, deep_leaf rfl (fun _ e => by cases e)⟩
    · try trivial
      exact hN _ _ ⟨_, rfl, h1, .tup (by simp) fine_nil, rfl, rfl, fun ds e => by cases e; simp⟩
    · try trivial
      exact hN _ _ ⟨_, rfl, h1, deep_leaf rfl (fun _ e => by cases e)⟩
  · rintro σ' G' ⟨d, rfl, h1, ok⟩
    try trivial
    refine ⟨p, 8, rfl, h1.self, by decide, by decide, fun G1 r h2 r0 r1 => ?_⟩
    have h2 := h1.trans h2
    try trivial
    refine ⟨by omega, by omega, ?_⟩
    refine loop_rule (fun items σ G' => ∃ (d : D) (x2 : Option D), σ = [some (.ref p), some d, x2] ∧ HdG p G G' ∧ DeepD OC d) ?_ ?_ _ _ _ ⟨d, none, rfl, h2, ok⟩
    · rintro σ G' ⟨d, x2, rfl, h3, ok⟩
      try trivial
      exact rt_here (q _ d h3 ok)
    · rintro e es N σ G' hN ⟨d, x2, rfl, h3, ok⟩
      try trivial
      refine ⟨_, rfl, (by show 1 ≤ 15; omega), ?_⟩
      refine ⟨p, 3, rfl, h3.self, by decide, by decide, fun G4 r h4 r0 r1 => ?_⟩
      have h4 := h3.trans h4
      have hr : r = 0 ∨ r = 1 ∨ r = 2 := by omega
      rcases hr with rfl | rfl | rfl
      · try trivial
        exact hN _ _ ⟨_, _, rfl, h4, deep_leaf rfl (fun _ e => by cases e)⟩
      · try trivial
        exact hN _ _ ⟨_, _, rfl, h4, .tup (by simp) (fine_cons ok.1 fine_nil), rfl, by cases d <;> rfl, fun ds e => by cases e; simp⟩
      · try trivial
        exact hN _ _ ⟨_, _, rfl, h4, deep_leaf rfl (fun _ e => by cases e)⟩
/-! the general promises serve rows of a block -/
theorem plainB_pr {NS : List Str} {r : PR} (ok : r.ok NS) : plainB r.toD = true := by
  have hn : ∀ x, x ∈ r.names → nameB (.str x) = true := fun x hx => nameB_str.mpr (ok.1 x hx).1
  cases r with
  | note x o ps =>
    have h1 := hn x List.mem_cons_self
    have h2 := nameB_str.mpr ok.2.1
    have h3 : partsB (.tup (ps.map .str)) = true := by
      show (decide ((((ps.map D.str).length : Nat) : Int) ≤ 3) && (ps.map D.str).all nameB) = true
      rw [Bool.and_eq_true, decide_eq_true_eq, List.length_map, List.all_eq_true]
      refine ⟨by have : ps.length ≤ 3 := ok.2.2; omega, fun d hd => ?_⟩
      obtain ⟨y, hy, rfl⟩ := List.mem_map.mp hd
      exact hn y (List.mem_cons_of_mem _ hy)
    show (nameB (.str x) && (!askB "note" && (!decide (("note" : Str) = "copy") && (!decide (("note" : Str) = "give") && (decide (("note" : Str) = "note") && (nameB (.str o) && partsB (.tup (ps.map .str)))))))) = true
    rw [h1, h2, h3]; decide +kernel
  | copy x y =>
    have h1 := hn x (by simp [PR.names])
    have h2 := hn y (by simp [PR.names])
    show (nameB (.str x) && (!askB "copy" && (if decide (("copy" : Str) = "copy") then nameB (.str y) else decide (("copy" : Str) = "give") && isI (.str y)))) = true
    rw [h1, h2]
    generalize isI (D.str y) = b
    cases b <;> decide +kernel
  | give x n =>
    have h1 := hn x (by simp [PR.names])
    show (nameB (.str x) && (!askB "give" && (if decide (("give" : Str) = "copy") then nameB (.int n) else decide (("give" : Str) = "give") && isI (.int n)))) = true
    rw [h1]
    show (!askB "give" && (if decide (("give" : Str) = "copy") then nameB (.int n) else decide (("give" : Str) = "give") && true)) = true
    generalize nameB (D.int n) = b
    cases b <;> decide +kernel
  | ask x => show (nameB (.str x) && askB "ask") = true; rw [hn x (by simp [PR.names])]; decide +kernel
  | prt x => show (nameB (.str x) && askB "print") = true; rw [hn x (by simp [PR.names])]; decide +kernel
theorem name_imp {ds : List D} {G : Gh} {Q : DQ} {E : DXq} (h : sp_is_name ds G Q E) : sp_is_nameG OC ds G Q E := by
  obtain ⟨x, rfl, hx, q⟩ := h
  exact ⟨_, rfl, rfl, by rw [nameB_str.mpr hx]; exact q⟩
theorem plain_imp {NS : List Str} {ds : List D} {G : Gh} {Q : DQ} {E : DXq} (h : sp_is_plain_row NS ds G Q E) : sp_is_plain_rowG OC ds G Q E := by
  obtain ⟨r, rfl, ok, q⟩ := h
  exact ⟨_, rfl, pr_fine ok (by omega), by rw [plainB_pr ok]; exact q⟩
end P3

/-! V6b: the texts of rows. -/
namespace P3
open PySem PySem.Spec L2 DL
open TL (tl ext_tl tl_append len_tl numL)
def numS (i : Int) : Str := Str.ofString (toString i)
def PR.txt : PR → Str
  | .note x o ps => x ++ " = " ++ o ++ "(" ++ Txt.join ", " ps ++ ")"
  | .copy x y => x ++ " = " ++ y
  | .give x i => x ++ " = " ++ numS i
  | .ask x => "ask" ++ " " ++ x
  | .prt x => "print" ++ " " ++ x
theorem tl_eqs : tl " = " = [32, 61, 32] := by decide +kernel
theorem tl_open : tl "(" = [40] := by decide +kernel
theorem tl_close : tl ")" = [41] := by decide +kernel
theorem tl_comma : tl ", " = [44, 32] := by decide +kernel
theorem tl_blank : tl " " = [32] := by decide +kernel
theorem tl_ask : tl "ask" = [97, 115, 107] := by decide +kernel
theorem tl_print : tl "print" = [112, 114, 105, 110, 116] := by decide +kernel
theorem small_rng : ∀ c ∈ ("abcdefghijklmnopqrstuvwxyz" : Str).cps.toList, 97 ≤ c ∧ c ≤ 122 := by decide +kernel
theorem small_in : ∀ c, 97 ≤ c → c ≤ 122 → c ∈ ("abcdefghijklmnopqrstuvwxyz" : Str).cps.toList := by
  intro c h1 h2
  have : ∀ c : Fin 123, 97 ≤ c.val → c.val ∈ ("abcdefghijklmnopqrstuvwxyz" : Str).cps.toList := by decide +kernel
  exact this ⟨c, by omega⟩ h1
theorem name_free {x : Str} (h : nameOk x) {s : Nat} (hs : s < 97 ∨ 122 < s) : s ∉ tl x := fun hm => by
  have := small_rng s (h.2.2 s hm)
  omega
theorem name_ne {x : Str} (h : nameOk x) : tl x ≠ [] := fun e => by
  have := h.1
  rw [len_tl, e] at this
  simp at this
theorem tl_join2 (ps : List Str) : tl (Txt.join ", " ps) = TL.joinL [44, 32] (ps.map tl) := by rw [TL.join_eq, TL.tl_join, tl_comma]
/-! numbers -/
theorem numS_nat (n : Nat) : tl (numS (n : Int)) = numL n := TL.tl_num n
theorem numS_neg (n : Nat) : tl (numS (Int.negSucc n)) = 45 :: numL (n + 1) := by
  have e : numS (Int.negSucc n) = Str.ofString ("-" ++ toString (n + 1)) := rfl
  have e2 : tl (Str.ofString (toString ((n + 1 : Nat) : Int))) = numL (n + 1) := TL.tl_num (n + 1)
  have e3 : toString ((n + 1 : Nat) : Int) = toString (n + 1) := rfl
  rw [e3] at e2
  rw [TL.tl_ofString] at e2
  rw [e, TL.tl_ofString, String.toList_append, List.map_append, e2]
  rfl
theorem numL_head (n : Nat) : ∃ c r, numL n = c :: r ∧ 48 ≤ c ∧ c ≤ 57 ∧ (c = 48 → n = 0) := by
  induction n using Nat.strongRecOn with
  | _ n ih =>
    by_cases h : n < 10
    · exact ⟨48 + n, [], TL.numL_lt h, by omega, by omega, by omega⟩
    · obtain ⟨c, r, e, h1, h2, h3⟩ := ih (n / 10) (by omega)
      exact ⟨c, r ++ [48 + n % 10], by rw [TL.numL_step (by omega), e]; rfl, h1, h2, fun z => by have := h3 z; omega⟩
theorem numS_read {i : Int} (h : i.natAbs < 10 ^ 30) : PySem.intText? (numS i) = some i := by
  cases i with
  | ofNat n => exact TL.int_num (Nat.le_trans (TL.numL_len (by decide) (show n < 10 ^ 30 from h)) (by decide))
  | negSucc n =>
    have hl : (numL (n + 1)).length ≤ 30 := TL.numL_len (by decide) h
    have e := intText_neg (x := numS (Int.negSucc n)) (numS_neg n) (TL.numL_digits _) (TL.numL_ne _) (by rw [len_tl, numS_neg, List.length_cons]; omega)
    rw [TL.numL_val] at e
    rw [e]; rfl
theorem numS_len {i : Int} (h : i.natAbs < 10 ^ 30) : (numS i).length ≤ 31 := by
  rw [len_tl]
  cases i with
  | ofNat n => rw [show tl (numS (Int.ofNat n)) = numL n from numS_nat n]; exact Nat.le_trans (TL.numL_len (by decide) (show n < 10 ^ 30 from h)) (by decide)
  | negSucc n => rw [numS_neg, List.length_cons]; exact Nat.succ_le_succ (TL.numL_len (by decide) h)
theorem numS_small {i : Int} {s : Nat} (hs : s < 45 ∨ 57 < s ∨ (45 < s ∧ s < 48)) : s ∉ tl (numS i) := by
  cases i with
  | ofNat n => rw [show tl (numS (Int.ofNat n)) = numL n from numS_nat n]; exact TL.numL_free (by omega)
  | negSucc n =>
    rw [numS_neg]
    intro h
    rcases List.mem_cons.mp h with h | h
    · omega
    · exact TL.numL_free (by omega) h
theorem log_ok {i : Int} (h : i.natAbs < 10 ^ 30) : i.natAbs.log2 < 1920 := by
  by_cases z : i.natAbs = 0
  · rw [z]; decide
  · rw [Nat.log2_lt z]
    exact Nat.lt_trans h (by decide)
end P3

/-! V6c: text_of, integer_told. -/
namespace P3
open PySem PySem.Spec L2 DL
open TL (tl ext_tl tl_append len_tl numL)
local macro_rules | `(tactic| trivial) => `(tactic| simp only [wSeq, wNext, wRet, wIfS, wAsg, wName, wVar, wC, wDrop, wOp, wCall, wCons, wNil, wIf, wB, wNot, wAnd, wOr, wAndV, wOrV, wNotV, wTup, wLst, wLstV, wFor, wISeq, wIRng1, wIRng2, wIEnum, wIStr, wChain, wIsi, wSl, wPart, wNoPart, wCallF, wCallL, wAppend, wExtend, wSetL, wSetD, wPar, wAugI, wGTup, wGCons, wGNil, wDGet, wDIn, wDict, wDictV, wPairs, wLcV, wLc, wYes, wSetF, wFld, wRev, wNeg, wNever, wLoop, wComp, wSortSet, wTry, wRaise, wCallSt, wRetX, wSetX, rEqO, rNeO, wMake, rIntA, rMulA, wTryM, wMixX, wRaise1, wXf, DEnds.off, wMeth, wPop, wTx1, onStr, wSplit, wPartition, wJoin, rSplit, rPartition, rJoin, rIntS, rStr, rMulS, wIEnumL,
  rNe0, DL.rAdd, DL.rSub, DL.rMul, DL.rDiv, DL.rMod, DL.rPow, DL.rI2, DL.rCmpI, DL.rEqB, DL.rIsN, DL.rInS, DL.rIx2, DL.ixSeq, DL.itemsOf, DL.listOf, DL.dictOf, DL.keyOf, DL.goL, DL.goK, DL.goI, DL.objOf, DL.rLenA, DL.rLen, DL.rSum, DL.rAll, DL.rTuple, DL.rList, DL.rAbs, DL.rInt, rKIn, rKGet, rIsBl, rEq0, lst2, gup_same, dwipe, slot_def, at0, at1, at2, at3, atm, cut1, cutAll,
  List.set_cons_zero, List.set_cons_succ, List.getElem?_cons_zero, List.getElem?_cons_succ, List.getElem?_nil, Option.join_some, Option.join_none, List.length_cons, List.length_nil, if_true, if_false, Bool.false_eq_true, reduceIte, Bool.not_true, Bool.not_false, Bool.true_xor, Bool.false_xor, Bool.xor_true, Bool.xor_false, true_and, and_true, reduceCtorEq, decide_true, decide_false, Option.isSome_some, Option.isSome_none, List.cons_append, List.nil_append,
  s_note_copy, s_note_give, s_note_ask, s_note_print, s_note_either, s_note_again, s_note_call, s_copy_note, s_copy_give, s_copy_ask, s_copy_print, s_copy_either, s_copy_again, s_copy_call, s_give_note, s_give_copy, s_give_ask, s_give_print, s_give_either, s_give_again, s_give_call, s_ask_note, s_ask_copy, s_ask_give, s_ask_print, s_ask_either, s_ask_again, s_ask_call, s_print_note, s_print_copy, s_print_give, s_print_ask, s_print_either, s_print_again, s_print_call, s_either_note, s_either_copy, s_either_give, s_either_ask, s_either_print, s_either_again, s_either_call, s_again_note, s_again_copy, s_again_give, s_again_ask, s_again_print, s_again_either, s_again_call, s_call_note, s_call_copy, s_call_give, s_call_ask, s_call_print, s_call_either, s_call_again, s_note, s_copy, s_give, s_ask, s_print, s_either, s_again, s_call, i_note, j_note, l_note, i_copy, j_copy, l_copy, i_give, j_give, l_give, i_ask, j_ask, l_ask, i_print, j_print, l_print, i_either, j_either, l_either, i_again, j_again, l_again, i_call, j_call, l_call,
  Nat.reduceAdd, Nat.zero_add, Int.reduceLT, Int.reduceLE, Int.reduceEq, Int.reduceAdd, Int.reduceNeg, Int.reduceSub, cz0, cz1, cz2, cz3, cz4, cz5, cz6, cz7, cz8, cz9, t_tup, t_str, t_int, t_bl, lt0, lt1, lt2, lt3, lt4, lt5, lt6, zl0, zl1, zl2, zl3, zl4, zl5, zl6, zl9, rn2, x51, x52, x53, x54, at4, lkb, fl1, fl2, flstr, flint, flnon, flbl, List.all_cons, List.all_nil, Bool.and_true])
local macro_rules | `(tactic| get_elem_tactic_trivial) => `(tactic| simp only [wSeq, wNext, wRet, wIfS, wAsg, wName, wVar, wC, wDrop, wOp, wCall, wCons, wNil, wIf, wB, wNot, wAnd, wOr, wAndV, wOrV, wNotV, wTup, wLst, wLstV, wFor, wISeq, wIRng1, wIRng2, wIEnum, wIStr, wChain, wIsi, wSl, wPart, wNoPart, wCallF, wCallL, wAppend, wExtend, wSetL, wSetD, wPar, wAugI, wGTup, wGCons, wGNil, wDGet, wDIn, wDict, wDictV, wPairs, wLcV, wLc, wYes, wSetF, wFld, wRev, wNeg, wNever, wSortSet, wTry, wRaise, wCallSt, wRetX, wSetX, rEqO, rNeO, wMake, rIntA, rMulA, wTryM, wMixX, wRaise1, wXf, DEnds.off, wMeth, wPop, wTx1, onStr, wSplit, wPartition, wJoin, rSplit, rPartition, rJoin, rIntS, rStr, rMulS, wIEnumL,
  rNe0, DL.rAdd, DL.rSub, DL.rMul, DL.rDiv, DL.rMod, DL.rPow, DL.rI2, DL.rCmpI, DL.rEqB, DL.rIsN, DL.rInS, DL.rIx2, DL.ixSeq, DL.itemsOf, DL.listOf, DL.dictOf, DL.keyOf, DL.goL, DL.goK, DL.goI, DL.objOf, DL.rLenA, DL.rLen, DL.rSum, DL.rAll, DL.rTuple, DL.rList, DL.rAbs, DL.rInt, rKIn, rKGet, rIsBl, rEq0, lst2, gup_same, dwipe, slot_def, at0, at1, at2, at3, atm, cut1, cutAll,
  List.set_cons_zero, List.set_cons_succ, List.getElem?_cons_zero, List.getElem?_cons_succ, List.getElem?_nil, Option.join_some, Option.join_none, List.length_cons, List.length_nil, if_true, if_false, Bool.false_eq_true, reduceIte, Bool.not_true, Bool.not_false, Bool.true_xor, Bool.false_xor, Bool.xor_true, Bool.xor_false, true_and, and_true, reduceCtorEq, decide_true, decide_false, Option.isSome_some, Option.isSome_none, List.cons_append, List.nil_append,
  s_note_copy, s_note_give, s_note_ask, s_note_print, s_note_either, s_note_again, s_note_call, s_copy_note, s_copy_give, s_copy_ask, s_copy_print, s_copy_either, s_copy_again, s_copy_call, s_give_note, s_give_copy, s_give_ask, s_give_print, s_give_either, s_give_again, s_give_call, s_ask_note, s_ask_copy, s_ask_give, s_ask_print, s_ask_either, s_ask_again, s_ask_call, s_print_note, s_print_copy, s_print_give, s_print_ask, s_print_either, s_print_again, s_print_call, s_either_note, s_either_copy, s_either_give, s_either_ask, s_either_print, s_either_again, s_either_call, s_again_note, s_again_copy, s_again_give, s_again_ask, s_again_print, s_again_either, s_again_call, s_call_note, s_call_copy, s_call_give, s_call_ask, s_call_print, s_call_either, s_call_again, s_note, s_copy, s_give, s_ask, s_print, s_either, s_again, s_call, i_note, j_note, l_note, i_copy, j_copy, l_copy, i_give, j_give, l_give, i_ask, j_ask, l_ask, i_print, j_print, l_print, i_either, j_either, l_either, i_again, j_again, l_again, i_call, j_call, l_call,
  Nat.reduceAdd, Nat.zero_add, Int.reduceLT, Int.reduceLE, Int.reduceEq, Int.reduceAdd, Int.reduceNeg, Int.reduceSub, cz0, cz1, cz2, cz3, cz4, cz5, cz6, cz7, cz8, cz9, t_tup, t_str, t_int, t_bl, lt0, lt1, lt2, lt3, lt4, lt5, lt6, zl0, zl1, zl2, zl3, zl4, zl5, zl6, zl9, rn2, x51, x52, x53, x54, at4, lkb, fl1, fl2, flstr, flint, flnon, flbl, List.all_cons, List.all_nil, Bool.and_true])
variable {K : PySem.W.Frag} {OC : Addr → Bool}
theorem tl_cut (z : Str) (lo hi : Option Int) : tl (cutS z lo hi) = ((tl z).drop (HT.sIx z.length 0 lo)).take (HT.sIx z.length z.length hi - HT.sIx z.length 0 lo) := rfl
theorem cut_from (z : Str) (k : Nat) : tl (cutS z (some (k : Int)) none) = (tl z).drop k := by
  rw [tl_cut, HT.sIx_nat, HT.sIx_none, len_tl]
  by_cases h : k ≤ (tl z).length
  · rw [Nat.min_eq_left h, List.take_of_length_le (by rw [List.length_drop]; omega)]
  · rw [Nat.min_eq_right (by omega), List.drop_length, List.drop_of_length_le (by omega)]; simp
theorem cut_to (z : Str) (k : Nat) : tl (cutS z none (some (k : Int))) = (tl z).take k := by
  rw [tl_cut, HT.sIx_nat, HT.sIx_none, len_tl, List.drop_zero, Nat.sub_zero]
  by_cases h : k ≤ (tl z).length
  · rw [Nat.min_eq_left h]
  · rw [Nat.min_eq_right (by omega), List.take_length, List.take_of_length_le (by omega)]
theorem sIx_m1 (n d : Nat) : HT.sIx n d (some (-1)) = n - 1 := by
  show (if (-1 : Int) < 0 then ((-1 : Int) + (n : Int)).toNat else min (-1 : Int).toNat n) = n - 1
  rw [if_pos (by decide)]; omega
theorem cut_last {z : Str} {l : List Nat} {c : Nat} (h : tl z = l ++ [c]) : tl (cutS z (some (-1)) none) = [c] := by
  rw [tl_cut, sIx_m1, HT.sIx_none, len_tl, h, List.length_append, List.length_singleton, Nat.add_sub_cancel, List.drop_left]; simp
theorem cut_but {z : Str} {l : List Nat} {c : Nat} (h : tl z = l ++ [c]) : tl (cutS z none (some (-1))) = l := by
  rw [tl_cut, sIx_m1, HT.sIx_none, len_tl, h, List.length_append, List.length_singleton, Nat.add_sub_cancel, List.drop_zero, Nat.sub_zero, List.take_left]
theorem str_ne {a b : Str} (h : tl a ≠ tl b) : decide (a = b) = false := decide_eq_false fun e => h (by rw [e])
theorem str_eq {a b : Str} (h : tl a = tl b) : decide (a = b) = true := decide_eq_true (ext_tl h)
theorem len_add (a b : Str) : (a ++ b).length = a.length + b.length := Str.length_append a b
/-- all signs of a text among those of S -/
theorem all_signs {i : Nat} {z S : Str} {σ : DSt} {G : Gh} {Q : List D → Gh → Prop} (hl : z.length ≤ sizeLine) (hs : ∀ d, slot (σ.set i (some d)) i = some d) (h : Q (z.cps.toList.map fun c => D.bl (decide (c ∈ S.cps.toList))) G) :
    wComp (fun _ => True) (wName i) wYes (wOp (rInSign false) (wVar i) (wC (.str S))) σ (signs z) [] G Q := by
  have hsz : (signs z).length ≤ sizeLine := by rw [signs_len]; exact hl
  refine comp_map (f := fun d => match d with | .str ⟨#[c]⟩ => .bl (decide (c ∈ S.cps.toList)) | _ => .non) (signs z) [] True.intro (by simpa using hsz) (fun d hd Q' hq => ?_) ?_
  · unfold signs at hd
    obtain ⟨c, hc, rfl⟩ := List.mem_map.mp hd
    show match slot (σ.set i (some (D.str ⟨#[c]⟩))) i with | some d => _ | none => False
    rw [hs]
    refine ⟨c, rfl, ?_⟩
    rw [Bool.false_xor]
    exact hq
  · have e3 : (signs z).map (fun d => match d with | .str ⟨#[c]⟩ => D.bl (decide (c ∈ S.cps.toList)) | _ => .non) = z.cps.toList.map fun c => D.bl (decide (c ∈ S.cps.toList)) := by
      unfold signs
      rw [List.map_map]
      rfl
    rw [List.nil_append, e3]
    exact h
/-! text_of -/
theorem c_eqs : (" = " : Str).length = 3 := by decide +kernel
theorem c_open : ("(" : Str).length = 1 := by decide +kernel
theorem c_close : (")" : Str).length = 1 := by decide +kernel
theorem c_comma : (", " : Str).length = 2 := by decide +kernel
theorem c_blank : (" " : Str).length = 1 := by decide +kernel
theorem c_ask : ("ask" : Str).length = 3 := by decide +kernel
theorem c_print : ("print" : Str).length = 5 := by decide +kernel
theorem join_len : ∀ ps : List Str, (∀ x ∈ ps, x.length ≤ 8) → (Txt.join ", " ps).length ≤ 10 * ps.length ∧ (ps.map (·.length)).sum ≤ 8 * ps.length
  | [], _ => by
    refine ⟨?_, by simp⟩
    rw [len_tl, tl_join2]; simp [TL.joinL]
  | [x], h => by
    have := h x List.mem_cons_self
    refine ⟨?_, by simp; omega⟩
    rw [len_tl, tl_join2]
    show (tl x).length ≤ _
    rw [← len_tl]; simp; omega
  | x :: y :: r, h => by
    obtain ⟨a, b⟩ := join_len (y :: r) fun z hz => h z (List.mem_cons_of_mem _ hz)
    have := h x List.mem_cons_self
    rw [len_tl, tl_join2] at a
    refine ⟨?_, by rw [List.map_cons, List.sum_cons]; simp only [List.length_cons] at b ⊢; omega⟩
    rw [len_tl, tl_join2]
    show (tl x ++ ([44, 32] ++ TL.joinL [44, 32] ((y :: r).map tl))).length ≤ _
    simp only [List.length_append, List.length_cons, List.length_nil] at a ⊢
    rw [← len_tl]
    omega
theorem inF_cg : inF (.str "copy") [.str "copy", .str "give"] = true ∧ inF (.str "give") [.str "copy", .str "give"] = true ∧ inF (.str "ask") [.str "copy", .str "give"] = false ∧ inF (.str "print") [.str "copy", .str "give"] = false := by decide +kernel
def sp_text_of (NS : List Str) : DSp := fun ds G Q _ => ∃ r : PR, ds = [r.toD] ∧ r.ok NS ∧ Q (.str r.txt) G
theorem txt_len {NS : List Str} {r : PR} (ok : r.ok NS) : r.txt.length ≤ 80 := by
  have h1 : ∀ x ∈ r.names, x.length ≤ 8 := fun x hx => (ok.1 x hx).1.2.1
  cases r with
  | note x o ps =>
    have a := h1 x List.mem_cons_self
    have b := ok.2.1.2.1
    have c := (join_len ps fun y hy => h1 y (List.mem_cons_of_mem _ hy)).1
    have d : ps.length ≤ 3 := ok.2.2
    simp only [PR.txt, len_add, c_eqs, c_open, c_close]
    omega
  | copy x y =>
    have a := h1 x (by simp [PR.names])
    have b := h1 y (by simp [PR.names])
    simp only [PR.txt, len_add, c_eqs]
    omega
  | give x i =>
    have a := h1 x (by simp [PR.names])
    have b := numS_len ok.2
    simp only [PR.txt, len_add, c_eqs]
    omega
  | ask x =>
    have a := h1 x (by simp [PR.names])
    simp only [PR.txt, len_add, c_ask, c_blank]
    omega
  | prt x =>
    have a := h1 x (by simp [PR.names])
    simp only [PR.txt, len_add, c_print, c_blank]
    omega
theorem v_text {W : DS} (hW : W = W_text_of) {NS : List Str} {r : PR} {Q : DQ} {G : Gh} (ok : r.ok NS) (q : Q (.str r.txt) G) : W (endsOf K Q) [some r.toD] G := by
  subst hW
  have h1 : ∀ x ∈ r.names, x.length ≤ 8 := fun x hx => (ok.1 x hx).1.2.1
  have hz := sizeLine_eq
  unfold W_text_of
  cases r with
  | note x o ps =>
    have a := h1 x List.mem_cons_self
    have b := ok.2.1.2.1
    obtain ⟨c, c2⟩ := join_len ps fun y hy => h1 y (List.mem_cons_of_mem _ hy)
    have d : ps.length ≤ 3 := ok.2.2
    unfold PR.toD
    try trivial
    simp only [len_add, c_eqs, c_open, c_close]
    refine ⟨by omega, by omega, by omega, _, ps, rfl, strsOf_map ps, by rw [c_comma]; omega, by omega, by omega, by omega, rt_here q⟩
  | copy x y =>
    have a := h1 x (by simp [PR.names])
    have b := h1 y (by simp [PR.names])
    unfold PR.toD
    try trivial
    simp only [inF_cg]
    try trivial
    simp only [len_add, c_eqs]
    exact ⟨by omega, by omega, rt_here q⟩
  | give x i =>
    have a := h1 x (by simp [PR.names])
    have b := numS_len ok.2
    have b2 : (Str.ofString (toString i)).length ≤ 31 := b
    unfold PR.toD
    try trivial
    simp only [inF_cg]
    try trivial
    simp only [len_add, c_eqs]
    exact ⟨by omega, log_ok ok.2, by omega, by omega, rt_here q⟩
  | ask x =>
    have a := h1 x (by simp [PR.names])
    unfold PR.toD
    try trivial
    simp only [inF_cg]
    try trivial
    simp only [len_add, c_ask, c_blank]
    exact ⟨by omega, by omega, rt_here q⟩
  | prt x =>
    have a := h1 x (by simp [PR.names])
    unfold PR.toD
    try trivial
    simp only [inF_cg]
    try trivial
    simp only [len_add, c_print, c_blank]
    exact ⟨by omega, by omega, rt_here q⟩
theorem v_text_of {NS : List Str} {ds : List D} {G : Gh} {Q : DQ} {E : DXq} (h : sp_text_of NS ds G Q E) : W_text_of (endsOf K Q) (dstart N_text_of ds) G := by
  obtain ⟨r, rfl, ok, q⟩ := h
  exact v_text rfl ok q
theorem v_lrow_text {NS : List Str} {ds : List D} {G : Gh} {Q : DQ} {E : DXq} (h : sp_text_of NS ds G Q E) : W__law_row_text (endsOf K Q) (dstart N__law_row_text ds) G := by
  obtain ⟨r, rfl, ok, q⟩ := h
  exact v_text rfl ok q
end P3

/-! V6d: integer_told. -/
namespace P3
open PySem PySem.Spec L2 DL
open TL (tl ext_tl tl_append len_tl numL)
local macro_rules | `(tactic| trivial) => `(tactic| simp only [wSeq, wNext, wRet, wIfS, wAsg, wName, wVar, wC, wDrop, wOp, wCall, wCons, wNil, wIf, wB, wNot, wAnd, wOr, wAndV, wOrV, wNotV, wTup, wLst, wLstV, wFor, wISeq, wIRng1, wIRng2, wIEnum, wIStr, wChain, wIsi, wSl, wPart, wNoPart, wCallF, wCallL, wAppend, wExtend, wSetL, wSetD, wPar, wAugI, wGTup, wGCons, wGNil, wDGet, wDIn, wDict, wDictV, wPairs, wLcV, wLc, wYes, wSetF, wFld, wRev, wNeg, wNever, wLoop, wComp, wSortSet, wTry, wRaise, wCallSt, wRetX, wSetX, rEqO, rNeO, wMake, rIntA, rMulA, wTryM, wMixX, wRaise1, wXf, DEnds.off, wMeth, wPop, wTx1, onStr, wSplit, wPartition, wJoin, rSplit, rPartition, rJoin, rIntS, rStr, rMulS, wIEnumL,
  rNe0, DL.rAdd, DL.rSub, DL.rMul, DL.rDiv, DL.rMod, DL.rPow, DL.rI2, DL.rCmpI, DL.rEqB, DL.rIsN, DL.rInS, DL.rIx2, DL.ixSeq, DL.itemsOf, DL.listOf, DL.dictOf, DL.keyOf, DL.goL, DL.goK, DL.goI, DL.objOf, DL.rLenA, DL.rLen, DL.rSum, DL.rAll, DL.rTuple, DL.rList, DL.rAbs, DL.rInt, rKIn, rKGet, rIsBl, rEq0, lst2, gup_same, dwipe, slot_def, at0, at1, at2, at3, atm, cut1, cutAll,
  List.set_cons_zero, List.set_cons_succ, List.getElem?_cons_zero, List.getElem?_cons_succ, List.getElem?_nil, Option.join_some, Option.join_none, List.length_cons, List.length_nil, if_true, if_false, Bool.false_eq_true, reduceIte, Bool.not_true, Bool.not_false, Bool.true_xor, Bool.false_xor, Bool.xor_true, Bool.xor_false, true_and, and_true, reduceCtorEq, decide_true, decide_false, Option.isSome_some, Option.isSome_none, List.cons_append, List.nil_append,
  s_note_copy, s_note_give, s_note_ask, s_note_print, s_note_either, s_note_again, s_note_call, s_copy_note, s_copy_give, s_copy_ask, s_copy_print, s_copy_either, s_copy_again, s_copy_call, s_give_note, s_give_copy, s_give_ask, s_give_print, s_give_either, s_give_again, s_give_call, s_ask_note, s_ask_copy, s_ask_give, s_ask_print, s_ask_either, s_ask_again, s_ask_call, s_print_note, s_print_copy, s_print_give, s_print_ask, s_print_either, s_print_again, s_print_call, s_either_note, s_either_copy, s_either_give, s_either_ask, s_either_print, s_either_again, s_either_call, s_again_note, s_again_copy, s_again_give, s_again_ask, s_again_print, s_again_either, s_again_call, s_call_note, s_call_copy, s_call_give, s_call_ask, s_call_print, s_call_either, s_call_again, s_note, s_copy, s_give, s_ask, s_print, s_either, s_again, s_call, i_note, j_note, l_note, i_copy, j_copy, l_copy, i_give, j_give, l_give, i_ask, j_ask, l_ask, i_print, j_print, l_print, i_either, j_either, l_either, i_again, j_again, l_again, i_call, j_call, l_call,
  Nat.reduceAdd, Nat.zero_add, Int.reduceLT, Int.reduceLE, Int.reduceEq, Int.reduceAdd, Int.reduceNeg, Int.reduceSub, cz0, cz1, cz2, cz3, cz4, cz5, cz6, cz7, cz8, cz9, t_tup, t_str, t_int, t_bl, lt0, lt1, lt2, lt3, lt4, lt5, lt6, zl0, zl1, zl2, zl3, zl4, zl5, zl6, zl9, rn2, x51, x52, x53, x54, at4, lkb, fl1, fl2, flstr, flint, flnon, flbl, List.all_cons, List.all_nil, Bool.and_true])
local macro_rules | `(tactic| get_elem_tactic_trivial) => `(tactic| simp only [wSeq, wNext, wRet, wIfS, wAsg, wName, wVar, wC, wDrop, wOp, wCall, wCons, wNil, wIf, wB, wNot, wAnd, wOr, wAndV, wOrV, wNotV, wTup, wLst, wLstV, wFor, wISeq, wIRng1, wIRng2, wIEnum, wIStr, wChain, wIsi, wSl, wPart, wNoPart, wCallF, wCallL, wAppend, wExtend, wSetL, wSetD, wPar, wAugI, wGTup, wGCons, wGNil, wDGet, wDIn, wDict, wDictV, wPairs, wLcV, wLc, wYes, wSetF, wFld, wRev, wNeg, wNever, wSortSet, wTry, wRaise, wCallSt, wRetX, wSetX, rEqO, rNeO, wMake, rIntA, rMulA, wTryM, wMixX, wRaise1, wXf, DEnds.off, wMeth, wPop, wTx1, onStr, wSplit, wPartition, wJoin, rSplit, rPartition, rJoin, rIntS, rStr, rMulS, wIEnumL,
  rNe0, DL.rAdd, DL.rSub, DL.rMul, DL.rDiv, DL.rMod, DL.rPow, DL.rI2, DL.rCmpI, DL.rEqB, DL.rIsN, DL.rInS, DL.rIx2, DL.ixSeq, DL.itemsOf, DL.listOf, DL.dictOf, DL.keyOf, DL.goL, DL.goK, DL.goI, DL.objOf, DL.rLenA, DL.rLen, DL.rSum, DL.rAll, DL.rTuple, DL.rList, DL.rAbs, DL.rInt, rKIn, rKGet, rIsBl, rEq0, lst2, gup_same, dwipe, slot_def, at0, at1, at2, at3, atm, cut1, cutAll,
  List.set_cons_zero, List.set_cons_succ, List.getElem?_cons_zero, List.getElem?_cons_succ, List.getElem?_nil, Option.join_some, Option.join_none, List.length_cons, List.length_nil, if_true, if_false, Bool.false_eq_true, reduceIte, Bool.not_true, Bool.not_false, Bool.true_xor, Bool.false_xor, Bool.xor_true, Bool.xor_false, true_and, and_true, reduceCtorEq, decide_true, decide_false, Option.isSome_some, Option.isSome_none, List.cons_append, List.nil_append,
  s_note_copy, s_note_give, s_note_ask, s_note_print, s_note_either, s_note_again, s_note_call, s_copy_note, s_copy_give, s_copy_ask, s_copy_print, s_copy_either, s_copy_again, s_copy_call, s_give_note, s_give_copy, s_give_ask, s_give_print, s_give_either, s_give_again, s_give_call, s_ask_note, s_ask_copy, s_ask_give, s_ask_print, s_ask_either, s_ask_again, s_ask_call, s_print_note, s_print_copy, s_print_give, s_print_ask, s_print_either, s_print_again, s_print_call, s_either_note, s_either_copy, s_either_give, s_either_ask, s_either_print, s_either_again, s_either_call, s_again_note, s_again_copy, s_again_give, s_again_ask, s_again_print, s_again_either, s_again_call, s_call_note, s_call_copy, s_call_give, s_call_ask, s_call_print, s_call_either, s_call_again, s_note, s_copy, s_give, s_ask, s_print, s_either, s_again, s_call, i_note, j_note, l_note, i_copy, j_copy, l_copy, i_give, j_give, l_give, i_ask, j_ask, l_ask, i_print, j_print, l_print, i_either, j_either, l_either, i_again, j_again, l_again, i_call, j_call, l_call,
  Nat.reduceAdd, Nat.zero_add, Int.reduceLT, Int.reduceLE, Int.reduceEq, Int.reduceAdd, Int.reduceNeg, Int.reduceSub, cz0, cz1, cz2, cz3, cz4, cz5, cz6, cz7, cz8, cz9, t_tup, t_str, t_int, t_bl, lt0, lt1, lt2, lt3, lt4, lt5, lt6, zl0, zl1, zl2, zl3, zl4, zl5, zl6, zl9, rn2, x51, x52, x53, x54, at4, lkb, fl1, fl2, flstr, flint, flnon, flbl, List.all_cons, List.all_nil, Bool.and_true])
variable {K : PySem.W.Frag} {OC : Addr → Bool}
theorem tl_dash : tl "-" = [45] := by decide +kernel
theorem tl_zero : tl "0" = [48] := by decide +kernel
theorem tl_figs : tl "0123456789" = [48, 49, 50, 51, 52, 53, 54, 55, 56, 57] := by decide +kernel
theorem fig_in {c : Nat} (h1 : 48 ≤ c) (h2 : c ≤ 57) : decide (c ∈ ("0123456789" : Str).cps.toList) = true := by
  have e : ("0123456789" : Str).cps.toList = [48, 49, 50, 51, 52, 53, 54, 55, 56, 57] := tl_figs
  rw [e]
  refine decide_eq_true ?_
  simp only [List.mem_cons, List.not_mem_nil, or_false]
  omega
theorem fig_out : decide (40 ∈ ("0123456789" : Str).cps.toList) = false := by decide +kernel
def sp_int_told : DSp := fun ds G Q _ => ∃ z : Str, ds = [.str z] ∧ ((∃ i : Int, z = numS i ∧ i.natAbs < 10 ^ 30 ∧ Q (.int i) G) ∨ (40 ∈ tl z ∧ (∃ c r, tl z = c :: r ∧ c ≠ 45) ∧ z.length ≤ 1000 ∧ Q .non G))
/-- from the digits on -/
theorem v_int_told {ds : List D} {G : Gh} {Q : DQ} {E : DXq} (h : sp_int_told ds G Q E) : W_integer_told (endsOf K Q) (dstart N_integer_told ds) G := by
  obtain ⟨z, rfl, h⟩ := h
  show W_integer_told (endsOf K Q) [some (.str z), none, none] G
  have hz := sizeLine_eq
  unfold W_integer_told
  refine seq_rule (fun σ' G' => G' = G ∧ ∃ dg : Str, σ' = [some (.str z), some (.str dg), none] ∧ ((∃ (i : Int) (n : Nat), z = numS i ∧ tl dg = numL n ∧ i.natAbs < 10 ^ 30 ∧ dg.length ≤ 30 ∧ (n = 0 → tl z = [48]) ∧ Q (.int i) G) ∨ (40 ∈ tl dg ∧ dg.length ≤ 1000 ∧ Q .non G))) (fun N hN => ?_) ?_
  · try trivial
    rcases h with ⟨i, rfl, hi, q⟩ | ⟨h40, ⟨c, r, e, hc⟩, hl, q⟩
    · cases i with
      | ofNat n =>
        have e1 : tl (numS (Int.ofNat n)) = numL n := numS_nat n
        obtain ⟨c, r, e, h1, h2, h3⟩ := numL_head n
        rw [str_ne (by rw [show (some (1 : Int)) = some ((1 : Nat) : Int) from rfl, cut_to, e1, e, tl_dash]; intro z; cases z; omega)]
        try trivial
        refine hN _ _ ⟨rfl, _, rfl, .inl ⟨_, n, rfl, e1, hi, by rw [len_tl, e1]; exact TL.numL_len (by decide) hi, fun h0 => ?_, q⟩⟩
        subst h0; rw [e1]; decide +kernel
      | negSucc n =>
        have e1 := numS_neg n
        rw [str_eq (by rw [show (some (1 : Int)) = some ((1 : Nat) : Int) from rfl, cut_to, e1, tl_dash]; rfl)]
        try trivial
        have e2 : tl (cutS (numS (Int.negSucc n)) (some 1) none) = numL (n + 1) := by rw [show (some (1 : Int)) = some ((1 : Nat) : Int) from rfl, cut_from, e1]; rfl
        exact hN _ _ ⟨rfl, _, rfl, .inl ⟨_, n + 1, rfl, e2, hi, by rw [len_tl, e2]; exact TL.numL_len (by decide) hi, (fun h0 => by omega), q⟩⟩
    · rw [str_ne (by rw [show (some (1 : Int)) = some ((1 : Nat) : Int) from rfl, cut_to, e, tl_dash]; intro z; cases z; exact hc rfl)]
      try trivial
      exact hN _ _ ⟨rfl, _, rfl, .inr ⟨h40, hl, q⟩⟩
  · rintro σ' G' ⟨rfl, dg, rfl, h⟩
    try trivial
    rcases h with ⟨i, n, rfl, e, hi, hl, h0, q⟩ | ⟨h40, hl, q⟩
    · obtain ⟨c, r, e2, h1, h2, h3⟩ := numL_head n
      have hpos : 1 ≤ dg.length := by rw [len_tl, e, e2]; simp
      rw [decide_eq_true (show (1 : Int) ≤ ((dg.length : Nat) : Int) by omega)]
      try trivial
      simp only [decide_eq_true (show ((dg.length : Nat) : Int) ≤ 30 by omega)]
      try trivial
      refine all_signs (by omega) (fun _ => rfl) ?_
      refine ⟨_, _, rfl, blsOf_map' _ _, ?_⟩
      rw [all_id_map]
      have hall : (dg.cps.toList.all fun c => decide (c ∈ ("0123456789" : Str).cps.toList)) = true := List.all_eq_true.mpr fun x hx => by
        have := TL.numL_digits n x (by rw [← e]; exact hx)
        exact fig_in this.1 this.2
      rw [hall]
      try trivial
      have e3 : dg.cps.toList = c :: r := e.trans e2
      refine ⟨by omega, c, by rw [e3]; exact at0, ?_⟩
      have fin : ∃ m, intText? (numS i) = some m ∧ (numS i).length ≤ 640 ∧ (endsOf K Q).rt (D.int m) G' := ⟨i, numS_read hi, Nat.le_trans (numS_len hi) (by decide), rt_here q⟩
      by_cases hc : c = 48
      · subst hc
        rw [str_eq (a := ⟨#[48]⟩) (by rw [tl_zero]), str_eq (a := numS i) (by rw [h0 (h3 rfl), tl_zero])]
        exact fin
      · rw [str_ne (a := ⟨#[c]⟩) (by rw [tl_zero]; intro z; cases z; exact hc rfl)]
        exact fin
    · have hpos : 1 ≤ dg.length := by
        rw [len_tl]
        exact List.length_pos_of_mem h40
      rw [decide_eq_true (show (1 : Int) ≤ ((dg.length : Nat) : Int) by omega)]
      try trivial
      by_cases h30 : ((dg.length : Nat) : Int) ≤ 30
      · simp only [decide_eq_true h30]
        try trivial
        refine all_signs (by omega) (fun _ => rfl) ?_
        refine ⟨_, _, rfl, blsOf_map' _ _, ?_⟩
        rw [all_id_map]
        have hall : (dg.cps.toList.all fun c => decide (c ∈ ("0123456789" : Str).cps.toList)) = false := List.all_eq_false.mpr ⟨40, h40, by rw [fig_out]; exact Bool.false_ne_true⟩
        rw [hall]
        exact rt_here q
      · simp only [decide_eq_false h30]
        exact rt_here q
end P3

/-! V6e: note_told, row_told. -/
namespace P3
open PySem PySem.Spec L2 DL
open TL (tl ext_tl tl_append len_tl numL)
local macro_rules | `(tactic| trivial) => `(tactic| simp only [wSeq, wNext, wRet, wIfS, wAsg, wName, wVar, wC, wDrop, wOp, wCall, wCons, wNil, wIf, wB, wNot, wAnd, wOr, wAndV, wOrV, wNotV, wTup, wLst, wLstV, wFor, wISeq, wIRng1, wIRng2, wIEnum, wIStr, wChain, wIsi, wSl, wPart, wNoPart, wCallF, wCallL, wAppend, wExtend, wSetL, wSetD, wPar, wAugI, wGTup, wGCons, wGNil, wDGet, wDIn, wDict, wDictV, wPairs, wLcV, wLc, wYes, wSetF, wFld, wRev, wNeg, wNever, wLoop, wComp, wSortSet, wTry, wRaise, wCallSt, wRetX, wSetX, rEqO, rNeO, wMake, rIntA, rMulA, wTryM, wMixX, wRaise1, wXf, DEnds.off, wMeth, wPop, wTx1, onStr, wSplit, wPartition, wJoin, rSplit, rPartition, rJoin, rIntS, rStr, rMulS, wIEnumL,
  rNe0, DL.rAdd, DL.rSub, DL.rMul, DL.rDiv, DL.rMod, DL.rPow, DL.rI2, DL.rCmpI, DL.rEqB, DL.rIsN, DL.rInS, DL.rIx2, DL.ixSeq, DL.itemsOf, DL.listOf, DL.dictOf, DL.keyOf, DL.goL, DL.goK, DL.goI, DL.objOf, DL.rLenA, DL.rLen, DL.rSum, DL.rAll, DL.rTuple, DL.rList, DL.rAbs, DL.rInt, rKIn, rKGet, rIsBl, rEq0, lst2, gup_same, dwipe, slot_def, at0, at1, at2, at3, atm, cut1, cutAll,
  List.set_cons_zero, List.set_cons_succ, List.getElem?_cons_zero, List.getElem?_cons_succ, List.getElem?_nil, Option.join_some, Option.join_none, List.length_cons, List.length_nil, if_true, if_false, Bool.false_eq_true, reduceIte, Bool.not_true, Bool.not_false, Bool.true_xor, Bool.false_xor, Bool.xor_true, Bool.xor_false, true_and, and_true, reduceCtorEq, decide_true, decide_false, Option.isSome_some, Option.isSome_none, List.cons_append, List.nil_append,
  s_note_copy, s_note_give, s_note_ask, s_note_print, s_note_either, s_note_again, s_note_call, s_copy_note, s_copy_give, s_copy_ask, s_copy_print, s_copy_either, s_copy_again, s_copy_call, s_give_note, s_give_copy, s_give_ask, s_give_print, s_give_either, s_give_again, s_give_call, s_ask_note, s_ask_copy, s_ask_give, s_ask_print, s_ask_either, s_ask_again, s_ask_call, s_print_note, s_print_copy, s_print_give, s_print_ask, s_print_either, s_print_again, s_print_call, s_either_note, s_either_copy, s_either_give, s_either_ask, s_either_print, s_either_again, s_either_call, s_again_note, s_again_copy, s_again_give, s_again_ask, s_again_print, s_again_either, s_again_call, s_call_note, s_call_copy, s_call_give, s_call_ask, s_call_print, s_call_either, s_call_again, s_note, s_copy, s_give, s_ask, s_print, s_either, s_again, s_call, i_note, j_note, l_note, i_copy, j_copy, l_copy, i_give, j_give, l_give, i_ask, j_ask, l_ask, i_print, j_print, l_print, i_either, j_either, l_either, i_again, j_again, l_again, i_call, j_call, l_call,
  Nat.reduceAdd, Nat.zero_add, Int.reduceLT, Int.reduceLE, Int.reduceEq, Int.reduceAdd, Int.reduceNeg, Int.reduceSub, cz0, cz1, cz2, cz3, cz4, cz5, cz6, cz7, cz8, cz9, t_tup, t_str, t_int, t_bl, lt0, lt1, lt2, lt3, lt4, lt5, lt6, zl0, zl1, zl2, zl3, zl4, zl5, zl6, zl9, rn2, x51, x52, x53, x54, at4, lkb, fl1, fl2, flstr, flint, flnon, flbl, List.all_cons, List.all_nil, Bool.and_true])
local macro_rules | `(tactic| get_elem_tactic_trivial) => `(tactic| simp only [wSeq, wNext, wRet, wIfS, wAsg, wName, wVar, wC, wDrop, wOp, wCall, wCons, wNil, wIf, wB, wNot, wAnd, wOr, wAndV, wOrV, wNotV, wTup, wLst, wLstV, wFor, wISeq, wIRng1, wIRng2, wIEnum, wIStr, wChain, wIsi, wSl, wPart, wNoPart, wCallF, wCallL, wAppend, wExtend, wSetL, wSetD, wPar, wAugI, wGTup, wGCons, wGNil, wDGet, wDIn, wDict, wDictV, wPairs, wLcV, wLc, wYes, wSetF, wFld, wRev, wNeg, wNever, wSortSet, wTry, wRaise, wCallSt, wRetX, wSetX, rEqO, rNeO, wMake, rIntA, rMulA, wTryM, wMixX, wRaise1, wXf, DEnds.off, wMeth, wPop, wTx1, onStr, wSplit, wPartition, wJoin, rSplit, rPartition, rJoin, rIntS, rStr, rMulS, wIEnumL,
  rNe0, DL.rAdd, DL.rSub, DL.rMul, DL.rDiv, DL.rMod, DL.rPow, DL.rI2, DL.rCmpI, DL.rEqB, DL.rIsN, DL.rInS, DL.rIx2, DL.ixSeq, DL.itemsOf, DL.listOf, DL.dictOf, DL.keyOf, DL.goL, DL.goK, DL.goI, DL.objOf, DL.rLenA, DL.rLen, DL.rSum, DL.rAll, DL.rTuple, DL.rList, DL.rAbs, DL.rInt, rKIn, rKGet, rIsBl, rEq0, lst2, gup_same, dwipe, slot_def, at0, at1, at2, at3, atm, cut1, cutAll,
  List.set_cons_zero, List.set_cons_succ, List.getElem?_cons_zero, List.getElem?_cons_succ, List.getElem?_nil, Option.join_some, Option.join_none, List.length_cons, List.length_nil, if_true, if_false, Bool.false_eq_true, reduceIte, Bool.not_true, Bool.not_false, Bool.true_xor, Bool.false_xor, Bool.xor_true, Bool.xor_false, true_and, and_true, reduceCtorEq, decide_true, decide_false, Option.isSome_some, Option.isSome_none, List.cons_append, List.nil_append,
  s_note_copy, s_note_give, s_note_ask, s_note_print, s_note_either, s_note_again, s_note_call, s_copy_note, s_copy_give, s_copy_ask, s_copy_print, s_copy_either, s_copy_again, s_copy_call, s_give_note, s_give_copy, s_give_ask, s_give_print, s_give_either, s_give_again, s_give_call, s_ask_note, s_ask_copy, s_ask_give, s_ask_print, s_ask_either, s_ask_again, s_ask_call, s_print_note, s_print_copy, s_print_give, s_print_ask, s_print_either, s_print_again, s_print_call, s_either_note, s_either_copy, s_either_give, s_either_ask, s_either_print, s_either_again, s_either_call, s_again_note, s_again_copy, s_again_give, s_again_ask, s_again_print, s_again_either, s_again_call, s_call_note, s_call_copy, s_call_give, s_call_ask, s_call_print, s_call_either, s_call_again, s_note, s_copy, s_give, s_ask, s_print, s_either, s_again, s_call, i_note, j_note, l_note, i_copy, j_copy, l_copy, i_give, j_give, l_give, i_ask, j_ask, l_ask, i_print, j_print, l_print, i_either, j_either, l_either, i_again, j_again, l_again, i_call, j_call, l_call,
  Nat.reduceAdd, Nat.zero_add, Int.reduceLT, Int.reduceLE, Int.reduceEq, Int.reduceAdd, Int.reduceNeg, Int.reduceSub, cz0, cz1, cz2, cz3, cz4, cz5, cz6, cz7, cz8, cz9, t_tup, t_str, t_int, t_bl, lt0, lt1, lt2, lt3, lt4, lt5, lt6, zl0, zl1, zl2, zl3, zl4, zl5, zl6, zl9, rn2, x51, x52, x53, x54, at4, lkb, fl1, fl2, flstr, flint, flnon, flbl, List.all_cons, List.all_nil, Bool.and_true])
variable {K : PySem.W.Frag} {OC : Addr → Bool}
def noteS (o : Str) (ps : List Str) : Str := o ++ "(" ++ (Txt.join ", " ps ++ ")")
theorem part_note {o : Str} {ps : List Str} (h : nameOk o) : Txt.partition (noteS o ps) "(" = (o, ("(" : Str), Txt.join ", " ps ++ ")") := TL.partition_app tl_open (name_free h (by omega))
theorem part_eqs {x b : Str} (h : nameOk x) : Txt.partition (x ++ " = " ++ b) " = " = (x, (" = " : Str), b) := TL.partition_app tl_eqs (name_free h (by omega))
theorem c_empty : ("" : Str).length = 0 := by decide +kernel
theorem tl_empty : tl "" = [] := by decide +kernel
theorem all_names {i : Nat} {ps : List Str} {σ : DSt} {G : Gh} {Q : List D → Gh → Prop} (hl : ps.length ≤ 1000) (hs : ∀ d, slot (σ.set i (some d)) i = some d) (hp : ∀ x ∈ ps, nameOk x) (h : Q (ps.map fun _ => D.bl true) G) :
    wComp (fun G' => True) (wName i) wYes (wCallF (sp_is_nameG OC) (wCons (wVar i) wNil)) σ (ps.map D.str) [] G Q := by
  refine comp_map (f := fun _ => .bl true) (ps.map D.str) [] True.intro (by simp only [List.length_nil, List.length_map]; rw [sizeLine_eq]; omega) (fun d hd Q' hq => ?_) (by rw [List.nil_append, List.map_map]; exact h)
  obtain ⟨x, hx, rfl⟩ := List.mem_map.mp hd
  show match slot (σ.set i (some (D.str x))) i with | some d => _ | none => False
  rw [hs]
  exact ⟨_, rfl, rfl, by rw [nameB_str.mpr (hp x hx)]; exact hq⟩
def sp_note_told : DSp := fun ds G Q _ => ∃ (x o : Str) (ps : List Str), ds = [.str x, .str (noteS o ps)] ∧ nameOk o ∧ ps.length ≤ 3 ∧ (∀ y ∈ ps, nameOk y) ∧ Q (.tup [.str "note", .str x, .str o, .tup (ps.map .str)]) G
theorem v_note_told {ds : List D} {G : Gh} {Q : DQ} {E : DXq} (h : sp_note_told ds G Q E) : W_note_told (sp_is_nameG OC) (endsOf K Q) (dstart N_note_told ds) G := by
  obtain ⟨x, o, ps, rfl, ho, hl, hp, q⟩ := h
  show W_note_told (sp_is_nameG OC) (endsOf K Q) [some (.str x), some (.str (noteS o ps)), none, none, none, none, none] G
  have hz := sizeLine_eq
  have hj := (join_len ps fun y hy => (hp y hy).2.1).1
  have h8 := ho.2.1
  unfold W_note_told
  try trivial
  simp only [part_note ho]
  have elast : tl (Txt.join ", " ps ++ ")") = tl (Txt.join ", " ps) ++ [41] := by rw [tl_append, tl_close]
  refine ⟨by rw [c_open]; decide, by omega, by rw [c_open]; omega, by rw [len_add, c_close]; omega, ?_⟩
  try trivial
  refine ⟨_, rfl, rfl, ?_⟩
  rw [nameB_str.mpr ho]
  try trivial
  simp only [str_ne (a := "(") (b := "") (by rw [tl_open, tl_empty]; decide), str_eq (a := cutS (Txt.join ", " ps ++ ")") (some (-1)) none) (b := ")") (by rw [cut_last elast, tl_close])]
  try trivial
  cases ps with
  | nil =>
    simp only [str_eq (a := Txt.join ", " [] ++ ")") (b := ")") (by rw [tl_append, tl_join2]; rfl)]
    try trivial
    exact ⟨[], [], rfl, rfl, rt_here q⟩
  | cons p r =>
    have hne : tl (Txt.join ", " (p :: r)) ≠ [] := by
      rw [tl_join2]
      have := name_ne (hp p List.mem_cons_self)
      cases r with
      | nil => exact this
      | cons y r => intro z; exact this (List.append_eq_nil_iff.mp z).1
    simp only [str_ne (a := Txt.join ", " (p :: r) ++ ")") (b := ")") (by
      rw [elast, tl_close]
      intro z
      have := congrArg List.length z
      rw [List.length_append] at this
      exact hne (List.length_eq_zero_iff.mp (by simpa using this)))]
    try trivial
    have e1 : cutS (Txt.join ", " (p :: r) ++ ")") none (some (-1)) = Txt.join ", " (p :: r) := ext_tl (cut_but elast)
    have e2 : Txt.split (Txt.join ", " (p :: r)) ", " = p :: r := TL.split_join tl_comma (by decide +kernel) (by simp) fun y hy => name_free (hp y hy) (by omega)
    simp only [e1, e2]
    refine ⟨by rw [c_comma]; decide, by omega, by omega, fun z hz => by have := (hp z hz).2.1; omega, ?_⟩
    try trivial
    rw [List.length_map, decide_eq_false (show ¬ (3 : Int) < (((p :: r).length : Nat) : Int) by omega)]
    refine all_names (by omega) (fun _ => rfl) hp ?_
    refine ⟨_, _, rfl, blsOf_map' (fun _ => true) (p :: r), ?_⟩
    rw [all_id_map, show ((p :: r).all fun _ => true) = true from List.all_eq_true.mpr fun _ _ => rfl]
    exact rt_here q
theorem txt_note (x o : Str) (ps : List Str) : (PR.note x o ps).txt = x ++ " = " ++ noteS o ps := ext_tl (by simp only [PR.txt, noteS, tl_append, List.append_assoc])
def sp_row_told (NS : List Str) : DSp := fun ds G Q _ => ∃ r : PR, ds = [.str r.txt] ∧ r.ok NS ∧ Q r.toD G
theorem in_ask : inF (.str "ask") [.str "ask", .str "print"] = true ∧ inF (.str "print") [.str "ask", .str "print"] = true := by decide +kernel
theorem nameB_no {x : Str} {s : Nat} (h : s ∈ tl x) (hs : s < 97 ∨ 122 < s) : nameB (.str x) = false := by
  cases e : nameB (.str x) with
  | false => rfl
  | true => exact (name_free (nameB_str.mp e) hs h).elim
/-- ask x, print x: no " = " in it -/
theorem part_none {w x : Str} (hw : nameOk w) (hx : nameOk x) : Txt.partition (w ++ " " ++ x) " = " = (w ++ " " ++ x, Str.empty, Str.empty) := by
  rw [TL.partition_par _ _ (by rw [tl_eqs]; simp), tl_append, tl_append, tl_eqs, tl_blank]
  have hpar : TL.par [32, 61, 32] [] (tl w ++ [32] ++ tl x) = none := by
    refine TL.par_none fun i hi => ?_
    rw [List.append_assoc]
    cases e : TL.pre [32, 61, 32] ((tl w ++ ([32] ++ tl x)).drop i) with
    | false => rfl
    | true =>
      have e := eq_of_beq e
      by_cases h1 : i < (tl w).length
      · rw [List.drop_append_of_le_length (by omega)] at e
        have hd : ((tl w).drop i) = (tl w)[i] :: (tl w).drop (i + 1) := List.drop_eq_getElem_cons h1
        rw [hd] at e
        simp only [List.length_cons, List.length_nil, List.cons_append, List.take_succ_cons] at e
        injection e with e1 _
        exact (name_free hw (s := 32) (by omega) (e1 ▸ List.getElem_mem h1)).elim
      · obtain ⟨j, rfl⟩ : ∃ j, i = (tl w).length + j := ⟨i - (tl w).length, by omega⟩
        rw [List.drop_append] at e
        rw [show (tl w).drop ((tl w).length + j) = [] from List.drop_eq_nil_of_le (by omega), List.nil_append, show (tl w).length + j - (tl w).length = j by omega] at e
        have hm : 61 ∈ List.take [32, 61, 32].length (([32] ++ tl x).drop j) := by rw [e]; simp
        have hm := List.mem_of_mem_drop (List.mem_of_mem_take hm)
        rcases List.mem_append.mp hm with hm | hm
        · simp at hm
        · exact (name_free hx (by omega) hm).elim
  rw [hpar]
theorem part_blank {w x : Str} (hw : nameOk w) : Txt.partition (w ++ " " ++ x) " " = (w, (" " : Str), x) := TL.partition_app tl_blank (name_free hw (by omega))
theorem nm_ask : nameOk "ask" := by unfold nameOk; decide +kernel
theorem nm_print : nameOk "print" := by unfold nameOk; decide +kernel
theorem v_row_told {NS : List Str} {ds : List D} {G : Gh} {Q : DQ} {E : DXq} (h : sp_row_told NS ds G Q E) : W_row_told sp_int_told (sp_is_nameG OC) sp_note_told (endsOf K Q) (dstart N_row_told ds) G := by
  obtain ⟨r, rfl, ok, q⟩ := h
  show W_row_told sp_int_told (sp_is_nameG OC) sp_note_told (endsOf K Q) [some (.str r.txt), none, none, none, none, none] G
  have hz := sizeLine_eq
  have hn : ∀ x, x ∈ r.names → nameOk x := fun x hx => (ok.1 x hx).1
  have hne : decide ((" = " : Str) = "") = false := str_ne (by rw [tl_eqs, tl_empty]; decide)
  unfold W_row_told
  try trivial
  cases r with
  | note x o ps =>
    have hx := hn x List.mem_cons_self
    have ho := ok.2.1
    have hl : ps.length ≤ 3 := ok.2.2
    have hps : ∀ y ∈ ps, nameOk y := fun y hy => hn y (List.mem_cons_of_mem _ hy)
    have hj := (join_len ps fun y hy => (hps y hy).2.1).1
    have h40 : 40 ∈ tl (noteS o ps) := by unfold noteS; rw [tl_append, tl_append, tl_open]; simp
    have hlen : (noteS o ps).length ≤ 40 := by
      have := ho.2.1
      unfold noteS
      simp only [len_add, c_open, c_close]
      omega
    have h8 := hx.2.1
    rw [txt_note]
    simp only [part_eqs hx, hne]
    refine ⟨by rw [c_eqs]; decide, by omega, by rw [c_eqs]; omega, by omega, ?_⟩
    try trivial
    refine ⟨_, rfl, rfl, ?_⟩
    rw [nameB_str.mpr hx]
    try trivial
    refine ⟨_, rfl, rfl, ?_⟩
    rw [nameB_no h40 (by omega)]
    try trivial
    refine ⟨_, rfl, .inr ⟨h40, ?_, by omega, ?_⟩⟩
    · have := name_ne ho
      cases e : tl o with
      | nil => exact (this e).elim
      | cons c r =>
        refine ⟨c, _, by unfold noteS; rw [tl_append, tl_append, e]; rfl, fun z => ?_⟩
        subst z
        exact name_free ho (s := 45) (by omega) (by rw [e]; exact List.mem_cons_self)
    try trivial
    exact ⟨x, o, ps, rfl, ho, hl, hps, rt_here q⟩
  | copy x y =>
    have hx := hn x (by simp [PR.names])
    have hy := hn y (by simp [PR.names])
    have h8 := hx.2.1
    have h9 := hy.2.1
    show _
    simp only [PR.txt, part_eqs hx, hne]
    refine ⟨by rw [c_eqs]; decide, by omega, by rw [c_eqs]; omega, by omega, ?_⟩
    try trivial
    refine ⟨_, rfl, rfl, ?_⟩
    rw [nameB_str.mpr hx]
    try trivial
    refine ⟨_, rfl, rfl, ?_⟩
    rw [nameB_str.mpr hy]
    try trivial
    exact rt_here q
  | give x i =>
    have hx := hn x (by simp [PR.names])
    have h8 := hx.2.1
    have h9 := numS_len ok.2
    have hno : nameB (.str (numS i)) = false := by
      cases i with
      | ofNat n =>
        obtain ⟨c, r, e, h1, h2, _⟩ := numL_head n
        exact nameB_no (s := c) (by rw [show tl (numS (Int.ofNat n)) = numL n from numS_nat n, e]; exact List.mem_cons_self) (by omega)
      | negSucc n => exact nameB_no (s := 45) (by rw [numS_neg]; exact List.mem_cons_self) (by omega)
    simp only [PR.txt, part_eqs hx, hne]
    refine ⟨by rw [c_eqs]; decide, by omega, by rw [c_eqs]; omega, by omega, ?_⟩
    try trivial
    refine ⟨_, rfl, rfl, ?_⟩
    rw [nameB_str.mpr hx]
    try trivial
    refine ⟨_, rfl, rfl, ?_⟩
    rw [hno]
    try trivial
    refine ⟨_, rfl, .inl ⟨i, rfl, ok.2, ?_⟩⟩
    try trivial
    exact rt_here q
  | ask x =>
    have hx := hn x (by simp [PR.names])
    have h8 := hx.2.1
    simp only [PR.txt, part_none nm_ask hx, part_blank nm_ask]
    refine ⟨by rw [c_eqs]; decide, by simp only [len_add, c_ask, c_blank]; omega, by show 0 ≤ sizeLine; omega, by show 0 ≤ sizeLine; omega, ?_⟩
    try trivial
    simp only [str_eq (a := Str.empty) (b := "") (by rw [tl_empty]; rfl)]
    try trivial
    refine ⟨by rw [c_blank]; decide, by rw [c_ask]; omega, by rw [c_blank]; omega, by omega, ?_⟩
    try trivial
    refine ⟨_, rfl, rfl, ?_⟩
    rw [nameB_str.mpr hx]
    try trivial
    exact rt_here q
  | prt x =>
    have hx := hn x (by simp [PR.names])
    have h8 := hx.2.1
    simp only [PR.txt, part_none nm_print hx, part_blank nm_print]
    refine ⟨by rw [c_eqs]; decide, by simp only [len_add, c_print, c_blank]; omega, by show 0 ≤ sizeLine; omega, by show 0 ≤ sizeLine; omega, ?_⟩
    try trivial
    simp only [str_eq (a := Str.empty) (b := "") (by rw [tl_empty]; rfl)]
    try trivial
    refine ⟨by rw [c_blank]; decide, by rw [c_print]; omega, by rw [c_blank]; omega, by omega, ?_⟩
    try trivial
    refine ⟨_, rfl, rfl, ?_⟩
    rw [nameB_str.mpr hx]
    try trivial
    exact rt_here q
end P3

/-! V6f: the lines of a block. -/
namespace P3
open PySem PySem.Spec L2 DL
open TL (tl ext_tl tl_append len_tl numL)
local macro_rules | `(tactic| trivial) => `(tactic| simp only [wSeq, wNext, wRet, wIfS, wAsg, wName, wVar, wC, wDrop, wOp, wCall, wCons, wNil, wIf, wB, wNot, wAnd, wOr, wAndV, wOrV, wNotV, wTup, wLst, wLstV, wFor, wISeq, wIRng1, wIRng2, wIEnum, wIStr, wChain, wIsi, wSl, wPart, wNoPart, wCallF, wCallL, wAppend, wExtend, wSetL, wSetD, wPar, wAugI, wGTup, wGCons, wGNil, wDGet, wDIn, wDict, wDictV, wPairs, wLcV, wLc, wYes, wSetF, wFld, wRev, wNeg, wNever, wLoop, wComp, wSortSet, wTry, wRaise, wCallSt, wRetX, wSetX, rEqO, rNeO, wMake, rIntA, rMulA, wTryM, wMixX, wRaise1, wXf, DEnds.off, wMeth, wPop, wTx1, onStr, wSplit, wPartition, wJoin, rSplit, rPartition, rJoin, rIntS, rStr, rMulS, wIEnumL,
  rNe0, DL.rAdd, DL.rSub, DL.rMul, DL.rDiv, DL.rMod, DL.rPow, DL.rI2, DL.rCmpI, DL.rEqB, DL.rIsN, DL.rInS, DL.rIx2, DL.ixSeq, DL.itemsOf, DL.listOf, DL.dictOf, DL.keyOf, DL.goL, DL.goK, DL.goI, DL.objOf, DL.rLenA, DL.rLen, DL.rSum, DL.rAll, DL.rTuple, DL.rList, DL.rAbs, DL.rInt, rKIn, rKGet, rIsBl, rEq0, lst2, gup_same, dwipe, slot_def, at0, at1, at2, at3, atm, cut1, cutAll,
  List.set_cons_zero, List.set_cons_succ, List.getElem?_cons_zero, List.getElem?_cons_succ, List.getElem?_nil, Option.join_some, Option.join_none, List.length_cons, List.length_nil, if_true, if_false, Bool.false_eq_true, reduceIte, Bool.not_true, Bool.not_false, Bool.true_xor, Bool.false_xor, Bool.xor_true, Bool.xor_false, true_and, and_true, reduceCtorEq, decide_true, decide_false, Option.isSome_some, Option.isSome_none, List.cons_append, List.nil_append,
  s_note_copy, s_note_give, s_note_ask, s_note_print, s_note_either, s_note_again, s_note_call, s_copy_note, s_copy_give, s_copy_ask, s_copy_print, s_copy_either, s_copy_again, s_copy_call, s_give_note, s_give_copy, s_give_ask, s_give_print, s_give_either, s_give_again, s_give_call, s_ask_note, s_ask_copy, s_ask_give, s_ask_print, s_ask_either, s_ask_again, s_ask_call, s_print_note, s_print_copy, s_print_give, s_print_ask, s_print_either, s_print_again, s_print_call, s_either_note, s_either_copy, s_either_give, s_either_ask, s_either_print, s_either_again, s_either_call, s_again_note, s_again_copy, s_again_give, s_again_ask, s_again_print, s_again_either, s_again_call, s_call_note, s_call_copy, s_call_give, s_call_ask, s_call_print, s_call_either, s_call_again, s_note, s_copy, s_give, s_ask, s_print, s_either, s_again, s_call, i_note, j_note, l_note, i_copy, j_copy, l_copy, i_give, j_give, l_give, i_ask, j_ask, l_ask, i_print, j_print, l_print, i_either, j_either, l_either, i_again, j_again, l_again, i_call, j_call, l_call,
  Nat.reduceAdd, Nat.zero_add, Int.reduceLT, Int.reduceLE, Int.reduceEq, Int.reduceAdd, Int.reduceNeg, Int.reduceSub, cz0, cz1, cz2, cz3, cz4, cz5, cz6, cz7, cz8, cz9, t_tup, t_str, t_int, t_bl, lt0, lt1, lt2, lt3, lt4, lt5, lt6, zl0, zl1, zl2, zl3, zl4, zl5, zl6, zl9, rn2, x51, x52, x53, x54, at4, lkb, fl1, fl2, flstr, flint, flnon, flbl, List.all_cons, List.all_nil, Bool.and_true])
local macro_rules | `(tactic| get_elem_tactic_trivial) => `(tactic| simp only [wSeq, wNext, wRet, wIfS, wAsg, wName, wVar, wC, wDrop, wOp, wCall, wCons, wNil, wIf, wB, wNot, wAnd, wOr, wAndV, wOrV, wNotV, wTup, wLst, wLstV, wFor, wISeq, wIRng1, wIRng2, wIEnum, wIStr, wChain, wIsi, wSl, wPart, wNoPart, wCallF, wCallL, wAppend, wExtend, wSetL, wSetD, wPar, wAugI, wGTup, wGCons, wGNil, wDGet, wDIn, wDict, wDictV, wPairs, wLcV, wLc, wYes, wSetF, wFld, wRev, wNeg, wNever, wSortSet, wTry, wRaise, wCallSt, wRetX, wSetX, rEqO, rNeO, wMake, rIntA, rMulA, wTryM, wMixX, wRaise1, wXf, DEnds.off, wMeth, wPop, wTx1, onStr, wSplit, wPartition, wJoin, rSplit, rPartition, rJoin, rIntS, rStr, rMulS, wIEnumL,
  rNe0, DL.rAdd, DL.rSub, DL.rMul, DL.rDiv, DL.rMod, DL.rPow, DL.rI2, DL.rCmpI, DL.rEqB, DL.rIsN, DL.rInS, DL.rIx2, DL.ixSeq, DL.itemsOf, DL.listOf, DL.dictOf, DL.keyOf, DL.goL, DL.goK, DL.goI, DL.objOf, DL.rLenA, DL.rLen, DL.rSum, DL.rAll, DL.rTuple, DL.rList, DL.rAbs, DL.rInt, rKIn, rKGet, rIsBl, rEq0, lst2, gup_same, dwipe, slot_def, at0, at1, at2, at3, atm, cut1, cutAll,
  List.set_cons_zero, List.set_cons_succ, List.getElem?_cons_zero, List.getElem?_cons_succ, List.getElem?_nil, Option.join_some, Option.join_none, List.length_cons, List.length_nil, if_true, if_false, Bool.false_eq_true, reduceIte, Bool.not_true, Bool.not_false, Bool.true_xor, Bool.false_xor, Bool.xor_true, Bool.xor_false, true_and, and_true, reduceCtorEq, decide_true, decide_false, Option.isSome_some, Option.isSome_none, List.cons_append, List.nil_append,
  s_note_copy, s_note_give, s_note_ask, s_note_print, s_note_either, s_note_again, s_note_call, s_copy_note, s_copy_give, s_copy_ask, s_copy_print, s_copy_either, s_copy_again, s_copy_call, s_give_note, s_give_copy, s_give_ask, s_give_print, s_give_either, s_give_again, s_give_call, s_ask_note, s_ask_copy, s_ask_give, s_ask_print, s_ask_either, s_ask_again, s_ask_call, s_print_note, s_print_copy, s_print_give, s_print_ask, s_print_either, s_print_again, s_print_call, s_either_note, s_either_copy, s_either_give, s_either_ask, s_either_print, s_either_again, s_either_call, s_again_note, s_again_copy, s_again_give, s_again_ask, s_again_print, s_again_either, s_again_call, s_call_note, s_call_copy, s_call_give, s_call_ask, s_call_print, s_call_either, s_call_again, s_note, s_copy, s_give, s_ask, s_print, s_either, s_again, s_call, i_note, j_note, l_note, i_copy, j_copy, l_copy, i_give, j_give, l_give, i_ask, j_ask, l_ask, i_print, j_print, l_print, i_either, j_either, l_either, i_again, j_again, l_again, i_call, j_call, l_call,
  Nat.reduceAdd, Nat.zero_add, Int.reduceLT, Int.reduceLE, Int.reduceEq, Int.reduceAdd, Int.reduceNeg, Int.reduceSub, cz0, cz1, cz2, cz3, cz4, cz5, cz6, cz7, cz8, cz9, t_tup, t_str, t_int, t_bl, lt0, lt1, lt2, lt3, lt4, lt5, lt6, zl0, zl1, zl2, zl3, zl4, zl5, zl6, zl9, rn2, x51, x52, x53, x54, at4, lkb, fl1, fl2, flstr, flint, flnon, flbl, List.all_cons, List.all_nil, Bool.and_true])
variable {K : PySem.W.Frag} {OC : Addr → Bool}
inductive Bd where
  | row (r : PR) | ei | ag | or_
def Bd.txt : Bd → Str
  | .row r => r.txt
  | .ei => "either"
  | .ag => "again"
  | .or_ => "or"
def bl (n : Nat) : Str := ⟨(List.replicate n 32).toArray⟩
abbrev Ln := Nat × Bd
def lnS (l : Ln) : Str := bl (2 * l.1) ++ l.2.txt
def Blk.lns (d : Nat) : Blk → List Ln
  | .nil => []
  | .pl r t => (d, .row r) :: t.lns d
  | .ei a b t => (d, .ei) :: (a.lns (d + 1) ++ (d, .or_) :: (b.lns (d + 1) ++ t.lns d))
  | .ag a t => (d, .ag) :: (a.lns (d + 1) ++ t.lns d)
where lns (d : Nat) (b : Blk) := Blk.lns d b
abbrev lnsOf (d : Nat) (b : Blk) : List Ln := Blk.lns d b
theorem lns_len : ∀ (b : Blk) (d : Nat), (lnsOf d b).length ≤ 2 * b.size
  | .nil, d => Nat.zero_le _
  | .pl r t, d => by have := lns_len t d; simp only [lnsOf, Blk.lns, Blk.size, List.length_cons] at *; omega
  | .ei a b t, d => by
    have := lns_len t d
    have := lns_len a (d + 1)
    have := lns_len b (d + 1)
    simp only [lnsOf, Blk.lns, Blk.size, List.length_cons, List.length_append] at *; omega
  | .ag a t, d => by
    have := lns_len t d
    have := lns_len a (d + 1)
    simp only [lnsOf, Blk.lns, Blk.size, List.length_cons, List.length_append] at *; omega
def LD (d : Nat) (b : Blk) : List D := (lnsOf d b).map fun l => .str (lnS l)
theorem LD_len (d : Nat) (b : Blk) : (LD d b).length ≤ 2 * b.size := by unfold LD; rw [List.length_map]; exact lns_len b d
theorem LD_pl (d : Nat) (r : PR) (t : Blk) : LD d (.pl r t) = .str (bl (2 * d) ++ r.txt) :: LD d t := rfl
theorem LD_ei (d : Nat) (a b t : Blk) : LD d (.ei a b t) = .str (bl (2 * d) ++ "either") :: (LD (d + 1) a ++ .str (bl (2 * d) ++ "or") :: (LD (d + 1) b ++ LD d t)) := by
  unfold LD; simp only [lnsOf, Blk.lns, List.map_cons, List.map_append]; rfl
theorem LD_ag (d : Nat) (a t : Blk) : LD d (.ag a t) = .str (bl (2 * d) ++ "again") :: (LD (d + 1) a ++ LD d t) := by
  unfold LD; simp only [lnsOf, Blk.lns, List.map_cons, List.map_append]; rfl
theorem bl_len (n : Nat) : (bl n).length = n := by unfold bl; simp [Str.length]
theorem tl_bl (n : Nat) : tl (bl n) = List.replicate n 32 := rfl
theorem tl_two : tl "  " = [32, 32] := by decide +kernel
theorem bl_step (d : Nat) : bl (2 * d) ++ "  " = bl (2 * (d + 1)) := ext_tl (by
  rw [tl_append, tl_bl, tl_bl, tl_two, show 2 * (d + 1) = 2 * d + 2 by omega, ← List.replicate_append_replicate]; rfl)
theorem bl_mul : ∀ d : Nat, d ≤ 5 → Txt.mul "  " (d : Int) = bl (2 * d) := by
  intro d h
  have : ∀ d : Fin 6, Txt.mul "  " ((d.val : Nat) : Int) = bl (2 * d.val) := by decide +kernel
  exact this ⟨d, by omega⟩
theorem c_two : ("  " : Str).length = 2 := by decide +kernel
theorem c_either : ("either" : Str).length = 6 := by decide +kernel
theorem c_again : ("again" : Str).length = 5 := by decide +kernel
theorem c_or : ("or" : Str).length = 2 := by decide +kernel
def sp_lines_of (NS : List Str) (n : Nat) : DSp := fun ds G Q _ => ∃ (b : Blk) (k d : Nat), ds = [b.toD, .str (bl (2 * d))] ∧ b.ok NS k ∧ 4 ≤ k + n ∧ d ≤ k ∧ k ≤ 4 ∧ b.size ≤ 30 ∧ Q (.lst (LD d b)) G
theorem v_lines_of {NS : List Str} {n : Nat} {ds : List D} {G : Gh} {Q : DQ} {E : DXq} (h : sp_lines_of NS n ds G Q E) : W_lines_of (recSp (sp_lines_of NS) n) (sp_text_of NS) (endsOf K Q) (dstart N_lines_of ds) G := by
  obtain ⟨b, k, d, rfl, ok, hn, hd, hk, hs, q⟩ := h
  show W_lines_of (recSp (sp_lines_of NS) n) (sp_text_of NS) (endsOf K Q) [some b.toD, some (.str (bl (2 * d))), none, none] G
  have hz := sizeLine_eq
  unfold W_lines_of
  try trivial
  intro p hp
  have hbl := bl_len (2 * d)
  have hstep := bl_step d
  refine loop_rule (fun items σ G' => ∃ (t : Blk) (xs : List D) (x3 : Option D), items = t.ds ∧ σ = [some b.toD, some (.str (bl (2 * d))), some (.ref p), x3] ∧ G' = gup G p (.lst xs) ∧ t.ok NS k ∧ xs ++ LD d t = LD d b ∧ t.size ≤ 30) ?_ ?_ _ _ _ ⟨b, [], none, rfl, rfl, rfl, ok, rfl, hs⟩
  · rintro σ G' ⟨t, xs, x3, ht, rfl, rfl, _, e, _⟩
    cases t <;> first | cases ht | skip
    have e2 : xs = LD d b := by rw [← e]; exact (List.append_nil xs).symm
    subst e2
    try trivial
    exact ⟨.lst (LD d b), G, .lst gup_same (Sub.refl.up hp) hp, q⟩
  · rintro it its N σ G' hN ⟨t, xs, x3, ht, rfl, rfl, ok', e, hs'⟩
    have hb := LD_len d b
    have hxs : xs.length ≤ 60 := by have := congrArg List.length e; rw [List.length_append] at this; omega
    cases t with
    | nil => cases ht
    | pl r t =>
      cases ht
      simp only [Blk.size] at hs'
      rw [LD_pl] at e
      have htx := txt_len ok'.1
      have fin := fun (x3 : Option D) => hN [some b.toD, some (.str (bl (2 * d))), some (.ref p), x3] (gup G p (.lst (xs ++ [.str (bl (2 * d) ++ r.txt)]))) ⟨t, xs ++ [.str (bl (2 * d) ++ r.txt)], x3, rfl, rfl, rfl, ok'.2, by rw [List.append_assoc]; exact e, by omega⟩
      have ok1 := ok'.1
      have call : ∀ (Q' : DQ) (G1 : Gh), Q' (.str r.txt) G1 → sp_text_of NS [r.toD] G1 Q' noX := fun Q' G1 h => ⟨r, rfl, ok1, h⟩
      cases r <;>
      · unfold PR.toD at fin call ⊢
        try trivial
        refine call _ _ ?_
        try trivial
        refine ⟨by omega, by omega, ?_⟩
        simp only [gup_gup]
        exact fin _
    | ei x y t =>
      cases ht
      obtain ⟨h4, l1, l2, o1, o2, o3⟩ := ok'
      obtain ⟨n, rfl⟩ : ∃ m, n = m + 1 := ⟨n - 1, by omega⟩
      simp only [Blk.size] at hs'
      rw [LD_ei] at e
      have hx := LD_len (d + 1) x
      have hy := LD_len (d + 1) y
      try trivial
      simp only [recSp, recSpB, c_either, c_two, c_or]
      refine ⟨by omega, by omega, by omega, ?_⟩
      refine ⟨x, k + 1, d + 1, by rw [hstep], o1, by omega, by omega, by omega, by omega, ?_⟩
      try trivial
      refine ⟨by first | omega | (simp only [List.length_append, List.length_cons, List.length_nil]; omega), ?_⟩
      refine ⟨by omega, by first | omega | (simp only [List.length_append, List.length_cons, List.length_nil]; omega), by omega, ?_⟩
      refine ⟨y, k + 1, d + 1, by rw [hstep], o2, by omega, by omega, by omega, by omega, ?_⟩
      try trivial
      refine ⟨by first | omega | (simp only [List.length_append, List.length_cons, List.length_nil]; omega), ?_⟩
      simp only [gup_gup]
      exact hN _ _ ⟨t, _, _, rfl, rfl, rfl, o3, by rw [← e]; simp only [List.append_assoc, List.cons_append, List.nil_append], by omega⟩
    | ag x t =>
      cases ht
      obtain ⟨h4, l1, o1, o3⟩ := ok'
      obtain ⟨n, rfl⟩ : ∃ m, n = m + 1 := ⟨n - 1, by omega⟩
      simp only [Blk.size] at hs'
      rw [LD_ag] at e
      have hx := LD_len (d + 1) x
      try trivial
      simp only [recSp, recSpB, c_again, c_two]
      refine ⟨by omega, by omega, by omega, ?_⟩
      refine ⟨x, k + 1, d + 1, by rw [hstep], o1, by omega, by omega, by omega, by omega, ?_⟩
      try trivial
      refine ⟨by first | omega | (simp only [List.length_append, List.length_cons, List.length_nil]; omega), ?_⟩
      simp only [gup_gup]
      exact hN _ _ ⟨t, _, _, rfl, rfl, rfl, o3, by rw [← e]; simp only [List.append_assoc, List.cons_append, List.nil_append], by omega⟩
/-! the law's own lines -/
def sp_llines (NS : List Str) (n : Nat) : DSp := fun ds G Q _ => ∃ (b : Blk) (k d : Nat), ds = [b.toD, .int (d : Int)] ∧ b.ok NS k ∧ 4 ≤ k + n ∧ d ≤ k ∧ k ≤ 4 ∧ b.size ≤ 30 ∧ Q (.lst (LD d b)) G
theorem v_llines {NS : List Str} {n : Nat} {ds : List D} {G : Gh} {Q : DQ} {E : DXq} (h : sp_llines NS n ds G Q E) : W__law_lines (recSp (sp_llines NS) n) (sp_text_of NS) (endsOf K Q) (dstart N__law_lines ds) G := by
  obtain ⟨b, k, d, rfl, ok, hn, hd, hk, hs, q⟩ := h
  show W__law_lines (recSp (sp_llines NS) n) (sp_text_of NS) (endsOf K Q) [some b.toD, some (.int (d : Int)), none, none] G
  have hz := sizeLine_eq
  unfold W__law_lines
  try trivial
  intro p hp
  have hbl := bl_len (2 * d)
  have hmul := bl_mul d (by omega)
  refine loop_rule (fun items σ G' => ∃ (t : Blk) (xs : List D) (x3 : Option D), items = t.ds ∧ σ = [some b.toD, some (.int (d : Int)), some (.ref p), x3] ∧ G' = gup G p (.lst xs) ∧ t.ok NS k ∧ xs ++ LD d t = LD d b ∧ t.size ≤ 30) ?_ ?_ _ _ _ ⟨b, [], none, rfl, rfl, rfl, ok, rfl, hs⟩
  · rintro σ G' ⟨t, xs, x3, ht, rfl, rfl, _, e, _⟩
    cases t <;> first | cases ht | skip
    have e2 : xs = LD d b := by rw [← e]; exact (List.append_nil xs).symm
    subst e2
    try trivial
    exact ⟨.lst (LD d b), G, .lst gup_same (Sub.refl.up hp) hp, q⟩
  · rintro it its N σ G' hN ⟨t, xs, x3, ht, rfl, rfl, ok', e, hs'⟩
    have hb := LD_len d b
    have hxs : xs.length ≤ 60 := by have := congrArg List.length e; rw [List.length_append] at this; omega
    cases t with
    | nil => cases ht
    | pl r t =>
      cases ht
      simp only [Blk.size] at hs'
      rw [LD_pl] at e
      have htx := txt_len ok'.1
      have fin := fun (x3 : Option D) => hN [some b.toD, some (.int (d : Int)), some (.ref p), x3] (gup G p (.lst (xs ++ [.str (bl (2 * d) ++ r.txt)]))) ⟨t, xs ++ [.str (bl (2 * d) ++ r.txt)], x3, rfl, rfl, rfl, ok'.2, by rw [List.append_assoc]; exact e, by omega⟩
      have ok1 := ok'.1
      have call : ∀ (Q' : DQ) (G1 : Gh), Q' (.str r.txt) G1 → sp_text_of NS [r.toD] G1 Q' noX := fun Q' G1 h => ⟨r, rfl, ok1, h⟩
      cases r <;>
      · unfold PR.toD at fin call ⊢
        try trivial
        simp only [hmul, c_two]
        refine ⟨by omega, by omega, by omega, by omega, call _ _ ?_⟩
        try trivial
        refine ⟨by omega, by omega, ?_⟩
        simp only [gup_gup]
        exact fin _
    | ei x y t =>
      cases ht
      obtain ⟨h4, l1, l2, o1, o2, o3⟩ := ok'
      obtain ⟨n, rfl⟩ : ∃ m, n = m + 1 := ⟨n - 1, by omega⟩
      simp only [Blk.size] at hs'
      rw [LD_ei] at e
      have hx := LD_len (d + 1) x
      have hy := LD_len (d + 1) y
      try trivial
      simp only [recSp, recSpB, hmul, c_either, c_two, c_or]
      refine ⟨by omega, by omega, by omega, by omega, by omega, by omega, ?_⟩
      refine ⟨x, k + 1, d + 1, rfl, o1, by omega, by omega, by omega, by omega, ?_⟩
      try trivial
      refine ⟨by omega, by omega, by omega, by omega, by omega, by first | omega | (simp only [List.length_append, List.length_cons, List.length_nil]; omega), ?_⟩
      refine ⟨y, k + 1, d + 1, rfl, o2, by omega, by omega, by omega, by omega, ?_⟩
      try trivial
      refine ⟨by first | omega | (simp only [List.length_append, List.length_cons, List.length_nil]; omega), by first | omega | (simp only [List.length_append, List.length_cons, List.length_nil]; omega), ?_⟩
      simp only [gup_gup]
      exact hN _ _ ⟨t, _, _, rfl, rfl, rfl, o3, by rw [← e]; simp only [List.append_assoc, List.cons_append, List.nil_append], by omega⟩
    | ag x t =>
      cases ht
      obtain ⟨h4, l1, o1, o3⟩ := ok'
      obtain ⟨n, rfl⟩ : ∃ m, n = m + 1 := ⟨n - 1, by omega⟩
      simp only [Blk.size] at hs'
      rw [LD_ag] at e
      have hx := LD_len (d + 1) x
      try trivial
      simp only [recSp, recSpB, hmul, c_again, c_two]
      refine ⟨by omega, by omega, by omega, by omega, by omega, by omega, ?_⟩
      refine ⟨x, k + 1, d + 1, rfl, o1, by omega, by omega, by omega, by omega, ?_⟩
      try trivial
      refine ⟨by first | omega | (simp only [List.length_append, List.length_cons, List.length_nil]; omega), ?_⟩
      simp only [gup_gup]
      exact hN _ _ ⟨t, _, _, rfl, rfl, rfl, o3, by rw [← e]; simp only [List.append_assoc, List.cons_append, List.nil_append], by omega⟩
/-! the text of a program -/
theorem tl_nl : tl "\n" = [10] := by decide +kernel
theorem c_nl : ("\n" : Str).length = 1 := by decide +kernel
def txtOf (b : Blk) : Str := Txt.join "" ((lnsOf 0 b).map fun l => lnS l ++ "\n")
def LnOk (NS : List Str) (l : Ln) : Prop := l.1 ≤ 4 ∧ ∀ r, l.2 = .row r → r.ok NS
theorem lns_ok {NS : List Str} : ∀ (b : Blk) (d k : Nat), b.ok NS k → d ≤ k → k ≤ 4 → ∀ l ∈ lnsOf d b, LnOk NS l
  | .nil, _, _, _, _, _ => fun _ h => by cases h
  | .pl r t, d, k, ok, hd, hk => fun l hl => by
    rcases List.mem_cons.mp hl with rfl | hl
    · exact ⟨by simp only; omega, fun r' e => by cases e; exact ok.1⟩
    · exact lns_ok t d k ok.2 hd hk l hl
  | .ei a b t, d, k, ⟨h4, _, _, o1, o2, o3⟩, hd, hk => fun l hl => by
    rcases List.mem_cons.mp hl with rfl | hl
    · exact ⟨by simp only; omega, fun r' e => by cases e⟩
    · rcases List.mem_append.mp hl with hl | hl
      · exact lns_ok a (d + 1) (k + 1) o1 (by omega) (by omega) l hl
      · rcases List.mem_cons.mp hl with rfl | hl
        · exact ⟨by simp only; omega, fun r' e => by cases e⟩
        · rcases List.mem_append.mp hl with hl | hl
          · exact lns_ok b (d + 1) (k + 1) o2 (by omega) (by omega) l hl
          · exact lns_ok t d k o3 hd hk l hl
  | .ag a t, d, k, ⟨h4, _, o1, o3⟩, hd, hk => fun l hl => by
    rcases List.mem_cons.mp hl with rfl | hl
    · exact ⟨by simp only; omega, fun r' e => by cases e⟩
    · rcases List.mem_append.mp hl with hl | hl
      · exact lns_ok a (d + 1) (k + 1) o1 (by omega) (by omega) l hl
      · exact lns_ok t d k o3 hd hk l hl
theorem lnS_len {NS : List Str} {l : Ln} (h : LnOk NS l) : (lnS l).length ≤ 88 := by
  obtain ⟨d, x⟩ := l
  have h1 : d ≤ 4 := h.1
  have e : (lnS (d, x)).length = 2 * d + x.txt.length := by show (bl (2 * d) ++ x.txt).length = _; rw [len_add, bl_len]
  rw [e]
  cases x with
  | row r => have := txt_len (h.2 r rfl); show 2 * d + r.txt.length ≤ 88; omega
  | ei => show 2 * d + ("either" : Str).length ≤ 88; rw [c_either]; omega
  | ag => show 2 * d + ("again" : Str).length ≤ 88; rw [c_again]; omega
  | or_ => show 2 * d + ("or" : Str).length ≤ 88; rw [c_or]; omega
theorem tl_joinE (ps : List Str) : tl (Txt.join "" ps) = (ps.map tl).flatten := by
  rw [TL.join_eq, TL.tl_join, tl_empty]
  have : ∀ l : List (List Nat), TL.joinL [] l = l.flatten := by
    intro l
    induction l with
    | nil => rfl
    | cons x l ih =>
      cases l with
      | nil => simp [TL.joinL]
      | cons y l => show x ++ ([] ++ TL.joinL [] (y :: l)) = _; rw [ih]; simp
  exact this _
theorem joinE_len : ∀ (ps : List Str) (m : Nat), (∀ x ∈ ps, x.length ≤ m) → (ps.map (·.length)).sum ≤ ps.length * m ∧ (Txt.join "" ps).length ≤ ps.length * m
  | [], m, _ => by
    refine ⟨by simp, ?_⟩
    rw [len_tl, tl_joinE]; simp
  | x :: ps, m, h => by
    obtain ⟨a, b⟩ := joinE_len ps m fun y hy => h y (List.mem_cons_of_mem _ hy)
    have := h x List.mem_cons_self
    rw [len_tl, tl_joinE] at b
    refine ⟨by rw [List.map_cons, List.sum_cons, List.length_cons, Nat.succ_mul]; omega, ?_⟩
    rw [len_tl, tl_joinE, List.map_cons, List.flatten_cons, List.length_append, ← len_tl, List.length_cons, Nat.succ_mul]
    omega
theorem txt_bounds {NS : List Str} {b : Blk} (ok : b.ok NS 1) (hs : b.size ≤ 30) : (((lnsOf 0 b).map fun l => lnS l ++ "\n").map (·.length)).sum ≤ 6000 ∧ (txtOf b).length ≤ 6000 := by
  have hl := lns_len b 0
  have hm : ((lnsOf 0 b).map fun l => lnS l ++ "\n").length * 100 ≤ 6000 := by rw [List.length_map]; omega
  obtain ⟨h1, h2⟩ := joinE_len ((lnsOf 0 b).map fun l => lnS l ++ "\n") 100 fun x hx => by
    obtain ⟨l, hl, rfl⟩ := List.mem_map.mp hx
    have := lnS_len (lns_ok b 0 1 ok (by omega) (by omega) l hl)
    rw [len_add, c_nl]; omega
  exact ⟨Nat.le_trans h1 hm, Nat.le_trans h2 hm⟩
/-- [line + "\n" for line in ..] -/
theorem nl_comp {NS : List Str} {b : Blk} {i : Nat} {σ : DSt} {G : Gh} {Q : List D → Gh → Prop} (ok : b.ok NS 1) (hs : b.size ≤ 30) (hsl : ∀ d, slot (σ.set i (some d)) i = some d) (h : Q (((lnsOf 0 b).map fun l => lnS l ++ "\n").map D.str) G) :
    wComp (fun _ => True) (wName i) wYes (wOp DL.rAdd (wVar i) (wC (.str "\n"))) σ (LD 0 b) [] G Q := by
  have hz := sizeLine_eq
  have hl := LD_len 0 b
  refine comp_map (f := fun d => match d with | .str z => .str (z ++ "\n") | _ => .non) (LD 0 b) [] True.intro (by simp only [List.length_nil]; omega) (fun d hd Q' hq => ?_) ?_
  · obtain ⟨l, hl, rfl⟩ := List.mem_map.mp hd
    have := lnS_len (lns_ok b 0 1 ok (by omega) (by omega) l hl)
    show match slot (σ.set i (some (D.str (lnS l)))) i with | some d => _ | none => False
    rw [hsl]
    exact ⟨by rw [c_nl]; omega, hq⟩
  · rw [List.nil_append]
    have e : (LD 0 b).map (fun d => match d with | .str z => D.str (z ++ "\n") | _ => .non) = ((lnsOf 0 b).map fun l => lnS l ++ "\n").map D.str := by
      unfold LD; rw [List.map_map, List.map_map]; rfl
    rw [e]; exact h
def sp_ptext (NS : List Str) (C : Addr) : DSp := fun ds G Q _ => ∃ b : Blk, ds = [prg C b] ∧ b.ok NS 1 ∧ b.size ≤ 30 ∧ Q (.str (txtOf b)) G
theorem bl_zero : ("" : Str) = bl (2 * 0) := by decide +kernel
theorem v_ptext {C : Addr} {NS : List Str} {ds : List D} {G : Gh} {Q : DQ} {E : DXq} (h : sp_ptext NS C ds G Q E) : W_program_text C (sp_lines_of NS 3) (endsOf K Q) (dstart N_program_text ds) G := by
  obtain ⟨b, rfl, ok, hs, q⟩ := h
  show W_program_text C (sp_lines_of NS 3) (endsOf K Q) [some (prg C b), none] G
  have hz := sizeLine_eq
  obtain ⟨h1, h2⟩ := txt_bounds ok hs
  have hl := lns_len b 0
  unfold W_program_text prg
  try trivial
  refine ⟨b, 1, 0, by rw [← bl_zero], ok, by omega, by omega, by omega, hs, ?_⟩
  try trivial
  refine nl_comp ok hs (fun _ => rfl) ?_
  refine ⟨_, _, rfl, strsOf_map _, by rw [c_empty]; omega, ?_, rt_here q⟩
  show (txtOf b).length ≤ sizeLine
  omega
end P3

/-! V6g: the reader as plain steps. -/
namespace P3
open PySem PySem.Spec L2 DL
inductive WK where
  | all | ei | ag | or_
  deriving DecidableEq
def WK.txt : WK → Str
  | .all => "all" | .ei => "either" | .ag => "again" | .or_ => "or"
structure Lv where
  w : WK
  rows : List D
  first : D
/-- the top first -/
abbrev Stk := List Lv
def closeRow (l : Lv) : D := if l.w = .ag then .tup [.str "again", .tup l.rows] else .tup [.str "either", l.first, .tup l.rows]
def Lv.put (u : Lv) (ds : List D) : Lv := { u with rows := u.rows ++ ds }
theorem Lv.put_put (u : Lv) (a b : List D) : (u.put a).put b = u.put (a ++ b) := by unfold Lv.put; simp [List.append_assoc]
theorem Lv.put_nil (u : Lv) : u.put [] = u := by unfold Lv.put; simp
inductive Shr (m : Nat) : Stk → Stk → Prop
  | done {s : Stk} (h : s.length ≤ m) : Shr m s s
  | pop {l u : Lv} {r s' : Stk} (h : m < (l :: u :: r).length) (hw : l.w = .ag ∨ l.w = .or_) (t : Shr m (u.put [closeRow l] :: r) s') : Shr m (l :: u :: r) s'
theorem Shr.len {m : Nat} {s s' : Stk} (h : Shr m s s') : s'.length ≤ s.length ∧ s'.length ≤ m := by
  induction h with
  | done h => exact ⟨Nat.le_refl _, h⟩
  | pop h hw t ih => simp only [List.length_cons] at *; omega
/-- further up -/
theorem Shr.up {m n : Nat} {s t u : Stk} (h : Shr m s t) (hn : n ≤ m) (k : Shr n t u) : Shr n s u := by
  induction h with
  | done _ => exact k
  | pop h hw _ ih => exact .pop (by omega) hw (ih k)
/-- how much stands in it at most -/
def Bn (n : Nat) (s : Stk) : Prop := ∀ l ∈ s, l.rows.length + s.length ≤ n
theorem Bn.pop {n : Nat} {l u : Lv} {r : Stk} {d : D} (h : Bn n (l :: u :: r)) : Bn n (u.put [d] :: r) := fun x hx => by
  rcases List.mem_cons.mp hx with rfl | hx
  · have := h u (by simp)
    simp only [Lv.put, List.length_append, List.length_cons, List.length_nil] at *; omega
  · have := h x (by simp [hx])
    simp only [List.length_cons] at *; omega
theorem Shr.bn {m n : Nat} {s s' : Stk} (h : Shr m s s') (b : Bn n s) : Bn n s' := by
  induction h with
  | done h => exact b
  | pop h hw t ih => exact ih b.pop
theorem Bn.put {n : Nat} {u : Lv} {r : Stk} {d : D} (h : Bn n (u :: r)) : Bn (n + 1) (u.put [d] :: r) := fun x hx => by
  rcases List.mem_cons.mp hx with rfl | hx
  · have := h u (by simp)
    simp only [Lv.put, List.length_append, List.length_cons, List.length_nil] at *; omega
  · have := h x (by simp [hx])
    simp only [List.length_cons] at *; omega
theorem Bn.push {n : Nat} {s : Stk} {l : Lv} (h : Bn n s) (hs : s.length ≤ n) (hl : l.rows = []) : Bn (n + 1) (l :: s) := fun x hx => by
  rcases List.mem_cons.mp hx with rfl | hx
  · rw [hl]; simp only [List.length_cons, List.length_nil]; omega
  · have := h x hx
    simp only [List.length_cons] at *; omega
theorem Bn.tail {n : Nat} {s : Stk} {l : Lv} (h : Bn n (l :: s)) : Bn n s := fun x hx => by
  have := h x (by simp [hx])
  simp only [List.length_cons] at *; omega
theorem Bn.le {n m : Nat} {s : Stk} (h : Bn n s) (k : n ≤ m) : Bn m s := fun x hx => Nat.le_trans (h x hx) k
/-- one line -/
inductive Stp : Stk → Ln → Stk → Prop
  | row {s r : Stk} {u : Lv} {d : Nat} {x : PR} (hl : d + 1 ≤ s.length) (h : Shr (d + 1) s (u :: r)) : Stp s (d, .row x) (u.put [x.toD] :: r)
  | ei {s s' : Stk} {d : Nat} (hl : d + 1 ≤ s.length) (h : Shr (d + 1) s s') : Stp s (d, .ei) (⟨.ei, [], .non⟩ :: s')
  | ag {s s' : Stk} {d : Nat} (hl : d + 1 ≤ s.length) (h : Shr (d + 1) s s') : Stp s (d, .ag) (⟨.ag, [], .non⟩ :: s')
  | or_ {s r : Stk} {l : Lv} {d : Nat} (hl : d + 2 ≤ s.length) (h : Shr (d + 2) s (l :: r)) (hw : l.w = .ei) : Stp s (d, .or_) (⟨.or_, [], .tup l.rows⟩ :: r)
inductive Runs : Stk → List Ln → Stk → Prop
  | nil {s : Stk} : Runs s [] s
  | cons {s t u : Stk} {l : Ln} {ls : List Ln} (h : Stp s l t) (k : Runs t ls u) : Runs s (l :: ls) u
theorem Runs.app {s t u : Stk} {a b : List Ln} (h : Runs s a t) (k : Runs t b u) : Runs s (a ++ b) u := by
  induction h with
  | nil => exact k
  | cons h _ ih => exact .cons h (ih k)
/-- the lines of a block: it stands in the level where it began -/
theorem runs_blk : ∀ (b : Blk) (d : Nat) (s r : Stk) (u : Lv), r.length = d → Shr (d + 1) s (u :: r) → ∃ s', Runs s (lnsOf d b) s' ∧ Shr (d + 1) s' (u.put b.ds :: r)
  | .nil, d, s, r, u, hr, h => ⟨s, .nil, by rw [show Blk.nil.ds = [] from rfl, Lv.put_nil]; exact h⟩
  | .pl x t, d, s, r, u, hr, h => by
    have hl := h.len.1
    obtain ⟨s', h1, h2⟩ := runs_blk t d (u.put [x.toD] :: r) r (u.put [x.toD]) hr (.done (by simp only [List.length_cons]; omega))
    refine ⟨s', .cons (.row (by simp only [List.length_cons] at hl; omega) h) h1, ?_⟩
    rw [Lv.put_put] at h2
    exact h2
  | .ei a b t, d, s, r, u, hr, h => by
    have hl := h.len.1
    simp only [List.length_cons] at hl
    obtain ⟨s2, h1, h2⟩ := runs_blk a (d + 1) (⟨.ei, [], .non⟩ :: u :: r) (u :: r) ⟨.ei, [], .non⟩ (by simp only [List.length_cons]; omega) (.done (by simp only [List.length_cons]; omega))
    have l2 := h2.len.1
    simp only [List.length_cons] at l2
    obtain ⟨s4, h3, h4⟩ := runs_blk b (d + 1) (⟨.or_, [], .tup a.ds⟩ :: u :: r) (u :: r) ⟨.or_, [], .tup a.ds⟩ (by simp only [List.length_cons]; omega) (.done (by simp only [List.length_cons]; omega))
    have h5 : Shr (d + 1) s4 (u.put [.tup [.str "either", .tup a.ds, .tup b.ds]] :: r) := h4.up (by omega) (.pop (by simp only [List.length_cons]; omega) (.inr rfl) (.done (by simp only [List.length_cons]; omega)))
    obtain ⟨s6, h6, h7⟩ := runs_blk t d s4 r (u.put [.tup [.str "either", .tup a.ds, .tup b.ds]]) hr h5
    refine ⟨s6, ?_, by rw [Lv.put_put] at h7; exact h7⟩
    exact .cons (.ei (by omega) h) (h1.app (.cons (.or_ (by omega) h2 rfl) (h3.app h6)))
  | .ag a t, d, s, r, u, hr, h => by
    have hl := h.len.1
    simp only [List.length_cons] at hl
    obtain ⟨s2, h1, h2⟩ := runs_blk a (d + 1) (⟨.ag, [], .non⟩ :: u :: r) (u :: r) ⟨.ag, [], .non⟩ (by simp only [List.length_cons]; omega) (.done (by simp only [List.length_cons]; omega))
    have h5 : Shr (d + 1) s2 (u.put [.tup [.str "again", .tup a.ds]] :: r) := h2.up (by omega) (.pop (by simp only [List.length_cons]; omega) (.inl rfl) (.done (by simp only [List.length_cons]; omega)))
    obtain ⟨s6, h6, h7⟩ := runs_blk t d s2 r (u.put [.tup [.str "again", .tup a.ds]]) hr h5
    exact ⟨s6, .cons (.ag (by omega) h) (h1.app h6), by rw [Lv.put_put] at h7; exact h7⟩
end P3

/-! V6h: the reader's objects; Level(..), Lines(), shrink. -/
namespace P3
open PySem PySem.Spec L2 DL
local macro_rules | `(tactic| trivial) => `(tactic| simp only [wSeq, wNext, wRet, wIfS, wAsg, wName, wVar, wC, wDrop, wOp, wCall, wCons, wNil, wIf, wB, wNot, wAnd, wOr, wAndV, wOrV, wNotV, wTup, wLst, wLstV, wFor, wISeq, wIRng1, wIRng2, wIEnum, wIStr, wChain, wIsi, wSl, wPart, wNoPart, wCallF, wCallL, wAppend, wExtend, wSetL, wSetD, wPar, wAugI, wGTup, wGCons, wGNil, wDGet, wDIn, wDict, wDictV, wPairs, wLcV, wLc, wYes, wSetF, wFld, wRev, wNeg, wNever, wLoop, wComp, wSortSet, wTry, wRaise, wCallSt, wRetX, wSetX, rEqO, rNeO, wMake, rIntA, rMulA, wTryM, wMixX, wRaise1, wXf, DEnds.off, wMeth, wPop, wTx1, onStr, wSplit, wPartition, wJoin, rSplit, rPartition, rJoin, rIntS, rStr, rMulS, wIEnumL,
  rNe0, DL.rAdd, DL.rSub, DL.rMul, DL.rDiv, DL.rMod, DL.rPow, DL.rI2, DL.rCmpI, DL.rEqB, DL.rIsN, DL.rInS, DL.rIx2, DL.ixSeq, DL.itemsOf, DL.listOf, DL.dictOf, DL.keyOf, DL.goL, DL.goK, DL.goI, DL.objOf, DL.rLenA, DL.rLen, DL.rSum, DL.rAll, DL.rTuple, DL.rList, DL.rAbs, DL.rInt, rKIn, rKGet, rIsBl, rEq0, lst2, gup_same, dwipe, slot_def, at0, at1, at2, at3, atm, cut1, cutAll,
  List.set_cons_zero, List.set_cons_succ, List.getElem?_cons_zero, List.getElem?_cons_succ, List.getElem?_nil, Option.join_some, Option.join_none, List.length_cons, List.length_nil, if_true, if_false, Bool.false_eq_true, reduceIte, Bool.not_true, Bool.not_false, Bool.true_xor, Bool.false_xor, Bool.xor_true, Bool.xor_false, true_and, and_true, reduceCtorEq, decide_true, decide_false, Option.isSome_some, Option.isSome_none, List.cons_append, List.nil_append,
  s_note_copy, s_note_give, s_note_ask, s_note_print, s_note_either, s_note_again, s_note_call, s_copy_note, s_copy_give, s_copy_ask, s_copy_print, s_copy_either, s_copy_again, s_copy_call, s_give_note, s_give_copy, s_give_ask, s_give_print, s_give_either, s_give_again, s_give_call, s_ask_note, s_ask_copy, s_ask_give, s_ask_print, s_ask_either, s_ask_again, s_ask_call, s_print_note, s_print_copy, s_print_give, s_print_ask, s_print_either, s_print_again, s_print_call, s_either_note, s_either_copy, s_either_give, s_either_ask, s_either_print, s_either_again, s_either_call, s_again_note, s_again_copy, s_again_give, s_again_ask, s_again_print, s_again_either, s_again_call, s_call_note, s_call_copy, s_call_give, s_call_ask, s_call_print, s_call_either, s_call_again, s_note, s_copy, s_give, s_ask, s_print, s_either, s_again, s_call, i_note, j_note, l_note, i_copy, j_copy, l_copy, i_give, j_give, l_give, i_ask, j_ask, l_ask, i_print, j_print, l_print, i_either, j_either, l_either, i_again, j_again, l_again, i_call, j_call, l_call,
  Nat.reduceAdd, Nat.zero_add, Int.reduceLT, Int.reduceLE, Int.reduceEq, Int.reduceAdd, Int.reduceNeg, Int.reduceSub, cz0, cz1, cz2, cz3, cz4, cz5, cz6, cz7, cz8, cz9, t_tup, t_str, t_int, t_bl, lt0, lt1, lt2, lt3, lt4, lt5, lt6, zl0, zl1, zl2, zl3, zl4, zl5, zl6, zl9, rn2, x51, x52, x53, x54, at4, lkb, fl1, fl2, flstr, flint, flnon, flbl, List.all_cons, List.all_nil, Bool.and_true])
local macro_rules | `(tactic| get_elem_tactic_trivial) => `(tactic| simp only [wSeq, wNext, wRet, wIfS, wAsg, wName, wVar, wC, wDrop, wOp, wCall, wCons, wNil, wIf, wB, wNot, wAnd, wOr, wAndV, wOrV, wNotV, wTup, wLst, wLstV, wFor, wISeq, wIRng1, wIRng2, wIEnum, wIStr, wChain, wIsi, wSl, wPart, wNoPart, wCallF, wCallL, wAppend, wExtend, wSetL, wSetD, wPar, wAugI, wGTup, wGCons, wGNil, wDGet, wDIn, wDict, wDictV, wPairs, wLcV, wLc, wYes, wSetF, wFld, wRev, wNeg, wNever, wSortSet, wTry, wRaise, wCallSt, wRetX, wSetX, rEqO, rNeO, wMake, rIntA, rMulA, wTryM, wMixX, wRaise1, wXf, DEnds.off, wMeth, wPop, wTx1, onStr, wSplit, wPartition, wJoin, rSplit, rPartition, rJoin, rIntS, rStr, rMulS, wIEnumL,
  rNe0, DL.rAdd, DL.rSub, DL.rMul, DL.rDiv, DL.rMod, DL.rPow, DL.rI2, DL.rCmpI, DL.rEqB, DL.rIsN, DL.rInS, DL.rIx2, DL.ixSeq, DL.itemsOf, DL.listOf, DL.dictOf, DL.keyOf, DL.goL, DL.goK, DL.goI, DL.objOf, DL.rLenA, DL.rLen, DL.rSum, DL.rAll, DL.rTuple, DL.rList, DL.rAbs, DL.rInt, rKIn, rKGet, rIsBl, rEq0, lst2, gup_same, dwipe, slot_def, at0, at1, at2, at3, atm, cut1, cutAll,
  List.set_cons_zero, List.set_cons_succ, List.getElem?_cons_zero, List.getElem?_cons_succ, List.getElem?_nil, Option.join_some, Option.join_none, List.length_cons, List.length_nil, if_true, if_false, Bool.false_eq_true, reduceIte, Bool.not_true, Bool.not_false, Bool.true_xor, Bool.false_xor, Bool.xor_true, Bool.xor_false, true_and, and_true, reduceCtorEq, decide_true, decide_false, Option.isSome_some, Option.isSome_none, List.cons_append, List.nil_append,
  s_note_copy, s_note_give, s_note_ask, s_note_print, s_note_either, s_note_again, s_note_call, s_copy_note, s_copy_give, s_copy_ask, s_copy_print, s_copy_either, s_copy_again, s_copy_call, s_give_note, s_give_copy, s_give_ask, s_give_print, s_give_either, s_give_again, s_give_call, s_ask_note, s_ask_copy, s_ask_give, s_ask_print, s_ask_either, s_ask_again, s_ask_call, s_print_note, s_print_copy, s_print_give, s_print_ask, s_print_either, s_print_again, s_print_call, s_either_note, s_either_copy, s_either_give, s_either_ask, s_either_print, s_either_again, s_either_call, s_again_note, s_again_copy, s_again_give, s_again_ask, s_again_print, s_again_either, s_again_call, s_call_note, s_call_copy, s_call_give, s_call_ask, s_call_print, s_call_either, s_call_again, s_note, s_copy, s_give, s_ask, s_print, s_either, s_again, s_call, i_note, j_note, l_note, i_copy, j_copy, l_copy, i_give, j_give, l_give, i_ask, j_ask, l_ask, i_print, j_print, l_print, i_either, j_either, l_either, i_again, j_again, l_again, i_call, j_call, l_call,
  Nat.reduceAdd, Nat.zero_add, Int.reduceLT, Int.reduceLE, Int.reduceEq, Int.reduceAdd, Int.reduceNeg, Int.reduceSub, cz0, cz1, cz2, cz3, cz4, cz5, cz6, cz7, cz8, cz9, t_tup, t_str, t_int, t_bl, lt0, lt1, lt2, lt3, lt4, lt5, lt6, zl0, zl1, zl2, zl3, zl4, zl5, zl6, zl9, rn2, x51, x52, x53, x54, at4, lkb, fl1, fl2, flstr, flint, flnon, flbl, List.all_cons, List.all_nil, Bool.and_true])
variable {K : PySem.W.Frag} {OC : Addr → Bool}
def lvF (l : Lv) (r : Addr) : List (Str × D) := [("kept_word", .str l.w.txt), ("kept_rows", .ref r), ("kept_first", l.first)]
theorem lk_word (l : Lv) (r : Addr) : List.lookup ("kept_word" : Str) (lvF l r) = some (.str l.w.txt) := by rfl
theorem lk_rows (l : Lv) (r : Addr) : List.lookup ("kept_rows" : Str) (lvF l r) = some (.ref r) := by rfl
theorem lk_first (l : Lv) (r : Addr) : List.lookup ("kept_first" : Str) (lvF l r) = some l.first := by rfl
theorem lk_levels (d : D) : List.lookup ("kept_levels" : Str) [("kept_levels", d)] = some d := by rfl
abbrev PA2 := List (Addr × Addr)
def flat (as : PA2) : List Addr := as.flatMap fun p => [p.1, p.2]
theorem flat_cons (a r : Addr) (as : PA2) : flat ((a, r) :: as) = a :: r :: flat as := rfl
def lstOf (as : PA2) : List D := as.reverse.map fun p => .ref p.1
theorem lstOf_cons (a r : Addr) (as : PA2) : lstOf ((a, r) :: as) = lstOf as ++ [.ref a] := by unfold lstOf; simp
theorem lstOf_len (as : PA2) : (lstOf as).length = as.length := by unfold lstOf; simp
inductive Lvs (CV : Addr) (G : Gh) : PA2 → Stk → Prop
  | nil : Lvs CV G [] []
  | cons {a r : Addr} {as : PA2} {l : Lv} {st : Stk} (h1 : G a = some (.ins CV (lvF l r))) (h2 : G r = some (.lst l.rows)) (t : Lvs CV G as st) : Lvs CV G ((a, r) :: as) (l :: st)
theorem Lvs.len {CV : Addr} {G : Gh} {as : PA2} {st : Stk} (h : Lvs CV G as st) : as.length = st.length := by
  induction h with
  | nil => rfl
  | cons _ _ _ ih => simp [ih]
theorem Lvs.there {CV : Addr} {G : Gh} {as : PA2} {st : Stk} (h : Lvs CV G as st) : ∀ x ∈ flat as, ∃ o, G x = some o := by
  induction h with
  | nil => intro x hx; cases hx
  | cons h1 h2 _ ih =>
    intro x hx
    rw [flat_cons] at hx
    rcases List.mem_cons.mp hx with rfl | hx
    · exact ⟨_, h1⟩
    · rcases List.mem_cons.mp hx with rfl | hx
      · exact ⟨_, h2⟩
      · exact ih x hx
theorem Lvs.frame {CV : Addr} {G : Gh} {as : PA2} {st : Stk} {x : Addr} {o : GO} (h : Lvs CV G as st) : x ∉ flat as → Lvs CV (gup G x o) as st := by
  induction h with
  | nil => intro _; exact .nil
  | cons h1 h2 _ ih =>
    intro hx
    rw [flat_cons] at hx
    simp only [List.mem_cons, not_or] at hx
    exact .cons (by rw [gup_ne (Ne.symm hx.1)]; exact h1) (by rw [gup_ne (Ne.symm hx.2.1)]; exact h2) (ih hx.2.2)
structure OwnQ (CL CV : Addr) (G0 G : Gh) (L q : Addr) (as : PA2) (st : Stk) : Prop where
  sub : Sub G0 G
  nd : (L :: q :: flat as).Nodup
  no : ∀ a ∈ L :: q :: flat as, G0 a = none
  obj : G L = some (.ins CL [("kept_levels", .ref q)])
  lst : G q = some (.lst (lstOf as))
  lvs : Lvs CV G as st
section
variable {CL CV : Addr} {G0 G : Gh} {L q a r : Addr} {as : PA2} {st : Stk} {l : Lv}
theorem OwnQ.nq (h : OwnQ CL CV G0 G L q as st) : L ≠ q ∧ L ∉ flat as ∧ q ∉ flat as := by
  have := h.nd
  simp only [List.nodup_cons, List.mem_cons, not_or] at this
  exact ⟨this.1.1, this.1.2, this.2.1⟩
theorem OwnQ.objO (h : OwnQ CL CV G0 G L q as st) : objOf G (.ref L) = some (CL, [(("kept_levels" : Str), D.ref q)]) := by
  show goI (G L) = some (CL, [(("kept_levels" : Str), D.ref q)])
  rw [h.obj]; rfl
theorem OwnQ.top (h : OwnQ CL CV G0 G L q ((a, r) :: as) (l :: st)) : G a = some (.ins CV (lvF l r)) ∧ G r = some (.lst l.rows) ∧ Lvs CV G as st := by
  cases h.lvs with | cons h1 h2 t => exact ⟨h1, h2, t⟩
theorem OwnQ.ar (h : OwnQ CL CV G0 G L q ((a, r) :: as) st) : L ≠ a ∧ L ≠ r ∧ q ≠ a ∧ q ≠ r ∧ a ≠ r ∧ a ∉ flat as ∧ r ∉ flat as := by
  have := h.nd
  rw [flat_cons] at this
  simp only [List.nodup_cons, List.mem_cons, not_or] at this
  exact ⟨this.1.2.1, this.1.2.2.1, this.2.1.1, this.2.1.2.1, this.2.2.1.1, this.2.2.1.2, this.2.2.2.1⟩
theorem OwnQ.pop (h : OwnQ CL CV G0 G L q ((a, r) :: as) (l :: st)) : OwnQ CL CV G0 (gup G q (.lst (lstOf as))) L q as st := by
  obtain ⟨n1, n2, n3⟩ := h.nq
  obtain ⟨_, _, t⟩ := h.top
  have nd := h.nd
  rw [flat_cons] at nd n3
  simp only [List.mem_cons, not_or] at n3
  refine ⟨h.sub.up (h.no q (by simp)), ?_, fun x hx => h.no x ?_, by rw [gup_ne n1]; exact h.obj, gup_same, t.frame n3.2.2⟩
  · exact nd.sublist (.cons₂ _ (.cons₂ _ (.cons _ (.cons _ (List.Sublist.refl _)))))
  · rw [flat_cons]
    simp only [List.mem_cons] at hx ⊢
    rcases hx with hx | hx | hx
    · exact .inl hx
    · exact .inr (.inl hx)
    · exact .inr (.inr (.inr (.inr hx)))
theorem OwnQ.put (h : OwnQ CL CV G0 G L q ((a, r) :: as) (l :: st)) (ds : List D) : OwnQ CL CV G0 (gup G r (.lst (l.rows ++ ds))) L q ((a, r) :: as) (l.put ds :: st) := by
  obtain ⟨n1, n2, n3, n4, n5, n6, n7⟩ := h.ar
  obtain ⟨h1, h2, t⟩ := h.top
  exact ⟨h.sub.up (h.no r (by rw [flat_cons]; simp)), h.nd, h.no, by rw [gup_ne n2]; exact h.obj, by rw [gup_ne n4]; exact h.lst, .cons (by rw [gup_ne n5]; exact h1) gup_same (t.frame n7)⟩
theorem OwnQ.push (h : OwnQ CL CV G0 G L q as st) (ha : G a = none) (hr : G r = none) (hne : r ≠ a) (hl : l.rows = []) : OwnQ CL CV G0 (gup (gup (gup G r (.lst [])) a (.ins CV (lvF l r))) q (.lst (lstOf as ++ [.ref a]))) L q ((a, r) :: as) (l :: st) := by
  obtain ⟨n1, n2, n3⟩ := h.nq
  have out : ∀ x, G x = none → x ≠ L ∧ x ≠ q ∧ x ∉ flat as ∧ G0 x = none := fun x hx => by
    refine ⟨fun e => ?_, fun e => ?_, fun e => ?_, ?_⟩
    · subst e; rw [h.obj] at hx; cases hx
    · subst e; rw [h.lst] at hx; cases hx
    · obtain ⟨o, e⟩ := h.lvs.there x e; rw [e] at hx; cases hx
    · cases e : G0 x with
      | none => rfl
      | some o => rw [h.sub x o e] at hx; cases hx
  obtain ⟨a1, a2, a3, a4⟩ := out a ha
  obtain ⟨r1, r2, r3, r4⟩ := out r hr
  have hq := h.no q (by simp)
  refine ⟨((h.sub.up r4).up a4).up hq, ?_, ?_, ?_, ?_, ?_⟩
  · rw [flat_cons]
    have := h.nd
    simp only [List.nodup_cons, List.mem_cons, not_or] at this ⊢
    exact ⟨⟨n1, Ne.symm a1, Ne.symm r1, n2⟩, ⟨Ne.symm a2, Ne.symm r2, n3⟩, ⟨Ne.symm hne, a3⟩, r3, this.2.2⟩
  · intro x hx
    rw [flat_cons] at hx
    simp only [List.mem_cons] at hx
    rcases hx with rfl | rfl | rfl | rfl | hx
    · exact h.no _ (by simp)
    · exact hq
    · exact a4
    · exact r4
    · exact h.no x (by simp [hx])
  · rw [gup_ne n1, gup_ne (Ne.symm a1), gup_ne (Ne.symm r1)]; exact h.obj
  · rw [lstOf_cons]; exact gup_same
  · exact .cons (by rw [gup_ne a2]; exact gup_same) (by rw [gup_ne r2, gup_ne hne, hl]; exact gup_same) (((h.lvs.frame r3).frame a3).frame n3)
end
def Own (CL CV : Addr) (G0 G : Gh) (L : Addr) (st : Stk) : Prop := ∃ q as, OwnQ CL CV G0 G L q as st
/-! Level(w, f) -/
theorem gup_comm {G : Gh} {a b : Addr} {x y : GO} (h : a ≠ b) : gup (gup G a x) b y = gup (gup G b y) a x := by
  funext z
  unfold gup
  by_cases e : z = b
  · subst e; rw [if_pos rfl, if_neg (Ne.symm h), if_pos rfl]
  · rw [if_neg e, if_neg e]
def sp_level (CV : Addr) : DSp := fun ds G Q _ => ∃ (p : Addr) (w : WK) (f : D), ds = [.ref p, .str w.txt, f] ∧ G p = some (.ins CV []) ∧ ∀ r, G r = none → r ≠ p → Q .non (gup (gup G r (.lst [])) p (.ins CV (lvF ⟨w, [], f⟩ r)))
theorem v_level {CV : Addr} {ds : List D} {G : Gh} {Q : DQ} {E : DXq} (h : sp_level CV ds G Q E) : W_Level_d__init_d_ CV (endsOf K Q) (dstart N_Level_d__init_d_ ds) G := by
  obtain ⟨p, w, f, rfl, hp, q⟩ := h
  show W_Level_d__init_d_ CV (endsOf K Q) [some (.ref p), some (.str w.txt), some f] G
  unfold W_Level_d__init_d_
  try trivial
  simp only [hp]
  try trivial
  refine ⟨by decide, fun r hr => ?_⟩
  have hne : r ≠ p := fun e => by subst e; rw [gup_same] at hr; cases hr
  rw [gup_ne (Ne.symm hne), gup_same]
  rw [gup_ne hne] at hr
  refine ⟨rfl, by show (1 : Nat) < 1000; decide, by show (2 : Nat) < 1000; decide, nx_here ?_⟩
  rw [gup_gup, gup_comm (Ne.symm hne), gup_gup]
  exact q r hr hne
/-- a new level on a list that may change -/
theorem push_rule {CL CV : Addr} {G0 G : Gh} {L q : Addr} {as : PA2} {st : Stk} (ow : OwnQ CL CV G0 G L q as st) (hl : as.length ≤ 1000) {w : WK} {f : D} {σ : DSt} {D0 : DEnds} {tl : DE} {t : DA}
    (htl : ∀ Q : DQ, Q (.ref q) G → tl σ G Q) (ht : ∀ Q : List D → Gh → Prop, Q [.str w.txt, f] G → t σ G Q) (h : ∀ G', Own CL CV G0 G' L (⟨w, [], f⟩ :: st) → D0.nx σ G') :
    wDrop (wAppend tl (wMake K CV (sp_level CV) t)) D0 σ G := by
  have hz := sizeLine_eq
  refine htl _ ⟨?_, ?_⟩
  · show (goL (G q)).isSome = true
    rw [ow.lst]; rfl
  · refine ht _ fun a ha => ⟨a, w, f, rfl, gup_same, fun r hr hne => ⟨rfl, .ref a, _, .refl, ?_⟩⟩
    have ha2 : G a = none := ha
    have hr2 : G r = none := by rw [gup_ne hne] at hr; exact hr
    have hqa : q ≠ a := fun e => by subst e; rw [ow.lst] at ha2; cases ha2
    have hqr : q ≠ r := fun e => by subst e; rw [ow.lst] at hr2; cases hr2
    have e : gup (gup (gup G a (.ins CV [])) r (.lst [])) a (.ins CV (lvF ⟨w, [], f⟩ r)) = gup (gup G r (.lst [])) a (.ins CV (lvF ⟨w, [], f⟩ r)) := by
      rw [gup_comm (Ne.symm hne), gup_gup]
    rw [e]
    dsimp only
    rw [gup_ne hqa, gup_ne hqr, ow.lst]
    show (lstOf as).length < sizeLine ∧ _
    exact ⟨by rw [lstOf_len]; omega, h _ ⟨q, _, ow.push ha2 hr2 hne rfl⟩⟩
/-! Lines() -/
def sp_lines0 (CL CV : Addr) : DSp := fun ds G Q _ => ∃ p : Addr, ds = [.ref p] ∧ G p = some (.ins CL []) ∧ ∀ G', Own CL CV (fun z => if z = p then none else G z) G' p [⟨.all, [], .non⟩] → Q .non G'
theorem v_lines0 {CL CV : Addr} {ds : List D} {G : Gh} {Q : DQ} {E : DXq} (h : sp_lines0 CL CV ds G Q E) : W_Lines_d__init_d_ K CV CL (sp_level CV) (endsOf K Q) (dstart N_Lines_d__init_d_ ds) G := by
  obtain ⟨p, rfl, hp, q⟩ := h
  show W_Lines_d__init_d_ K CV CL (sp_level CV) (endsOf K Q) [some (.ref p)] G
  refine fun a ha => ⟨a, .all, .non, rfl, gup_same, fun r hr hne => ⟨rfl, .ref a, _, .refl, ?_⟩⟩
  rw [gup_comm (Ne.symm hne), gup_gup]
  have hr2 : G r = none := by rw [gup_ne hne] at hr; exact hr
  have ha2 : G a = none := ha
  have hpa : p ≠ a := fun e => by subst e; rw [hp] at ha2; cases ha2
  have hpr : p ≠ r := fun e => by subst e; rw [hp] at hr2; cases hr2
  refine ⟨by show (1 : Nat) ≤ sizeLine; decide, fun qq hq => ?_⟩
  have hqa : qq ≠ a := fun e => by subst e; rw [gup_same] at hq; cases hq
  rw [gup_ne hqa] at hq
  have hqr : qq ≠ r := fun e => by subst e; rw [gup_same] at hq; cases hq
  rw [gup_ne hqr] at hq
  have hpq : p ≠ qq := fun e => by subst e; rw [hp] at hq; cases hq
  have e1 : (gup (gup (gup G r (.lst [])) a (.ins CV (lvF ⟨.all, [], .non⟩ r))) qq (.lst [.ref a])) p = some (.ins CL []) := by
    rw [gup_ne hpq, gup_ne hpa, gup_ne hpr]; exact hp
  show match goI ((gup (gup (gup G r (.lst [])) a (.ins CV (lvF ⟨.all, [], .non⟩ r))) qq (.lst [.ref a])) p) with | some (C', fs) => _ | none => False
  rw [e1]
  refine ⟨rfl, by decide, nx_here (q _ ⟨qq, [(a, r)], ?_, ?_, ?_, gup_same, ?_, ?_⟩)⟩
  · intro z o hz
    replace hz : (if z = p then none else G z) = some o := hz
    have hzp : z ≠ p := fun e => by subst e; rw [if_pos rfl] at hz; cases hz
    rw [if_neg hzp] at hz
    have z1 : z ≠ qq := fun e => by subst e; rw [hq] at hz; cases hz
    have z2 : z ≠ a := fun e => by subst e; rw [ha2] at hz; cases hz
    have z3 : z ≠ r := fun e => by subst e; rw [hr2] at hz; cases hz
    rw [gup_ne hzp, gup_ne z1, gup_ne z2, gup_ne z3]; exact hz
  · show [p, qq, a, r].Nodup
    simp only [List.nodup_cons, List.mem_cons, not_or, List.not_mem_nil, not_false_eq_true, and_true, List.nodup_nil]
    exact ⟨⟨hpq, hpa, hpr⟩, ⟨hqa, hqr⟩, Ne.symm hne⟩
  · intro z hz
    show (if z = p then none else G z) = none
    replace hz : z ∈ [p, qq, a, r] := hz
    simp only [List.mem_cons, List.not_mem_nil, or_false] at hz
    split
    · rfl
    · rename_i hzp
      rcases hz with rfl | rfl | rfl | rfl
      · exact (hzp rfl).elim
      · exact hq
      · exact ha2
      · exact hr2
  · rw [gup_ne (Ne.symm hpq)]; exact gup_same
  · exact .cons (by rw [gup_ne (Ne.symm hpa), gup_ne (Ne.symm hqa)]; exact gup_same) (by rw [gup_ne (Ne.symm hpr), gup_ne (Ne.symm hqr), gup_ne hne]; exact gup_same) .nil
/-! shrink -/
def sp_shrink (CL CV : Addr) : DSp := fun ds G Q _ => ∃ (L : Addr) (m : Nat) (num : Int) (G0 : Gh) (s s' : Stk) (n : Nat), ds = [.ref L, .int (m : Int), .int num] ∧ Own CL CV G0 G L s ∧ Shr m s s' ∧ 1 ≤ m ∧ Bn n s ∧ n ≤ 1000 ∧ s.length ≤ n ∧ ∀ G', Own CL CV G0 G' L s' → Q .non G'
/-- o.f, o an instance that may change -/
theorem fld_rule {C p : Addr} {f : Str} {fs : List (Str × D)} {d : D} {i : Nat} {σ : DSt} {G : Gh} {Q : DQ} (hs : slot σ i = some (.ref p)) (hp : G p = some (.ins C fs)) (hl : fs.lookup f = some d) (q : Q d G) : wFld C f (wVar i) σ G Q := by
  unfold wFld wVar
  rw [hs]
  show match goI (G p) with | some (C', fs) => _ | none => False
  rw [hp]
  refine ⟨rfl, ?_⟩
  rw [hl]; exact q
/-- len(self.kept_levels) -/
theorem len_rule {CL CV : Addr} {G0 G : Gh} {L q : Addr} {as : PA2} {st : Stk} {i : Nat} {σ : DSt} {Q : DQ} (ow : OwnQ CL CV G0 G L q as st) (hs : slot σ i = some (.ref L)) (h : Q (.int ((st.length : Nat) : Int)) G) : wCall rLenA (wCons (wFld CL "kept_levels" (wVar i)) wNil) σ G Q := by
  refine fld_rule hs ow.obj (lk_levels _) ?_
  show match dictOf G (.ref q) with | some kvs => _ | none => _
  have e : dictOf G (.ref q) = none := by show goK (G q) = none; rw [ow.lst]; rfl
  rw [e]
  show match itemsOf G (.ref q) with | some xs => _ | none => False
  have e2 : itemsOf G (.ref q) = some (lstOf as) := by show goL (G q) = _; rw [ow.lst]; rfl
  rw [e2]
  show Q (.int (((lstOf as).length : Nat) : Int)) G
  rw [lstOf_len, ow.lvs.len]; exact h
end P3

/-! V6i: shrink, take_or, take_row. -/
namespace P3
open PySem PySem.Spec L2 DL
local macro_rules | `(tactic| trivial) => `(tactic| simp only [wSeq, wNext, wRet, wIfS, wAsg, wName, wVar, wC, wDrop, wOp, wCall, wCons, wNil, wIf, wB, wNot, wAnd, wOr, wAndV, wOrV, wNotV, wTup, wLst, wLstV, wFor, wISeq, wIRng1, wIRng2, wIEnum, wIStr, wChain, wIsi, wSl, wPart, wNoPart, wCallF, wCallL, wAppend, wExtend, wSetL, wSetD, wPar, wAugI, wGTup, wGCons, wGNil, wDGet, wDIn, wDict, wDictV, wPairs, wLcV, wLc, wYes, wSetF, wFld, wRev, wNeg, wNever, wLoop, wComp, wSortSet, wTry, wRaise, wCallSt, wRetX, wSetX, rEqO, rNeO, wMake, rIntA, rMulA, wTryM, wMixX, wRaise1, wXf, DEnds.off, wMeth, wPop, wTx1, onStr, wSplit, wPartition, wJoin, rSplit, rPartition, rJoin, rIntS, rStr, rMulS, wIEnumL,
  rNe0, DL.rAdd, DL.rSub, DL.rMul, DL.rDiv, DL.rMod, DL.rPow, DL.rI2, DL.rCmpI, DL.rEqB, DL.rIsN, DL.rInS, DL.rIx2, DL.ixSeq, DL.itemsOf, DL.listOf, DL.dictOf, DL.keyOf, DL.goL, DL.goK, DL.goI, DL.objOf, DL.rLenA, DL.rLen, DL.rSum, DL.rAll, DL.rTuple, DL.rList, DL.rAbs, DL.rInt, rKIn, rKGet, rIsBl, rEq0, lst2, gup_same, dwipe, slot_def, at0, at1, at2, at3, atm, cut1, cutAll,
  List.set_cons_zero, List.set_cons_succ, List.getElem?_cons_zero, List.getElem?_cons_succ, List.getElem?_nil, Option.join_some, Option.join_none, List.length_cons, List.length_nil, if_true, if_false, Bool.false_eq_true, reduceIte, Bool.not_true, Bool.not_false, Bool.true_xor, Bool.false_xor, Bool.xor_true, Bool.xor_false, true_and, and_true, reduceCtorEq, decide_true, decide_false, Option.isSome_some, Option.isSome_none, List.cons_append, List.nil_append,
  s_note_copy, s_note_give, s_note_ask, s_note_print, s_note_either, s_note_again, s_note_call, s_copy_note, s_copy_give, s_copy_ask, s_copy_print, s_copy_either, s_copy_again, s_copy_call, s_give_note, s_give_copy, s_give_ask, s_give_print, s_give_either, s_give_again, s_give_call, s_ask_note, s_ask_copy, s_ask_give, s_ask_print, s_ask_either, s_ask_again, s_ask_call, s_print_note, s_print_copy, s_print_give, s_print_ask, s_print_either, s_print_again, s_print_call, s_either_note, s_either_copy, s_either_give, s_either_ask, s_either_print, s_either_again, s_either_call, s_again_note, s_again_copy, s_again_give, s_again_ask, s_again_print, s_again_either, s_again_call, s_call_note, s_call_copy, s_call_give, s_call_ask, s_call_print, s_call_either, s_call_again, s_note, s_copy, s_give, s_ask, s_print, s_either, s_again, s_call, i_note, j_note, l_note, i_copy, j_copy, l_copy, i_give, j_give, l_give, i_ask, j_ask, l_ask, i_print, j_print, l_print, i_either, j_either, l_either, i_again, j_again, l_again, i_call, j_call, l_call,
  Nat.reduceAdd, Nat.zero_add, Int.reduceLT, Int.reduceLE, Int.reduceEq, Int.reduceAdd, Int.reduceNeg, Int.reduceSub, cz0, cz1, cz2, cz3, cz4, cz5, cz6, cz7, cz8, cz9, t_tup, t_str, t_int, t_bl, lt0, lt1, lt2, lt3, lt4, lt5, lt6, zl0, zl1, zl2, zl3, zl4, zl5, zl6, zl9, rn2, x51, x52, x53, x54, at4, lkb, fl1, fl2, flstr, flint, flnon, flbl, List.all_cons, List.all_nil, Bool.and_true])
local macro_rules | `(tactic| get_elem_tactic_trivial) => `(tactic| simp only [wSeq, wNext, wRet, wIfS, wAsg, wName, wVar, wC, wDrop, wOp, wCall, wCons, wNil, wIf, wB, wNot, wAnd, wOr, wAndV, wOrV, wNotV, wTup, wLst, wLstV, wFor, wISeq, wIRng1, wIRng2, wIEnum, wIStr, wChain, wIsi, wSl, wPart, wNoPart, wCallF, wCallL, wAppend, wExtend, wSetL, wSetD, wPar, wAugI, wGTup, wGCons, wGNil, wDGet, wDIn, wDict, wDictV, wPairs, wLcV, wLc, wYes, wSetF, wFld, wRev, wNeg, wNever, wSortSet, wTry, wRaise, wCallSt, wRetX, wSetX, rEqO, rNeO, wMake, rIntA, rMulA, wTryM, wMixX, wRaise1, wXf, DEnds.off, wMeth, wPop, wTx1, onStr, wSplit, wPartition, wJoin, rSplit, rPartition, rJoin, rIntS, rStr, rMulS, wIEnumL,
  rNe0, DL.rAdd, DL.rSub, DL.rMul, DL.rDiv, DL.rMod, DL.rPow, DL.rI2, DL.rCmpI, DL.rEqB, DL.rIsN, DL.rInS, DL.rIx2, DL.ixSeq, DL.itemsOf, DL.listOf, DL.dictOf, DL.keyOf, DL.goL, DL.goK, DL.goI, DL.objOf, DL.rLenA, DL.rLen, DL.rSum, DL.rAll, DL.rTuple, DL.rList, DL.rAbs, DL.rInt, rKIn, rKGet, rIsBl, rEq0, lst2, gup_same, dwipe, slot_def, at0, at1, at2, at3, atm, cut1, cutAll,
  List.set_cons_zero, List.set_cons_succ, List.getElem?_cons_zero, List.getElem?_cons_succ, List.getElem?_nil, Option.join_some, Option.join_none, List.length_cons, List.length_nil, if_true, if_false, Bool.false_eq_true, reduceIte, Bool.not_true, Bool.not_false, Bool.true_xor, Bool.false_xor, Bool.xor_true, Bool.xor_false, true_and, and_true, reduceCtorEq, decide_true, decide_false, Option.isSome_some, Option.isSome_none, List.cons_append, List.nil_append,
  s_note_copy, s_note_give, s_note_ask, s_note_print, s_note_either, s_note_again, s_note_call, s_copy_note, s_copy_give, s_copy_ask, s_copy_print, s_copy_either, s_copy_again, s_copy_call, s_give_note, s_give_copy, s_give_ask, s_give_print, s_give_either, s_give_again, s_give_call, s_ask_note, s_ask_copy, s_ask_give, s_ask_print, s_ask_either, s_ask_again, s_ask_call, s_print_note, s_print_copy, s_print_give, s_print_ask, s_print_either, s_print_again, s_print_call, s_either_note, s_either_copy, s_either_give, s_either_ask, s_either_print, s_either_again, s_either_call, s_again_note, s_again_copy, s_again_give, s_again_ask, s_again_print, s_again_either, s_again_call, s_call_note, s_call_copy, s_call_give, s_call_ask, s_call_print, s_call_either, s_call_again, s_note, s_copy, s_give, s_ask, s_print, s_either, s_again, s_call, i_note, j_note, l_note, i_copy, j_copy, l_copy, i_give, j_give, l_give, i_ask, j_ask, l_ask, i_print, j_print, l_print, i_either, j_either, l_either, i_again, j_again, l_again, i_call, j_call, l_call,
  Nat.reduceAdd, Nat.zero_add, Int.reduceLT, Int.reduceLE, Int.reduceEq, Int.reduceAdd, Int.reduceNeg, Int.reduceSub, cz0, cz1, cz2, cz3, cz4, cz5, cz6, cz7, cz8, cz9, t_tup, t_str, t_int, t_bl, lt0, lt1, lt2, lt3, lt4, lt5, lt6, zl0, zl1, zl2, zl3, zl4, zl5, zl6, zl9, rn2, x51, x52, x53, x54, at4, lkb, fl1, fl2, flstr, flint, flnon, flbl, List.all_cons, List.all_nil, Bool.and_true])
variable {K : PySem.W.Frag} {OC : Addr → Bool}
section
variable {CL CV : Addr} {G0 G : Gh} {L q a r : Addr} {as : PA2} {st : Stk} {l : Lv} {σ : DSt} {i j : Nat}
theorem pop_rule (ow : OwnQ CL CV G0 G L q ((a, r) :: as) (l :: st)) (hs : slot σ i = some (.ref L)) {D0 : DEnds} (h : D0.nx (σ.set j (some (.ref a))) (gup G q (.lst (lstOf as)))) : wAsg (wPop (wFld CL "kept_levels" (wVar i))) (wName j) D0 σ G := by
  simp only [wAsg, wPop, wName]
  refine fld_rule hs ow.obj (lk_levels _) ?_
  exact ⟨lstOf as, .ref a, by rw [ow.lst, lstOf_cons], h⟩
theorem top_rule (ow : OwnQ CL CV G0 G L q ((a, r) :: as) (l :: st)) (hs : slot σ i = some (.ref L)) {Q : DQ} (h : Q (.ref r) G) : wFld CV "kept_rows" (wOp rIx2 (wFld CL "kept_levels" (wVar i)) (wNeg (wC (.int 1)))) σ G Q := by
  have key : ∀ Q' : DQ, Q' (.ref a) G → wOp rIx2 (wFld CL "kept_levels" (wVar i)) (wNeg (wC (.int 1))) σ G Q' := fun Q' h' => by
    simp only [wOp]
    refine fld_rule hs ow.obj (lk_levels _) ?_
    show match itemsOf G (.ref q) with | some ds => _ | none => False
    have e2 : itemsOf G (.ref q) = some (lstOf as ++ [.ref a]) := by show goL (G q) = _; rw [ow.lst, lstOf_cons]; rfl
    rw [e2]
    show match atI (lstOf as ++ [.ref a]) (-1) with | some d => _ | none => False
    rw [atm]
    exact h'
  show wOp rIx2 (wFld CL "kept_levels" (wVar i)) (wNeg (wC (.int 1))) σ G (fun x G1 => match objOf G1 x with | some (C', fs) => C' = CV ∧ (match fs.lookup ("kept_rows" : Str) with | some d => Q d G1 | none => False) | none => False)
  refine key _ ?_
  show match goI (G a) with | some (C', fs) => _ | none => False
  rw [ow.top.1]
  exact ⟨rfl, h⟩
/-- self.kept_levels[-1].kept_rows.append(row) -/
theorem put_rule (ow : OwnQ CL CV G0 G L q ((a, r) :: as) (l :: st)) (hl : l.rows.length ≤ 1000) (hs : slot σ i = some (.ref L)) {d : D} (hd : slot σ j = some d) {D0 : DEnds} (h : ∀ G', Own CL CV G0 G' L (l.put [d] :: st) → D0.nx σ G') :
    wDrop (wAppend (wFld CV "kept_rows" (wOp rIx2 (wFld CL "kept_levels" (wVar i)) (wNeg (wC (.int 1))))) (wVar j)) D0 σ G := by
  have hz := sizeLine_eq
  refine top_rule ow hs ⟨?_, ?_⟩
  · show (goL (G r)).isSome = true
    rw [ow.top.2.1]; rfl
  · show match slot σ j with | some d => _ | none => False
    rw [hd]
    show match goL (G r) with | some ds => _ | none => False
    rw [ow.top.2.1]
    exact ⟨by omega, h _ ⟨q, _, ow.put [d]⟩⟩
/-- tuple(level.kept_rows) -/
theorem rows_rule {D0 : DEnds} {rs : List D} (hs : slot σ i = some (.ref a)) (ha : G a = some (.ins CV (lvF l r))) (hr : G r = some (.lst rs)) {Q : DQ} (h : Q (.tup rs) G) : wCall rTuple (wCons (wFld CV "kept_rows" (wVar i)) wNil) σ G Q := by
  refine fld_rule hs ha (lk_rows _ _) ?_
  show match itemsOf G (.ref r) with | some xs => Q (.tup xs) G | none => False
  have e2 : itemsOf G (.ref r) = some rs := by show goL (G r) = _; rw [hr]; rfl
  rw [e2]; exact h
/-- level.kept_word == w -/
theorem word_rule {neg : Bool} {w : Str} (hs : slot σ i = some (.ref a)) (ha : G a = some (.ins CV (lvF l r))) {Q : Bool → Gh → Prop} (h : Q (neg ^^ decide (l.w.txt = w)) G) : wB (wOp (rEqB neg) (wFld CV "kept_word" (wVar i)) (wC (.str w))) σ G Q := by
  simp only [wB, wOp]
  refine fld_rule hs ha (lk_word _ _) ?_
  exact h
/-- len(self.kept_levels) > many -/
theorem more_rule (ow : OwnQ CL CV G0 G L q as st) (hs : slot σ i = some (.ref L)) {m : Int} (hm : slot σ j = some (.int m)) {Q : Bool → Gh → Prop} (h : Q (decide (m < ((st.length : Nat) : Int))) G) :
    wB (wOp (rCmpI fun i j => decide (j < i)) (wCall rLenA (wCons (wFld CL "kept_levels" (wVar i)) wNil)) (wVar j)) σ G Q := by
  simp only [wB, wOp]
  refine len_rule ow hs ?_
  show match slot σ j with | some d => _ | none => False
  rw [hm]
  exact h
/-- deep + c > len(self.kept_levels) -/
theorem few_rule (ow : OwnQ CL CV G0 G L q as st) (hs : slot σ i = some (.ref L)) {d c : Int} (hm : slot σ j = some (.int d)) {Q : Bool → Gh → Prop} (h : Q (decide (((st.length : Nat) : Int) < d + c)) G) :
    wB (wOp (rCmpI fun i j => decide (j < i)) (wOp DL.rAdd (wVar j) (wC (.int c))) (wCall rLenA (wCons (wFld CL "kept_levels" (wVar i)) wNil))) σ G Q := by
  show match slot σ j with | some d => _ | none => False
  rw [hm]
  refine len_rule ow hs ?_
  exact h
end
theorem wtxt : ∀ w w' : WK, decide (w.txt = w'.txt) = decide (w = w') := by intro w w'; cases w <;> cases w' <;> decide +kernel
theorem v_shrink {CL CV : Addr} {ds : List D} {G : Gh} {Q : DQ} {E : DXq} (h : sp_shrink CL CV ds G Q E) : W_Lines_shrink CV CL (endsOf K Q) (dstart N_Lines_shrink ds) G := by
  obtain ⟨L, m, num, G0, s, s', n, rfl, ow, sh, h1, bn, hn, hsn, q⟩ := h
  show W_Lines_shrink CV CL (endsOf K Q) [some (.ref L), some (.int (m : Int)), some (.int num), none, none, none] G
  have hz := sizeLine_eq
  unfold W_Lines_shrink
  refine ⟨fun k σ G' => ∃ (s1 : Stk) (x3 x4 x5 : Option D), k = s1.length ∧ σ = [some (.ref L), some (.int (m : Int)), some (.int num), x3, x4, x5] ∧ Own CL CV G0 G' L s1 ∧ Shr m s1 s' ∧ Bn n s1, ⟨_, s, none, none, none, rfl, rfl, ow, sh, bn⟩, ?_⟩
  rintro k σ G1 ⟨s1, x3, x4, x5, rfl, rfl, ⟨q1, as, ow⟩, sh, bn⟩
  refine more_rule ow rfl rfl ?_
  show (fun k => if k = true then _ else _) (decide ((m : Int) < ((s1.length : Nat) : Int)))
  cases sh with
  | done hm =>
    rw [decide_eq_false (by omega)]
    exact nx_here (q _ ⟨q1, as, ow⟩)
  | @pop l u rr _ hm hw sh =>
    rw [decide_eq_true (by omega)]
    have hlv := ow.lvs
    cases hlv with
    | @cons a r as1 _ _ ha hr t =>
      cases t with
      | @cons b rb as _ _ hb hrb t =>
        refine ⟨fun σ' G' => ∃ (x3 x4 x5 : Option D), σ' = [some (.ref L), some (.int (m : Int)), some (.int num), x3, x4, x5] ∧ Own CL CV G0 G' L (u.put [closeRow l] :: rr), ?_, ?_⟩
        · rintro σ' G' ⟨x3, x4, x5, rfl, ow'⟩
          exact ⟨_, by simp only [List.length_cons]; omega, _, _, _, _, rfl, rfl, ow', sh, bn.pop⟩
        · have ow2 := ow.pop
          obtain ⟨_, _, n1, n2, _⟩ := ow.ar
          have ha2 : gup G1 q1 (.lst (lstOf ((b, rb) :: as))) a = some (.ins CV (lvF l r)) := by rw [gup_ne (Ne.symm n1)]; exact ha
          have hr2 : gup G1 q1 (.lst (lstOf ((b, rb) :: as))) r = some (.lst l.rows) := by rw [gup_ne (Ne.symm n2)]; exact hr
          have hu : u.rows.length ≤ 1000 := by have := bn u (by simp); omega
          refine seq_rule (fun σ' G' => σ' = [some (.ref L), some (.int (m : Int)), some (.int num), some (.ref a), x4, x5] ∧ G' = gup G1 q1 (.lst (lstOf ((b, rb) :: as)))) (fun N hN => pop_rule ow rfl (hN _ _ ⟨rfl, rfl⟩)) ?_
          rintro σ' G' ⟨rfl, rfl⟩
          generalize gup G1 q1 (.lst (lstOf ((b, rb) :: as))) = G2 at ow2 ha2 hr2
          refine seq_rule (fun σ' G' => σ' = [some (.ref L), some (.int (m : Int)), some (.int num), some (.ref a), some (.tup l.rows), x5] ∧ G' = G2) (fun N hN => ?_) ?_
          · simp only [wAsg, wName]
            exact rows_rule (D0 := { nx := N, rt := fun _ _ => True }) rfl ha2 hr2 (hN _ _ ⟨rfl, rfl⟩)
          rintro σ' G' ⟨rfl, rfl⟩
          have n1 : decide (l.w.txt = ("either" : Str)) = false := by rw [show ("either" : Str) = WK.ei.txt from rfl, wtxt]; rcases hw with e | e <;> rw [e] <;> decide
          have n2 : decide (l.w.txt = ("again" : Str)) = decide (l.w = .ag) := by rw [show ("again" : Str) = WK.ag.txt from rfl, wtxt]
          refine seq_rule (fun σ' G'' => σ' = [some (.ref L), some (.int (m : Int)), some (.int num), some (.ref a), some (.tup l.rows), x5] ∧ G'' = G') (fun N hN => ?_) ?_
          · simp only [wIfS]
            refine word_rule rfl ha2 ?_
            rw [n1]
            exact hN _ _ ⟨rfl, rfl⟩
          rintro σ' G'' ⟨rfl, rfl⟩
          refine seq_rule (fun σ' G' => σ' = [some (.ref L), some (.int (m : Int)), some (.int num), some (.ref a), some (.tup l.rows), some (closeRow l)] ∧ G' = G'') (fun N hN => ?_) ?_
          · simp only [wAsg, wIf, wName]
            refine word_rule rfl ha2 ?_
            rw [n2]
            unfold closeRow at hN
            by_cases e : l.w = .ag
            · rw [if_pos e] at hN
              rw [decide_eq_true e]
              exact ⟨by show (2 : Nat) ≤ sizeLine; decide, hN _ _ ⟨rfl, rfl⟩⟩
            · rw [if_neg e] at hN
              rw [decide_eq_false e]
              simp only [wTup, wCons, wC, wNil]
              refine fld_rule rfl ha2 (lk_first _ _) ?_
              exact ⟨by show (3 : Nat) ≤ sizeLine; decide, hN _ _ ⟨rfl, rfl⟩⟩
          rintro σ' G' ⟨rfl, rfl⟩
          exact put_rule ow2 hu rfl rfl fun G' ow' => ⟨_, _, _, rfl, ow'⟩
/-! row_of, take_or, take_row -/
def sp_row_of (NS : List Str) : DSp := fun ds G Q _ => ∃ (d : D) (r : PR), ds = [d, .str r.txt] ∧ r.ok NS ∧ Q r.toD G
theorem v_row_of {NS : List Str} {ds : List D} {G : Gh} {Q : DQ} {E : DXq} (h : sp_row_of NS ds G Q E) : W_Lines_row_of (sp_row_told NS) (endsOf K Q) (dstart N_Lines_row_of ds) G := by
  obtain ⟨d, r, rfl, ok, q⟩ := h
  exact ⟨r, rfl, ok, rt_here q⟩
def sp_take_or (CL CV : Addr) : DSp := fun ds G Q _ => ∃ (L : Addr) (d : Nat) (num : Int) (G0 : Gh) (s r : Stk) (l : Lv) (n : Nat), ds = [.ref L, .int (d : Int), .int num] ∧ Own CL CV G0 G L s ∧ d + 2 ≤ s.length ∧ Shr (d + 2) s (l :: r) ∧ l.w = .ei ∧ Bn n s ∧ n ≤ 1000 ∧ s.length ≤ n ∧ ∀ G', Own CL CV G0 G' L (⟨.or_, [], .tup l.rows⟩ :: r) → Q .non G'
theorem v_take_or {CL CV : Addr} {ds : List D} {G : Gh} {Q : DQ} {E : DXq} (h : sp_take_or CL CV ds G Q E) : W_Lines_take_or K CV CL (sp_shrink CL CV) (sp_level CV) (endsOf K Q) (dstart N_Lines_take_or ds) G := by
  obtain ⟨L, d, num, G0, s, r, l, n, rfl, ow0, hd, sh, hw, bn, hn, hsn, q⟩ := h
  show W_Lines_take_or K CV CL (sp_shrink CL CV) (sp_level CV) (endsOf K Q) [some (.ref L), some (.int (d : Int)), some (.int num), none] G
  unfold W_Lines_take_or
  obtain ⟨q1, as, ow⟩ := ow0
  refine seq_rule (fun σ' G' => σ' = [some (.ref L), some (.int (d : Int)), some (.int num), none] ∧ G' = G) (fun N hN => ?_) ?_
  · simp only [wIfS]
    refine few_rule ow rfl rfl ?_
    rw [decide_eq_false (by omega)]
    exact hN _ _ ⟨rfl, rfl⟩
  rintro σ' G' ⟨rfl, rfl⟩
  refine seq_rule (fun σ' G' => σ' = [some (.ref L), some (.int (d : Int)), some (.int num), none] ∧ Own CL CV G0 G' L (l :: r)) (fun N hN => ?_) ?_
  · refine ⟨_, ow.objO, rfl, ?_⟩
    refine ⟨L, d + 2, num, G0, s, l :: r, n, by simp, ⟨q1, as, ow⟩, sh, by omega, bn, hn, hsn, fun G' ow' => hN _ _ ⟨rfl, ow'⟩⟩
  rintro σ' G1 ⟨rfl, q1, as, ow⟩
  have bn2 := sh.bn bn
  have hlv := ow.lvs
  cases hlv with
  | @cons a ra as _ _ ha hr t =>
    have ow2 := ow.pop
    have hlen := t.len
    have hsl := sh.len.1
    simp only [List.length_cons] at hsl
    obtain ⟨_, _, n1, n2, _⟩ := ow.ar
    have ha2 : gup G1 q1 (.lst (lstOf as)) a = some (.ins CV (lvF l ra)) := by rw [gup_ne (Ne.symm n1)]; exact ha
    have hr2 : gup G1 q1 (.lst (lstOf as)) ra = some (.lst l.rows) := by rw [gup_ne (Ne.symm n2)]; exact hr
    refine seq_rule (fun σ' G' => σ' = [some (.ref L), some (.int (d : Int)), some (.int num), some (.ref a)] ∧ G' = gup G1 q1 (.lst (lstOf as))) (fun N hN => pop_rule ow rfl (hN _ _ ⟨rfl, rfl⟩)) ?_
    rintro σ' G' ⟨rfl, rfl⟩
    generalize gup G1 q1 (.lst (lstOf as)) = G2 at ow2 ha2 hr2
    refine seq_rule (fun σ' G' => σ' = [some (.ref L), some (.int (d : Int)), some (.int num), some (.ref a)] ∧ G' = G2) (fun N hN => ?_) ?_
    · simp only [wIfS]
      refine word_rule rfl ha2 ?_
      rw [hw, decide_eq_true (show WK.ei.txt = ("either" : Str) from rfl)]
      exact hN _ _ ⟨rfl, rfl⟩
    rintro σ' G' ⟨rfl, rfl⟩
    refine push_rule (w := .or_) (f := .tup l.rows) ow2 (by omega) (fun Q' h' => fld_rule rfl ow2.obj (lk_levels _) h') (fun Q' h' => ?_) fun G' ow' => nx_here (q G' ow')
    simp only [wCons, wC, wNil]
    exact rows_rule (D0 := endsOf K Q) rfl ha2 hr2 h'
def bdW : Bd → Option WK
  | .ei => some .ei
  | .ag => some .ag
  | _ => none
/-- the line's body is a row, either or again -/
def sp_take_row (NS : List Str) (CL CV : Addr) : DSp := fun ds G Q _ => ∃ (L : Addr) (d : Nat) (num : Int) (G0 : Gh) (s s' : Stk) (x : Bd) (n : Nat), ds = [.ref L, .str x.txt, .int (d : Int), .int num] ∧ Own CL CV G0 G L s ∧ Stp s (d, x) s' ∧ x ≠ .or_ ∧ (∀ r, x = .row r → r.ok NS) ∧ Bn n s ∧ n ≤ 1000 ∧ s.length ≤ n ∧ ∀ G', Own CL CV G0 G' L s' → Q .non G'
theorem in_ea : inF (.str "either") [.str "either", .str "again"] = true ∧ inF (.str "again") [.str "either", .str "again"] = true := by decide +kernel
theorem inF_two {w a b : Str} (h1 : w ≠ a) (h2 : w ≠ b) : inF (.str w) [.str a, .str b] = false := by
  unfold inF
  simp only [List.any_cons, List.any_nil, Bool.or_false]
  have e : ∀ z : Str, w ≠ z → eqF (.str z) (.str w) = false := fun z hz => by
    show eqV (.str z) (.str w) = false
    unfold eqV
    simp [Ne.symm hz]
  rw [e a h1, e b h2]; rfl
theorem row_not_ea {NS : List Str} {r : PR} (ok : r.ok NS) : inF (.str r.txt) [.str "either", .str "again"] = false := by
  have h32 : 32 ∈ TL.tl r.txt := by
    cases r with
    | note x o ps => rw [txt_note, TL.tl_append, TL.tl_append, tl_eqs]; simp
    | copy x y => simp only [PR.txt, TL.tl_append, tl_eqs]; simp
    | give x i => simp only [PR.txt, TL.tl_append, tl_eqs]; simp
    | ask x => simp only [PR.txt, TL.tl_append, tl_blank]; simp
    | prt x => simp only [PR.txt, TL.tl_append, tl_blank]; simp
  have n1 : (32 : Nat) ∉ TL.tl "either" := by decide +kernel
  have n2 : (32 : Nat) ∉ TL.tl "again" := by decide +kernel
  have e1 : r.txt ≠ "either" := fun e => n1 (e ▸ h32)
  have e2 : r.txt ≠ "again" := fun e => n2 (e ▸ h32)
  exact inF_two e1 e2
/-- the rest of take_row for either, again -/
theorem take_word {NS : List Str} {CL CV L q1 : Addr} {d n : Nat} {num : Int} {G0 G : Gh} {as : PA2} {s s' : Stk} {w : WK} {Q : DQ} (ow : OwnQ CL CV G0 G L q1 as s) (sh : Shr (d + 1) s s') (hl : d + 1 ≤ s.length) (bn : Bn n s) (hn : n ≤ 1000) (hsn : s.length ≤ n)
    (hw : inF (.str w.txt) [.str "either", .str "again"] = true) (q : ∀ G', Own CL CV G0 G' L (⟨w, [], .non⟩ :: s') → Q .non G') :
    wSeq (wAsg (wIf (wB (wOp (rInS false) (wVar 1) (wTup (wCons (wC (.str "either")) (wCons (wC (.str "again")) wNil))))) (wC .non) (wMeth CL "row_of" (sp_row_of NS) (wVar 0) (wCons (wVar 1) wNil))) (wName 4))
      (wSeq (wIfS (wAnd (wB (wOp (rIsN false) (wVar 4) (wC .non))) (wB (wOp (rInS true) (wVar 1) (wTup (wCons (wC (.str "either")) (wCons (wC (.str "again")) wNil)))))) wNever wNext)
      (wSeq (wDrop (wMeth CL "shrink" (sp_shrink CL CV) (wVar 0) (wCons (wOp DL.rAdd (wVar 2) (wC (.int 1))) (wCons (wVar 3) wNil))))
      (wIfS (wB (wOp (rIsN false) (wVar 4) (wC .non)))
      (wDrop (wAppend (wFld CL "kept_levels" (wVar 0)) (wMake K CV (sp_level CV) (wCons (wVar 1) (wCons (wC .non) wNil)))))
      (wDrop (wAppend (wFld CV "kept_rows" (wOp rIx2 (wFld CL "kept_levels" (wVar 0)) (wNeg (wC (.int 1))))) (wVar 4)))))) (endsOf K Q) [some (.ref L), some (.str w.txt), some (.int (d : Int)), some (.int num), none] G := by
  refine seq_rule (fun σ' G' => σ' = [some (.ref L), some (.str w.txt), some (.int (d : Int)), some (.int num), some .non] ∧ G' = G) (fun N hN => ?_) ?_
  · simp only [wAsg, wIf, wName]
    refine ⟨by show (2 : Nat) ≤ sizeLine; decide, rfl, rfl, ?_⟩
    rw [hw]
    exact hN _ _ ⟨rfl, rfl⟩
  rintro σ' G' ⟨rfl, rfl⟩
  refine seq_rule (fun σ' G'' => σ' = [some (.ref L), some (.str w.txt), some (.int (d : Int)), some (.int num), some .non] ∧ G'' = G') (fun N hN => ?_) ?_
  · refine ⟨by show (2 : Nat) ≤ sizeLine; decide, rfl, rfl, ?_⟩
    rw [hw]
    exact hN _ _ ⟨rfl, rfl⟩
  rintro σ' G'' ⟨rfl, rfl⟩
  refine seq_rule (fun σ' G' => σ' = [some (.ref L), some (.str w.txt), some (.int (d : Int)), some (.int num), some .non] ∧ Own CL CV G0 G' L s') (fun N hN => ?_) ?_
  · refine ⟨_, ow.objO, rfl, ?_⟩
    exact ⟨L, d + 1, num, G0, s, s', n, by simp, ⟨q1, as, ow⟩, sh, by omega, bn, hn, hsn, fun G' ow' => hN _ _ ⟨rfl, ow'⟩⟩
  rintro σ' G1 ⟨rfl, q2, as2, ow2⟩
  have hlen := ow2.lvs.len
  have hs := sh.len.1
  have nn1 : ∀ (P : Bool → Gh → Prop), P true G1 → wB (wOp (rIsN false) (wVar 4) (wC .non)) [some (.ref L), some (.str w.txt), some (.int (d : Int)), some (.int num), some .non] G1 P := fun P hP => hP
  simp only [wIfS]
  refine nn1 _ ?_
  rw [if_pos rfl]
  refine push_rule (w := w) (f := .non) ow2 (by omega) (fun Q' h' => ?_) (fun Q' h' => ?_) fun G' ow' => nx_here (q G' ow')
  · exact fld_rule rfl ow2.obj (lk_levels _) h'
  · exact h'
theorem stp_row {s s' : Stk} {d : Nat} {x : PR} (h : Stp s (d, .row x) s') : ∃ u r, Shr (d + 1) s (u :: r) ∧ s' = u.put [x.toD] :: r := by
  cases h with
  | row _ h => exact ⟨_, _, h, rfl⟩
theorem v_take_row {NS : List Str} {CL CV : Addr} {ds : List D} {G : Gh} {Q : DQ} {E : DXq} (h : sp_take_row NS CL CV ds G Q E) : W_Lines_take_row K CV CL (sp_row_of NS) (sp_shrink CL CV) (sp_level CV) (endsOf K Q) (dstart N_Lines_take_row ds) G := by
  obtain ⟨L, d, num, G0, s, s', x, n, rfl, ow0, stp, hx, okx, bn, hn, hsn, q⟩ := h
  show W_Lines_take_row K CV CL (sp_row_of NS) (sp_shrink CL CV) (sp_level CV) (endsOf K Q) [some (.ref L), some (.str x.txt), some (.int (d : Int)), some (.int num), none] G
  unfold W_Lines_take_row
  obtain ⟨q1, as, ow⟩ := ow0
  have hl : d + 1 ≤ s.length := by cases stp <;> first | assumption | exact (hx rfl).elim
  refine seq_rule (fun σ' G' => σ' = [some (.ref L), some (.str x.txt), some (.int (d : Int)), some (.int num), none] ∧ G' = G) (fun N hN => ?_) ?_
  · simp only [wIfS]
    refine few_rule ow rfl rfl ?_
    rw [decide_eq_false (by omega)]
    exact hN _ _ ⟨rfl, rfl⟩
  rintro σ' G' ⟨rfl, rfl⟩
  cases x with
  | or_ => exact (hx rfl).elim
  | row r =>
    have ok := okx r rfl
    obtain ⟨u, rr, sh, rfl⟩ := stp_row stp
    · have ene : inF (.str (Bd.row r).txt) [.str "either", .str "again"] = false := row_not_ea ok
      refine seq_rule (fun σ' G'' => σ' = [some (.ref L), some (.str r.txt), some (.int (d : Int)), some (.int num), some r.toD] ∧ G'' = G') (fun N hN => ?_) ?_
      · simp only [wAsg, wIf, wName]
        refine ⟨by show (2 : Nat) ≤ sizeLine; decide, rfl, rfl, ?_⟩
        rw [ene]
        exact ⟨_, ow.objO, rfl, _, r, rfl, ok, hN _ _ ⟨rfl, rfl⟩⟩
      rintro σ' G'' ⟨rfl, rfl⟩
      have nn : ∀ (P : Bool → Gh → Prop), P false G'' → wB (wOp (rIsN false) (wVar 4) (wC .non)) [some (.ref L), some (.str r.txt), some (.int (d : Int)), some (.int num), some r.toD] G'' P := fun P hP => by cases r <;> exact hP
      refine seq_rule (fun σ' G' => σ' = [some (.ref L), some (.str r.txt), some (.int (d : Int)), some (.int num), some r.toD] ∧ G' = G'') (fun N hN => ?_) ?_
      · simp only [wIfS, wAnd]
        exact nn _ (hN _ _ ⟨rfl, rfl⟩)
      rintro σ' G' ⟨rfl, rfl⟩
      refine seq_rule (fun σ' G' => σ' = [some (.ref L), some (.str r.txt), some (.int (d : Int)), some (.int num), some r.toD] ∧ Own CL CV G0 G' L (u :: rr)) (fun N hN => ?_) ?_
      · refine ⟨_, ow.objO, rfl, ?_⟩
        exact ⟨L, d + 1, num, G0, s, u :: rr, n, by simp, ⟨q1, as, ow⟩, sh, by omega, bn, hn, hsn, fun G' ow' => hN _ _ ⟨rfl, ow'⟩⟩
      rintro σ' G1 ⟨rfl, q2, as2, ow2⟩
      have bn2 := sh.bn bn u (by simp)
      have nn1 : ∀ (P : Bool → Gh → Prop), P false G1 → wB (wOp (rIsN false) (wVar 4) (wC .non)) [some (.ref L), some (.str r.txt), some (.int (d : Int)), some (.int num), some r.toD] G1 P := fun P hP => by cases r <;> exact hP
      simp only [wIfS]
      refine nn1 _ ?_
      cases as2 with
      | nil => cases ow2.lvs
      | cons p as2 =>
        obtain ⟨a, ra⟩ := p
        exact put_rule ow2 (by omega) rfl rfl fun G' ow' => nx_here (q G' ow')
  | ei =>
    cases stp with
    | ei _ sh => exact take_word (w := .ei) ow sh hl bn hn hsn in_ea.1 q
  | ag =>
    cases stp with
    | ag _ sh => exact take_word (w := .ag) ow sh hl bn hn hsn in_ea.2 q
end P3

/-! V6j: blanks_ahead, read_program. -/
namespace P3
open PySem PySem.Spec L2 DL
open TL (tl ext_tl tl_append len_tl numL)
local macro_rules | `(tactic| trivial) => `(tactic| simp only [wSeq, wNext, wRet, wIfS, wAsg, wName, wVar, wC, wDrop, wOp, wCall, wCons, wNil, wIf, wB, wNot, wAnd, wOr, wAndV, wOrV, wNotV, wTup, wLst, wLstV, wFor, wISeq, wIRng1, wIRng2, wIEnum, wIStr, wChain, wIsi, wSl, wPart, wNoPart, wCallF, wCallL, wAppend, wExtend, wSetL, wSetD, wPar, wAugI, wGTup, wGCons, wGNil, wDGet, wDIn, wDict, wDictV, wPairs, wLcV, wLc, wYes, wSetF, wFld, wRev, wNeg, wNever, wLoop, wComp, wSortSet, wTry, wRaise, wCallSt, wRetX, wSetX, rEqO, rNeO, wMake, rIntA, rMulA, wTryM, wMixX, wRaise1, wXf, DEnds.off, wMeth, wPop, wTx1, onStr, wSplit, wPartition, wJoin, rSplit, rPartition, rJoin, rIntS, rStr, rMulS, wIEnumL,
  rNe0, DL.rAdd, DL.rSub, DL.rMul, DL.rDiv, DL.rMod, DL.rPow, DL.rI2, DL.rCmpI, DL.rEqB, DL.rIsN, DL.rInS, DL.rIx2, DL.ixSeq, DL.itemsOf, DL.listOf, DL.dictOf, DL.keyOf, DL.goL, DL.goK, DL.goI, DL.objOf, DL.rLenA, DL.rLen, DL.rSum, DL.rAll, DL.rTuple, DL.rList, DL.rAbs, DL.rInt, rKIn, rKGet, rIsBl, rEq0, lst2, gup_same, dwipe, slot_def, at0, at1, at2, at3, atm, cut1, cutAll,
  List.set_cons_zero, List.set_cons_succ, List.getElem?_cons_zero, List.getElem?_cons_succ, List.getElem?_nil, Option.join_some, Option.join_none, List.length_cons, List.length_nil, if_true, if_false, Bool.false_eq_true, reduceIte, Bool.not_true, Bool.not_false, Bool.true_xor, Bool.false_xor, Bool.xor_true, Bool.xor_false, true_and, and_true, reduceCtorEq, decide_true, decide_false, Option.isSome_some, Option.isSome_none, List.cons_append, List.nil_append,
  s_note_copy, s_note_give, s_note_ask, s_note_print, s_note_either, s_note_again, s_note_call, s_copy_note, s_copy_give, s_copy_ask, s_copy_print, s_copy_either, s_copy_again, s_copy_call, s_give_note, s_give_copy, s_give_ask, s_give_print, s_give_either, s_give_again, s_give_call, s_ask_note, s_ask_copy, s_ask_give, s_ask_print, s_ask_either, s_ask_again, s_ask_call, s_print_note, s_print_copy, s_print_give, s_print_ask, s_print_either, s_print_again, s_print_call, s_either_note, s_either_copy, s_either_give, s_either_ask, s_either_print, s_either_again, s_either_call, s_again_note, s_again_copy, s_again_give, s_again_ask, s_again_print, s_again_either, s_again_call, s_call_note, s_call_copy, s_call_give, s_call_ask, s_call_print, s_call_either, s_call_again, s_note, s_copy, s_give, s_ask, s_print, s_either, s_again, s_call, i_note, j_note, l_note, i_copy, j_copy, l_copy, i_give, j_give, l_give, i_ask, j_ask, l_ask, i_print, j_print, l_print, i_either, j_either, l_either, i_again, j_again, l_again, i_call, j_call, l_call,
  Nat.reduceAdd, Nat.zero_add, Int.reduceLT, Int.reduceLE, Int.reduceEq, Int.reduceAdd, Int.reduceNeg, Int.reduceSub, cz0, cz1, cz2, cz3, cz4, cz5, cz6, cz7, cz8, cz9, t_tup, t_str, t_int, t_bl, lt0, lt1, lt2, lt3, lt4, lt5, lt6, zl0, zl1, zl2, zl3, zl4, zl5, zl6, zl9, rn2, x51, x52, x53, x54, at4, lkb, fl1, fl2, flstr, flint, flnon, flbl, List.all_cons, List.all_nil, Bool.and_true])
local macro_rules | `(tactic| get_elem_tactic_trivial) => `(tactic| simp only [wSeq, wNext, wRet, wIfS, wAsg, wName, wVar, wC, wDrop, wOp, wCall, wCons, wNil, wIf, wB, wNot, wAnd, wOr, wAndV, wOrV, wNotV, wTup, wLst, wLstV, wFor, wISeq, wIRng1, wIRng2, wIEnum, wIStr, wChain, wIsi, wSl, wPart, wNoPart, wCallF, wCallL, wAppend, wExtend, wSetL, wSetD, wPar, wAugI, wGTup, wGCons, wGNil, wDGet, wDIn, wDict, wDictV, wPairs, wLcV, wLc, wYes, wSetF, wFld, wRev, wNeg, wNever, wSortSet, wTry, wRaise, wCallSt, wRetX, wSetX, rEqO, rNeO, wMake, rIntA, rMulA, wTryM, wMixX, wRaise1, wXf, DEnds.off, wMeth, wPop, wTx1, onStr, wSplit, wPartition, wJoin, rSplit, rPartition, rJoin, rIntS, rStr, rMulS, wIEnumL,
  rNe0, DL.rAdd, DL.rSub, DL.rMul, DL.rDiv, DL.rMod, DL.rPow, DL.rI2, DL.rCmpI, DL.rEqB, DL.rIsN, DL.rInS, DL.rIx2, DL.ixSeq, DL.itemsOf, DL.listOf, DL.dictOf, DL.keyOf, DL.goL, DL.goK, DL.goI, DL.objOf, DL.rLenA, DL.rLen, DL.rSum, DL.rAll, DL.rTuple, DL.rList, DL.rAbs, DL.rInt, rKIn, rKGet, rIsBl, rEq0, lst2, gup_same, dwipe, slot_def, at0, at1, at2, at3, atm, cut1, cutAll,
  List.set_cons_zero, List.set_cons_succ, List.getElem?_cons_zero, List.getElem?_cons_succ, List.getElem?_nil, Option.join_some, Option.join_none, List.length_cons, List.length_nil, if_true, if_false, Bool.false_eq_true, reduceIte, Bool.not_true, Bool.not_false, Bool.true_xor, Bool.false_xor, Bool.xor_true, Bool.xor_false, true_and, and_true, reduceCtorEq, decide_true, decide_false, Option.isSome_some, Option.isSome_none, List.cons_append, List.nil_append,
  s_note_copy, s_note_give, s_note_ask, s_note_print, s_note_either, s_note_again, s_note_call, s_copy_note, s_copy_give, s_copy_ask, s_copy_print, s_copy_either, s_copy_again, s_copy_call, s_give_note, s_give_copy, s_give_ask, s_give_print, s_give_either, s_give_again, s_give_call, s_ask_note, s_ask_copy, s_ask_give, s_ask_print, s_ask_either, s_ask_again, s_ask_call, s_print_note, s_print_copy, s_print_give, s_print_ask, s_print_either, s_print_again, s_print_call, s_either_note, s_either_copy, s_either_give, s_either_ask, s_either_print, s_either_again, s_either_call, s_again_note, s_again_copy, s_again_give, s_again_ask, s_again_print, s_again_either, s_again_call, s_call_note, s_call_copy, s_call_give, s_call_ask, s_call_print, s_call_either, s_call_again, s_note, s_copy, s_give, s_ask, s_print, s_either, s_again, s_call, i_note, j_note, l_note, i_copy, j_copy, l_copy, i_give, j_give, l_give, i_ask, j_ask, l_ask, i_print, j_print, l_print, i_either, j_either, l_either, i_again, j_again, l_again, i_call, j_call, l_call,
  Nat.reduceAdd, Nat.zero_add, Int.reduceLT, Int.reduceLE, Int.reduceEq, Int.reduceAdd, Int.reduceNeg, Int.reduceSub, cz0, cz1, cz2, cz3, cz4, cz5, cz6, cz7, cz8, cz9, t_tup, t_str, t_int, t_bl, lt0, lt1, lt2, lt3, lt4, lt5, lt6, zl0, zl1, zl2, zl3, zl4, zl5, zl6, zl9, rn2, x51, x52, x53, x54, at4, lkb, fl1, fl2, flstr, flint, flnon, flbl, List.all_cons, List.all_nil, Bool.and_true])
variable {K : PySem.W.Frag} {OC : Addr → Bool}
theorem name_head {x : Str} (h : nameOk x) : ∃ c r, tl x = c :: r ∧ 97 ≤ c := by
  have := name_ne h
  cases e : tl x with
  | nil => exact (this e).elim
  | cons c r => exact ⟨c, r, rfl, (small_rng c (h.2.2 c (by rw [show x.cps.toList = tl x from rfl, e]; exact List.mem_cons_self))).1⟩
theorem tl_either : tl "either" = [101, 105, 116, 104, 101, 114] := by decide +kernel
theorem tl_again : tl "again" = [97, 103, 97, 105, 110] := by decide +kernel
theorem tl_or : tl "or" = [111, 114] := by decide +kernel
theorem bd_head {NS : List Str} {x : Bd} (h : ∀ r, x = .row r → r.ok NS) : ∃ c r, tl x.txt = c :: r ∧ 97 ≤ c := by
  have app : ∀ {a b : Str}, (∃ c r, tl a = c :: r ∧ 97 ≤ c) → ∃ c r, tl (a ++ b) = c :: r ∧ 97 ≤ c := fun {a b} ⟨c, r, e, h⟩ => ⟨c, r ++ tl b, by rw [tl_append, e]; rfl, h⟩
  cases x with
  | row r =>
    have ok := h r rfl
    have hn : ∀ x, x ∈ r.names → nameOk x := fun x hx => (ok.1 x hx).1
    cases r with
    | note x o ps => exact app (app (app (app (app (name_head (hn x List.mem_cons_self))))))
    | copy x y => exact app (app (name_head (hn x (by simp [PR.names]))))
    | give x i => exact app (app (name_head (hn x (by simp [PR.names]))))
    | ask x => exact app (app ⟨97, _, tl_ask, by omega⟩)
    | prt x => exact app (app ⟨112, _, tl_print, by omega⟩)
  | ei => exact ⟨101, _, tl_either, by omega⟩
  | ag => exact ⟨97, _, tl_again, by omega⟩
  | or_ => exact ⟨111, _, tl_or, by omega⟩
theorem tl_ln (d : Nat) (x : Bd) : tl (lnS (d, x)) = List.replicate (2 * d) 32 ++ tl x.txt := by show tl (bl (2 * d) ++ x.txt) = _; rw [tl_append, tl_bl]
def sp_blanks (NS : List Str) : DSp := fun ds G Q _ => ∃ l : Ln, ds = [.str (lnS l)] ∧ LnOk NS l ∧ Q (.int ((2 * l.1 : Nat) : Int)) G
theorem v_blanks {NS : List Str} {ds : List D} {G : Gh} {Q : DQ} {E : DXq} (h : sp_blanks NS ds G Q E) : W_blanks_ahead (endsOf K Q) (dstart N_blanks_ahead ds) G := by
  obtain ⟨⟨d, x⟩, rfl, ok, q⟩ := h
  show W_blanks_ahead (endsOf K Q) [some (.str (lnS (d, x))), none] G
  have hz := sizeLine_eq
  have hlen := lnS_len ok
  obtain ⟨c, r, e, hc⟩ := bd_head ok.2
  have et := tl_ln d x
  have hl : (lnS (d, x)).length = 2 * d + (r.length + 1) := by rw [len_tl, et, e]; simp
  unfold W_blanks_ahead
  refine seq_rule (fun σ' G' => σ' = [some (.str (lnS (d, x))), some (.int ((0 : Nat) : Int))] ∧ G' = G) (fun N hN => hN _ _ ⟨rfl, rfl⟩) ?_
  rintro σ' G' ⟨rfl, rfl⟩
  refine seq_rule (fun σ' G'' => σ' = [some (.str (lnS (d, x))), some (.int ((2 * d : Nat) : Int))] ∧ G'' = G') (fun N hN => ?_) ?_
  · refine ⟨fun k σ G'' => ∃ i : Nat, i ≤ 2 * d ∧ k = 2 * d - i ∧ σ = [some (.str (lnS (d, x))), some (.int (i : Int))] ∧ G'' = G', ⟨_, 0, by omega, rfl, rfl, rfl⟩, ?_⟩
    rintro k σ G'' ⟨i, hi, rfl, rfl, rfl⟩
    simp only [wAnd]
    show (fun k => if k = true then _ else _) (decide ((i : Int) < (((lnS (d, x)).length : Nat) : Int)))
    rw [decide_eq_true (by omega)]
    show wB (wOp (rEqB false) (wOp rIx2 (wVar 0) (wVar 1)) (wC (.str " "))) _ _ _
    have sign : ∀ (c0 : Nat) (P : Bool → Gh → Prop), (tl (lnS (d, x)))[i]? = some c0 → P (decide ((⟨#[c0]⟩ : Str) = " ")) G'' → wB (wOp (rEqB false) (wOp rIx2 (wVar 0) (wVar 1)) (wC (.str " "))) [some (.str (lnS (d, x))), some (.int (i : Int))] G'' P := fun c0 P hc0 hP => by
      have hi2 : i < (tl (lnS (d, x))).length := (List.getElem?_eq_some_iff.mp hc0).1
      exact ⟨by omega, c0, by rw [show (lnS (d, x)).cps.toList = tl (lnS (d, x)) from rfl, atI_in hi2]; exact hc0, by show P (false ^^ decide ((⟨#[c0]⟩ : Str) = " ")) G''; rw [Bool.false_xor]; exact hP⟩
    by_cases hlt : i < 2 * d
    · refine sign 32 _ (by rw [et, List.getElem?_append_left (by simpa using hlt), List.getElem?_replicate]; simp [hlt]) ?_
      rw [str_eq (a := ⟨#[32]⟩) (b := " ") (by rw [tl_blank])]
      refine ⟨fun σ' G' => σ' = [some (.str (lnS (d, x))), some (.int ((i + 1 : Nat) : Int))] ∧ G' = G'', ?_, ?_⟩
      · rintro σ' G' ⟨rfl, rfl⟩
        exact ⟨_, by omega, i + 1, by omega, rfl, rfl, rfl⟩
      · exact ⟨by show [some (D.str (lnS (d, x))), some (D.int ((i : Int) + 1))] = _; rw [Int.natCast_add]; rfl, rfl⟩
    · have hi2 : i = 2 * d := by omega
      subst hi2
      refine sign c _ (by rw [et, List.getElem?_append_right (by simp)]; simp [e]) ?_
      rw [str_ne (a := ⟨#[c]⟩) (b := " ") (by rw [tl_blank]; intro z; cases z; omega)]
      exact hN _ _ ⟨rfl, rfl⟩
  · rintro σ' G'' ⟨rfl, rfl⟩
    exact rt_here q
/-! read_program -/
abbrev SPprog (C : Addr) : DSp := anySp fun NS => sp_init NS C
theorem txt_split {NS : List Str} {b : Blk} (ok : b.ok NS 1) : Txt.split (txtOf b) "\n" = (lnsOf 0 b).map lnS ++ [Str.empty] := by
  have e : txtOf b = Txt.join "\n" ((lnsOf 0 b).map lnS ++ [Str.empty]) := by
    apply ext_tl
    unfold txtOf
    rw [tl_joinE, TL.join_eq, TL.tl_join, tl_nl]
    have : ∀ ls : List Ln, ((ls.map fun l => lnS l ++ "\n").map tl).flatten = TL.joinL [10] ((ls.map lnS ++ [Str.empty]).map tl) := by
      intro ls
      induction ls with
      | nil => rfl
      | cons l ls ih =>
        rw [List.map_cons, List.map_cons, List.flatten_cons, ih, tl_append, tl_nl]
        cases ls with
        | nil => show tl (lnS l) ++ [10] ++ [] = tl (lnS l) ++ ([10] ++ []); simp
        | cons m ls =>
          show tl (lnS l) ++ [10] ++ TL.joinL [10] (tl (lnS m) :: (ls.map lnS ++ [Str.empty]).map tl) = tl (lnS l) ++ ([10] ++ TL.joinL [10] (tl (lnS m) :: (ls.map lnS ++ [Str.empty]).map tl))
          rw [List.append_assoc]
    exact this _
  rw [e]
  refine TL.split_join tl_nl (by decide +kernel) (by simp) fun z hz => ?_
  rcases List.mem_append.mp hz with hz | hz
  · obtain ⟨⟨d, x⟩, hl, rfl⟩ := List.mem_map.mp hz
    have okl := lns_ok b 0 1 ok (by omega) (by omega) _ hl
    rw [tl_ln]
    intro hm
    rcases List.mem_append.mp hm with hm | hm
    · have := (List.mem_replicate.mp hm).2; omega
    · cases x with
      | row r =>
        have ok := okl.2 r rfl
        have hn : ∀ x, x ∈ r.names → (10 : Nat) ∉ tl x := fun x hx => name_free (ok.1 x hx).1 (by omega)
        replace hm : 10 ∈ tl r.txt := hm
        cases r with
        | note x o ps =>
          have h1 := hn x List.mem_cons_self
          have h2 : (10 : Nat) ∉ tl o := name_free ok.2.1 (by omega)
          have h3 : (10 : Nat) ∉ tl (Txt.join ", " ps) := by
            rw [tl_join2]
            have : ∀ qs : List Str, (∀ y ∈ qs, (10 : Nat) ∉ tl y) → (10 : Nat) ∉ TL.joinL [44, 32] (qs.map tl) := by
              intro qs
              induction qs with
              | nil => intro _ h; cases h
              | cons y qs ih =>
                intro hq h
                cases qs with
                | nil => exact hq y List.mem_cons_self h
                | cons y2 qs =>
                  replace h : 10 ∈ tl y ++ ([44, 32] ++ TL.joinL [44, 32] ((y2 :: qs).map tl)) := h
                  rcases List.mem_append.mp h with h | h
                  · exact hq y List.mem_cons_self h
                  · rcases List.mem_append.mp h with h | h
                    · simp at h
                    · exact ih (fun z hz => hq z (List.mem_cons_of_mem _ hz)) h
            exact this ps fun y hy => hn y (List.mem_cons_of_mem _ hy)
          simp only [PR.txt, tl_append, tl_eqs, tl_open, tl_close] at hm
          simp [h1, h2, h3] at hm
        | copy x y =>
          have h1 := hn x (by simp [PR.names])
          have h2 := hn y (by simp [PR.names])
          simp only [PR.txt, tl_append, tl_eqs] at hm
          simp [h1, h2] at hm
        | give x i =>
          have h1 := hn x (by simp [PR.names])
          have h2 : (10 : Nat) ∉ tl (numS i) := numS_small (by omega)
          simp only [PR.txt, tl_append, tl_eqs] at hm
          simp [h1, h2] at hm
        | ask x =>
          have h1 := hn x (by simp [PR.names])
          simp only [PR.txt, tl_append, tl_ask, tl_blank] at hm
          simp [h1] at hm
        | prt x =>
          have h1 := hn x (by simp [PR.names])
          simp only [PR.txt, tl_append, tl_print, tl_blank] at hm
          simp [h1] at hm
      | ei => replace hm : 10 ∈ tl "either" := hm; rw [tl_either] at hm; simp at hm
      | ag => replace hm : 10 ∈ tl "again" := hm; rw [tl_again] at hm; simp at hm
      | or_ => replace hm : 10 ∈ tl "or" := hm; rw [tl_or] at hm; simp at hm
  · rw [List.mem_singleton.mp hz]; intro h; cases h
theorem Stp.bn {n : Nat} {s s' : Stk} {l : Ln} (h : Stp s l s') (b : Bn n s) (hs : s.length ≤ n) : Bn (n + 1) s' ∧ s'.length ≤ n + 1 := by
  cases h with
  | row hl sh => exact ⟨(sh.bn b).put, by have := sh.len.1; simp only [List.length_cons] at *; omega⟩
  | ei hl sh => exact ⟨(sh.bn b).push (by have := sh.len.1; omega) rfl, by have := sh.len.1; simp only [List.length_cons] at *; omega⟩
  | ag hl sh => exact ⟨(sh.bn b).push (by have := sh.len.1; omega) rfl, by have := sh.len.1; simp only [List.length_cons] at *; omega⟩
  | or_ hl sh hw => exact ⟨(sh.bn b).tail.push (by have := sh.len.1; simp only [List.length_cons] at *; omega) rfl, by have := sh.len.1; simp only [List.length_cons] at *; omega⟩
end P3

/-! V6k: read_program. -/
namespace P3
open PySem PySem.Spec L2 DL
open TL (tl ext_tl tl_append len_tl numL)
local macro_rules | `(tactic| trivial) => `(tactic| simp only [wSeq, wNext, wRet, wIfS, wAsg, wName, wVar, wC, wDrop, wOp, wCall, wCons, wNil, wIf, wB, wNot, wAnd, wOr, wAndV, wOrV, wNotV, wTup, wLst, wLstV, wFor, wISeq, wIRng1, wIRng2, wIEnum, wIStr, wChain, wIsi, wSl, wPart, wNoPart, wCallF, wCallL, wAppend, wExtend, wSetL, wSetD, wPar, wAugI, wGTup, wGCons, wGNil, wDGet, wDIn, wDict, wDictV, wPairs, wLcV, wLc, wYes, wSetF, wFld, wRev, wNeg, wNever, wLoop, wComp, wSortSet, wTry, wRaise, wCallSt, wRetX, wSetX, rEqO, rNeO, wMake, rIntA, rMulA, wTryM, wMixX, wRaise1, wXf, DEnds.off, wMeth, wPop, wTx1, onStr, wSplit, wPartition, wJoin, rSplit, rPartition, rJoin, rIntS, rStr, rMulS, wIEnumL,
  rNe0, DL.rAdd, DL.rSub, DL.rMul, DL.rDiv, DL.rMod, DL.rPow, DL.rI2, DL.rCmpI, DL.rEqB, DL.rIsN, DL.rInS, DL.rIx2, DL.ixSeq, DL.itemsOf, DL.listOf, DL.dictOf, DL.keyOf, DL.goL, DL.goK, DL.goI, DL.objOf, DL.rLenA, DL.rLen, DL.rSum, DL.rAll, DL.rTuple, DL.rList, DL.rAbs, DL.rInt, rKIn, rKGet, rIsBl, rEq0, lst2, gup_same, dwipe, slot_def, at0, at1, at2, at3, atm, cut1, cutAll,
  List.set_cons_zero, List.set_cons_succ, List.getElem?_cons_zero, List.getElem?_cons_succ, List.getElem?_nil, Option.join_some, Option.join_none, List.length_cons, List.length_nil, if_true, if_false, Bool.false_eq_true, reduceIte, Bool.not_true, Bool.not_false, Bool.true_xor, Bool.false_xor, Bool.xor_true, Bool.xor_false, true_and, and_true, reduceCtorEq, decide_true, decide_false, Option.isSome_some, Option.isSome_none, List.cons_append, List.nil_append,
  s_note_copy, s_note_give, s_note_ask, s_note_print, s_note_either, s_note_again, s_note_call, s_copy_note, s_copy_give, s_copy_ask, s_copy_print, s_copy_either, s_copy_again, s_copy_call, s_give_note, s_give_copy, s_give_ask, s_give_print, s_give_either, s_give_again, s_give_call, s_ask_note, s_ask_copy, s_ask_give, s_ask_print, s_ask_either, s_ask_again, s_ask_call, s_print_note, s_print_copy, s_print_give, s_print_ask, s_print_either, s_print_again, s_print_call, s_either_note, s_either_copy, s_either_give, s_either_ask, s_either_print, s_either_again, s_either_call, s_again_note, s_again_copy, s_again_give, s_again_ask, s_again_print, s_again_either, s_again_call, s_call_note, s_call_copy, s_call_give, s_call_ask, s_call_print, s_call_either, s_call_again, s_note, s_copy, s_give, s_ask, s_print, s_either, s_again, s_call, i_note, j_note, l_note, i_copy, j_copy, l_copy, i_give, j_give, l_give, i_ask, j_ask, l_ask, i_print, j_print, l_print, i_either, j_either, l_either, i_again, j_again, l_again, i_call, j_call, l_call,
  Nat.reduceAdd, Nat.zero_add, Int.reduceLT, Int.reduceLE, Int.reduceEq, Int.reduceAdd, Int.reduceNeg, Int.reduceSub, cz0, cz1, cz2, cz3, cz4, cz5, cz6, cz7, cz8, cz9, t_tup, t_str, t_int, t_bl, lt0, lt1, lt2, lt3, lt4, lt5, lt6, zl0, zl1, zl2, zl3, zl4, zl5, zl6, zl9, rn2, x51, x52, x53, x54, at4, lkb, fl1, fl2, flstr, flint, flnon, flbl, List.all_cons, List.all_nil, Bool.and_true])
local macro_rules | `(tactic| get_elem_tactic_trivial) => `(tactic| simp only [wSeq, wNext, wRet, wIfS, wAsg, wName, wVar, wC, wDrop, wOp, wCall, wCons, wNil, wIf, wB, wNot, wAnd, wOr, wAndV, wOrV, wNotV, wTup, wLst, wLstV, wFor, wISeq, wIRng1, wIRng2, wIEnum, wIStr, wChain, wIsi, wSl, wPart, wNoPart, wCallF, wCallL, wAppend, wExtend, wSetL, wSetD, wPar, wAugI, wGTup, wGCons, wGNil, wDGet, wDIn, wDict, wDictV, wPairs, wLcV, wLc, wYes, wSetF, wFld, wRev, wNeg, wNever, wSortSet, wTry, wRaise, wCallSt, wRetX, wSetX, rEqO, rNeO, wMake, rIntA, rMulA, wTryM, wMixX, wRaise1, wXf, DEnds.off, wMeth, wPop, wTx1, onStr, wSplit, wPartition, wJoin, rSplit, rPartition, rJoin, rIntS, rStr, rMulS, wIEnumL,
  rNe0, DL.rAdd, DL.rSub, DL.rMul, DL.rDiv, DL.rMod, DL.rPow, DL.rI2, DL.rCmpI, DL.rEqB, DL.rIsN, DL.rInS, DL.rIx2, DL.ixSeq, DL.itemsOf, DL.listOf, DL.dictOf, DL.keyOf, DL.goL, DL.goK, DL.goI, DL.objOf, DL.rLenA, DL.rLen, DL.rSum, DL.rAll, DL.rTuple, DL.rList, DL.rAbs, DL.rInt, rKIn, rKGet, rIsBl, rEq0, lst2, gup_same, dwipe, slot_def, at0, at1, at2, at3, atm, cut1, cutAll,
  List.set_cons_zero, List.set_cons_succ, List.getElem?_cons_zero, List.getElem?_cons_succ, List.getElem?_nil, Option.join_some, Option.join_none, List.length_cons, List.length_nil, if_true, if_false, Bool.false_eq_true, reduceIte, Bool.not_true, Bool.not_false, Bool.true_xor, Bool.false_xor, Bool.xor_true, Bool.xor_false, true_and, and_true, reduceCtorEq, decide_true, decide_false, Option.isSome_some, Option.isSome_none, List.cons_append, List.nil_append,
  s_note_copy, s_note_give, s_note_ask, s_note_print, s_note_either, s_note_again, s_note_call, s_copy_note, s_copy_give, s_copy_ask, s_copy_print, s_copy_either, s_copy_again, s_copy_call, s_give_note, s_give_copy, s_give_ask, s_give_print, s_give_either, s_give_again, s_give_call, s_ask_note, s_ask_copy, s_ask_give, s_ask_print, s_ask_either, s_ask_again, s_ask_call, s_print_note, s_print_copy, s_print_give, s_print_ask, s_print_either, s_print_again, s_print_call, s_either_note, s_either_copy, s_either_give, s_either_ask, s_either_print, s_either_again, s_either_call, s_again_note, s_again_copy, s_again_give, s_again_ask, s_again_print, s_again_either, s_again_call, s_call_note, s_call_copy, s_call_give, s_call_ask, s_call_print, s_call_either, s_call_again, s_note, s_copy, s_give, s_ask, s_print, s_either, s_again, s_call, i_note, j_note, l_note, i_copy, j_copy, l_copy, i_give, j_give, l_give, i_ask, j_ask, l_ask, i_print, j_print, l_print, i_either, j_either, l_either, i_again, j_again, l_again, i_call, j_call, l_call,
  Nat.reduceAdd, Nat.zero_add, Int.reduceLT, Int.reduceLE, Int.reduceEq, Int.reduceAdd, Int.reduceNeg, Int.reduceSub, cz0, cz1, cz2, cz3, cz4, cz5, cz6, cz7, cz8, cz9, t_tup, t_str, t_int, t_bl, lt0, lt1, lt2, lt3, lt4, lt5, lt6, zl0, zl1, zl2, zl3, zl4, zl5, zl6, zl9, rn2, x51, x52, x53, x54, at4, lkb, fl1, fl2, flstr, flint, flnon, flbl, List.all_cons, List.all_nil, Bool.and_true])
variable {K : PySem.W.Frag} {OC : Addr → Bool}
theorem cutD_but (l : List D) (x : D) : cutD (l ++ [x]) none (some (-1)) = l := by
  unfold cutD
  rw [sIx_m1, HT.sIx_none, List.length_append, List.length_singleton, Nat.add_sub_cancel, List.drop_zero, Nat.sub_zero, List.take_left]
theorem stp_or {s s' : Stk} {d : Nat} (h : Stp s (d, .or_) s') : ∃ r l, d + 2 ≤ s.length ∧ Shr (d + 2) s (l :: r) ∧ l.w = .ei ∧ s' = ⟨.or_, [], .tup l.rows⟩ :: r := by
  cases h with
  | or_ h1 h2 h3 => exact ⟨_, _, h1, h2, h3, rfl⟩
theorem txt_long {NS : List Str} {r : PR} (ok : r.ok NS) : 4 ≤ r.txt.length := by
  have hn : ∀ x, x ∈ r.names → 1 ≤ x.length := fun x hx => (ok.1 x hx).1.1
  cases r with
  | note x o ps => have := hn x List.mem_cons_self; simp only [PR.txt, len_add, c_eqs, c_open, c_close]; omega
  | copy x y => have := hn x (by simp [PR.names]); simp only [PR.txt, len_add, c_eqs]; omega
  | give x i => have := hn x (by simp [PR.names]); simp only [PR.txt, len_add, c_eqs]; omega
  | ask x => simp only [PR.txt, len_add, c_ask, c_blank]; omega
  | prt x => simp only [PR.txt, len_add, c_print, c_blank]; omega
def sp_read (NS : List Str) (C : Addr) : DSp := fun ds G Q _ => ∃ b : Blk, ds = [.str (txtOf b)] ∧ b.ok NS 1 ∧ b.ds.length ≤ 12 ∧ b.size ≤ 30 ∧ NS.length ≤ 8 ∧ Q (prg C b) G
theorem v_read {NS : List Str} {C CL CV : Addr} {ds : List D} {G : Gh} {Q : DQ} {E : DXq} (h : sp_read NS C ds G Q E) :
    W_read_program K CV CL C OC (sp_shrink CL CV) (sp_take_or CL CV) (sp_take_row NS CL CV) (sp_lines0 CL CV) (SPprog C) (sp_blanks NS) (endsOf K Q) (dstart N_read_program ds) G := by
  obtain ⟨b, rfl, ok, hds, hs, hns, q⟩ := h
  show W_read_program K CV CL C OC (sp_shrink CL CV) (sp_take_or CL CV) (sp_take_row NS CL CV) (sp_lines0 CL CV) (SPprog C) (sp_blanks NS) (endsOf K Q) [some (.str (txtOf b)), none, none, none, none, none] G
  have hz := sizeLine_eq
  obtain ⟨hb1, hb2⟩ := txt_bounds ok hs
  have hll := lns_len b 0
  have lok := lns_ok b 0 1 ok (by omega) (by omega)
  unfold W_read_program
  refine seq_rule (fun σ' G' => σ' = [some (.str (txtOf b)), none, none, none, none, none] ∧ G' = G) (fun N hN => ?_) ?_
  · simp only [wIfS, wNot, wB, wIsi, wVar, slot_def, List.getElem?_cons_zero, Option.join_some]
    refine isK_ok (OC := OC) (d := .str (txtOf b)) rfl ?_
    exact hN _ _ ⟨rfl, rfl⟩
  rintro σ' G' ⟨rfl, rfl⟩
  refine seq_rule (fun σ' G'' => σ' = [some (.str (txtOf b)), some (.lst (((lnsOf 0 b).map lnS ++ [Str.empty]).map .str)), none, none, none, none] ∧ G'' = G') (fun N hN => ?_) ?_
  · refine ⟨by rw [c_nl]; decide, by omega, ?_⟩
    rw [txt_split ok]
    refine ⟨by simp only [List.length_append, List.length_map, List.length_cons, List.length_nil]; omega, fun z hzz => ?_, hN _ _ ⟨rfl, rfl⟩⟩
    rcases List.mem_append.mp hzz with hzz | hzz
    · obtain ⟨l, hl, rfl⟩ := List.mem_map.mp hzz
      have := lnS_len (lok l hl); omega
    · rw [List.mem_singleton.mp hzz]; show 0 ≤ sizeLine; omega
  rintro σ' G'' ⟨rfl, rfl⟩
  refine seq_rule (fun σ' G' => ∃ L : Addr, σ' = [some (.str (txtOf b)), some (.lst (((lnsOf 0 b).map lnS ++ [Str.empty]).map .str)), some (.ref L), none, none, none] ∧ Own CL CV G'' G' L [⟨.all, [], .non⟩]) (fun N hN => ?_) ?_
  · intro L hL
    refine ⟨L, rfl, gup_same, fun G' ow => ⟨rfl, .ref L, _, .refl, hN _ _ ⟨L, rfl, ?_⟩⟩⟩
    have e : (fun z => if z = L then none else gup G'' L (.ins CL []) z) = G'' := by
      funext z
      split
      · rename_i e; rw [e, hL]
      · rename_i e; rw [gup_ne e]
    rw [e] at ow
    exact ow
  rintro σ' G1 ⟨L, rfl, ow⟩
  -- the lines
  obtain ⟨s', runs, shr⟩ := runs_blk b 0 [⟨.all, [], .non⟩] [] ⟨.all, [], .non⟩ rfl (.done (by simp))
  refine seq_rule (fun σ' G' => ∃ x3 x4 x5 n, σ' = [some (.str (txtOf b)), some (.lst (((lnsOf 0 b).map lnS ++ [Str.empty]).map .str)), some (.ref L), x3, x4, x5] ∧ Own CL CV G'' G' L s' ∧ Bn n s' ∧ s'.length ≤ n ∧ n ≤ 1000) (fun N hN => ?_) ?_
  · have e1 : ∀ Q' : List D → (Gh → Prop) → Gh → Prop, Q' (pairsFrom 0 ((lnsOf 0 b).map fun l => .str (lnS l))) (fun _ => True) G1 → wIEnumL (wSl (wVar 1) wNoPart (wPart (wNeg (wC (.int 1))))) [some (.str (txtOf b)), some (.lst (((lnsOf 0 b).map lnS ++ [Str.empty]).map .str)), some (.ref L), none, none, none] G1 Q' := fun Q' h' => by
      show Q' (pairsFrom 0 (cutD (((lnsOf 0 b).map lnS ++ [Str.empty]).map D.str) none (some (-1)))) (fun _ => True) G1
      rw [List.map_append, List.map_map]
      rw [show [Str.empty].map D.str = [D.str Str.empty] from rfl, cutD_but]
      exact h'
    refine e1 _ ?_
    refine loop_rule (fun items σ G' => ∃ (i n : Nat) (ls : List Ln) (s : Stk) (x3 x4 x5 : Option D), items = pairsFrom i (ls.map fun l => .str (lnS l)) ∧ σ = [some (.str (txtOf b)), some (.lst (((lnsOf 0 b).map lnS ++ [Str.empty]).map .str)), some (.ref L), x3, x4, x5] ∧ Own CL CV G'' G' L s ∧ Runs s ls s' ∧ Bn n s ∧ s.length ≤ n ∧ n + ls.length ≤ 100 ∧ ∀ l ∈ ls, LnOk NS l) ?_ ?_ _ _ _ ⟨0, 1, lnsOf 0 b, [⟨.all, [], .non⟩], none, none, none, rfl, rfl, ow, runs, ?_, by simp, by omega, lok⟩
    · rintro σ G' ⟨i, n, ls, s, x3, x4, x5, hi, rfl, ow, run, bn, hsn, hn, _⟩
      cases ls with
      | nil =>
        cases run
        exact ⟨True.intro, hN _ _ ⟨_, _, _, n, rfl, ow, bn, hsn, by omega⟩⟩
      | cons l ls => cases hi
    · rintro it its N2 σ G' hN2 ⟨i, n, ls, s, x3, x4, x5, hi, rfl, ow, run, bn, hsn, hn, hok⟩
      cases ls with
      | nil => cases hi
      | cons l ls =>
        cases hi
        cases run with
        | @cons _ s2 _ _ _ st run =>
          obtain ⟨b2, l2⟩ := st.bn bn hsn
          have okl := hok l List.mem_cons_self
          simp only [List.length_cons] at hn
          have fin : ∀ x3 x4 x5 G', Own CL CV G'' G' L s2 → N2 [some (.str (txtOf b)), some (.lst (((lnsOf 0 b).map lnS ++ [Str.empty]).map .str)), some (.ref L), x3, x4, x5] G' := fun x3 x4 x5 G' ow' => hN2 _ _ ⟨i + 1, n + 1, ls, s2, x3, x4, x5, rfl, rfl, ow', run, b2, l2, by omega, fun y hy => hok y (List.mem_cons_of_mem _ hy)⟩
          obtain ⟨d, x⟩ := l
          refine ⟨True.intro, rfl, rfl, ?_⟩
          refine seq_rule (fun σ' G'' => σ' = [some (.str (txtOf b)), some (.lst (((lnsOf 0 b).map lnS ++ [Str.empty]).map .str)), some (.ref L), some (.int (i : Nat)), some (.str (lnS (d, x))), some (.int ((2 * d : Nat) : Int))] ∧ G'' = G') (fun N3 hN3 => ?_) ?_
          · exact ⟨(d, x), rfl, okl, hN3 _ _ ⟨rfl, rfl⟩⟩
          rintro σ' G3 ⟨rfl, rfl⟩
          refine seq_rule (fun σ' G'' => σ' = [some (.str (txtOf b)), some (.lst (((lnsOf 0 b).map lnS ++ [Str.empty]).map .str)), some (.ref L), some (.int (i : Nat)), some (.str (lnS (d, x))), some (.int ((2 * d : Nat) : Int))] ∧ G'' = G3) (fun N3 hN3 => ?_) ?_
          · have tv : ∀ P : Bool → Gh → Prop, P (decide (((2 * d : Nat) : Int) % 2 = 1)) G3 → wB (wOp (rEqB false) (wOp rMod (wVar 5) (wC (.int 2))) (wC (.int 1))) [some (.str (txtOf b)), some (.lst (((lnsOf 0 b).map lnS ++ [Str.empty]).map .str)), some (.ref L), some (.int (i : Nat)), some (.str (lnS (d, x))), some (.int ((2 * d : Nat) : Int))] G3 P := fun P hP => ⟨(show (0 : Int) < 2 by decide), by
              show P (false ^^ decide (((2 * d : Nat) : Int) % 2 = 1)) G3
              rw [Bool.false_xor]; exact hP⟩
            simp only [wIfS]
            refine tv _ ?_
            rw [decide_eq_false (by omega)]
            exact hN3 _ _ ⟨rfl, rfl⟩
          rintro σ' G4 ⟨rfl, rfl⟩
          have hcut : cutS (lnS (d, x)) (some ((2 * d : Nat) : Int)) none = x.txt := ext_tl (by
            rw [cut_from, tl_ln]
            exact List.drop_left' (by simp))
          obtain ⟨q2, as2, ow⟩ := ow
          have tv : ∀ P : Bool → Gh → Prop, P (decide (x.txt = ("or" : Str))) G4 → wB (wOp (rEqB false) (wSl (wVar 4) (wPart (wVar 5)) wNoPart) (wC (.str "or"))) [some (.str (txtOf b)), some (.lst (((lnsOf 0 b).map lnS ++ [Str.empty]).map .str)), some (.ref L), some (.int (i : Nat)), some (.str (lnS (d, x))), some (.int ((2 * d : Nat) : Int))] G4 P := fun P hP => by
            show P (false ^^ decide (cutS (lnS (d, x)) (some ((2 * d : Nat) : Int)) none = ("or" : Str))) G4
            rw [hcut, Bool.false_xor]; exact hP
          simp only [wIfS]
          refine tv _ ?_
          have hdiv : ((2 * d : Nat) : Int) / 2 = (d : Int) := by omega
          by_cases hx : x = .or_
          · subst hx
            rw [str_eq (a := Bd.or_.txt) (b := "or") rfl]
            obtain ⟨r, l, hl2, sh, hw, rfl⟩ := stp_or st
            refine ⟨_, ow.objO, rfl, ⟨by decide, by decide⟩, ?_⟩
            exact ⟨L, d, _, G'', s, r, l, n, by show [D.ref L, D.int (((2 * d : Nat) : Int) / 2), D.int ((i : Int) + 1)] = _; rw [hdiv], ⟨q2, as2, ow⟩, hl2, sh, hw, bn, by omega, hsn, fun G' ow' => fin _ _ _ _ ow'⟩
          · have hne : decide (x.txt = ("or" : Str)) = false := by
              cases x with
              | or_ => exact (hx rfl).elim
              | ei => decide +kernel
              | ag => decide +kernel
              | row r =>
                refine decide_eq_false fun e => ?_
                have := txt_long (okl.2 r rfl)
                rw [show r.txt = "or" from e, c_or] at this
                omega
            rw [hne]
            refine ⟨_, ow.objO, rfl, ⟨by decide, by decide⟩, ?_⟩
            exact ⟨L, d, _, G'', s, s2, x, n, by show [D.ref L, D.str (cutS (lnS (d, x)) (some ((2 * d : Nat) : Int)) none), D.int (((2 * d : Nat) : Int) / 2), D.int ((i : Int) + 1)] = _; rw [hdiv, hcut], ⟨q2, as2, ow⟩, st, hx, fun r e => okl.2 r e, bn, by omega, hsn, fun G' ow' => fin _ _ _ _ ow'⟩
    · intro y hy
      rw [List.mem_singleton.mp hy]; simp
  rintro σ' G2 ⟨x3, x4, x5, n, rfl, ow2, bn, hsn, hn⟩
  refine seq_rule (fun σ' G' => σ' = [some (.str (txtOf b)), some (.lst (((lnsOf 0 b).map lnS ++ [Str.empty]).map .str)), some (.ref L), x3, x4, x5] ∧ G' = G2) (fun N hN => ?_) ?_
  · have tv : ∀ P : Bool → Gh → Prop, P false G2 → wB (wOp (rEqB true) (wOp rIx2 (wVar 1) (wNeg (wC (.int 1)))) (wC (.str ""))) [some (.str (txtOf b)), some (.lst (((lnsOf 0 b).map lnS ++ [Str.empty]).map .str)), some (.ref L), x3, x4, x5] G2 P := fun P hP => by
      rw [List.map_append]
      show ixSeq (some ((((lnsOf 0 b).map lnS).map D.str) ++ [D.str Str.empty])) (-1) _
      unfold ixSeq
      simp only [atm]
      show P (true ^^ decide (Str.empty = ("" : Str))) G2
      rw [str_eq (a := Str.empty) (b := "") (by rw [tl_empty]; rfl)]
      exact hP
    simp only [wIfS]
    exact tv _ (hN _ _ ⟨rfl, rfl⟩)
  rintro σ' G3 ⟨rfl, rfl⟩
  obtain ⟨q2, as2, ow2⟩ := ow2
  refine seq_rule (fun σ' G' => σ' = [some (.str (txtOf b)), some (.lst (((lnsOf 0 b).map lnS ++ [Str.empty]).map .str)), some (.ref L), x3, x4, x5] ∧ Own CL CV G'' G' L [(⟨.all, [], .non⟩ : Lv).put b.ds]) (fun N hN => ?_) ?_
  · refine ⟨_, ow2.objO, rfl, ?_⟩
    exact ⟨L, 1, _, G'', s', _, n, rfl, ⟨q2, as2, ow2⟩, shr, by omega, bn, hn, hsn, fun G' ow' => hN _ _ ⟨rfl, ow'⟩⟩
  rintro σ' G4 ⟨rfl, q3, as3, ow3⟩
  have hlv := ow3.lvs
  cases hlv with
  | @cons a r as _ _ ha hr t =>
    cases t
    have e0 : ((⟨.all, [], .non⟩ : Lv).put b.ds).rows = b.ds := rfl
    rw [e0] at hr
    have key : ∀ Q' : DQ, Q' (.ref a) G4 → wOp rIx2 (wFld CL "kept_levels" (wVar 2)) (wC (.int 0)) [some (.str (txtOf b)), some (.lst (((lnsOf 0 b).map lnS ++ [Str.empty]).map .str)), some (.ref L), x3, x4, x5] G4 Q' := fun Q' h' => by
      simp only [wOp]
      refine fld_rule rfl ow3.obj (lk_levels _) ?_
      show match itemsOf G4 (.ref q3) with | some ds => _ | none => False
      have e2 : itemsOf G4 (.ref q3) = some [.ref a] := by show goL (G4 q3) = _; rw [ow3.lst]; rfl
      rw [e2]
      exact h'
    have key2 : ∀ Q' : DQ, Q' (.tup b.ds) G4 → wCall rTuple (wCons (wFld CV "kept_rows" (wOp rIx2 (wFld CL "kept_levels" (wVar 2)) (wC (.int 0)))) wNil) [some (.str (txtOf b)), some (.lst (((lnsOf 0 b).map lnS ++ [Str.empty]).map .str)), some (.ref L), x3, x4, x5] G4 Q' := fun Q' h' => by
      simp only [wCall, wCons, wNil]
      show wOp rIx2 (wFld CL "kept_levels" (wVar 2)) (wC (.int 0)) [some (.str (txtOf b)), some (.lst (((lnsOf 0 b).map lnS ++ [Str.empty]).map .str)), some (.ref L), x3, x4, x5] G4 (fun x G1 => match objOf G1 x with | some (C', fs) => C' = CV ∧ (match fs.lookup ("kept_rows" : Str) with | some d => rTuple [d] G1 Q' | none => False) | none => False)
      refine key _ ?_
      show match goI (G4 a) with | some (C', fs) => _ | none => False
      rw [ha]
      refine ⟨rfl, ?_⟩
      show match itemsOf G4 (.ref r) with | some xs => Q' (.tup xs) G4 | none => False
      have e2 : itemsOf G4 (.ref r) = some b.ds := by show goL (G4 r) = _; rw [hr]; rfl
      rw [e2]; exact h'
    simp only [wRet, wMake, wCons, wNil]
    refine key2 _ fun p hp => ?_
    have hp0 : G'' p = none := by
      cases e : G'' p with
      | none => rfl
      | some o => rw [ow3.sub p o e] at hp; cases hp
    refine ⟨NS, p, b, rfl, gup_same, ok, hds, hs, hns, rfl, prg C b, G'', ?_, rt_here q⟩
    rw [gup_gup]
    exact .obj gup_same (ow3.sub.up hp0) hp0
end P3

/-! V4b: blocks as plain data, for ==. -/
namespace P3
open PySem PySem.Spec L2 DL
theorem small_ok : ∀ c ∈ ("abcdefghijklmnopqrstuvwxyz" : Str).cps.toList, c < 0x110000 := by decide +kernel
theorem name_strOk {x : Str} (h : nameOk x) : PyData.strOk x = true := by
  unfold PyData.strOk
  rw [Array.all_eq_true_iff_forall_mem]
  intro c hc
  exact decide_eq_true (small_ok c (h.2.2 c (Array.mem_toList_iff.mpr hc)))
theorem toPs_strs : ∀ ps : List Str, toPs (ps.map D.str) = some (ps.map PyData.str)
  | [] => by simp [toPs]
  | x :: ps => by simp [toPs, toP, toPs_strs ps]
theorem toPs_ints : ∀ ps : List Int, toPs (ps.map D.int) = some (ps.map PyData.int)
  | [] => by simp [toPs]
  | x :: ps => by simp [toPs, toP, toPs_ints ps]
theorem lay_strs : ∀ ps : List Str, (∀ x ∈ ps, nameOk x) → PyData.canLayAll0 (ps.map PyData.str) = true ∧ PyData.depthAll (ps.map PyData.str) = 0
  | [], _ => ⟨rfl, rfl⟩
  | x :: ps, h => by
    obtain ⟨a, b⟩ := lay_strs ps fun y hy => h y (List.mem_cons_of_mem _ hy)
    refine ⟨?_, ?_⟩
    · show (PyData.canLay0 (.str x) && PyData.canLayAll0 (ps.map PyData.str)) = true
      rw [a, Bool.and_true]
      exact name_strOk (h x List.mem_cons_self)
    · show max (PyData.depth (.str x)) (PyData.depthAll (ps.map PyData.str)) = 0
      rw [b]; rfl
/-- plain data of a row, of rows, at most so deep -/
def Pd (d : D) (n : Nat) : Prop := ∃ p, toP d = some p ∧ p.canLay0 = true ∧ p.depth ≤ n
def Pds (ds : List D) (n : Nat) : Prop := ∃ ps, toPs ds = some ps ∧ PyData.canLayAll0 ps = true ∧ PyData.depthAll ps ≤ n
theorem Pds.nil {n : Nat} : Pds [] n := ⟨[], rfl, rfl, Nat.zero_le _⟩
theorem Pds.cons {d : D} {ds : List D} {n : Nat} (a : Pd d n) (b : Pds ds n) : Pds (d :: ds) n := by
  obtain ⟨p, a1, a2, a3⟩ := a
  obtain ⟨ps, b1, b2, b3⟩ := b
  refine ⟨p :: ps, by simp only [toPs, a1, b1], ?_, ?_⟩
  · show (p.canLay0 && PyData.canLayAll0 ps) = true
    rw [a2, b2]; rfl
  · show max p.depth (PyData.depthAll ps) ≤ n
    omega
theorem Pd.tup {ds : List D} {n : Nat} (b : Pds ds n) : Pd (.tup ds) (n + 1) := by
  obtain ⟨ps, b1, b2, b3⟩ := b
  refine ⟨.tuple ps, by simp only [toP, b1], b2, ?_⟩
  show PyData.depthAll ps + 1 ≤ n + 1
  omega
theorem Pd.str {x : Str} {n : Nat} (h : PyData.strOk x = true) : Pd (.str x) n := ⟨.str x, by simp only [toP], h, Nat.zero_le _⟩
theorem Pd.int {x : Int} {n : Nat} : Pd (.int x) n := ⟨.int x, by simp only [toP], rfl, Nat.zero_le _⟩
theorem Pd.le {d : D} {n m : Nat} (a : Pd d n) (h : n ≤ m) : Pd d m := let ⟨p, a1, a2, a3⟩ := a; ⟨p, a1, a2, Nat.le_trans a3 h⟩
theorem Pds.le {d : List D} {n m : Nat} (a : Pds d n) (h : n ≤ m) : Pds d m := let ⟨p, a1, a2, a3⟩ := a; ⟨p, a1, a2, Nat.le_trans a3 h⟩
theorem Pds.names {ps : List Str} {n : Nat} (h : ∀ x ∈ ps, nameOk x) : Pds (ps.map .str) n := let ⟨a, b⟩ := lay_strs ps h; ⟨_, toPs_strs ps, a, by rw [b]; exact Nat.zero_le _⟩
theorem pr_pd {NS : List Str} {r : PR} (ok : r.ok NS) : Pd r.toD 2 := by
  obtain ⟨h1, h2⟩ := ok
  have nm : ∀ x ∈ r.names, PyData.strOk x = true := fun x hx => name_strOk (h1 x hx).1
  cases r with
  | note x o ps =>
    exact .tup (.cons (.str (by decide +kernel)) (.cons (.str (nm x (by simp [PR.names]))) (.cons (.str (name_strOk h2.1)) (.cons (.tup (Pds.names fun y hy => (h1 y (by simp [PR.names, hy])).1)) .nil))))
  | copy x y => exact .tup (.cons (.str (by decide +kernel)) (.cons (.str (nm x (by simp [PR.names]))) (.cons (.str (nm y (by simp [PR.names]))) .nil)))
  | give x n => exact .tup (.cons (.str (by decide +kernel)) (.cons (.str (nm x (by simp [PR.names]))) (.cons .int .nil)))
  | ask x => exact .tup (.cons (.str (by decide +kernel)) (.cons (.str (nm x (by simp [PR.names]))) .nil))
  | prt x => exact .tup (.cons (.str (by decide +kernel)) (.cons (.str (nm x (by simp [PR.names]))) .nil))
theorem blk_pd {NS : List Str} : ∀ (b : Blk) (k n : Nat), b.ok NS k → 4 ≤ k + n → Pds b.ds (2 + 2 * n)
  | .nil, _, _, _, _ => .nil
  | .pl r t, k, n, ok, h => .cons ((pr_pd ok.1).le (by omega)) (blk_pd t k n ok.2 h)
  | .ei x y t, k, n, ⟨h4, _, _, o1, o2, o3⟩, h => by
    obtain ⟨m, rfl⟩ : ∃ m, n = m + 1 := ⟨n - 1, by omega⟩
    have a := blk_pd x (k + 1) m o1 (by omega)
    have b := blk_pd y (k + 1) m o2 (by omega)
    have c : Pd (.tup [.str "either", x.toD, y.toD]) (2 + 2 * m + 1 + 1) := .tup (.cons (.str (by decide +kernel)) (.cons (.tup a) (.cons (.tup b) .nil)))
    exact .cons (c.le (by omega)) (blk_pd t k (m + 1) o3 h)
  | .ag x t, k, n, ⟨h4, _, o1, o3⟩, h => by
    obtain ⟨m, rfl⟩ : ∃ m, n = m + 1 := ⟨n - 1, by omega⟩
    have a := blk_pd x (k + 1) m o1 (by omega)
    have c : Pd (.tup [.str "again", x.toD]) (2 + 2 * m + 1 + 1) := .tup (.cons (.str (by decide +kernel)) (.cons (.tup a) .nil))
    exact .cons (c.le (by omega)) (blk_pd t k (m + 1) o3 h)
/-- what == asks -/
theorem Pd.shaped {d : D} {n : Nat} (a : Pd d n) (h : n ≤ 64) : ∃ p, toP d = some p ∧ SeqAt.shaped p = true := by
  obtain ⟨p, a1, a2, a3⟩ := a
  refine ⟨p, a1, ?_⟩
  unfold SeqAt.shaped
  rw [a2, decide_eq_true (Nat.le_trans a3 h)]; rfl
end P3

/-! V4g: Program.__eq__. -/
namespace P3
open PySem PySem.Spec L2 DL
local macro_rules | `(tactic| trivial) => `(tactic| simp only [wSeq, wNext, wRet, wIfS, wAsg, wName, wVar, wC, wDrop, wOp, wCall, wCons, wNil, wIf, wB, wNot, wAnd, wOr, wAndV, wOrV, wNotV, wTup, wLst, wLstV, wFor, wISeq, wIRng1, wIRng2, wIEnum, wIStr, wChain, wIsi, wSl, wPart, wNoPart, wCallF, wCallL, wAppend, wExtend, wSetL, wSetD, wPar, wAugI, wGTup, wGCons, wGNil, wDGet, wDIn, wDict, wDictV, wPairs, wLcV, wLc, wYes, wSetF, wFld, wRev, wNeg, wNever, wLoop, wComp, wSortSet, wTry, wRaise, wCallSt, wRetX, wSetX, rEqO, rNeO, wMake, rIntA, rMulA, wTryM, wMixX, wRaise1, wXf, DEnds.off, wMeth, wPop, wTx1, onStr, wSplit, wPartition, wJoin, rSplit, rPartition, rJoin, rIntS, rStr, rMulS, wIEnumL,
  rNe0, DL.rAdd, DL.rSub, DL.rMul, DL.rDiv, DL.rMod, DL.rPow, DL.rI2, DL.rCmpI, DL.rEqB, DL.rIsN, DL.rInS, DL.rIx2, DL.ixSeq, DL.itemsOf, DL.listOf, DL.dictOf, DL.keyOf, DL.goL, DL.goK, DL.goI, DL.objOf, DL.rLenA, DL.rLen, DL.rSum, DL.rAll, DL.rTuple, DL.rList, DL.rAbs, DL.rInt, rKIn, rKGet, rIsBl, rEq0, lst2, gup_same, dwipe, slot_def, at0, at1, at2, at3, atm, cut1, cutAll,
  List.set_cons_zero, List.set_cons_succ, List.getElem?_cons_zero, List.getElem?_cons_succ, List.getElem?_nil, Option.join_some, Option.join_none, List.length_cons, List.length_nil, if_true, if_false, Bool.false_eq_true, reduceIte, Bool.not_true, Bool.not_false, Bool.true_xor, Bool.false_xor, Bool.xor_true, Bool.xor_false, true_and, and_true, reduceCtorEq, decide_true, decide_false, Option.isSome_some, Option.isSome_none, List.cons_append, List.nil_append,
  s_note_copy, s_note_give, s_note_ask, s_note_print, s_note_either, s_note_again, s_note_call, s_copy_note, s_copy_give, s_copy_ask, s_copy_print, s_copy_either, s_copy_again, s_copy_call, s_give_note, s_give_copy, s_give_ask, s_give_print, s_give_either, s_give_again, s_give_call, s_ask_note, s_ask_copy, s_ask_give, s_ask_print, s_ask_either, s_ask_again, s_ask_call, s_print_note, s_print_copy, s_print_give, s_print_ask, s_print_either, s_print_again, s_print_call, s_either_note, s_either_copy, s_either_give, s_either_ask, s_either_print, s_either_again, s_either_call, s_again_note, s_again_copy, s_again_give, s_again_ask, s_again_print, s_again_either, s_again_call, s_call_note, s_call_copy, s_call_give, s_call_ask, s_call_print, s_call_either, s_call_again, s_note, s_copy, s_give, s_ask, s_print, s_either, s_again, s_call, i_note, j_note, l_note, i_copy, j_copy, l_copy, i_give, j_give, l_give, i_ask, j_ask, l_ask, i_print, j_print, l_print, i_either, j_either, l_either, i_again, j_again, l_again, i_call, j_call, l_call,
  Nat.reduceAdd, Nat.zero_add, Int.reduceLT, Int.reduceLE, Int.reduceEq, Int.reduceAdd, Int.reduceNeg, Int.reduceSub, cz0, cz1, cz2, cz3, cz4, cz5, cz6, cz7, cz8, cz9, t_tup, t_str, t_int, t_bl, lt0, lt1, lt2, lt3, lt4, lt5, lt6, zl0, zl1, zl2, zl3, zl4, zl5, zl6, zl9, rn2, x51, x52, x53, x54, at4, lkb, fl1, fl2, flstr, flint, flnon, flbl, List.all_cons, List.all_nil, Bool.and_true])
local macro_rules | `(tactic| get_elem_tactic_trivial) => `(tactic| simp only [wSeq, wNext, wRet, wIfS, wAsg, wName, wVar, wC, wDrop, wOp, wCall, wCons, wNil, wIf, wB, wNot, wAnd, wOr, wAndV, wOrV, wNotV, wTup, wLst, wLstV, wFor, wISeq, wIRng1, wIRng2, wIEnum, wIStr, wChain, wIsi, wSl, wPart, wNoPart, wCallF, wCallL, wAppend, wExtend, wSetL, wSetD, wPar, wAugI, wGTup, wGCons, wGNil, wDGet, wDIn, wDict, wDictV, wPairs, wLcV, wLc, wYes, wSetF, wFld, wRev, wNeg, wNever, wSortSet, wTry, wRaise, wCallSt, wRetX, wSetX, rEqO, rNeO, wMake, rIntA, rMulA, wTryM, wMixX, wRaise1, wXf, DEnds.off, wMeth, wPop, wTx1, onStr, wSplit, wPartition, wJoin, rSplit, rPartition, rJoin, rIntS, rStr, rMulS, wIEnumL,
  rNe0, DL.rAdd, DL.rSub, DL.rMul, DL.rDiv, DL.rMod, DL.rPow, DL.rI2, DL.rCmpI, DL.rEqB, DL.rIsN, DL.rInS, DL.rIx2, DL.ixSeq, DL.itemsOf, DL.listOf, DL.dictOf, DL.keyOf, DL.goL, DL.goK, DL.goI, DL.objOf, DL.rLenA, DL.rLen, DL.rSum, DL.rAll, DL.rTuple, DL.rList, DL.rAbs, DL.rInt, rKIn, rKGet, rIsBl, rEq0, lst2, gup_same, dwipe, slot_def, at0, at1, at2, at3, atm, cut1, cutAll,
  List.set_cons_zero, List.set_cons_succ, List.getElem?_cons_zero, List.getElem?_cons_succ, List.getElem?_nil, Option.join_some, Option.join_none, List.length_cons, List.length_nil, if_true, if_false, Bool.false_eq_true, reduceIte, Bool.not_true, Bool.not_false, Bool.true_xor, Bool.false_xor, Bool.xor_true, Bool.xor_false, true_and, and_true, reduceCtorEq, decide_true, decide_false, Option.isSome_some, Option.isSome_none, List.cons_append, List.nil_append,
  s_note_copy, s_note_give, s_note_ask, s_note_print, s_note_either, s_note_again, s_note_call, s_copy_note, s_copy_give, s_copy_ask, s_copy_print, s_copy_either, s_copy_again, s_copy_call, s_give_note, s_give_copy, s_give_ask, s_give_print, s_give_either, s_give_again, s_give_call, s_ask_note, s_ask_copy, s_ask_give, s_ask_print, s_ask_either, s_ask_again, s_ask_call, s_print_note, s_print_copy, s_print_give, s_print_ask, s_print_either, s_print_again, s_print_call, s_either_note, s_either_copy, s_either_give, s_either_ask, s_either_print, s_either_again, s_either_call, s_again_note, s_again_copy, s_again_give, s_again_ask, s_again_print, s_again_either, s_again_call, s_call_note, s_call_copy, s_call_give, s_call_ask, s_call_print, s_call_either, s_call_again, s_note, s_copy, s_give, s_ask, s_print, s_either, s_again, s_call, i_note, j_note, l_note, i_copy, j_copy, l_copy, i_give, j_give, l_give, i_ask, j_ask, l_ask, i_print, j_print, l_print, i_either, j_either, l_either, i_again, j_again, l_again, i_call, j_call, l_call,
  Nat.reduceAdd, Nat.zero_add, Int.reduceLT, Int.reduceLE, Int.reduceEq, Int.reduceAdd, Int.reduceNeg, Int.reduceSub, cz0, cz1, cz2, cz3, cz4, cz5, cz6, cz7, cz8, cz9, t_tup, t_str, t_int, t_bl, lt0, lt1, lt2, lt3, lt4, lt5, lt6, zl0, zl1, zl2, zl3, zl4, zl5, zl6, zl9, rn2, x51, x52, x53, x54, at4, lkb, fl1, fl2, flstr, flint, flnon, flbl, List.all_cons, List.all_nil, Bool.and_true])
variable {K : PySem.W.Frag} {OC : Addr → Bool}
def ansP (C : Addr) : Tg ⊕ Addr → Option Bool
  | .inl _ => some false
  | .inr A => if A = C then some true else none
def eqD (x y : D) : Bool := match toP x, toP y with | some p, some q => PyData.eqv p q | _, _ => false
theorem blk_shaped {NS : List Str} {b : Blk} (ok : b.ok NS 1) : ∃ p, toP b.toD = some p ∧ SeqAt.shaped p = true := (Pd.tup (blk_pd b 1 3 ok (by omega))).shaped (by omega)
theorem eqD_of {x y : D} {p q : PyData} (h1 : toP x = some p) (h2 : toP y = some q) : eqD x y = PyData.eqv p q := by unfold eqD; rw [h1, h2]
theorem eqD_refl {NS : List Str} {b : Blk} (ok : b.ok NS 1) : eqD b.toD b.toD = true := by
  obtain ⟨p, h1, h2⟩ := blk_shaped ok
  rw [eqD_of h1 h1]
  exact PySem.SeqAt.eqv_refl p (SeqAt.canLay_of_shaped h2)
def sp_eq (C : Addr) : DSp := fun ds G Q _ => (∃ (b c : Blk) (NS MS : List Str), ds = [prg C b, prg C c] ∧ b.ok NS 1 ∧ c.ok MS 1 ∧ Q (.bl (eqD b.toD c.toD)) G) ∨ ∃ (b : Blk) (y : D) (t : Tg), ds = [prg C b, y] ∧ tagOf G y = some (.inl t) ∧ Q (.bl false) G
theorem v_eq {C : Addr} {ds : List D} {G : Gh} {Q : DQ} {E : DXq} (h : sp_eq C ds G Q E) : W_Program_d__eq_d_ C (ansP C) (endsOf K Q) (dstart N_Program_d__eq_d_ ds) G := by
  rcases h with ⟨b, c, NS, MS, rfl, ok, ok2, q⟩ | ⟨b, y, t, rfl, ht, q⟩
  · show W_Program_d__eq_d_ C (ansP C) (endsOf K Q) [some (prg C b), some (prg C c)] G
    unfold W_Program_d__eq_d_
    try trivial
    show isK (if C = C then some true else none) _
    rw [if_pos rfl]
    unfold prg isK
    try trivial
    obtain ⟨p, h1, h2⟩ := blk_shaped ok
    obtain ⟨r, h3, h4⟩ := blk_shaped ok2
    refine ⟨p, r, h1, h3, h2, h4, rt_here ?_⟩
    rw [eqD_of h1 h3] at q
    exact q
  · show W_Program_d__eq_d_ C (ansP C) (endsOf K Q) [some (prg C b), some y] G
    unfold W_Program_d__eq_d_
    try trivial
    simp only [ht]
    exact rt_here q
end P3

/-! V6m: row_text, the law's asking for it. -/
namespace P3
open PySem PySem.Spec L2 DL
local macro_rules | `(tactic| trivial) => `(tactic| simp only [wSeq, wNext, wRet, wIfS, wAsg, wName, wVar, wC, wDrop, wOp, wCall, wCons, wNil, wIf, wB, wNot, wAnd, wOr, wAndV, wOrV, wNotV, wTup, wLst, wLstV, wFor, wISeq, wIRng1, wIRng2, wIEnum, wIStr, wChain, wIsi, wSl, wPart, wNoPart, wCallF, wCallL, wAppend, wExtend, wSetL, wSetD, wPar, wAugI, wGTup, wGCons, wGNil, wDGet, wDIn, wDict, wDictV, wPairs, wLcV, wLc, wYes, wSetF, wFld, wRev, wNeg, wNever, wLoop, wComp, wSortSet, wTry, wRaise, wCallSt, wRetX, wSetX, rEqO, rNeO, wMake, rIntA, rMulA, wTryM, wMixX, wRaise1, wXf, DEnds.off, wMeth, wPop, wTx1, onStr, wSplit, wPartition, wJoin, rSplit, rPartition, rJoin, rIntS, rStr, rMulS, wIEnumL,
  rNe0, DL.rAdd, DL.rSub, DL.rMul, DL.rDiv, DL.rMod, DL.rPow, DL.rI2, DL.rCmpI, DL.rEqB, DL.rIsN, DL.rInS, DL.rIx2, DL.ixSeq, DL.itemsOf, DL.listOf, DL.dictOf, DL.keyOf, DL.goL, DL.goK, DL.goI, DL.objOf, DL.rLenA, DL.rLen, DL.rSum, DL.rAll, DL.rTuple, DL.rList, DL.rAbs, DL.rInt, rKIn, rKGet, rIsBl, rEq0, lst2, gup_same, dwipe, slot_def, at0, at1, at2, at3, atm, cut1, cutAll,
  List.set_cons_zero, List.set_cons_succ, List.getElem?_cons_zero, List.getElem?_cons_succ, List.getElem?_nil, Option.join_some, Option.join_none, List.length_cons, List.length_nil, if_true, if_false, Bool.false_eq_true, reduceIte, Bool.not_true, Bool.not_false, Bool.true_xor, Bool.false_xor, Bool.xor_true, Bool.xor_false, true_and, and_true, reduceCtorEq, decide_true, decide_false, Option.isSome_some, Option.isSome_none, List.cons_append, List.nil_append,
  s_note_copy, s_note_give, s_note_ask, s_note_print, s_note_either, s_note_again, s_note_call, s_copy_note, s_copy_give, s_copy_ask, s_copy_print, s_copy_either, s_copy_again, s_copy_call, s_give_note, s_give_copy, s_give_ask, s_give_print, s_give_either, s_give_again, s_give_call, s_ask_note, s_ask_copy, s_ask_give, s_ask_print, s_ask_either, s_ask_again, s_ask_call, s_print_note, s_print_copy, s_print_give, s_print_ask, s_print_either, s_print_again, s_print_call, s_either_note, s_either_copy, s_either_give, s_either_ask, s_either_print, s_either_again, s_either_call, s_again_note, s_again_copy, s_again_give, s_again_ask, s_again_print, s_again_either, s_again_call, s_call_note, s_call_copy, s_call_give, s_call_ask, s_call_print, s_call_either, s_call_again, s_note, s_copy, s_give, s_ask, s_print, s_either, s_again, s_call, i_note, j_note, l_note, i_copy, j_copy, l_copy, i_give, j_give, l_give, i_ask, j_ask, l_ask, i_print, j_print, l_print, i_either, j_either, l_either, i_again, j_again, l_again, i_call, j_call, l_call,
  Nat.reduceAdd, Nat.zero_add, Int.reduceLT, Int.reduceLE, Int.reduceEq, Int.reduceAdd, Int.reduceNeg, Int.reduceSub, cz0, cz1, cz2, cz3, cz4, cz5, cz6, cz7, cz8, cz9, t_tup, t_str, t_int, t_bl, lt0, lt1, lt2, lt3, lt4, lt5, lt6, zl0, zl1, zl2, zl3, zl4, zl5, zl6, zl9, rn2, x51, x52, x53, x54, at4, lkb, fl1, fl2, flstr, flint, flnon, flbl, List.all_cons, List.all_nil, Bool.and_true])
local macro_rules | `(tactic| get_elem_tactic_trivial) => `(tactic| simp only [wSeq, wNext, wRet, wIfS, wAsg, wName, wVar, wC, wDrop, wOp, wCall, wCons, wNil, wIf, wB, wNot, wAnd, wOr, wAndV, wOrV, wNotV, wTup, wLst, wLstV, wFor, wISeq, wIRng1, wIRng2, wIEnum, wIStr, wChain, wIsi, wSl, wPart, wNoPart, wCallF, wCallL, wAppend, wExtend, wSetL, wSetD, wPar, wAugI, wGTup, wGCons, wGNil, wDGet, wDIn, wDict, wDictV, wPairs, wLcV, wLc, wYes, wSetF, wFld, wRev, wNeg, wNever, wSortSet, wTry, wRaise, wCallSt, wRetX, wSetX, rEqO, rNeO, wMake, rIntA, rMulA, wTryM, wMixX, wRaise1, wXf, DEnds.off, wMeth, wPop, wTx1, onStr, wSplit, wPartition, wJoin, rSplit, rPartition, rJoin, rIntS, rStr, rMulS, wIEnumL,
  rNe0, DL.rAdd, DL.rSub, DL.rMul, DL.rDiv, DL.rMod, DL.rPow, DL.rI2, DL.rCmpI, DL.rEqB, DL.rIsN, DL.rInS, DL.rIx2, DL.ixSeq, DL.itemsOf, DL.listOf, DL.dictOf, DL.keyOf, DL.goL, DL.goK, DL.goI, DL.objOf, DL.rLenA, DL.rLen, DL.rSum, DL.rAll, DL.rTuple, DL.rList, DL.rAbs, DL.rInt, rKIn, rKGet, rIsBl, rEq0, lst2, gup_same, dwipe, slot_def, at0, at1, at2, at3, atm, cut1, cutAll,
  List.set_cons_zero, List.set_cons_succ, List.getElem?_cons_zero, List.getElem?_cons_succ, List.getElem?_nil, Option.join_some, Option.join_none, List.length_cons, List.length_nil, if_true, if_false, Bool.false_eq_true, reduceIte, Bool.not_true, Bool.not_false, Bool.true_xor, Bool.false_xor, Bool.xor_true, Bool.xor_false, true_and, and_true, reduceCtorEq, decide_true, decide_false, Option.isSome_some, Option.isSome_none, List.cons_append, List.nil_append,
  s_note_copy, s_note_give, s_note_ask, s_note_print, s_note_either, s_note_again, s_note_call, s_copy_note, s_copy_give, s_copy_ask, s_copy_print, s_copy_either, s_copy_again, s_copy_call, s_give_note, s_give_copy, s_give_ask, s_give_print, s_give_either, s_give_again, s_give_call, s_ask_note, s_ask_copy, s_ask_give, s_ask_print, s_ask_either, s_ask_again, s_ask_call, s_print_note, s_print_copy, s_print_give, s_print_ask, s_print_either, s_print_again, s_print_call, s_either_note, s_either_copy, s_either_give, s_either_ask, s_either_print, s_either_again, s_either_call, s_again_note, s_again_copy, s_again_give, s_again_ask, s_again_print, s_again_either, s_again_call, s_call_note, s_call_copy, s_call_give, s_call_ask, s_call_print, s_call_either, s_call_again, s_note, s_copy, s_give, s_ask, s_print, s_either, s_again, s_call, i_note, j_note, l_note, i_copy, j_copy, l_copy, i_give, j_give, l_give, i_ask, j_ask, l_ask, i_print, j_print, l_print, i_either, j_either, l_either, i_again, j_again, l_again, i_call, j_call, l_call,
  Nat.reduceAdd, Nat.zero_add, Int.reduceLT, Int.reduceLE, Int.reduceEq, Int.reduceAdd, Int.reduceNeg, Int.reduceSub, cz0, cz1, cz2, cz3, cz4, cz5, cz6, cz7, cz8, cz9, t_tup, t_str, t_int, t_bl, lt0, lt1, lt2, lt3, lt4, lt5, lt6, zl0, zl1, zl2, zl3, zl4, zl5, zl6, zl9, rn2, x51, x52, x53, x54, at4, lkb, fl1, fl2, flstr, flint, flnon, flbl, List.all_cons, List.all_nil, Bool.and_true])
variable {K : PySem.W.Frag} {OC : Addr → Bool}
abbrev SPtext : DSp := anySp sp_text_of
/-- a plain row told; anything else refused -/
def sp_row_text (OC : Addr → Bool) (CN : Addr) : DSp := fun ds G Q E => ∃ x : D, ds = [x] ∧ ((Fine OC 1000 x ∧ plainB x = false ∧ E CN [] G) ∨ ∃ (r : PR) (NS : List Str), x = r.toD ∧ r.ok NS ∧ Q (.str r.txt) G)
theorem rtX_here {Q : DQ} {Ed : DXq} {d : D} {G : Gh} (h : Q d G) : (endsOfX K Q Ed).rt d G := ⟨d, G, .refl, h⟩
theorem exX_here {Q : DQ} {Ed : DXq} {σ : DSt} {C : Addr} {fs : List (Str × D)} {G : Gh} (h : Ed C fs G) : (endsOfX K Q Ed).ex σ C fs G := ⟨G, .refl, h⟩
theorem v_row_text {CN : Addr} {ds : List D} {G : Gh} {Q : DQ} {E : DXq} (h : sp_row_text OC CN ds G Q E) : W_row_text CN (sp_is_plain_rowG OC) SPtext (endsOfX K Q E) (dstart N_row_text ds) G := by
  obtain ⟨x, rfl, h⟩ := h
  show W_row_text CN (sp_is_plain_rowG OC) SPtext (endsOfX K Q E) [some x] G
  unfold W_row_text
  try trivial
  rcases h with ⟨fi, hp, e⟩ | ⟨r, NS, rfl, ok, q⟩
  · refine ⟨x, rfl, fi, ?_⟩
    rw [hp]
    try trivial
    exact exX_here e
  · refine ⟨r.toD, rfl, pr_fine ok (by omega), ?_⟩
    rw [plainB_pr ok]
    try trivial
    exact ⟨NS, r, rfl, ok, rtX_here q⟩
def sp_told (OC : Addr → Bool) : DSp := fun ds G Q _ => ∃ x : D, ds = [x] ∧ ((Fine OC 1000 x ∧ plainB x = false ∧ Q (.int 0) G) ∨ ∃ (r : PR) (NS : List Str), x = r.toD ∧ r.ok NS ∧ Q (.str r.txt) G)
theorem v_told {CN : Addr} {ans1 ans2 : Addr → Option Bool} (ha : ans1 CN = some true) {ds : List D} {G : Gh} {Q : DQ} {E : DXq} (h : sp_told OC ds G Q E) : W__law_told ans1 ans2 (sp_row_text OC CN) (endsOf K Q) (dstart N__law_told ds) G := by
  obtain ⟨x, rfl, h⟩ := h
  show W__law_told ans1 ans2 (sp_row_text OC CN) (endsOf K Q) [some x, none] G
  unfold W__law_told
  try trivial
  refine ⟨x, rfl, ?_⟩
  rcases h with ⟨fi, hp, q⟩ | ⟨r, NS, rfl, ok, q⟩
  · refine .inl ⟨fi, hp, true, ha, ?_⟩
    try trivial
    exact fun _ _ => rt_here q
  · refine .inr ⟨r, NS, rfl, ok, ?_⟩
    try trivial
    exact rt_here q
/-- the rows of a block: plain ones, and others -/
inductive RowT (NS : List Str) : D → Prop
  | pl {r : PR} (ok : r.ok NS) : RowT NS r.toD
  | ei {x y : Blk} (h : ∀ OC, Fine OC 1000 (.tup [.str "either", x.toD, y.toD])) : RowT NS (.tup [.str "either", x.toD, y.toD])
  | ag {x : Blk} (h : ∀ OC, Fine OC 1000 (.tup [.str "again", x.toD])) : RowT NS (.tup [.str "again", x.toD])
theorem rows_t {NS : List Str} : ∀ (b : Blk) (k : Nat), b.ok NS k → ∀ d ∈ b.rows, RowT NS d
  | .nil, _, _, _, h => by cases h
  | .pl r t, k, ok, d, hd => by
    rcases List.mem_cons.mp hd with rfl | hd
    · exact .pl ok.1
    · exact rows_t t k ok.2 d hd
  | .ei x y t, k, ⟨h4, l1, l2, o1, o2, o3⟩, d, hd => by
    rcases List.mem_cons.mp hd with rfl | hd
    · exact .ei fun OC => .tup (by simp) (fine_cons strF (fine_cons (.tup (by omega) (blk_fine (by omega) x _ o1)) (fine_cons (.tup (by omega) (blk_fine (by omega) y _ o2)) fine_nil)))
    · rcases List.mem_append.mp hd with hd | hd
      · exact rows_t x (k + 1) o1 d hd
      · rcases List.mem_append.mp hd with hd | hd
        · exact rows_t y (k + 1) o2 d hd
        · exact rows_t t k o3 d hd
  | .ag x t, k, ⟨h4, l1, o1, o3⟩, d, hd => by
    rcases List.mem_cons.mp hd with rfl | hd
    · exact .ag fun OC => .tup (by simp) (fine_cons strF (fine_cons (.tup (by omega) (blk_fine (by omega) x _ o1)) fine_nil))
    · rcases List.mem_append.mp hd with hd | hd
      · exact rows_t x (k + 1) o1 d hd
      · exact rows_t t k o3 d hd
theorem plain_ei {x y : D} : plainB (.tup [.str "either", x, y]) = false := by
  show (nameB x && (!askB "either" && (if decide (("either" : Str) = "copy") then nameB y else decide (("either" : Str) = "give") && isI y))) = false
  generalize nameB x = a
  generalize nameB y = b
  generalize isI y = c
  cases a <;> cases b <;> cases c <;> decide +kernel
theorem plain_ag {x : D} : plainB (.tup [.str "again", x]) = false := by
  show (nameB x && askB "again") = false
  generalize nameB x = a
  cases a <;> decide +kernel
end P3

/-! V6n: the law. -/
namespace P3
open PySem PySem.Spec L2 DL
open TL (tl ext_tl tl_append len_tl numL)
local macro_rules | `(tactic| trivial) => `(tactic| simp only [wSeq, wNext, wRet, wIfS, wAsg, wName, wVar, wC, wDrop, wOp, wCall, wCons, wNil, wIf, wB, wNot, wAnd, wOr, wAndV, wOrV, wNotV, wTup, wLst, wLstV, wFor, wISeq, wIRng1, wIRng2, wIEnum, wIStr, wChain, wIsi, wSl, wPart, wNoPart, wCallF, wCallL, wAppend, wExtend, wSetL, wSetD, wPar, wAugI, wGTup, wGCons, wGNil, wDGet, wDIn, wDict, wDictV, wPairs, wLcV, wLc, wYes, wSetF, wFld, wRev, wNeg, wNever, wLoop, wComp, wSortSet, wTry, wRaise, wCallSt, wRetX, wSetX, rEqO, rNeO, wMake, rIntA, rMulA, wTryM, wMixX, wRaise1, wXf, DEnds.off, wMeth, wPop, wTx1, onStr, wSplit, wPartition, wJoin, rSplit, rPartition, rJoin, rIntS, rStr, rMulS, wIEnumL,
  rNe0, DL.rAdd, DL.rSub, DL.rMul, DL.rDiv, DL.rMod, DL.rPow, DL.rI2, DL.rCmpI, DL.rEqB, DL.rIsN, DL.rInS, DL.rIx2, DL.ixSeq, DL.itemsOf, DL.listOf, DL.dictOf, DL.keyOf, DL.goL, DL.goK, DL.goI, DL.objOf, DL.rLenA, DL.rLen, DL.rSum, DL.rAll, DL.rTuple, DL.rList, DL.rAbs, DL.rInt, rKIn, rKGet, rIsBl, rEq0, lst2, gup_same, dwipe, slot_def, at0, at1, at2, at3, atm, cut1, cutAll,
  List.set_cons_zero, List.set_cons_succ, List.getElem?_cons_zero, List.getElem?_cons_succ, List.getElem?_nil, Option.join_some, Option.join_none, List.length_cons, List.length_nil, if_true, if_false, Bool.false_eq_true, reduceIte, Bool.not_true, Bool.not_false, Bool.true_xor, Bool.false_xor, Bool.xor_true, Bool.xor_false, true_and, and_true, reduceCtorEq, decide_true, decide_false, Option.isSome_some, Option.isSome_none, List.cons_append, List.nil_append,
  s_note_copy, s_note_give, s_note_ask, s_note_print, s_note_either, s_note_again, s_note_call, s_copy_note, s_copy_give, s_copy_ask, s_copy_print, s_copy_either, s_copy_again, s_copy_call, s_give_note, s_give_copy, s_give_ask, s_give_print, s_give_either, s_give_again, s_give_call, s_ask_note, s_ask_copy, s_ask_give, s_ask_print, s_ask_either, s_ask_again, s_ask_call, s_print_note, s_print_copy, s_print_give, s_print_ask, s_print_either, s_print_again, s_print_call, s_either_note, s_either_copy, s_either_give, s_either_ask, s_either_print, s_either_again, s_either_call, s_again_note, s_again_copy, s_again_give, s_again_ask, s_again_print, s_again_either, s_again_call, s_call_note, s_call_copy, s_call_give, s_call_ask, s_call_print, s_call_either, s_call_again, s_note, s_copy, s_give, s_ask, s_print, s_either, s_again, s_call, i_note, j_note, l_note, i_copy, j_copy, l_copy, i_give, j_give, l_give, i_ask, j_ask, l_ask, i_print, j_print, l_print, i_either, j_either, l_either, i_again, j_again, l_again, i_call, j_call, l_call,
  Nat.reduceAdd, Nat.zero_add, Int.reduceLT, Int.reduceLE, Int.reduceEq, Int.reduceAdd, Int.reduceNeg, Int.reduceSub, cz0, cz1, cz2, cz3, cz4, cz5, cz6, cz7, cz8, cz9, t_tup, t_str, t_int, t_bl, lt0, lt1, lt2, lt3, lt4, lt5, lt6, zl0, zl1, zl2, zl3, zl4, zl5, zl6, zl9, rn2, x51, x52, x53, x54, at4, lkb, fl1, fl2, flstr, flint, flnon, flbl, List.all_cons, List.all_nil, Bool.and_true])
local macro_rules | `(tactic| get_elem_tactic_trivial) => `(tactic| simp only [wSeq, wNext, wRet, wIfS, wAsg, wName, wVar, wC, wDrop, wOp, wCall, wCons, wNil, wIf, wB, wNot, wAnd, wOr, wAndV, wOrV, wNotV, wTup, wLst, wLstV, wFor, wISeq, wIRng1, wIRng2, wIEnum, wIStr, wChain, wIsi, wSl, wPart, wNoPart, wCallF, wCallL, wAppend, wExtend, wSetL, wSetD, wPar, wAugI, wGTup, wGCons, wGNil, wDGet, wDIn, wDict, wDictV, wPairs, wLcV, wLc, wYes, wSetF, wFld, wRev, wNeg, wNever, wSortSet, wTry, wRaise, wCallSt, wRetX, wSetX, rEqO, rNeO, wMake, rIntA, rMulA, wTryM, wMixX, wRaise1, wXf, DEnds.off, wMeth, wPop, wTx1, onStr, wSplit, wPartition, wJoin, rSplit, rPartition, rJoin, rIntS, rStr, rMulS, wIEnumL,
  rNe0, DL.rAdd, DL.rSub, DL.rMul, DL.rDiv, DL.rMod, DL.rPow, DL.rI2, DL.rCmpI, DL.rEqB, DL.rIsN, DL.rInS, DL.rIx2, DL.ixSeq, DL.itemsOf, DL.listOf, DL.dictOf, DL.keyOf, DL.goL, DL.goK, DL.goI, DL.objOf, DL.rLenA, DL.rLen, DL.rSum, DL.rAll, DL.rTuple, DL.rList, DL.rAbs, DL.rInt, rKIn, rKGet, rIsBl, rEq0, lst2, gup_same, dwipe, slot_def, at0, at1, at2, at3, atm, cut1, cutAll,
  List.set_cons_zero, List.set_cons_succ, List.getElem?_cons_zero, List.getElem?_cons_succ, List.getElem?_nil, Option.join_some, Option.join_none, List.length_cons, List.length_nil, if_true, if_false, Bool.false_eq_true, reduceIte, Bool.not_true, Bool.not_false, Bool.true_xor, Bool.false_xor, Bool.xor_true, Bool.xor_false, true_and, and_true, reduceCtorEq, decide_true, decide_false, Option.isSome_some, Option.isSome_none, List.cons_append, List.nil_append,
  s_note_copy, s_note_give, s_note_ask, s_note_print, s_note_either, s_note_again, s_note_call, s_copy_note, s_copy_give, s_copy_ask, s_copy_print, s_copy_either, s_copy_again, s_copy_call, s_give_note, s_give_copy, s_give_ask, s_give_print, s_give_either, s_give_again, s_give_call, s_ask_note, s_ask_copy, s_ask_give, s_ask_print, s_ask_either, s_ask_again, s_ask_call, s_print_note, s_print_copy, s_print_give, s_print_ask, s_print_either, s_print_again, s_print_call, s_either_note, s_either_copy, s_either_give, s_either_ask, s_either_print, s_either_again, s_either_call, s_again_note, s_again_copy, s_again_give, s_again_ask, s_again_print, s_again_either, s_again_call, s_call_note, s_call_copy, s_call_give, s_call_ask, s_call_print, s_call_either, s_call_again, s_note, s_copy, s_give, s_ask, s_print, s_either, s_again, s_call, i_note, j_note, l_note, i_copy, j_copy, l_copy, i_give, j_give, l_give, i_ask, j_ask, l_ask, i_print, j_print, l_print, i_either, j_either, l_either, i_again, j_again, l_again, i_call, j_call, l_call,
  Nat.reduceAdd, Nat.zero_add, Int.reduceLT, Int.reduceLE, Int.reduceEq, Int.reduceAdd, Int.reduceNeg, Int.reduceSub, cz0, cz1, cz2, cz3, cz4, cz5, cz6, cz7, cz8, cz9, t_tup, t_str, t_int, t_bl, lt0, lt1, lt2, lt3, lt4, lt5, lt6, zl0, zl1, zl2, zl3, zl4, zl5, zl6, zl9, rn2, x51, x52, x53, x54, at4, lkb, fl1, fl2, flstr, flint, flnon, flbl, List.all_cons, List.all_nil, Bool.and_true])
variable {K : PySem.W.Frag} {OC : Addr → Bool}
abbrev SProws : DSp := anySp fun NS => sp_lrows NS 3
abbrev SPllines : DSp := anySp fun NS => sp_llines NS 3
abbrev SPptext (C : Addr) : DSp := anySp fun NS => sp_ptext NS C
abbrev SPread (C : Addr) : DSp := anySp fun NS => sp_read NS C
def nfP (C : Addr) : Tg ⊕ Addr → Bool
  | .inl _ => true
  | .inr A => decide (A = C)
def sp_law : DSp := fun ds G Q _ => ∃ ns : List Int, ds = [.scr ns] ∧ ∀ G', Q (.bl true) G'
def Odd (OC : Addr → Bool) (d : D) : Prop := Fine OC 1000 d ∧ plainB d = false
theorem odd_all {l : List D} (h : (l.all fun d => finB 6 d && !plainB d) = true) : ∀ d ∈ l, Odd OC d := fun d hd => by
  have := List.all_eq_true.mp h d hd
  rw [Bool.and_eq_true, Bool.not_eq_true'] at this
  exact ⟨(finB_ok 6 d this.1).le (by omega), this.2⟩
theorem odd_app {l m : List D} (h : ∀ d ∈ l, Odd OC d) (k : ∀ d ∈ m, Odd OC d) : ∀ d ∈ l ++ m, Odd OC d := fun d hd => (List.mem_append.mp hd).elim (h d) (k d)
theorem odd_deep {d : D} (h : DeepD OC d) : Odd OC d := by
  refine ⟨h.1.le (by omega), ?_⟩
  cases d with
  | tup ds =>
    have hl := h.2.2.2 ds rfl
    match ds, hl with
    | [], _ => rfl
    | [x], _ => cases x <;> rfl
  | _ => rfl
theorem odd_prog {C : Addr} (hC : OC C = true) {b : Blk} : Odd OC (prg C b) := ⟨.leaf hC (fun _ e => by cases e), rfl⟩
theorem Sub.gup {A B : Gh} {p : Addr} {x : GO} (h : Sub A B) : Sub (gup A p x) (gup B p x) := fun a o e => by
  by_cases q : a = p
  · subst q; rw [gup_same] at e ⊢; exact e
  · rw [gup_ne q] at e ⊢; exact h a o e
theorem nm_x : nameOk "x" := by unfold nameOk; decide +kernel
theorem c_xeq : ("x = " : Str).length = 4 := by decide +kernel
theorem xeq (s : Str) : ("x" : Str) ++ " = " ++ s = "x = " ++ s := ext_tl (by
  rw [tl_append, tl_append, tl_append]
  rw [show tl "x" ++ tl " = " = tl "x = " by decide +kernel])
theorem v_law {C : Addr} (hOC : OC C = true) {ds : List D} {G : Gh} {Q : DQ} {E : DXq} (h : sp_law ds G Q E) :
    W_law K C (ansP C) (nfP C) (SPprog C) (sp_deepG OC) sp_draw sp_drawn sp_hand SPllines SPtext SProws (sp_told OC) (SPptext C) (SPread C) (sp_eq C) (endsOf K Q) (dstart N_law ds) G := by
  obtain ⟨ns, rfl, q⟩ := h
  show W_law K C (ansP C) (nfP C) (SPprog C) (sp_deepG OC) sp_draw sp_drawn sp_hand SPllines SPtext SProws (sp_told OC) (SPptext C) (SPread C) (sp_eq C) (endsOf K Q) [some (.scr ns), none, none, none, none, none, none, none, none, none, none, none] G
  have hz := sizeLine_eq
  unfold W_law
  refine seq_rule (fun σ' G' => ∃ p, σ' = [some (.scr ns), some (.ref p), none, none, none, none, none, none, none, none, none, none] ∧ HdG p G' G') (fun N hN => ?_) ?_
  · try trivial
    exact ⟨ns, rfl, fun p h hp ok => hN _ _ ⟨p, rfl, h, ok, by rw [gup_gup]⟩⟩
  rintro σ' G1 ⟨p, rfl, hG1⟩
  refine seq_rule (fun σ' G' => ∃ x2 x3 x4 x5 x6 x7, σ' = [some (.scr ns), some (.ref p), x2, x3, x4, x5, x6, x7, none, none, none, none] ∧ HdG p G' G') (fun N hN => ?_) ?_
  · refine ⟨by decide, by decide, ?_⟩
    refine loop_rule (fun items σ' G' => ∃ x2 x3 x4 x5 x6 x7, σ' = [some (.scr ns), some (.ref p), x2, x3, x4, x5, x6, x7, none, none, none, none] ∧ HdG p G' G') ?_ ?_ _ _ _ ⟨_, _, _, _, _, _, rfl, hG1⟩
    · rintro σ G' ⟨x2, x3, x4, x5, x6, x7, rfl, h6⟩
      exact ⟨True.intro, hN _ _ ⟨_, _, _, _, _, _, rfl, h6⟩⟩
    · rintro e es N2 σ G2 hN2 ⟨x2, x3, x4, x5, x6, x7, rfl, hG2⟩
      refine ⟨True.intro, ?_⟩
      refine seq_rule (fun σ' G' => ∃ (b : Blk) (NS : List Str), σ' = [some (.scr ns), some (.ref p), some e, some b.toD, x4, x5, x6, x7, none, none, none, none] ∧ HdG p G' G' ∧ NS.length ≤ 8 ∧ b.ok NS 1 ∧ b.ds.length ≤ 12 ∧ b.size ≤ 28) (fun N hN => ?_) ?_
      · try trivial
        exact ⟨p, rfl, hG2, fun G3 b NS h2 hNS ok hl hs => hN _ _ ⟨b, NS, rfl, h2.self, hNS, ok, hl, hs⟩⟩
      rintro σ' G3 ⟨b, NS, rfl, hG3, hNS, ok, hl, hs⟩
      obtain ⟨hb1, hb2⟩ := txt_bounds ok (by omega)
      refine seq_rule (fun σ' G' => σ' = [some (.scr ns), some (.ref p), some e, some b.toD, some (.str (txtOf b)), x5, x6, x7, none, none, none, none] ∧ HdG p G' G') (fun N hN => ?_) ?_
      · refine ⟨NS, b, 1, 0, rfl, ok, by omega, by omega, by omega, by omega, ?_⟩
        try trivial
        refine nl_comp ok (by omega) (fun _ => rfl) ?_
        refine ⟨_, _, rfl, strsOf_map _, by rw [c_empty]; omega, ?_, hN _ _ ⟨rfl, hG3⟩⟩
        show (txtOf b).length ≤ sizeLine
        omega
      rintro σ' G4 ⟨rfl, hG4⟩
      refine seq_rule (fun σ' G' => σ' = [some (.scr ns), some (.ref p), some e, some b.toD, some (.str (txtOf b)), some (prg C b), x6, x7, none, none, none, none] ∧ HdG p G' G') (fun N hN => ?_) ?_
      · try trivial
        intro p' hp'
        refine ⟨NS, p', b, rfl, gup_same, ok, hl, by omega, hNS, rfl, prg C b, G4, ?_, hN _ _ ⟨rfl, hG4⟩⟩
        rw [gup_gup]
        exact .obj gup_same (Sub.refl.up hp') hp'
      rintro σ' G5 ⟨rfl, hG5⟩
      refine seq_rule (fun σ' G' => σ' = [some (.scr ns), some (.ref p), some e, some b.toD, some (.str (txtOf b)), some (prg C b), x6, x7, none, none, none, none] ∧ HdG p G' G') (fun N hN => ?_) ?_
      · try trivial
        refine ⟨NS, b, rfl, ok, by omega, ?_⟩
        try trivial
        exact hN _ _ ⟨rfl, hG5⟩
      rintro σ' G6 ⟨rfl, hG6⟩
      refine seq_rule (fun σ' G' => σ' = [some (.scr ns), some (.ref p), some e, some b.toD, some (.str (txtOf b)), some (prg C b), some (prg C b), x7, none, none, none, none] ∧ HdG p G' G') (fun N hN => ?_) ?_
      · try trivial
        exact ⟨NS, b, rfl, ok, hl, by omega, hNS, hN _ _ ⟨rfl, hG6⟩⟩
      rintro σ' G7 ⟨rfl, hG7⟩
      obtain ⟨pd, e1, e2⟩ := blk_shaped ok
      have rf : PyData.eqv pd pd = true := PySem.SeqAt.eqv_refl pd (SeqAt.canLay_of_shaped e2)
      refine seq_rule (fun σ' G' => σ' = [some (.scr ns), some (.ref p), some e, some b.toD, some (.str (txtOf b)), some (prg C b), some (prg C b), x7, none, none, none, none] ∧ HdG p G' G') (fun N hN => ?_) ?_
      · try trivial
        show isK (if C = C then some true else none) _
        rw [if_pos rfl]
        unfold isK
        try trivial
        refine ⟨_, .inr C, rfl, rfl, decide_eq_true rfl, .inl ⟨b, b, NS, NS, rfl, ok, ok, _, rfl, ?_⟩⟩
        rw [eqD_refl ok]
        unfold prg
        try trivial
        refine ⟨pd, pd, e1, e1, e2, e2, ?_⟩
        rw [rf]
        exact hN _ _ ⟨rfl, hG7⟩
      rintro σ' G8 ⟨rfl, hG8⟩
      have hrt := rows_t b 1 ok
      refine ⟨NS, b, 1, rfl, ok, by omega, by omega, ?_⟩
      refine loop_rule (fun items σ G' => (∀ d ∈ items, RowT NS d) ∧ ∃ x7, σ = [some (.scr ns), some (.ref p), some e, some b.toD, some (.str (txtOf b)), some (prg C b), some (prg C b), x7, none, none, none, none] ∧ HdG p G' G') ?_ ?_ _ _ _ ⟨hrt, x7, rfl, hG8⟩
      · rintro σ G' ⟨_, x7, rfl, h6⟩
        refine ⟨?_, hN2 _ _ ⟨_, _, _, _, _, _, rfl, h6⟩⟩
        rfl
      · rintro d ds N3 σ G' hN3 ⟨hd, x7, rfl, h6⟩
        have fin : N3 [some (.scr ns), some (.ref p), some e, some b.toD, some (.str (txtOf b)), some (prg C b), some (prg C b), some d, none, none, none, none] G' := hN3 _ _ ⟨fun y hy => hd y (List.mem_cons_of_mem _ hy), _, rfl, h6⟩
        refine ⟨rfl, ?_⟩
        cases hd d List.mem_cons_self with
        | @pl r okr =>
          have cl : ∀ (Q' : DQ), Q' (.str r.txt) G' → sp_told OC [r.toD] G' Q' noX := fun Q' h' => ⟨_, rfl, .inr ⟨r, NS, rfl, okr, h'⟩⟩
          have cl2 : ∀ (Q' : DQ), Q' (.str r.txt) G' → SPtext [r.toD] G' Q' noX := fun Q' h' => ⟨NS, r, rfl, okr, h'⟩
          cases r <;>
          · unfold PR.toD at cl cl2 fin ⊢
            try trivial
            refine cl _ ?_
            try trivial
            refine cl2 _ ?_
            try trivial
            exact fin
        | @ei x y hf =>
          try trivial
          refine ⟨_, rfl, .inl ⟨hf OC, plain_ei, ?_⟩⟩
          try trivial
          exact fin
        | @ag x hf =>
          try trivial
          refine ⟨_, rfl, .inl ⟨hf OC, plain_ag, ?_⟩⟩
          try trivial
          exact fin
  rintro σ' G2 ⟨x2, x3, x4, x5, x6, x7, rfl, hG2⟩
  refine seq_rule (fun σ' G' => ∃ d, σ' = [some (.scr ns), some (.ref p), x2, x3, x4, x5, x6, x7, some d, none, none, none] ∧ HdG p G' G' ∧ DeepD OC d) (fun N hN => ?_) ?_
  · try trivial
    exact ⟨p, rfl, hG2, fun G' d h1 dd => hN _ _ ⟨d, rfl, h1.self, dd⟩⟩
  rintro σ' G3 ⟨d, rfl, h1, dd⟩
  have od := odd_deep dd
  have bnd : ∀ n : Nat, n ≤ 1000 → n ≤ sizeLine := fun n h => by rw [sizeLine_eq]; omega
  let I : Nat → DSt → Gh → Prop := fun n σ' G' => ∃ (z : Addr) (l : List D) (G4 : Gh), HdG p G4 G4 ∧ G4 z = none ∧ z ≠ p ∧ σ' = [some (.scr ns), some (.ref p), x2, x3, x4, x5, x6, x7, some d, some (.ref z), none, none] ∧ G' = gup G4 z (.lst l) ∧ l.length = n ∧ ∀ x ∈ l, Odd OC x
  have hzp : ∀ z, G3 z = none → z ≠ p := fun z hz e => by
    obtain ⟨hd, _, e2⟩ := h1
    rw [e, e2, gup_same] at hz; cases hz
  refine seq_rule (I 8) (fun N hN => ?_) ?_
  · try trivial
    refine ⟨bnd _ (by decide), fun z hz => ?_⟩
    refine hN _ _ ⟨z, _, G3, h1, hz, hzp z hz, rfl, rfl, rfl, ?_⟩
    exact odd_app (l := [_, _, _, _, _, _, _]) (odd_all (by decide +kernel)) (m := [d]) (fun x hx => by rw [List.mem_singleton.mp hx]; exact od)
  rintro σ' G' ⟨z, l, G4, g4, hz4, nz, rfl, rfl, hl, gl⟩
  refine seq_rule (I 13) (fun N hN => ?_) ?_
  · try trivial
    exact ⟨bnd _ (by omega), hN _ _ ⟨z, _, G4, g4, hz4, nz, rfl, by rw [gup_gup], by rw [List.length_append, hl]; rfl, odd_app gl (odd_all (by decide +kernel))⟩⟩
  rintro σ' G' ⟨z, l, G4, g4, hz4, nz, rfl, rfl, hl, gl⟩
  refine seq_rule (I 16) (fun N hN => ?_) ?_
  · unfold wDict0V
    try trivial
    exact ⟨bnd _ (by omega), hN _ _ ⟨z, _, G4, g4, hz4, nz, rfl, by rw [gup_gup], by rw [List.length_append, hl]; rfl, odd_app gl (odd_all (by decide +kernel))⟩⟩
  rintro σ' G' ⟨z, l, G4, g4, hz4, nz, rfl, rfl, hl, gl⟩
  refine seq_rule (I 20) (fun N hN => ?_) ?_
  · try trivial
    intro p' hp'
    refine ⟨[], p', .nil, rfl, gup_same, True.intro, by decide, by decide, by decide, rfl, prg C .nil, gup G4 z (.lst l), ?_, ?_⟩
    · rw [gup_gup]
      exact .obj gup_same (Sub.refl.up hp') hp'
    · try trivial
      have o3 : ∀ x ∈ ([.tup [.str "note", .str "x", .str "f", .tup [.str "a", .str "b", .str "c", .str "d"]], .tup [.str "ask", .str ""], .tup [.str "drop", .str "x"]] : List D), Odd OC x := odd_all (by decide +kernel)
      have o4 := odd_app (m := [prg C .nil]) o3 (fun x hx => by rw [List.mem_singleton.mp hx]; exact odd_prog hOC)
      exact ⟨bnd _ (by omega), hN _ _ ⟨z, _, G4, g4, hz4, nz, rfl, by rw [gup_gup]; rfl, by rw [List.length_append, hl]; rfl, odd_app gl o4⟩⟩
  rintro σ' G' ⟨z, l, G4, g4, hz4, nz, rfl, rfl, hl, gl⟩
  refine seq_rule (fun σ' G' => ∃ (v : Int) (G5 : Gh), v.natAbs < 10 ^ 30 ∧ HdG p G5 G5 ∧ G5 z = some (.lst l) ∧ σ' = [some (.scr ns), some (.ref p), x2, x3, x4, x5, x6, x7, some d, some (.ref z), some (.tup [.str "give", .str "x", .int v]), none] ∧ G' = G5) (fun N hN => ?_) ?_
  · try trivial
    refine ⟨p, 2, rfl, g4.new nz, by decide, by decide, fun G5 r1 h5 a0 a1 => ?_⟩
    have hq5 := h5.at_q nz
    try trivial
    refine ⟨.inl ⟨by decide, by decide⟩, ⟨by decide, by decide, by decide⟩, ?_⟩
    refine ⟨p, 1000, rfl, h5.self, by decide, by decide, fun G6 r2 h6 b0 b1 => ?_⟩
    try trivial
    refine ⟨.inl ⟨by omega, by omega⟩, hN _ _ ⟨_, G6, ?_, h6.self, (h5.trans h6).at_q nz, rfl, rfl⟩⟩
    have e29 : (10 : Int) ^ Int.toNat 29 = 100000000000000000000000000000 := by decide
    have e30 : (10 : Nat) ^ 30 = 1000000000000000000000000000000 := by decide
    rw [e29, e30]
    have hr : r1 = 0 ∨ r1 = 1 := by omega
    rcases hr with rfl | rfl <;> omega
  rintro σ' G' ⟨v, G5, hv, hG5, hz5, rfl, rfl⟩
  have hbl := numS_len hv
  have hb2 : (Str.ofString (toString v)).length ≤ 31 := hbl
  have okx : (PR.give "x" v).ok ["x"] := ⟨fun y hy => by rw [List.mem_singleton.mp hy]; exact ⟨nm_x, List.mem_cons_self⟩, hv⟩
  refine ⟨p, 20, rfl, hG5, by decide, by decide, fun G6 r h6 r0 r1 => ?_⟩
  have hz6 : G6 z = some (.lst l) := by
    obtain ⟨hd, _, e⟩ := h6
    rw [e, gup_ne nz]; exact hz5
  obtain ⟨j, rfl⟩ : ∃ j : Nat, r = j := ⟨r.toNat, by omega⟩
  have hj : j < l.length := by omega
  have e1 : atI l (j : Int) = some l[j] := by rw [atI_in hj]; exact List.getElem?_eq_getElem hj
  show ixSeq (goL (G6 z)) (j : Int) _
  rw [hz6]
  show ixSeq (some l) (j : Int) _
  unfold ixSeq
  simp only [e1]
  have od := gl _ (List.getElem_mem hj)
  refine ⟨_, rfl, .inl ⟨od.1, od.2, ?_⟩⟩
  try trivial
  refine ⟨_, rfl, .inr ⟨.give "x" v, ["x"], rfl, okx, ?_⟩⟩
  try trivial
  refine ⟨log_ok hv, by omega, by rw [c_xeq]; omega, ?_⟩
  have e : decide ((PR.give "x" v).txt = ("x = " : Str) ++ Str.ofString (toString v)) = true := decide_eq_true (xeq (numS v))
  rw [e]
  exact rt_here (q _)
end P3

/-! V4i: what the join needs. -/
namespace P3
open PySem PySem.Spec L2 DL
variable {K : PySem.W.Frag}
abbrev OCof (C : Addr) : Addr → Bool := fun A => decide (A = C)
abbrev ansN (CN : Addr) : Addr → Option Bool := fun A => if A = CN then some true else none
theorem isA_P {C : Addr} (kc : PySem.W.keepIn K (.ref C) = true) (h : ∀ n : Tg, PySem.W.kitOne K (.type n.nm) (.ref C) = some false) (hc : PySem.W.kitOne K (.ref C) (.ref C) = some true) (o : ObjC K C) : IsA K (.ref C) (ansP C) := by
  refine ⟨.ref C, ?_, fun t b e => ?_⟩
  · exact .own C
  · cases t with
    | inl n => cases e; exact ⟨h n, fun _ z => by cases z⟩
    | inr A =>
      have e : (if A = C then some true else none) = some b := e
      by_cases q : A = C
      · subst q; rw [if_pos rfl] at e; cases e; exact ⟨hc, fun _ z => by cases z; exact o⟩
      · rw [if_neg q] at e; cases e
theorem exm_N {CN CP : Addr} (h : PySem.W.exmOne K (.ref CN) (.ref CP) = some true) : ∀ A b, ansN CN A = some b → PySem.W.exmOne K (.ref A) (.ref CP) = some b := fun A b e => by
  by_cases q : A = CN
  · subst q
    have e : (if A = A then some true else none) = some b := e
    rw [if_pos rfl] at e; cases e; exact h
  · have e : (if A = CN then some true else none) = some b := e
    rw [if_neg q] at e; cases e
theorem nf_P {C : Addr} (h : ∀ n : Tg, PySem.W.notFirst K C (.type n.nm) = true) (o : ObjC K C) : ∀ t, nfP C t = true → PySem.W.notFirst K C (tagV t) = true ∧ ∀ A, t = .inr A → ObjC K A := fun t e => by
  cases t with
  | inl n => exact ⟨h n, fun _ z => by cases z⟩
  | inr A =>
    have e := of_decide_eq_true (show decide (A = C) = true from e)
    subst e
    refine ⟨?_, fun B z => by cases z; exact o⟩
    unfold PySem.W.notFirst
    simp [tagV]
end P3

/-! V6p: each def keeps its promise. -/
namespace P3
open PySem PySem.Spec L2 DL
/-- a def that stands at f, by its name -/
structure Df (K : PySem.W.Frag) (mg : Str → Option Value) (x : Str) (st : Stmt) (ps : List Str) (f : Addr) (fd : FuncData) : Prop where
  F : Fun K x x st f fd
  g : mg x = some (.ref f)
  b : Binds K fd ps []
/-- what is known of the module's names and classes -/
structure Txt (w : World) (K : PySem.W.Frag) (mg : Str → Option Value) (C CN CP CV CL B : Addr) : Prop where
  bi : Bi mg
  hOC : ∀ (n : Tg) (A : Addr), OCof C A = true → ObjC K A ∧ PySem.W.kitOne K (.ref A) (.type n.nm) = some false
  i_Program : IsA K (.ref C) (ansP C)
  e_NoRow : ∀ A b, ansN CN A = some b → PySem.W.exmOne K (.ref A) (.ref CN) = some b
  e_PileError : ∀ A b, ansN CN A = some b → PySem.W.exmOne K (.ref A) (.ref CP) = some b
  r_Program : ∀ t, nfP C t = true → PySem.W.notFirst K C (tagV t) = true ∧ ∀ A, t = .inr A → ObjC K A
  g_SMALL : ∃ t, mg "SMALL" = some (.str "abcdefghijklmnopqrstuvwxyz" t)
  g_MOST_SIGNS : ∃ t, mg "MOST_SIGNS" = some (.int 8 t)
  g_MOST_PARTS : ∃ t, mg "MOST_PARTS" = some (.int 3 t)
  g_BLOCKS : mg "BLOCKS" = some (.ref B)
  kd_BLOCKS : KDc K w B TB
  g_MOST_DEEP : ∃ t, mg "MOST_DEEP" = some (.int 4 t)
  g_MOST_IN_BLOCK : ∃ t, mg "MOST_IN_BLOCK" = some (.int 12 t)
  g_MOST_ROWS : ∃ t, mg "MOST_ROWS" = some (.int 30 t)
  g_MOST_NAMES : ∃ t, mg "MOST_NAMES" = some (.int 8 t)
  cl_Program : Cls K C
  n_Program_block : NoAttr K C "block"
  prog : mg "Program" = some (.ref C)
  g_Program : mg "Program" = some (.ref C)
  x_NoRow : ExcT K mg "NoRow" CN veB "ValueError.__new__"
  g_MOST_FIGURES : ∃ t, mg "MOST_FIGURES" = some (.int 30 t)
  g_FIGURES : ∃ t, mg "FIGURES" = some (.str "0123456789" t)
  cl_Level : Cls K CV
  n_Level_kept_word : NoAttr K CV "kept_word"
  n_Level_kept_rows : NoAttr K CV "kept_rows"
  n_Level_kept_first : NoAttr K CV "kept_first"
  isCV : mg "Level" = some (.ref CV)
  cl_Lines : Cls K CL
  n_Lines_kept_levels : NoAttr K CL "kept_levels"
  isCL : mg "Lines" = some (.ref CL)
  g_NoRow : mg "NoRow" = some (.ref CN)
  g_PileError : mg "PileError" = some (.ref CP)
section
variable {P : Program} {w : World} {K : PySem.W.Frag} {mg : Str → Option Value} {base : Heap}
theorem Df.cal {x : Str} {st : Stmt} {ps : List Str} {f : Addr} {fd : FuncData} {k : Nat} {sp : DSp} (d : Df K mg x st ps f fd) (ok : FnOk P w K mg base CX0 k f fd ps (liftSp K sp)) : Cal P w K mg base k x ps sp := ⟨f, fd, d.g, d.F.kp, d.b, ok⟩
theorem Df.calx {x : Str} {st : Stmt} {ps : List Str} {f : Addr} {fd : FuncData} {k : Nat} {sp : DSp} (d : Df K mg x st ps f fd) (ok : FnOk P w K mg base (L2.CX P w) k f fd ps (liftSp K sp)) : CalX P w K mg base k x ps sp := ⟨f, fd, d.g, d.F.kp, d.b, ok⟩
end
section
variable {P : Program} {w : World} {K : PySem.W.Frag} {mg : Str → Option Value} {base : Heap}
theorem ok_is_integer {C CN CP CV CL B : Addr} (T : Txt w K mg C CN CP CV CL B)  {f : Addr} {fd : FuncData} (d : Df K mg "is_integer" s_is_integer ["thing"] f fd) : FnOk P w K mg base CX0 1 f fd ["thing"] (liftSp K (sp_is_integer (OCof C))) :=
  DL.Fun.okD (W := fun _ _ _ _ => False) d.F sc_is_integer (fun ds G Q E h => by obtain ⟨x, rfl, _⟩ := h; rfl) (fun cdv A outer s H E hr => d_is_integer (hOC := T.hOC) (B := T.bi) cdv A outer s H E hr) (fun ds G Q E h => v_is_integer h)
theorem ok_is_name {C CN CP CV CL B : Addr} (T : Txt w K mg C CN CP CV CL B)  {f : Addr} {fd : FuncData} (d : Df K mg "is_name" s_is_name ["thing"] f fd) : FnOk P w K mg base CX0 1 f fd ["thing"] (liftSp K (sp_is_nameG (OCof C))) :=
  DL.Fun.okD (W := fun _ _ _ _ => False) d.F sc_is_name (fun ds G Q E h => by obtain ⟨x, rfl, _⟩ := h; rfl) (fun cdv A outer s H E hr => d_is_name (g_SMALL := T.g_SMALL.choose_spec) (B := T.bi) (g_MOST_SIGNS := T.g_MOST_SIGNS.choose_spec) (hOC := T.hOC) cdv A outer s H E hr) (fun ds G Q E h => v_is_nameG h)
theorem ok_is_plain_row {C CN CP CV CL B : Addr} (T : Txt w K mg C CN CP CV CL B) (c_is_name : Cal P w K mg base 1 "is_name" ["thing"] (sp_is_nameG (OCof C))) (c_is_integer : Cal P w K mg base 1 "is_integer" ["thing"] (sp_is_integer (OCof C))) {f : Addr} {fd : FuncData} (d : Df K mg "is_plain_row" s_is_plain_row ["thing"] f fd) : FnOk P w K mg base CX0 2 f fd ["thing"] (liftSp K (sp_is_plain_rowG (OCof C))) :=
  DL.Fun.okD (W := fun _ _ _ _ => False) d.F sc_is_plain_row (fun ds G Q E h => by obtain ⟨x, rfl, _⟩ := h; rfl) (fun cdv A outer s H E hr => d_is_plain_row (hOC := T.hOC) (B := T.bi) (c_is_name := c_is_name) (c_is_integer := c_is_integer) (g_MOST_PARTS := T.g_MOST_PARTS.choose_spec) cdv A outer s H E hr) (fun ds G Q E h => v_is_plain_rowG h)
theorem ok_is_branch {C CN CP CV CL B : Addr} (T : Txt w K mg C CN CP CV CL B)  {f : Addr} {fd : FuncData} (d : Df K mg "is_branch" s_is_branch ["thing"] f fd) : FnOk P w K mg base CX0 1 f fd ["thing"] (liftSp K sp_is_branch) :=
  DL.Fun.okD (W := fun _ _ _ _ => False) d.F sc_is_branch (fun ds G Q E h => by rcases h with ⟨r, rfl, _⟩ | ⟨a, b, rfl, _⟩ | ⟨a, rfl, _⟩ <;> rfl) (fun cdv A outer s H E hr => d_is_branch (hOC := T.hOC) (B := T.bi) (g_BLOCKS := T.g_BLOCKS) (kd_BLOCKS := T.kd_BLOCKS) cdv A outer s H E hr) (fun ds G Q E h => v_is_branch h)
theorem ok_is_inner {C CN CP CV CL B : Addr} (T : Txt w K mg C CN CP CV CL B)  {f : Addr} {fd : FuncData} (d : Df K mg "is_inner" s_is_inner ["thing", "deep"] f fd) : FnOk P w K mg base CX0 1 f fd ["thing", "deep"] (liftSp K sp_is_inner) :=
  DL.Fun.okD (W := fun _ _ _ _ => False) d.F sc_is_inner (fun ds G Q E h => by obtain ⟨a, k, rfl, _⟩ := h; rfl) (fun cdv A outer s H E hr => d_is_inner (g_MOST_DEEP := T.g_MOST_DEEP.choose_spec) (B := T.bi) (g_MOST_IN_BLOCK := T.g_MOST_IN_BLOCK.choose_spec) (hOC := T.hOC) cdv A outer s H E hr) (fun ds G Q E h => v_is_inner h)
theorem ok_first_wrong {C CN CP CV CL B : Addr} (T : Txt w K mg C CN CP CV CL B) {NS : List Str} {aP : Addr} (c_is_branch : Cal P w K mg base 2 "is_branch" ["thing"] sp_is_branch) (c_is_inner : Cal P w K mg base 2 "is_inner" ["thing", "deep"] sp_is_inner) (l : CalA P w K mg base 2 aP ["thing"] (sp_is_plain_row NS)) {f : Addr} {fd : FuncData} (d : Df K mg "first_wrong" s_first_wrong ["block", "deep", "place", "is_row"] f fd) (n : Nat) :
    FnOk P w K mg base CX0 (2 + 1 + n) f fd ["block", "deep", "place", "is_row"] (liftSp K (sp_first_wrong NS aP n)) :=
  fn_rec (sp := sp_first_wrong NS aP) (fun n j r ok e hj => by
    subst e
    obtain ⟨fdl, l1, l2, l3⟩ := l.ex
    exact DL.Fun.okD (W := fun _ _ _ _ => False) d.F sc_first_wrong (fun ds G Q E h => by obtain ⟨b, k, pl, rfl, _⟩ := h; rfl) (fun cdv A outer s H E hr => d_first_wrong (B := T.bi) (c_first_wrong := d.cal ok) (c_is_branch := c_is_branch.mono hj) (c_is_inner := c_is_inner.mono hj) (l_is_plain_row := ⟨⟨fdl, l1, l2, l3.mono hj⟩⟩) cdv A outer s H E hr) (fun ds G Q E h => v_first_wrong h)) n

theorem ok_sizes {C CN CP CV CL B : Addr} (T : Txt w K mg C CN CP CV CL B) {NS : List Str} {f : Addr} {fd : FuncData} (d : Df K mg "size_of" s_size_of ["row"] f fd) {f2 : Addr} {fd2 : FuncData} (d2 : Df K mg "size_of_block" s_size_of_block ["block"] f2 fd2) :
    ∀ n : Nat, FnOk P w K mg base CX0 (2 * n + 1) f fd ["row"] (liftSp K (sp_size_of NS n)) ∧ FnOk P w K mg base CX0 (2 * n + 2) f2 fd2 ["block"] (liftSp K (sp_size_of_block NS n)) := by
  have one : ∀ (n j : Nat), FnOk P w K mg base CX0 j f2 fd2 ["block"] (liftSp K (recSp (sp_size_of_block NS) n)) → FnOk P w K mg base CX0 (j + 1) f fd ["row"] (liftSp K (sp_size_of NS n)) := fun n j ok =>
    DL.Fun.okD (W := fun _ _ _ _ => False) d.F sc_size_of (fun ds G Q E h => by obtain ⟨r, k, one, rfl, _⟩ := h; cases one <;> rfl) (fun cdv A outer s H E hr => d_size_of (g_BLOCKS := T.g_BLOCKS) (kd_BLOCKS := T.kd_BLOCKS) (B := T.bi) (c_size_of_block := d2.cal ok) cdv A outer s H E hr) (fun ds G Q E h => v_size_of h)
  have two : ∀ (n j : Nat), FnOk P w K mg base CX0 j f fd ["row"] (liftSp K (sp_size_of NS n)) → FnOk P w K mg base CX0 (j + 1) f2 fd2 ["block"] (liftSp K (sp_size_of_block NS n)) := fun n j ok =>
    DL.Fun.okD (W := fun _ _ _ _ => False) d2.F sc_size_of_block (fun ds G Q E h => by obtain ⟨b, k, rfl, _⟩ := h; rfl) (fun cdv A outer s H E hr => d_size_of_block (B := T.bi) (c_size_of := d.cal ok) cdv A outer s H E hr) (fun ds G Q E h => v_size_of_block h)
  intro n
  induction n with
  | zero =>
    have a := one 0 0 fn_no
    exact ⟨a, two 0 _ a⟩
  | succ n ih =>
    have a := one (n + 1) _ ih.2
    exact ⟨a, two (n + 1) _ a⟩
theorem ok_lay_rows {C CN CP CV CL B : Addr} (T : Txt w K mg C CN CP CV CL B) {NS : List Str} (c_size_of : ∀ n, n ≤ 3 → Cal P w K mg base 8 "size_of" ["row"] (sp_size_of NS n)) {f : Addr} {fd : FuncData} (d : Df K mg "lay_rows" s_lay_rows ["rows", "block", "after"] f fd) (n : Nat) (hn : n ≤ 3) :
    FnOk P w K mg base CX0 (8 + 1 + n) f fd ["rows", "block", "after"] (liftSp K (sp_lay_rows NS n)) := by
  have step : ∀ (n j : Nat) (r : DSp), n ≤ 3 → FnOk P w K mg base CX0 j f fd ["rows", "block", "after"] (liftSp K r) → (r = recSpB (sp_lay_rows NS) n) → 8 ≤ j → FnOk P w K mg base CX0 (j + 1) f fd ["rows", "block", "after"] (liftSp K (sp_lay_rows NS n)) := fun n j r h3 ok e hj => by
    subst e
    exact DL.Fun.okD (W := fun _ _ _ _ => False) d.F sc_lay_rows (fun ds G Q E h => by obtain ⟨p, b, after, k, rows, rfl, _⟩ := h; rfl) (fun cdv A outer s H E hr => d_lay_rows (B := T.bi) (c_lay_rows := d.cal ok) (c_size_of := (c_size_of n h3).mono hj) cdv A outer s H E hr) (fun ds G Q E h => v_lay_rows h)
  induction n with
  | zero => exact step 0 8 _ hn fn_no rfl (Nat.le_refl _)
  | succ n ih => exact step (n + 1) (8 + 1 + n) _ hn (ih (by omega)) rfl (by omega)

theorem ok_rows_of {C CN CP CV CL B : Addr} (T : Txt w K mg C CN CP CV CL B) {NS : List Str} (c_size_of_block : Cal P w K mg base 12 "size_of_block" ["block"] (sp_size_of_block NS 3)) (c_lay_rows : Cal P w K mg base 12 "lay_rows" ["rows", "block", "after"] (sp_lay_rows NS 3)) {f : Addr} {fd : FuncData} (d : Df K mg "rows_of" s_rows_of ["block"] f fd) : FnOk P w K mg base CX0 13 f fd ["block"] (liftSp K (sp_rows_of NS)) :=
  DL.Fun.okD (W := fun _ _ _ _ => False) d.F sc_rows_of (fun ds G Q E h => by obtain ⟨b, rfl, _⟩ := h; rfl) (fun cdv A outer s H E hr => d_rows_of (c_size_of_block := c_size_of_block) (c_lay_rows := c_lay_rows) cdv A outer s H E hr) (fun ds G Q E h => v_rows_of h)
theorem ok_names_in {C CN CP CV CL B : Addr} (T : Txt w K mg C CN CP CV CL B) {NS : List Str}  {f : Addr} {fd : FuncData} (d : Df K mg "names_in" s_names_in ["row"] f fd) : FnOk P w K mg base CX0 1 f fd ["row"] (liftSp K (sp_names_in NS)) :=
  DL.Fun.okD (W := fun _ _ _ _ => False) d.F sc_names_in (fun ds G Q E h => by obtain ⟨r, rfl, _⟩ := h; rfl) (fun cdv A outer s H E hr => d_names_in (B := T.bi) cdv A outer s H E hr) (fun ds G Q E h => v_names_in h)
theorem ok_names_of {C CN CP CV CL B : Addr} (T : Txt w K mg C CN CP CV CL B) {NS : List Str} (c_names_in : Cal P w K mg base 1 "names_in" ["row"] (sp_names_in NS)) {f : Addr} {fd : FuncData} (d : Df K mg "names_of" s_names_of ["rows"] f fd) : FnOk P w K mg base CX0 2 f fd ["rows"] (liftSp K (sp_names_of NS)) :=
  DL.Fun.okD (W := fun _ _ _ _ => False) d.F sc_names_of (fun ds G Q E h => by obtain ⟨L, rfl, _⟩ := h; rfl) (fun cdv A outer s H E hr => d_names_of (g_BLOCKS := T.g_BLOCKS) (kd_BLOCKS := T.kd_BLOCKS) (c_names_in := c_names_in) (B := T.bi) cdv A outer s H E hr) (fun ds G Q E h => v_names_of h)
theorem ok_Program_d__init_d_ {C CN CP CV CL B : Addr} (T : Txt w K mg C CN CP CV CL B) {NS : List Str} {a_is_plain_row : Addr} (g_is_plain_row : mg "is_plain_row" = some (.ref a_is_plain_row)) (c_first_wrong : Cal P w K mg base 13 "first_wrong" ["block", "deep", "place", "is_row"] (sp_first_wrong NS a_is_plain_row 3)) (c_rows_of : Cal P w K mg base 13 "rows_of" ["block"] (sp_rows_of NS)) (c_names_of : Cal P w K mg base 13 "names_of" ["rows"] (sp_names_of NS)) {f : Addr} {fd : FuncData} (F : Fun K "__init__" "Program.__init__" s_Program_d__init_d_ f fd) : FnOk P w K mg base CX0 14 f fd ["self", "block"] (liftSp K (sp_init NS C)) :=
  DL.Fun.okD (W := fun _ _ _ _ => False) F sc_Program_d__init_d_ (fun ds G Q E h => by obtain ⟨p, b, rfl, _⟩ := h; rfl) (fun cdv A outer s H E hr => d_Program_d__init_d_ (hOC := T.hOC) (B := T.bi) (g_is_plain_row := g_is_plain_row) (c_first_wrong := c_first_wrong) (g_MOST_IN_BLOCK := T.g_MOST_IN_BLOCK.choose_spec) (g_MOST_ROWS := T.g_MOST_ROWS.choose_spec) (c_rows_of := c_rows_of) (c_names_of := c_names_of) (g_MOST_NAMES := T.g_MOST_NAMES.choose_spec) (cl_Program := T.cl_Program) (n_Program_block := T.n_Program_block) cdv A outer s H E hr) (fun ds G Q E h => v_init h)
theorem ok_Program_d__eq_d_ {C CN CP CV CL B : Addr} (T : Txt w K mg C CN CP CV CL B)  {f : Addr} {fd : FuncData} (F : Fun K "__eq__" "Program.__eq__" s_Program_d__eq_d_ f fd) : FnOk P w K mg base CX0 1 f fd ["self", "other"] (liftSp K (sp_eq C)) :=
  DL.Fun.okD (W := fun _ _ _ _ => False) F sc_Program_d__eq_d_ (fun ds G Q E h => by rcases h with ⟨b, c, NS, MS, rfl, _⟩ | ⟨b, y, t, rfl, _⟩ <;> rfl) (fun cdv A outer s H E hr => d_Program_d__eq_d_ (cl_Program := T.cl_Program) (n_Program_block := T.n_Program_block) (g_Program := T.g_Program) (i_Program := T.i_Program) (B := T.bi) cdv A outer s H E hr) (fun ds G Q E h => v_eq h)
theorem ok_text_of {C CN CP CV CL B : Addr} (T : Txt w K mg C CN CP CV CL B) {NS : List Str}  {f : Addr} {fd : FuncData} (d : Df K mg "text_of" s_text_of ["row"] f fd) : FnOk P w K mg base CX0 1 f fd ["row"] (liftSp K (sp_text_of NS)) :=
  DL.Fun.okD (W := fun _ _ _ _ => False) d.F sc_text_of (fun ds G Q E h => by obtain ⟨r, rfl, _⟩ := h; rfl) (fun cdv A outer s H E hr => d_text_of (B := T.bi) cdv A outer s H E hr) (fun ds G Q E h => v_text_of h)
theorem ok_row_text {C CN CP CV CL B : Addr} (T : Txt w K mg C CN CP CV CL B) (c_is_plain_row : Cal P w K mg base 2 "is_plain_row" ["thing"] (sp_is_plain_rowG (OCof C))) (c_text_of : Cal P w K mg base 2 "text_of" ["row"] SPtext) {f : Addr} {fd : FuncData} (d : Df K mg "row_text" s_row_text ["row"] f fd) : FnOk P w K mg base (L2.CX P w) 3 f fd ["row"] (liftSp K (sp_row_text (OCof C) CN)) :=
  DL.Fun.okXD d.F sc_row_text (fun ds G Q E h => by obtain ⟨x, rfl, _⟩ := h; rfl) (fun cdv A outer s H E hr => d_row_text (c_is_plain_row := c_is_plain_row) (x_NoRow := T.x_NoRow) (c_text_of := c_text_of) cdv A outer s H E hr) (fun ds G Q E h => v_row_text h)
theorem ok_lines_of {C CN CP CV CL B : Addr} (T : Txt w K mg C CN CP CV CL B) {NS : List Str} (c_text_of : Cal P w K mg base 1 "text_of" ["row"] (sp_text_of NS)) {f : Addr} {fd : FuncData} (d : Df K mg "lines_of" s_lines_of ["block", "ahead"] f fd) (n : Nat) : FnOk P w K mg base CX0 (1 + 1 + n) f fd ["block", "ahead"] (liftSp K ((sp_lines_of NS) n)) :=
  fn_rec (sp := (sp_lines_of NS)) (fun n j r ok e hj => by
    subst e
    exact DL.Fun.okD (W := fun _ _ _ _ => False) d.F sc_lines_of (fun ds G Q E h => by obtain ⟨b, k, d, rfl, _⟩ := h; rfl) (fun cdv A outer s H E hr => d_lines_of (c_lines_of := d.cal ok) (c_text_of := c_text_of.mono hj) cdv A outer s H E hr) (fun ds G Q E h => v_lines_of h)) n
theorem ok_program_text {C CN CP CV CL B : Addr} (T : Txt w K mg C CN CP CV CL B) {NS : List Str} (c_lines_of : Cal P w K mg base 5 "lines_of" ["block", "ahead"] ((sp_lines_of NS) 3)) {f : Addr} {fd : FuncData} (d : Df K mg "program_text" s_program_text ["program"] f fd) : FnOk P w K mg base CX0 6 f fd ["program"] (liftSp K (sp_ptext NS C)) :=
  DL.Fun.okD (W := fun _ _ _ _ => False) d.F sc_program_text (fun ds G Q E h => by obtain ⟨b, rfl, _⟩ := h; rfl) (fun cdv A outer s H E hr => d_program_text (cl_Program := T.cl_Program) (n_Program_block := T.n_Program_block) (c_lines_of := c_lines_of) cdv A outer s H E hr) (fun ds G Q E h => v_ptext h)
theorem ok_integer_told {C CN CP CV CL B : Addr} (T : Txt w K mg C CN CP CV CL B)  {f : Addr} {fd : FuncData} (d : Df K mg "integer_told" s_integer_told ["word"] f fd) : FnOk P w K mg base CX0 1 f fd ["word"] (liftSp K sp_int_told) :=
  DL.Fun.okD (W := fun _ _ _ _ => False) d.F sc_integer_told (fun ds G Q E h => by obtain ⟨z, rfl, _⟩ := h; rfl) (fun cdv A outer s H E hr => d_integer_told (B := T.bi) (g_MOST_FIGURES := T.g_MOST_FIGURES.choose_spec) (g_FIGURES := T.g_FIGURES.choose_spec) cdv A outer s H E hr) (fun ds G Q E h => v_int_told h)
theorem ok_note_told {C CN CP CV CL B : Addr} (T : Txt w K mg C CN CP CV CL B) (c_is_name : Cal P w K mg base 1 "is_name" ["thing"] (sp_is_nameG (OCof C))) {f : Addr} {fd : FuncData} (d : Df K mg "note_told" s_note_told ["name", "text"] f fd) : FnOk P w K mg base CX0 2 f fd ["name", "text"] (liftSp K sp_note_told) :=
  DL.Fun.okD (W := fun _ _ _ _ => False) d.F sc_note_told (fun ds G Q E h => by obtain ⟨x, o, ps, rfl, _⟩ := h; rfl) (fun cdv A outer s H E hr => d_note_told (c_is_name := c_is_name) (B := T.bi) (g_MOST_PARTS := T.g_MOST_PARTS.choose_spec) cdv A outer s H E hr) (fun ds G Q E h => v_note_told h)
theorem ok_row_told {C CN CP CV CL B : Addr} (T : Txt w K mg C CN CP CV CL B) {NS : List Str} (c_is_name : Cal P w K mg base 2 "is_name" ["thing"] (sp_is_nameG (OCof C))) (c_integer_told : Cal P w K mg base 2 "integer_told" ["word"] sp_int_told) (c_note_told : Cal P w K mg base 2 "note_told" ["name", "text"] sp_note_told) {f : Addr} {fd : FuncData} (d : Df K mg "row_told" s_row_told ["text"] f fd) : FnOk P w K mg base CX0 3 f fd ["text"] (liftSp K (sp_row_told NS)) :=
  DL.Fun.okD (W := fun _ _ _ _ => False) d.F sc_row_told (fun ds G Q E h => by obtain ⟨r, rfl, _⟩ := h; rfl) (fun cdv A outer s H E hr => d_row_told (c_is_name := c_is_name) (c_integer_told := c_integer_told) (c_note_told := c_note_told) cdv A outer s H E hr) (fun ds G Q E h => v_row_told h)
theorem ok_Level_d__init_d_ {C CN CP CV CL B : Addr} (T : Txt w K mg C CN CP CV CL B)  {f : Addr} {fd : FuncData} (F : Fun K "__init__" "Level.__init__" s_Level_d__init_d_ f fd) : FnOk P w K mg base CX0 1 f fd ["self", "word", "first"] (liftSp K (sp_level CV)) :=
  DL.Fun.okD (W := fun _ _ _ _ => False) F sc_Level_d__init_d_ (fun ds G Q E h => by obtain ⟨p, w, f, rfl, _⟩ := h; rfl) (fun cdv A outer s H E hr => d_Level_d__init_d_ (cl_Level := T.cl_Level) (n_Level_kept_word := T.n_Level_kept_word) (n_Level_kept_rows := T.n_Level_kept_rows) (n_Level_kept_first := T.n_Level_kept_first) cdv A outer s H E hr) (fun ds G Q E h => v_level h)
theorem ok_Lines_d__init_d_ {C CN CP CV CL B : Addr} (T : Txt w K mg C CN CP CV CL B) (m_Level : CalM P w K mg base 1 "Level" CV ["self", "word", "first"] (sp_level CV)) {f : Addr} {fd : FuncData} (F : Fun K "__init__" "Lines.__init__" s_Lines_d__init_d_ f fd) : FnOk P w K mg base CX0 3 f fd ["self"] (liftSp K (sp_lines0 CL CV)) :=
  DL.Fun.okD (W := fun _ _ _ _ => False) F sc_Lines_d__init_d_ (fun ds G Q E h => by obtain ⟨p, rfl, _⟩ := h; rfl) (fun cdv A outer s H E hr => d_Lines_d__init_d_ (cl_Lines := T.cl_Lines) (n_Lines_kept_levels := T.n_Lines_kept_levels) (m_Level := m_Level) (hk_Level := by decide) cdv A outer s H E hr) (fun ds G Q E h => v_lines0 h)
theorem ok_Lines_row_of {C CN CP CV CL B : Addr} (T : Txt w K mg C CN CP CV CL B) {NS : List Str} (c_row_told : Cal P w K mg base 3 "row_told" ["text"] (sp_row_told NS)) {f : Addr} {fd : FuncData} (F : Fun K "row_of" "Lines.row_of" s_Lines_row_of f fd) : FnOk P w K mg base CX0 4 f fd ["self", "text"] (liftSp K (sp_row_of NS)) :=
  DL.Fun.okD (W := fun _ _ _ _ => False) F sc_Lines_row_of (fun ds G Q E h => by obtain ⟨d, r, rfl, _⟩ := h; rfl) (fun cdv A outer s H E hr => d_Lines_row_of (c_row_told := c_row_told) cdv A outer s H E hr) (fun ds G Q E h => v_row_of h)
theorem ok_Lines_shrink {C CN CP CV CL B : Addr} (T : Txt w K mg C CN CP CV CL B)  {f : Addr} {fd : FuncData} (F : Fun K "shrink" "Lines.shrink" s_Lines_shrink f fd) : FnOk P w K mg base CX0 1 f fd ["self", "many", "number"] (liftSp K (sp_shrink CL CV)) :=
  DL.Fun.okD (W := fun _ _ _ _ => False) F sc_Lines_shrink (fun ds G Q E h => by obtain ⟨L, m, num, G0, s, s2, n, rfl, _⟩ := h; rfl) (fun cdv A outer s H E hr => d_Lines_shrink (cl_Lines := T.cl_Lines) (n_Lines_kept_levels := T.n_Lines_kept_levels) (B := T.bi) (cl_Level := T.cl_Level) (n_Level_kept_rows := T.n_Level_kept_rows) (n_Level_kept_word := T.n_Level_kept_word) (n_Level_kept_first := T.n_Level_kept_first) cdv A outer s H E hr) (fun ds G Q E h => v_shrink h)
theorem ok_Lines_take_or {C CN CP CV CL B : Addr} (T : Txt w K mg C CN CP CV CL B) (me_Lines_shrink : CalMe P w K mg base 2 CL "shrink" ["self", "many", "number"] (sp_shrink CL CV)) (m_Level : CalM P w K mg base 1 "Level" CV ["self", "word", "first"] (sp_level CV)) {f : Addr} {fd : FuncData} (F : Fun K "take_or" "Lines.take_or" s_Lines_take_or f fd) : FnOk P w K mg base CX0 3 f fd ["self", "deep", "number"] (liftSp K (sp_take_or CL CV)) :=
  DL.Fun.okD (W := fun _ _ _ _ => False) F sc_Lines_take_or (fun ds G Q E h => by obtain ⟨L, d, num, G0, s, r, l, n, rfl, _⟩ := h; rfl) (fun cdv A outer s H E hr => d_Lines_take_or (cl_Lines := T.cl_Lines) (n_Lines_kept_levels := T.n_Lines_kept_levels) (B := T.bi) (me_Lines_shrink := me_Lines_shrink) (cl_Level := T.cl_Level) (n_Level_kept_word := T.n_Level_kept_word) (n_Level_kept_rows := T.n_Level_kept_rows) (m_Level := m_Level) (hk_Level := by decide) cdv A outer s H E hr) (fun ds G Q E h => v_take_or h)
theorem ok_Lines_take_row {C CN CP CV CL B : Addr} (T : Txt w K mg C CN CP CV CL B) {NS : List Str} (me_Lines_row_of : CalMe P w K mg base 4 CL "row_of" ["self", "text"] (sp_row_of NS)) (me_Lines_shrink : CalMe P w K mg base 4 CL "shrink" ["self", "many", "number"] (sp_shrink CL CV)) (m_Level : CalM P w K mg base 1 "Level" CV ["self", "word", "first"] (sp_level CV)) {f : Addr} {fd : FuncData} (F : Fun K "take_row" "Lines.take_row" s_Lines_take_row f fd) : FnOk P w K mg base CX0 5 f fd ["self", "text", "deep", "number"] (liftSp K (sp_take_row NS CL CV)) :=
  DL.Fun.okD (W := fun _ _ _ _ => False) F sc_Lines_take_row (fun ds G Q E h => by obtain ⟨L, d, num, G0, s, s2, x, n, rfl, _⟩ := h; rfl) (fun cdv A outer s H E hr => d_Lines_take_row (cl_Lines := T.cl_Lines) (n_Lines_kept_levels := T.n_Lines_kept_levels) (B := T.bi) (me_Lines_row_of := me_Lines_row_of) (me_Lines_shrink := me_Lines_shrink) (m_Level := m_Level) (hk_Level := by decide) (cl_Level := T.cl_Level) (n_Level_kept_rows := T.n_Level_kept_rows) cdv A outer s H E hr) (fun ds G Q E h => v_take_row h)
theorem ok_blanks_ahead {C CN CP CV CL B : Addr} (T : Txt w K mg C CN CP CV CL B) {NS : List Str}  {f : Addr} {fd : FuncData} (d : Df K mg "blanks_ahead" s_blanks_ahead ["line"] f fd) : FnOk P w K mg base CX0 1 f fd ["line"] (liftSp K (sp_blanks NS)) :=
  DL.Fun.okD (W := fun _ _ _ _ => False) d.F sc_blanks_ahead (fun ds G Q E h => by obtain ⟨l, rfl, _⟩ := h; rfl) (fun cdv A outer s H E hr => d_blanks_ahead (B := T.bi) cdv A outer s H E hr) (fun ds G Q E h => v_blanks h)
theorem ok_read_program {C CN CP CV CL B : Addr} (T : Txt w K mg C CN CP CV CL B) {NS : List Str} (m_Lines : CalM P w K mg base 3 "Lines" CL ["self"] (sp_lines0 CL CV)) (c_blanks_ahead : Cal P w K mg base 15 "blanks_ahead" ["line"] (sp_blanks NS)) (me_Lines_take_or : CalMe P w K mg base 15 CL "take_or" ["self", "deep", "number"] (sp_take_or CL CV)) (me_Lines_take_row : CalMe P w K mg base 15 CL "take_row" ["self", "text", "deep", "number"] (sp_take_row NS CL CV)) (me_Lines_shrink : CalMe P w K mg base 15 CL "shrink" ["self", "many", "number"] (sp_shrink CL CV)) (m_Program : CalM P w K mg base 14 "Program" C ["self", "block"] (SPprog C)) {f : Addr} {fd : FuncData} (d : Df K mg "read_program" s_read_program ["text"] f fd) : FnOk P w K mg base CX0 16 f fd ["text"] (liftSp K (sp_read NS C)) :=
  DL.Fun.okD (W := fun _ _ _ _ => False) d.F sc_read_program (fun ds G Q E h => by obtain ⟨b, rfl, _⟩ := h; rfl) (fun cdv A outer s H E hr => d_read_program (hOC := T.hOC) (B := T.bi) (m_Lines := m_Lines) (hk_Lines := by decide) (c_blanks_ahead := c_blanks_ahead) (me_Lines_take_or := me_Lines_take_or) (me_Lines_take_row := me_Lines_take_row) (me_Lines_shrink := me_Lines_shrink) (cl_Lines := T.cl_Lines) (n_Lines_kept_levels := T.n_Lines_kept_levels) (cl_Level := T.cl_Level) (n_Level_kept_rows := T.n_Level_kept_rows) (m_Program := m_Program) (hk_Program := by decide) cdv A outer s H E hr) (fun ds G Q E h => v_read h)
theorem ok__law_hand {C CN CP CV CL B : Addr} (T : Txt w K mg C CN CP CV CL B)  {f : Addr} {fd : FuncData} (d : Df K mg "_law_hand" s__law_hand ["_law_script"] f fd) : FnOk P w K mg base CX0 1 f fd ["_law_script"] (liftSp K sp_hand) :=
  DL.Fun.okD (W := fun _ _ _ _ => False) d.F sc__law_hand (fun ds G Q E h => by obtain ⟨ns, rfl, _⟩ := h; rfl) (fun cdv A outer s H E hr => d__law_hand (B := T.bi) cdv A outer s H E hr) (fun ds G Q E h => v_hand h)
theorem ok__law_draw {C CN CP CV CL B : Addr} (T : Txt w K mg C CN CP CV CL B)  {f : Addr} {fd : FuncData} (d : Df K mg "_law_draw" s__law_draw ["_law_hand_here", "_law_many"] f fd) : FnOk P w K mg base CX0 1 f fd ["_law_hand_here", "_law_many"] (liftSp K sp_draw) :=
  DL.Fun.okD (W := fun _ _ _ _ => False) d.F sc__law_draw (fun ds G Q E h => by obtain ⟨p, m, rfl, _⟩ := h; rfl) (fun cdv A outer s H E hr => d__law_draw (B := T.bi) cdv A outer s H E hr) (fun ds G Q E h => v_draw h)
theorem ok__law_any {C CN CP CV CL B : Addr} (T : Txt w K mg C CN CP CV CL B) (c__law_draw : Cal P w K mg base 1 "_law_draw" ["_law_hand_here", "_law_many"] sp_draw) {f : Addr} {fd : FuncData} (d : Df K mg "_law_any" s__law_any ["_law_hand_here", "_law_things"] f fd) : FnOk P w K mg base CX0 2 f fd ["_law_hand_here", "_law_things"] (liftSp K sp_any) :=
  DL.Fun.okD (W := fun _ _ _ _ => False) d.F sc__law_any (fun ds G Q E h => by obtain ⟨p, x, xs, rfl, _⟩ := h; rfl) (fun cdv A outer s H E hr => d__law_any (B := T.bi) (c__law_draw := c__law_draw) cdv A outer s H E hr) (fun ds G Q E h => v_any h)
theorem ok__law_plain_row {C CN CP CV CL B : Addr} (T : Txt w K mg C CN CP CV CL B) {NS OS : List Str} (c__law_any : Cal P w K mg base 2 "_law_any" ["_law_hand_here", "_law_things"] sp_any) (c__law_draw : Cal P w K mg base 2 "_law_draw" ["_law_hand_here", "_law_many"] sp_draw) {f : Addr} {fd : FuncData} (d : Df K mg "_law_plain_row" s__law_plain_row ["_law_hand_here", "_law_names", "_law_ops"] f fd) : FnOk P w K mg base CX0 3 f fd ["_law_hand_here", "_law_names", "_law_ops"] (liftSp K (sp_lplain NS OS)) :=
  DL.Fun.okD (W := fun _ _ _ _ => False) d.F sc__law_plain_row (fun ds G Q E h => by obtain ⟨p, rfl, _⟩ := h; rfl) (fun cdv A outer s H E hr => d__law_plain_row (c__law_any := c__law_any) (c__law_draw := c__law_draw) (B := T.bi) cdv A outer s H E hr) (fun ds G Q E h => v_lplain h)
theorem ok__law_size {C CN CP CV CL B : Addr} (T : Txt w K mg C CN CP CV CL B) {NS : List Str}  {f : Addr} {fd : FuncData} (d : Df K mg "_law_size" s__law_size ["_law_block_here"] f fd) (n : Nat) : FnOk P w K mg base CX0 (0 + 1 + n) f fd ["_law_block_here"] (liftSp K ((sp_lsize NS) n)) :=
  fn_rec (sp := (sp_lsize NS)) (fun n j r ok e hj => by
    subst e
    exact DL.Fun.okD (W := fun _ _ _ _ => False) d.F sc__law_size (fun ds G Q E h => by obtain ⟨b, k, rfl, _⟩ := h; rfl) (fun cdv A outer s H E hr => d__law_size (c__law_size := d.cal ok) (B := T.bi) cdv A outer s H E hr) (fun ds G Q E h => v_lsize h)) n
theorem ok__law_block {C CN CP CV CL B : Addr} (T : Txt w K mg C CN CP CV CL B) {NS OS : List Str} (c__law_draw : Cal P w K mg base 4 "_law_draw" ["_law_hand_here", "_law_many"] sp_draw) (c__law_size : Cal P w K mg base 4 "_law_size" ["_law_block_here"] ((sp_lsize NS) 3)) (c__law_plain_row : Cal P w K mg base 4 "_law_plain_row" ["_law_hand_here", "_law_names", "_law_ops"] (sp_lplain NS OS)) {f : Addr} {fd : FuncData} (d : Df K mg "_law_block" s__law_block ["_law_hand_here", "_law_names", "_law_ops", "_law_deep_here", "_law_most"] f fd) (n : Nat) : FnOk P w K mg base CX0 (4 + 1 + n) f fd ["_law_hand_here", "_law_names", "_law_ops", "_law_deep_here", "_law_most"] (liftSp K ((sp_lblock NS OS) n)) :=
  fn_rec (sp := (sp_lblock NS OS)) (fun n j r ok e hj => by
    subst e
    exact DL.Fun.okD (W := fun _ _ _ _ => False) d.F sc__law_block (fun ds G Q E h => by obtain ⟨p, k, most, rfl, _⟩ := h; rfl) (fun cdv A outer s H E hr => d__law_block (c__law_draw := c__law_draw.mono hj) (B := T.bi) (c__law_block := d.cal ok) (c__law_size := c__law_size.mono hj) (c__law_plain_row := c__law_plain_row.mono hj) cdv A outer s H E hr) (fun ds G Q E h => v_lblock h)) n
theorem ok__law_drawn {C CN CP CV CL B : Addr} (T : Txt w K mg C CN CP CV CL B) (c__law_draw : Cal P w K mg base 8 "_law_draw" ["_law_hand_here", "_law_many"] sp_draw) (c__law_any : Cal P w K mg base 8 "_law_any" ["_law_hand_here", "_law_things"] sp_any) (c__law_block : Cal P w K mg base 8 "_law_block" ["_law_hand_here", "_law_names", "_law_ops", "_law_deep_here", "_law_most"] lblocks) {f : Addr} {fd : FuncData} (d : Df K mg "_law_drawn" s__law_drawn ["_law_hand_here"] f fd) : FnOk P w K mg base CX0 9 f fd ["_law_hand_here"] (liftSp K sp_drawn) :=
  DL.Fun.okD (W := fun _ _ _ _ => False) d.F sc__law_drawn (fun ds G Q E h => by obtain ⟨p, rfl, _⟩ := h; rfl) (fun cdv A outer s H E hr => d__law_drawn (c__law_draw := c__law_draw) (c__law_any := c__law_any) (c__law_block := c__law_block) cdv A outer s H E hr) (fun ds G Q E h => v_drawn h)
theorem ok__law_rows {C CN CP CV CL B : Addr} (T : Txt w K mg C CN CP CV CL B) {NS : List Str}  {f : Addr} {fd : FuncData} (d : Df K mg "_law_rows" s__law_rows ["_law_block_here"] f fd) (n : Nat) : FnOk P w K mg base CX0 (0 + 1 + n) f fd ["_law_block_here"] (liftSp K ((sp_lrows NS) n)) :=
  fn_rec (sp := (sp_lrows NS)) (fun n j r ok e hj => by
    subst e
    exact DL.Fun.okD (W := fun _ _ _ _ => False) d.F sc__law_rows (fun ds G Q E h => by obtain ⟨b, k, rfl, _⟩ := h; rfl) (fun cdv A outer s H E hr => d__law_rows (c__law_rows := d.cal ok) cdv A outer s H E hr) (fun ds G Q E h => v_lrows h)) n
theorem ok__law_deep {C CN CP CV CL B : Addr} (T : Txt w K mg C CN CP CV CL B) (c__law_draw : Cal P w K mg base 1 "_law_draw" ["_law_hand_here", "_law_many"] sp_draw) {f : Addr} {fd : FuncData} (d : Df K mg "_law_deep" s__law_deep ["_law_hand_here"] f fd) : FnOk P w K mg base CX0 2 f fd ["_law_hand_here"] (liftSp K (sp_deepG (OCof C))) :=
  DL.Fun.okD (W := fun _ _ _ _ => False) d.F sc__law_deep (fun ds G Q E h => by obtain ⟨p, rfl, _⟩ := h; rfl) (fun cdv A outer s H E hr => d__law_deep (c__law_draw := c__law_draw) (B := T.bi) cdv A outer s H E hr) (fun ds G Q E h => v_deepG h)
theorem ok__law_row_text {C CN CP CV CL B : Addr} (T : Txt w K mg C CN CP CV CL B) {NS : List Str}  {f : Addr} {fd : FuncData} (d : Df K mg "_law_row_text" s__law_row_text ["_law_row"] f fd) : FnOk P w K mg base CX0 1 f fd ["_law_row"] (liftSp K (sp_text_of NS)) :=
  DL.Fun.okD (W := fun _ _ _ _ => False) d.F sc__law_row_text (fun ds G Q E h => by obtain ⟨r, rfl, _⟩ := h; rfl) (fun cdv A outer s H E hr => d__law_row_text (B := T.bi) cdv A outer s H E hr) (fun ds G Q E h => v_lrow_text h)
theorem ok__law_lines {C CN CP CV CL B : Addr} (T : Txt w K mg C CN CP CV CL B) {NS : List Str} (c__law_row_text : Cal P w K mg base 1 "_law_row_text" ["_law_row"] (sp_text_of NS)) {f : Addr} {fd : FuncData} (d : Df K mg "_law_lines" s__law_lines ["_law_block_here", "_law_deep_here"] f fd) (n : Nat) : FnOk P w K mg base CX0 (1 + 1 + n) f fd ["_law_block_here", "_law_deep_here"] (liftSp K ((sp_llines NS) n)) :=
  fn_rec (sp := (sp_llines NS)) (fun n j r ok e hj => by
    subst e
    exact DL.Fun.okD (W := fun _ _ _ _ => False) d.F sc__law_lines (fun ds G Q E h => by obtain ⟨b, k, d, rfl, _⟩ := h; rfl) (fun cdv A outer s H E hr => d__law_lines (c__law_lines := d.cal ok) (c__law_row_text := c__law_row_text.mono hj) cdv A outer s H E hr) (fun ds G Q E h => v_llines h)) n
theorem ok__law_told {C CN CP CV CL B : Addr} (T : Txt w K mg C CN CP CV CL B) (cx_row_text : CalX P w K mg base 3 "row_text" ["row"] (sp_row_text (OCof C) CN)) {f : Addr} {fd : FuncData} (d : Df K mg "_law_told" s__law_told ["_law_row"] f fd) : FnOk P w K mg base CX0 4 f fd ["_law_row"] (liftSp K (sp_told (OCof C))) :=
  DL.Fun.okD (W := fun _ _ _ _ => False) d.F sc__law_told (fun ds G Q E h => by obtain ⟨x, rfl, _⟩ := h; rfl) (fun cdv A outer s H E hr => d__law_told (g_NoRow := T.g_NoRow) (e_NoRow := T.e_NoRow) (g_PileError := T.g_PileError) (e_PileError := T.e_PileError) (cx_row_text := cx_row_text) cdv A outer s H E hr) (fun ds G Q E h => v_told (if_pos rfl) h)
theorem ok_law {C CN CP CV CL B : Addr} (T : Txt w K mg C CN CP CV CL B) (c__law_hand : Cal P w K mg base 16 "_law_hand" ["_law_script"] sp_hand) (c__law_drawn : Cal P w K mg base 16 "_law_drawn" ["_law_hand_here"] sp_drawn) (c__law_lines : Cal P w K mg base 16 "_law_lines" ["_law_block_here", "_law_deep_here"] SPllines) (m_Program : CalM P w K mg base 14 "Program" C ["self", "block"] (SPprog C)) (c_program_text : Cal P w K mg base 16 "program_text" ["program"] (SPptext C)) (c_read_program : Cal P w K mg base 16 "read_program" ["text"] (SPread C)) (q_Program : EqO P w K mg base 1 C (sp_eq C)) (c__law_rows : Cal P w K mg base 16 "_law_rows" ["_law_block_here"] SProws) (c__law_told : Cal P w K mg base 16 "_law_told" ["_law_row"] (sp_told (OCof C))) (c__law_row_text : Cal P w K mg base 16 "_law_row_text" ["_law_row"] SPtext) (c__law_deep : Cal P w K mg base 16 "_law_deep" ["_law_hand_here"] (sp_deepG (OCof C))) (c__law_draw : Cal P w K mg base 16 "_law_draw" ["_law_hand_here", "_law_many"] sp_draw) {f : Addr} {fd : FuncData} (d : Df K mg "law" s_law ["_law_script"] f fd) : FnOk P w K mg base CX0 17 f fd ["_law_script"] (liftSp K sp_law) :=
  DL.Fun.okD (W := fun _ _ _ _ => False) d.F sc_law (fun ds G Q E h => by obtain ⟨ns, rfl, _⟩ := h; rfl) (fun cdv A outer s H E hr => d_law (c__law_hand := c__law_hand) (B := T.bi) (c__law_drawn := c__law_drawn) (c__law_lines := c__law_lines) (m_Program := m_Program) (hk_Program := by decide) (c_program_text := c_program_text) (c_read_program := c_read_program) (g_Program := T.g_Program) (i_Program := T.i_Program) (q_Program := q_Program) (hq_Program := by decide) (r_Program := T.r_Program) (cl_Program := T.cl_Program) (n_Program_block := T.n_Program_block) (c__law_rows := c__law_rows) (c__law_told := c__law_told) (c__law_row_text := c__law_row_text) (c__law_deep := c__law_deep) (c__law_draw := c__law_draw) cdv A outer s H E hr) (fun ds G Q E h => v_law (decide_eq_true rfl) h)
end
end P3

/-! V6q: what the top has written. -/
namespace P3
open PySem PySem.Spec L2 DL
/-- the entries of a table: text keys, numbers -/
def entI (e : DictEntry) : Option (Str × Int) := match e.key with
  | .str x _ => (match e.val with | .int i _ => some (x, i) | _ => none)
  | _ => none
theorem entI_some {e : DictEntry} {x : Str} {i : Int} (h : entI e = some (x, i)) : ∃ t u, e.key = .str x t ∧ e.val = .int i u := by
  unfold entI at h
  split at h
  · rename_i y t hk
    split at h
    · rename_i j u hv
      cases h
      exact ⟨t, u, hk, hv⟩
    · cases h
  · cases h
theorem ent_find : ∀ (l : List DictEntry) (tb : List (Str × Int)), l.map entI = tb.map some → ∀ z : Str, l.any (·.refKey) = false ∧
    (match tb.lookup z with | none => l.find? (fun e => e.key.isStr z) = none | some i => ∃ e u, l.find? (fun e => e.key.isStr z) = some e ∧ e.val = .int i u)
  | [], [], _, z => ⟨rfl, rfl⟩
  | [], _ :: _, h, _ => by simp at h
  | _ :: _, [], h, _ => by simp at h
  | e :: l, (x, i) :: tb, h, z => by
    rw [List.map_cons, List.map_cons] at h
    injection h with h1 h2
    obtain ⟨t, u, hk, hv⟩ := entI_some h1
    obtain ⟨r1, r2⟩ := ent_find l tb h2 z
    have k1 : e.refKey = false := by simp [DictEntry.refKey, hk]
    have k2 : e.key.isStr z = decide (x = z) := by
      rw [hk]
      show (x == z) = decide (x = z)
      by_cases q : x = z
      · subst q; rw [beq_self_eq_true, decide_eq_true rfl]
      · rw [beq_eq_false_iff_ne.mpr q, decide_eq_false q]
    refine ⟨by rw [List.any_cons, k1, r1]; rfl, ?_⟩
    rw [List.lookup_cons, List.find?_cons, k2]
    by_cases q : z = x
    · subst q
      rw [beq_self_eq_true, decide_eq_true rfl]
      exact ⟨e, u, rfl, hv⟩
    · rw [beq_eq_false_iff_ne.mpr q, decide_eq_false (fun w => q w.symm)]
      exact r2
theorem kdc_mk {K : PySem.W.Frag} {w : World} {B : Addr} {es : Array DictEntry} {n : Nat} (l : K.lookup B = some ⟨.type "dict", none, .dict es n, #[]⟩) (lit : PySem.W.KeysLit w.params es.toList) (low : (B == sysModules) = false)
    (e : es.toList.map entI = [some (("either" : Str), (2 : Int)), some ("again", 1)]) : KDc K w B TB := by
  refine ⟨⟨es, n, l, lit, low⟩, fun z => ?_⟩
  obtain ⟨r1, r2⟩ := ent_find es.toList [("either", 2), ("again", 1)] e z
  have hn : PySem.W.nsIn K B z = (match es.toList.find? (fun e => e.key.isStr z) with | some e => some (some e.val) | none => if es.toList.any (·.refKey) then none else some none) := by
    unfold PySem.W.nsIn
    rw [l]
    rfl
  have ht : TB.lookup z = (List.lookup z [(("either" : Str), (2 : Int)), ("again", 1)]).map D.int := by
    show List.lookup z [(("either" : Str), D.int 2), ("again", D.int 1)] = _
    rw [List.lookup_cons, List.lookup_cons, List.lookup_cons, List.lookup_cons]
    cases (z == ("either" : Str)) <;> cases (z == ("again" : Str)) <;> rfl
  rw [ht]
  cases q : List.lookup z [(("either" : Str), (2 : Int)), ("again", 1)] with
  | none =>
    rw [q] at r2
    refine ⟨none, ?_, rfl⟩
    rw [hn, r2, r1]; rfl
  | some i =>
    rw [q] at r2
    obtain ⟨en, u, r3, r4⟩ := r2
    refine ⟨some en.val, by rw [hn, r3], en.val, .int i, rfl, ?_, fun H F => .int i⟩
    rw [r4]; exact ⟨u, rfl⟩

theorem all_mk {l : PySem.W.OpenLaw} {w : World} {K : PySem.W.Frag} {h : Heap} {mg : Str → Option Value} {fa : Addr} (X : K.In h) (G : h.Ns mainGlobals mg) (hfa : mg "law" = some (.ref fa))
    {f1 : Addr} {od1 an1 : Option Addr} {sl1 : Array (Option Value)} {oc1 kV1 dc1 pm1 cd1 ct1 : Value}
    {f2 : Addr} {od2 an2 : Option Addr} {sl2 : Array (Option Value)} {oc2 kV2 dc2 pm2 cd2 ct2 : Value}
    {f3 : Addr} {od3 an3 : Option Addr} {sl3 : Array (Option Value)} {oc3 kV3 dc3 pm3 cd3 ct3 : Value}
    {f4 : Addr} {od4 an4 : Option Addr} {sl4 : Array (Option Value)} {oc4 kV4 dc4 pm4 cd4 ct4 : Value}
    {f5 : Addr} {od5 an5 : Option Addr} {sl5 : Array (Option Value)} {oc5 kV5 dc5 pm5 cd5 ct5 : Value}
    {f6 : Addr} {od6 an6 : Option Addr} {sl6 : Array (Option Value)} {oc6 kV6 dc6 pm6 cd6 ct6 : Value}
    {f7 : Addr} {od7 an7 : Option Addr} {sl7 : Array (Option Value)} {oc7 kV7 dc7 pm7 cd7 ct7 : Value}
    {f8 : Addr} {od8 an8 : Option Addr} {sl8 : Array (Option Value)} {oc8 kV8 dc8 pm8 cd8 ct8 : Value}
    {f9 : Addr} {od9 an9 : Option Addr} {sl9 : Array (Option Value)} {oc9 kV9 dc9 pm9 cd9 ct9 : Value}
    {f10 : Addr} {od10 an10 : Option Addr} {sl10 : Array (Option Value)} {oc10 kV10 dc10 pm10 cd10 ct10 : Value}
    {f11 : Addr} {od11 an11 : Option Addr} {sl11 : Array (Option Value)} {oc11 kV11 dc11 pm11 cd11 ct11 : Value}
    {f12 : Addr} {od12 an12 : Option Addr} {sl12 : Array (Option Value)} {oc12 kV12 dc12 pm12 cd12 ct12 : Value}
    {f13 : Addr} {od13 an13 : Option Addr} {sl13 : Array (Option Value)} {oc13 kV13 dc13 pm13 cd13 ct13 : Value}
    {f14 : Addr} {od14 an14 : Option Addr} {sl14 : Array (Option Value)} {oc14 kV14 dc14 pm14 cd14 ct14 : Value}
    {f15 : Addr} {od15 an15 : Option Addr} {sl15 : Array (Option Value)} {oc15 kV15 dc15 pm15 cd15 ct15 : Value}
    {f16 : Addr} {od16 an16 : Option Addr} {sl16 : Array (Option Value)} {oc16 kV16 dc16 pm16 cd16 ct16 : Value}
    {f17 : Addr} {od17 an17 : Option Addr} {sl17 : Array (Option Value)} {oc17 kV17 dc17 pm17 cd17 ct17 : Value}
    {f18 : Addr} {od18 an18 : Option Addr} {sl18 : Array (Option Value)} {oc18 kV18 dc18 pm18 cd18 ct18 : Value}
    {f19 : Addr} {od19 an19 : Option Addr} {sl19 : Array (Option Value)} {oc19 kV19 dc19 pm19 cd19 ct19 : Value}
    {f20 : Addr} {od20 an20 : Option Addr} {sl20 : Array (Option Value)} {oc20 kV20 dc20 pm20 cd20 ct20 : Value}
    {f21 : Addr} {od21 an21 : Option Addr} {sl21 : Array (Option Value)} {oc21 kV21 dc21 pm21 cd21 ct21 : Value}
    {f22 : Addr} {od22 an22 : Option Addr} {sl22 : Array (Option Value)} {oc22 kV22 dc22 pm22 cd22 ct22 : Value}
    {f23 : Addr} {od23 an23 : Option Addr} {sl23 : Array (Option Value)} {oc23 kV23 dc23 pm23 cd23 ct23 : Value}
    {f24 : Addr} {od24 an24 : Option Addr} {sl24 : Array (Option Value)} {oc24 kV24 dc24 pm24 cd24 ct24 : Value}
    {f25 : Addr} {od25 an25 : Option Addr} {sl25 : Array (Option Value)} {oc25 kV25 dc25 pm25 cd25 ct25 : Value}
    {f26 : Addr} {od26 an26 : Option Addr} {sl26 : Array (Option Value)} {oc26 kV26 dc26 pm26 cd26 ct26 : Value}
    {f27 : Addr} {od27 an27 : Option Addr} {sl27 : Array (Option Value)} {oc27 kV27 dc27 pm27 cd27 ct27 : Value}
    {f28 : Addr} {od28 an28 : Option Addr} {sl28 : Array (Option Value)} {oc28 kV28 dc28 pm28 cd28 ct28 : Value}
    {f29 : Addr} {od29 an29 : Option Addr} {sl29 : Array (Option Value)} {oc29 kV29 dc29 pm29 cd29 ct29 : Value}
    {f30 : Addr} {od30 an30 : Option Addr} {sl30 : Array (Option Value)} {oc30 kV30 dc30 pm30 cd30 ct30 : Value}
    {f31 : Addr} {od31 an31 : Option Addr} {sl31 : Array (Option Value)} {oc31 kV31 dc31 pm31 cd31 ct31 : Value}
    {f32 : Addr} {od32 an32 : Option Addr} {sl32 : Array (Option Value)} {oc32 kV32 dc32 pm32 cd32 ct32 : Value}
    {f33 : Addr} {od33 an33 : Option Addr} {sl33 : Array (Option Value)} {oc33 kV33 dc33 pm33 cd33 ct33 : Value}
    {f34 : Addr} {od34 an34 : Option Addr} {sl34 : Array (Option Value)} {oc34 kV34 dc34 pm34 cd34 ct34 : Value}
    {f99 : Addr} {od99 an99 : Option Addr} {sl99 : Array (Option Value)} {oc99 kV99 dc99 pm99 cd99 ct99 : Value}
    {f98 : Addr} {od98 an98 : Option Addr} {sl98 : Array (Option Value)} {oc98 kV98 dc98 pm98 cd98 ct98 : Value}
    {f97 : Addr} {od97 an97 : Option Addr} {sl97 : Array (Option Value)} {oc97 kV97 dc97 pm97 cd97 ct97 : Value}
    {f96 : Addr} {od96 an96 : Option Addr} {sl96 : Array (Option Value)} {oc96 kV96 dc96 pm96 cd96 ct96 : Value}
    {f95 : Addr} {od95 an95 : Option Addr} {sl95 : Array (Option Value)} {oc95 kV95 dc95 pm95 cd95 ct95 : Value}
    {f94 : Addr} {od94 an94 : Option Addr} {sl94 : Array (Option Value)} {oc94 kV94 dc94 pm94 cd94 ct94 : Value}
    {f93 : Addr} {od93 an93 : Option Addr} {sl93 : Array (Option Value)} {oc93 kV93 dc93 pm93 cd93 ct93 : Value}
    {f92 : Addr} {od92 an92 : Option Addr} {sl92 : Array (Option Value)} {oc92 kV92 dc92 pm92 cd92 ct92 : Value}
    {C CN CP CV CL B : Addr}
    {esB : Array DictEntry} {nEB : Nat}
    {t_SMALL t_MOST_SIGNS t_MOST_PARTS t_MOST_DEEP t_MOST_IN_BLOCK t_MOST_ROWS t_MOST_NAMES t_MOST_FIGURES t_FIGURES : Tok}
    (a1 : PySem.W.nsIn K mainGlobals "is_integer" = some (some (.ref f1)))
    (l1 : K.lookup f1 = some ⟨oc1, od1, .func (PySem.W.fnOf "is_integer" "is_integer" (defArgs s_is_integer) (defBody s_is_integer) (defScope s_is_integer) .none kV1 dc1 pm1 an1 cd1 ct1), sl1⟩)
    (c1 : PySem.W.codeIn K cd1 "is_integer" = true)
    (k1 : PySem.W.keepIn K (.ref f1) = true)
    (a2 : PySem.W.nsIn K mainGlobals "is_name" = some (some (.ref f2)))
    (l2 : K.lookup f2 = some ⟨oc2, od2, .func (PySem.W.fnOf "is_name" "is_name" (defArgs s_is_name) (defBody s_is_name) (defScope s_is_name) .none kV2 dc2 pm2 an2 cd2 ct2), sl2⟩)
    (c2 : PySem.W.codeIn K cd2 "is_name" = true)
    (k2 : PySem.W.keepIn K (.ref f2) = true)
    (a3 : PySem.W.nsIn K mainGlobals "is_plain_row" = some (some (.ref f3)))
    (l3 : K.lookup f3 = some ⟨oc3, od3, .func (PySem.W.fnOf "is_plain_row" "is_plain_row" (defArgs s_is_plain_row) (defBody s_is_plain_row) (defScope s_is_plain_row) .none kV3 dc3 pm3 an3 cd3 ct3), sl3⟩)
    (c3 : PySem.W.codeIn K cd3 "is_plain_row" = true)
    (k3 : PySem.W.keepIn K (.ref f3) = true)
    (a4 : PySem.W.nsIn K mainGlobals "is_branch" = some (some (.ref f4)))
    (l4 : K.lookup f4 = some ⟨oc4, od4, .func (PySem.W.fnOf "is_branch" "is_branch" (defArgs s_is_branch) (defBody s_is_branch) (defScope s_is_branch) .none kV4 dc4 pm4 an4 cd4 ct4), sl4⟩)
    (c4 : PySem.W.codeIn K cd4 "is_branch" = true)
    (k4 : PySem.W.keepIn K (.ref f4) = true)
    (a5 : PySem.W.nsIn K mainGlobals "is_inner" = some (some (.ref f5)))
    (l5 : K.lookup f5 = some ⟨oc5, od5, .func (PySem.W.fnOf "is_inner" "is_inner" (defArgs s_is_inner) (defBody s_is_inner) (defScope s_is_inner) .none kV5 dc5 pm5 an5 cd5 ct5), sl5⟩)
    (c5 : PySem.W.codeIn K cd5 "is_inner" = true)
    (k5 : PySem.W.keepIn K (.ref f5) = true)
    (a6 : PySem.W.nsIn K mainGlobals "first_wrong" = some (some (.ref f6)))
    (l6 : K.lookup f6 = some ⟨oc6, od6, .func (PySem.W.fnOf "first_wrong" "first_wrong" (defArgs s_first_wrong) (defBody s_first_wrong) (defScope s_first_wrong) .none kV6 dc6 pm6 an6 cd6 ct6), sl6⟩)
    (c6 : PySem.W.codeIn K cd6 "first_wrong" = true)
    (k6 : PySem.W.keepIn K (.ref f6) = true)
    (a7 : PySem.W.nsIn K mainGlobals "size_of" = some (some (.ref f7)))
    (l7 : K.lookup f7 = some ⟨oc7, od7, .func (PySem.W.fnOf "size_of" "size_of" (defArgs s_size_of) (defBody s_size_of) (defScope s_size_of) .none kV7 dc7 pm7 an7 cd7 ct7), sl7⟩)
    (c7 : PySem.W.codeIn K cd7 "size_of" = true)
    (k7 : PySem.W.keepIn K (.ref f7) = true)
    (a8 : PySem.W.nsIn K mainGlobals "size_of_block" = some (some (.ref f8)))
    (l8 : K.lookup f8 = some ⟨oc8, od8, .func (PySem.W.fnOf "size_of_block" "size_of_block" (defArgs s_size_of_block) (defBody s_size_of_block) (defScope s_size_of_block) .none kV8 dc8 pm8 an8 cd8 ct8), sl8⟩)
    (c8 : PySem.W.codeIn K cd8 "size_of_block" = true)
    (k8 : PySem.W.keepIn K (.ref f8) = true)
    (a9 : PySem.W.nsIn K mainGlobals "lay_rows" = some (some (.ref f9)))
    (l9 : K.lookup f9 = some ⟨oc9, od9, .func (PySem.W.fnOf "lay_rows" "lay_rows" (defArgs s_lay_rows) (defBody s_lay_rows) (defScope s_lay_rows) .none kV9 dc9 pm9 an9 cd9 ct9), sl9⟩)
    (c9 : PySem.W.codeIn K cd9 "lay_rows" = true)
    (k9 : PySem.W.keepIn K (.ref f9) = true)
    (a10 : PySem.W.nsIn K mainGlobals "rows_of" = some (some (.ref f10)))
    (l10 : K.lookup f10 = some ⟨oc10, od10, .func (PySem.W.fnOf "rows_of" "rows_of" (defArgs s_rows_of) (defBody s_rows_of) (defScope s_rows_of) .none kV10 dc10 pm10 an10 cd10 ct10), sl10⟩)
    (c10 : PySem.W.codeIn K cd10 "rows_of" = true)
    (k10 : PySem.W.keepIn K (.ref f10) = true)
    (a11 : PySem.W.nsIn K mainGlobals "names_in" = some (some (.ref f11)))
    (l11 : K.lookup f11 = some ⟨oc11, od11, .func (PySem.W.fnOf "names_in" "names_in" (defArgs s_names_in) (defBody s_names_in) (defScope s_names_in) .none kV11 dc11 pm11 an11 cd11 ct11), sl11⟩)
    (c11 : PySem.W.codeIn K cd11 "names_in" = true)
    (k11 : PySem.W.keepIn K (.ref f11) = true)
    (a12 : PySem.W.nsIn K mainGlobals "names_of" = some (some (.ref f12)))
    (l12 : K.lookup f12 = some ⟨oc12, od12, .func (PySem.W.fnOf "names_of" "names_of" (defArgs s_names_of) (defBody s_names_of) (defScope s_names_of) .none kV12 dc12 pm12 an12 cd12 ct12), sl12⟩)
    (c12 : PySem.W.codeIn K cd12 "names_of" = true)
    (k12 : PySem.W.keepIn K (.ref f12) = true)
    (a13 : PySem.W.nsIn K mainGlobals "text_of" = some (some (.ref f13)))
    (l13 : K.lookup f13 = some ⟨oc13, od13, .func (PySem.W.fnOf "text_of" "text_of" (defArgs s_text_of) (defBody s_text_of) (defScope s_text_of) .none kV13 dc13 pm13 an13 cd13 ct13), sl13⟩)
    (c13 : PySem.W.codeIn K cd13 "text_of" = true)
    (k13 : PySem.W.keepIn K (.ref f13) = true)
    (a14 : PySem.W.nsIn K mainGlobals "row_text" = some (some (.ref f14)))
    (l14 : K.lookup f14 = some ⟨oc14, od14, .func (PySem.W.fnOf "row_text" "row_text" (defArgs s_row_text) (defBody s_row_text) (defScope s_row_text) .none kV14 dc14 pm14 an14 cd14 ct14), sl14⟩)
    (c14 : PySem.W.codeIn K cd14 "row_text" = true)
    (k14 : PySem.W.keepIn K (.ref f14) = true)
    (a15 : PySem.W.nsIn K mainGlobals "lines_of" = some (some (.ref f15)))
    (l15 : K.lookup f15 = some ⟨oc15, od15, .func (PySem.W.fnOf "lines_of" "lines_of" (defArgs s_lines_of) (defBody s_lines_of) (defScope s_lines_of) .none kV15 dc15 pm15 an15 cd15 ct15), sl15⟩)
    (c15 : PySem.W.codeIn K cd15 "lines_of" = true)
    (k15 : PySem.W.keepIn K (.ref f15) = true)
    (a16 : PySem.W.nsIn K mainGlobals "program_text" = some (some (.ref f16)))
    (l16 : K.lookup f16 = some ⟨oc16, od16, .func (PySem.W.fnOf "program_text" "program_text" (defArgs s_program_text) (defBody s_program_text) (defScope s_program_text) .none kV16 dc16 pm16 an16 cd16 ct16), sl16⟩)
    (c16 : PySem.W.codeIn K cd16 "program_text" = true)
    (k16 : PySem.W.keepIn K (.ref f16) = true)
    (a17 : PySem.W.nsIn K mainGlobals "integer_told" = some (some (.ref f17)))
    (l17 : K.lookup f17 = some ⟨oc17, od17, .func (PySem.W.fnOf "integer_told" "integer_told" (defArgs s_integer_told) (defBody s_integer_told) (defScope s_integer_told) .none kV17 dc17 pm17 an17 cd17 ct17), sl17⟩)
    (c17 : PySem.W.codeIn K cd17 "integer_told" = true)
    (k17 : PySem.W.keepIn K (.ref f17) = true)
    (a18 : PySem.W.nsIn K mainGlobals "note_told" = some (some (.ref f18)))
    (l18 : K.lookup f18 = some ⟨oc18, od18, .func (PySem.W.fnOf "note_told" "note_told" (defArgs s_note_told) (defBody s_note_told) (defScope s_note_told) .none kV18 dc18 pm18 an18 cd18 ct18), sl18⟩)
    (c18 : PySem.W.codeIn K cd18 "note_told" = true)
    (k18 : PySem.W.keepIn K (.ref f18) = true)
    (a19 : PySem.W.nsIn K mainGlobals "row_told" = some (some (.ref f19)))
    (l19 : K.lookup f19 = some ⟨oc19, od19, .func (PySem.W.fnOf "row_told" "row_told" (defArgs s_row_told) (defBody s_row_told) (defScope s_row_told) .none kV19 dc19 pm19 an19 cd19 ct19), sl19⟩)
    (c19 : PySem.W.codeIn K cd19 "row_told" = true)
    (k19 : PySem.W.keepIn K (.ref f19) = true)
    (a20 : PySem.W.nsIn K mainGlobals "blanks_ahead" = some (some (.ref f20)))
    (l20 : K.lookup f20 = some ⟨oc20, od20, .func (PySem.W.fnOf "blanks_ahead" "blanks_ahead" (defArgs s_blanks_ahead) (defBody s_blanks_ahead) (defScope s_blanks_ahead) .none kV20 dc20 pm20 an20 cd20 ct20), sl20⟩)
    (c20 : PySem.W.codeIn K cd20 "blanks_ahead" = true)
    (k20 : PySem.W.keepIn K (.ref f20) = true)
    (a21 : PySem.W.nsIn K mainGlobals "read_program" = some (some (.ref f21)))
    (l21 : K.lookup f21 = some ⟨oc21, od21, .func (PySem.W.fnOf "read_program" "read_program" (defArgs s_read_program) (defBody s_read_program) (defScope s_read_program) .none kV21 dc21 pm21 an21 cd21 ct21), sl21⟩)
    (c21 : PySem.W.codeIn K cd21 "read_program" = true)
    (k21 : PySem.W.keepIn K (.ref f21) = true)
    (a22 : PySem.W.nsIn K mainGlobals "_law_hand" = some (some (.ref f22)))
    (l22 : K.lookup f22 = some ⟨oc22, od22, .func (PySem.W.fnOf "_law_hand" "_law_hand" (defArgs s__law_hand) (defBody s__law_hand) (defScope s__law_hand) .none kV22 dc22 pm22 an22 cd22 ct22), sl22⟩)
    (c22 : PySem.W.codeIn K cd22 "_law_hand" = true)
    (k22 : PySem.W.keepIn K (.ref f22) = true)
    (a23 : PySem.W.nsIn K mainGlobals "_law_draw" = some (some (.ref f23)))
    (l23 : K.lookup f23 = some ⟨oc23, od23, .func (PySem.W.fnOf "_law_draw" "_law_draw" (defArgs s__law_draw) (defBody s__law_draw) (defScope s__law_draw) .none kV23 dc23 pm23 an23 cd23 ct23), sl23⟩)
    (c23 : PySem.W.codeIn K cd23 "_law_draw" = true)
    (k23 : PySem.W.keepIn K (.ref f23) = true)
    (a24 : PySem.W.nsIn K mainGlobals "_law_any" = some (some (.ref f24)))
    (l24 : K.lookup f24 = some ⟨oc24, od24, .func (PySem.W.fnOf "_law_any" "_law_any" (defArgs s__law_any) (defBody s__law_any) (defScope s__law_any) .none kV24 dc24 pm24 an24 cd24 ct24), sl24⟩)
    (c24 : PySem.W.codeIn K cd24 "_law_any" = true)
    (k24 : PySem.W.keepIn K (.ref f24) = true)
    (a25 : PySem.W.nsIn K mainGlobals "_law_plain_row" = some (some (.ref f25)))
    (l25 : K.lookup f25 = some ⟨oc25, od25, .func (PySem.W.fnOf "_law_plain_row" "_law_plain_row" (defArgs s__law_plain_row) (defBody s__law_plain_row) (defScope s__law_plain_row) .none kV25 dc25 pm25 an25 cd25 ct25), sl25⟩)
    (c25 : PySem.W.codeIn K cd25 "_law_plain_row" = true)
    (k25 : PySem.W.keepIn K (.ref f25) = true)
    (a26 : PySem.W.nsIn K mainGlobals "_law_size" = some (some (.ref f26)))
    (l26 : K.lookup f26 = some ⟨oc26, od26, .func (PySem.W.fnOf "_law_size" "_law_size" (defArgs s__law_size) (defBody s__law_size) (defScope s__law_size) .none kV26 dc26 pm26 an26 cd26 ct26), sl26⟩)
    (c26 : PySem.W.codeIn K cd26 "_law_size" = true)
    (k26 : PySem.W.keepIn K (.ref f26) = true)
    (a27 : PySem.W.nsIn K mainGlobals "_law_block" = some (some (.ref f27)))
    (l27 : K.lookup f27 = some ⟨oc27, od27, .func (PySem.W.fnOf "_law_block" "_law_block" (defArgs s__law_block) (defBody s__law_block) (defScope s__law_block) .none kV27 dc27 pm27 an27 cd27 ct27), sl27⟩)
    (c27 : PySem.W.codeIn K cd27 "_law_block" = true)
    (k27 : PySem.W.keepIn K (.ref f27) = true)
    (a28 : PySem.W.nsIn K mainGlobals "_law_drawn" = some (some (.ref f28)))
    (l28 : K.lookup f28 = some ⟨oc28, od28, .func (PySem.W.fnOf "_law_drawn" "_law_drawn" (defArgs s__law_drawn) (defBody s__law_drawn) (defScope s__law_drawn) .none kV28 dc28 pm28 an28 cd28 ct28), sl28⟩)
    (c28 : PySem.W.codeIn K cd28 "_law_drawn" = true)
    (k28 : PySem.W.keepIn K (.ref f28) = true)
    (a29 : PySem.W.nsIn K mainGlobals "_law_rows" = some (some (.ref f29)))
    (l29 : K.lookup f29 = some ⟨oc29, od29, .func (PySem.W.fnOf "_law_rows" "_law_rows" (defArgs s__law_rows) (defBody s__law_rows) (defScope s__law_rows) .none kV29 dc29 pm29 an29 cd29 ct29), sl29⟩)
    (c29 : PySem.W.codeIn K cd29 "_law_rows" = true)
    (k29 : PySem.W.keepIn K (.ref f29) = true)
    (a30 : PySem.W.nsIn K mainGlobals "_law_deep" = some (some (.ref f30)))
    (l30 : K.lookup f30 = some ⟨oc30, od30, .func (PySem.W.fnOf "_law_deep" "_law_deep" (defArgs s__law_deep) (defBody s__law_deep) (defScope s__law_deep) .none kV30 dc30 pm30 an30 cd30 ct30), sl30⟩)
    (c30 : PySem.W.codeIn K cd30 "_law_deep" = true)
    (k30 : PySem.W.keepIn K (.ref f30) = true)
    (a31 : PySem.W.nsIn K mainGlobals "_law_row_text" = some (some (.ref f31)))
    (l31 : K.lookup f31 = some ⟨oc31, od31, .func (PySem.W.fnOf "_law_row_text" "_law_row_text" (defArgs s__law_row_text) (defBody s__law_row_text) (defScope s__law_row_text) .none kV31 dc31 pm31 an31 cd31 ct31), sl31⟩)
    (c31 : PySem.W.codeIn K cd31 "_law_row_text" = true)
    (k31 : PySem.W.keepIn K (.ref f31) = true)
    (a32 : PySem.W.nsIn K mainGlobals "_law_lines" = some (some (.ref f32)))
    (l32 : K.lookup f32 = some ⟨oc32, od32, .func (PySem.W.fnOf "_law_lines" "_law_lines" (defArgs s__law_lines) (defBody s__law_lines) (defScope s__law_lines) .none kV32 dc32 pm32 an32 cd32 ct32), sl32⟩)
    (c32 : PySem.W.codeIn K cd32 "_law_lines" = true)
    (k32 : PySem.W.keepIn K (.ref f32) = true)
    (a33 : PySem.W.nsIn K mainGlobals "_law_told" = some (some (.ref f33)))
    (l33 : K.lookup f33 = some ⟨oc33, od33, .func (PySem.W.fnOf "_law_told" "_law_told" (defArgs s__law_told) (defBody s__law_told) (defScope s__law_told) .none kV33 dc33 pm33 an33 cd33 ct33), sl33⟩)
    (c33 : PySem.W.codeIn K cd33 "_law_told" = true)
    (k33 : PySem.W.keepIn K (.ref f33) = true)
    (a34 : PySem.W.nsIn K mainGlobals "law" = some (some (.ref f34)))
    (l34 : K.lookup f34 = some ⟨oc34, od34, .func (PySem.W.fnOf "law" "law" (defArgs s_law) (defBody s_law) (defScope s_law) .none kV34 dc34 pm34 an34 cd34 ct34), sl34⟩)
    (c34 : PySem.W.codeIn K cd34 "law" = true)
    (k34 : PySem.W.keepIn K (.ref f34) = true)
    (aCC : PySem.W.nsIn K mainGlobals "Program" = some (some (.ref C)))
    (pgC : PySem.W.plainGet K C Str.empty = true)
    (hdC : PySem.W.hasDictIn K C = true)
    (poC : PySem.W.plainOver K C = true)
    (saC : PySem.W.findIn K (.ref C) "__setattr__" = some (some (.builtin "object.__setattr__")))
    (mkC : PySem.W.makesIn K C = true)
    (kcC : PySem.W.keepIn K (.ref C) = true)
    (oaC : PySem.W.findIn K (.ref C) "__class__" = some (some (.builtin "object.__class__")))
    (onC : PySem.W.specialIn K (.builtin "object.__class__") "__get__" = some (some (.builtin "getset_descriptor.__get__")))
    (otC : PySem.W.takesIn K (.builtin "object.__class__") = some true)
    (omC : PySem.W.mroIn K C (.type "object") = some true)
    (qC_non : PySem.W.kitOne K (.ref C) (.type "NoneType") = some false)
    (qC_bl : PySem.W.kitOne K (.ref C) (.type "bool") = some false)
    (qC_int : PySem.W.kitOne K (.ref C) (.type "int") = some false)
    (qC_str : PySem.W.kitOne K (.ref C) (.type "str") = some false)
    (qC_tup : PySem.W.kitOne K (.ref C) (.type "tuple") = some false)
    (qC_lst : PySem.W.kitOne K (.ref C) (.type "list") = some false)
    (qC_dic : PySem.W.kitOne K (.ref C) (.type "dict") = some false)
    (nC_block : PySem.W.findIn K (.ref C) "block" = some none)
    (a99 : PySem.W.findIn K (.ref C) "__init__" = some (some (.ref f99)))
    (i99 : PySem.W.isFn K (.ref f99) = true)
    (l99 : K.lookup f99 = some ⟨oc99, od99, .func (PySem.W.fnOf "__init__" "Program.__init__" (defArgs s_Program_d__init_d_) (defBody s_Program_d__init_d_) (defScope s_Program_d__init_d_) .none kV99 dc99 pm99 an99 cd99 ct99), sl99⟩)
    (c99 : PySem.W.codeIn K cd99 "Program.__init__" = true)
    (k99 : PySem.W.keepIn K (.ref f99) = true)
    (a98 : PySem.W.findIn K (.ref C) "__eq__" = some (some (.ref f98)))
    (i98 : PySem.W.isFn K (.ref f98) = true)
    (l98 : K.lookup f98 = some ⟨oc98, od98, .func (PySem.W.fnOf "__eq__" "Program.__eq__" (defArgs s_Program_d__eq_d_) (defBody s_Program_d__eq_d_) (defScope s_Program_d__eq_d_) .none kV98 dc98 pm98 an98 cd98 ct98), sl98⟩)
    (c98 : PySem.W.codeIn K cd98 "Program.__eq__" = true)
    (k98 : PySem.W.keepIn K (.ref f98) = true)
    (aCCV : PySem.W.nsIn K mainGlobals "Level" = some (some (.ref CV)))
    (pgCV : PySem.W.plainGet K CV Str.empty = true)
    (hdCV : PySem.W.hasDictIn K CV = true)
    (poCV : PySem.W.plainOver K CV = true)
    (saCV : PySem.W.findIn K (.ref CV) "__setattr__" = some (some (.builtin "object.__setattr__")))
    (mkCV : PySem.W.makesIn K CV = true)
    (kcCV : PySem.W.keepIn K (.ref CV) = true)
    (nCV_kept_word : PySem.W.findIn K (.ref CV) "kept_word" = some none)
    (nCV_kept_rows : PySem.W.findIn K (.ref CV) "kept_rows" = some none)
    (nCV_kept_first : PySem.W.findIn K (.ref CV) "kept_first" = some none)
    (aCCL : PySem.W.nsIn K mainGlobals "Lines" = some (some (.ref CL)))
    (pgCL : PySem.W.plainGet K CL Str.empty = true)
    (hdCL : PySem.W.hasDictIn K CL = true)
    (poCL : PySem.W.plainOver K CL = true)
    (saCL : PySem.W.findIn K (.ref CL) "__setattr__" = some (some (.builtin "object.__setattr__")))
    (mkCL : PySem.W.makesIn K CL = true)
    (kcCL : PySem.W.keepIn K (.ref CL) = true)
    (nCL_kept_levels : PySem.W.findIn K (.ref CL) "kept_levels" = some none)
    (aCCN : PySem.W.nsIn K mainGlobals "NoRow" = some (some (.ref CN)))
    (xiCN : PySem.W.excIn K CN veB "ValueError.__new__" = true)
    (xkCN : PySem.W.keepIn K (.ref CN) = true)
    (xsCN : PySem.W.subIn K (.ref CN) (.type "BaseException") = some true)
    (xtCN : PySem.W.typeIn K (.ref CN) = some (.type "type"))
    (aCCP : PySem.W.nsIn K mainGlobals "PileError" = some (some (.ref CP)))
    (pB : PySem.W.subIn K (.ref CP) (.type "BaseException") = some true)
    (pD : PySem.W.hasDictIn K CP = true)
    (pT : PySem.W.typeIn K (.ref CP) = some (.type "type"))
    (pS : PySem.W.subIn K (.ref CN) (.ref CP) = some true)
    (hdxCN : PySem.W.hasDictIn K CN = true)
    (ssxCN : PySem.W.subIn K (.ref CN) (.ref CN) = some true)
    (neC : PySem.W.findIn K (.ref C) "__ne__" = some (some (.builtin "object.__ne__")))
    (kb_non : PySem.W.kitOne K (.type "NoneType") (.ref C) = some false)
    (nb_non : PySem.W.notFirst K C (.type "NoneType") = true)
    (kb_bl : PySem.W.kitOne K (.type "bool") (.ref C) = some false)
    (nb_bl : PySem.W.notFirst K C (.type "bool") = true)
    (kb_int : PySem.W.kitOne K (.type "int") (.ref C) = some false)
    (nb_int : PySem.W.notFirst K C (.type "int") = true)
    (kb_str : PySem.W.kitOne K (.type "str") (.ref C) = some false)
    (nb_str : PySem.W.notFirst K C (.type "str") = true)
    (kb_tup : PySem.W.kitOne K (.type "tuple") (.ref C) = some false)
    (nb_tup : PySem.W.notFirst K C (.type "tuple") = true)
    (kb_lst : PySem.W.kitOne K (.type "list") (.ref C) = some false)
    (nb_lst : PySem.W.notFirst K C (.type "list") = true)
    (kb_dic : PySem.W.kitOne K (.type "dict") (.ref C) = some false)
    (nb_dic : PySem.W.notFirst K C (.type "dict") = true)
    (kb_C : PySem.W.kitOne K (.ref C) (.ref C) = some true)
    (a97 : PySem.W.findIn K (.ref CV) "__init__" = some (some (.ref f97)))
    (i97 : PySem.W.isFn K (.ref f97) = true)
    (l97 : K.lookup f97 = some ⟨oc97, od97, .func (PySem.W.fnOf "__init__" "Level.__init__" (defArgs s_Level_d__init_d_) (defBody s_Level_d__init_d_) (defScope s_Level_d__init_d_) .none kV97 dc97 pm97 an97 cd97 ct97), sl97⟩)
    (c97 : PySem.W.codeIn K cd97 "Level.__init__" = true)
    (k97 : PySem.W.keepIn K (.ref f97) = true)
    (a96 : PySem.W.findIn K (.ref CL) "__init__" = some (some (.ref f96)))
    (i96 : PySem.W.isFn K (.ref f96) = true)
    (l96 : K.lookup f96 = some ⟨oc96, od96, .func (PySem.W.fnOf "__init__" "Lines.__init__" (defArgs s_Lines_d__init_d_) (defBody s_Lines_d__init_d_) (defScope s_Lines_d__init_d_) .none kV96 dc96 pm96 an96 cd96 ct96), sl96⟩)
    (c96 : PySem.W.codeIn K cd96 "Lines.__init__" = true)
    (k96 : PySem.W.keepIn K (.ref f96) = true)
    (a95 : PySem.W.findIn K (.ref CL) "row_of" = some (some (.ref f95)))
    (i95 : PySem.W.isFn K (.ref f95) = true)
    (l95 : K.lookup f95 = some ⟨oc95, od95, .func (PySem.W.fnOf "row_of" "Lines.row_of" (defArgs s_Lines_row_of) (defBody s_Lines_row_of) (defScope s_Lines_row_of) .none kV95 dc95 pm95 an95 cd95 ct95), sl95⟩)
    (c95 : PySem.W.codeIn K cd95 "Lines.row_of" = true)
    (k95 : PySem.W.keepIn K (.ref f95) = true)
    (a94 : PySem.W.findIn K (.ref CL) "shrink" = some (some (.ref f94)))
    (i94 : PySem.W.isFn K (.ref f94) = true)
    (l94 : K.lookup f94 = some ⟨oc94, od94, .func (PySem.W.fnOf "shrink" "Lines.shrink" (defArgs s_Lines_shrink) (defBody s_Lines_shrink) (defScope s_Lines_shrink) .none kV94 dc94 pm94 an94 cd94 ct94), sl94⟩)
    (c94 : PySem.W.codeIn K cd94 "Lines.shrink" = true)
    (k94 : PySem.W.keepIn K (.ref f94) = true)
    (a93 : PySem.W.findIn K (.ref CL) "take_or" = some (some (.ref f93)))
    (i93 : PySem.W.isFn K (.ref f93) = true)
    (l93 : K.lookup f93 = some ⟨oc93, od93, .func (PySem.W.fnOf "take_or" "Lines.take_or" (defArgs s_Lines_take_or) (defBody s_Lines_take_or) (defScope s_Lines_take_or) .none kV93 dc93 pm93 an93 cd93 ct93), sl93⟩)
    (c93 : PySem.W.codeIn K cd93 "Lines.take_or" = true)
    (k93 : PySem.W.keepIn K (.ref f93) = true)
    (a92 : PySem.W.findIn K (.ref CL) "take_row" = some (some (.ref f92)))
    (i92 : PySem.W.isFn K (.ref f92) = true)
    (l92 : K.lookup f92 = some ⟨oc92, od92, .func (PySem.W.fnOf "take_row" "Lines.take_row" (defArgs s_Lines_take_row) (defBody s_Lines_take_row) (defScope s_Lines_take_row) .none kV92 dc92 pm92 an92 cd92 ct92), sl92⟩)
    (c92 : PySem.W.codeIn K cd92 "Lines.take_row" = true)
    (k92 : PySem.W.keepIn K (.ref f92) = true)
    (v_SMALL : PySem.W.nsIn K mainGlobals "SMALL" = some (some (.str "abcdefghijklmnopqrstuvwxyz" t_SMALL)))
    (v_MOST_SIGNS : PySem.W.nsIn K mainGlobals "MOST_SIGNS" = some (some (.int 8 t_MOST_SIGNS)))
    (v_MOST_PARTS : PySem.W.nsIn K mainGlobals "MOST_PARTS" = some (some (.int 3 t_MOST_PARTS)))
    (aBB : PySem.W.nsIn K mainGlobals "BLOCKS" = some (some (.ref B)))
    (lBB : K.lookup B = some ⟨.type "dict", none, .dict esB nEB, #[]⟩)
    (litBB : PySem.W.KeysLit w.params esB.toList)
    (lowBB : (B == sysModules) = false)
    (eBB : esB.toList.map entI = [some (("either" : Str), (2 : Int)), some ("again", 1)])
    (v_MOST_DEEP : PySem.W.nsIn K mainGlobals "MOST_DEEP" = some (some (.int 4 t_MOST_DEEP)))
    (v_MOST_IN_BLOCK : PySem.W.nsIn K mainGlobals "MOST_IN_BLOCK" = some (some (.int 12 t_MOST_IN_BLOCK)))
    (v_MOST_ROWS : PySem.W.nsIn K mainGlobals "MOST_ROWS" = some (some (.int 30 t_MOST_ROWS)))
    (v_MOST_NAMES : PySem.W.nsIn K mainGlobals "MOST_NAMES" = some (some (.int 8 t_MOST_NAMES)))
    (v_MOST_FIGURES : PySem.W.nsIn K mainGlobals "MOST_FIGURES" = some (some (.int 30 t_MOST_FIGURES)))
    (v_FIGURES : PySem.W.nsIn K mainGlobals "FIGURES" = some (some (.str "0123456789" t_FIGURES)))
    (z_len : PySem.W.nsIn K mainGlobals "len" = some none)
    (z_range : PySem.W.nsIn K mainGlobals "range" = some none)
    (z_isinstance : PySem.W.nsIn K mainGlobals "isinstance" = some none)
    (z_all : PySem.W.nsIn K mainGlobals "all" = some none)
    (z_any : PySem.W.nsIn K mainGlobals "any" = some none)
    (z_sum : PySem.W.nsIn K mainGlobals "sum" = some none)
    (z_tuple : PySem.W.nsIn K mainGlobals "tuple" = some none)
    (z_list : PySem.W.nsIn K mainGlobals "list" = some none)
    (z_sorted : PySem.W.nsIn K mainGlobals "sorted" = some none)
    (z_set : PySem.W.nsIn K mainGlobals "set" = some none)
    (z_abs : PySem.W.nsIn K mainGlobals "abs" = some none)
    (z_int : PySem.W.nsIn K mainGlobals "int" = some none)
    (z_enumerate : PySem.W.nsIn K mainGlobals "enumerate" = some none)
    (z_bool : PySem.W.nsIn K mainGlobals "bool" = some none)
    (z_str : PySem.W.nsIn K mainGlobals "str" = some none)
    (z_dict : PySem.W.nsIn K mainGlobals "dict" = some none)
    (z_min : PySem.W.nsIn K mainGlobals "min" = some none)
    (z_max : PySem.W.nsIn K mainGlobals "max" = some none)
    (z_ord : PySem.W.nsIn K mainGlobals "ord" = some none) :
    ∃ fd : FuncData, (∀ (s : Shared) (v : Value), BindsTo s fd ⟨[v], []⟩ [("_law_script", v)]) ∧ ∀ base : Heap, K.In base → base.Ns mainGlobals mg → FnOk l.prog w K mg base CX0 17 fa fd ["_law_script"] (liftSp K sp_law) := by
  have e : fa = f34 := by
    have e := hfa.symm.trans (PySem.W.mg_of X G a34)
    cases e
    rfl
  rw [e]
  have hOC : ∀ (n : Tg) (A : Addr), OCof C A = true → ObjC K A ∧ PySem.W.kitOne K (.ref A) (.type n.nm) = some false := fun n A h => by
    have e := of_decide_eq_true h
    subst e
    exact ⟨⟨⟨pgC, hdC, poC, saC⟩, oaC, onC, otC, omC⟩, by
      cases n with
      | non => exact qC_non
      | bl => exact qC_bl
      | int => exact qC_int
      | str => exact qC_str
      | tup => exact qC_tup
      | lst => exact qC_lst
      | dic => exact qC_dic⟩
  have T : Txt w K mg C CN CP CV CL B := { bi := ⟨PySem.W.mg_none_of X G z_len, PySem.W.mg_none_of X G z_range, PySem.W.mg_none_of X G z_isinstance, PySem.W.mg_none_of X G z_all, PySem.W.mg_none_of X G z_any, PySem.W.mg_none_of X G z_sum, PySem.W.mg_none_of X G z_tuple, PySem.W.mg_none_of X G z_list, PySem.W.mg_none_of X G z_sorted, PySem.W.mg_none_of X G z_set, PySem.W.mg_none_of X G z_abs, PySem.W.mg_none_of X G z_int, PySem.W.mg_none_of X G z_enumerate, PySem.W.mg_none_of X G z_bool, PySem.W.mg_none_of X G z_str, PySem.W.mg_none_of X G z_dict, PySem.W.mg_none_of X G z_min, PySem.W.mg_none_of X G z_max, PySem.W.mg_none_of X G z_ord⟩, hOC := hOC, i_Program := isA_P kcC (fun n => by cases n <;> first | exact kb_non | exact kb_bl | exact kb_int | exact kb_str | exact kb_tup | exact kb_lst | exact kb_dic) kb_C (hOC .int C (decide_eq_true rfl)).1, e_NoRow := exm_N (PySem.W.exm_ref xsCN hdxCN xtCN ssxCN), e_PileError := exm_N (PySem.W.exm_ref pB pD pT pS), r_Program := nf_P (fun n => by cases n <;> first | exact nb_non | exact nb_bl | exact nb_int | exact nb_str | exact nb_tup | exact nb_lst | exact nb_dic) (hOC .int C (decide_eq_true rfl)).1, g_SMALL := ⟨_, PySem.W.mg_of X G v_SMALL⟩, g_MOST_SIGNS := ⟨_, PySem.W.mg_of X G v_MOST_SIGNS⟩, g_MOST_PARTS := ⟨_, PySem.W.mg_of X G v_MOST_PARTS⟩, g_BLOCKS := PySem.W.mg_of X G aBB, kd_BLOCKS := kdc_mk lBB litBB lowBB eBB, g_MOST_DEEP := ⟨_, PySem.W.mg_of X G v_MOST_DEEP⟩, g_MOST_IN_BLOCK := ⟨_, PySem.W.mg_of X G v_MOST_IN_BLOCK⟩, g_MOST_ROWS := ⟨_, PySem.W.mg_of X G v_MOST_ROWS⟩, g_MOST_NAMES := ⟨_, PySem.W.mg_of X G v_MOST_NAMES⟩, cl_Program := ⟨pgC, hdC, poC, saC⟩, n_Program_block := nC_block, prog := PySem.W.mg_of X G aCC, g_Program := PySem.W.mg_of X G aCC, x_NoRow := ⟨xiCN, PySem.W.mg_of X G aCCN, xkCN, xsCN, xtCN⟩, g_MOST_FIGURES := ⟨_, PySem.W.mg_of X G v_MOST_FIGURES⟩, g_FIGURES := ⟨_, PySem.W.mg_of X G v_FIGURES⟩, cl_Level := ⟨pgCV, hdCV, poCV, saCV⟩, n_Level_kept_word := nCV_kept_word, n_Level_kept_rows := nCV_kept_rows, n_Level_kept_first := nCV_kept_first, isCV := PySem.W.mg_of X G aCCV, cl_Lines := ⟨pgCL, hdCL, poCL, saCL⟩, n_Lines_kept_levels := nCL_kept_levels, isCL := PySem.W.mg_of X G aCCL, g_NoRow := PySem.W.mg_of X G aCCN, g_PileError := PySem.W.mg_of X G aCCP }
  have F1 := fun_mk (st := s_is_integer) l1 c1 k1
  have D_is_integer : Df K mg "is_integer" s_is_integer ["thing"] f1 _ := ⟨F1, PySem.W.mg_of X G a1, L2.Fun.binds (ps := ["thing"]) F1 fun _ _ _ _ _ _ us hl => match us, hl with | [_], _ => rfl⟩
  have F2 := fun_mk (st := s_is_name) l2 c2 k2
  have D_is_name : Df K mg "is_name" s_is_name ["thing"] f2 _ := ⟨F2, PySem.W.mg_of X G a2, L2.Fun.binds (ps := ["thing"]) F2 fun _ _ _ _ _ _ us hl => match us, hl with | [_], _ => rfl⟩
  have F3 := fun_mk (st := s_is_plain_row) l3 c3 k3
  have D_is_plain_row : Df K mg "is_plain_row" s_is_plain_row ["thing"] f3 _ := ⟨F3, PySem.W.mg_of X G a3, L2.Fun.binds (ps := ["thing"]) F3 fun _ _ _ _ _ _ us hl => match us, hl with | [_], _ => rfl⟩
  have F4 := fun_mk (st := s_is_branch) l4 c4 k4
  have D_is_branch : Df K mg "is_branch" s_is_branch ["thing"] f4 _ := ⟨F4, PySem.W.mg_of X G a4, L2.Fun.binds (ps := ["thing"]) F4 fun _ _ _ _ _ _ us hl => match us, hl with | [_], _ => rfl⟩
  have F5 := fun_mk (st := s_is_inner) l5 c5 k5
  have D_is_inner : Df K mg "is_inner" s_is_inner ["thing", "deep"] f5 _ := ⟨F5, PySem.W.mg_of X G a5, L2.Fun.binds (ps := ["thing", "deep"]) F5 fun _ _ _ _ _ _ us hl => match us, hl with | [_, _], _ => rfl⟩
  have F6 := fun_mk (st := s_first_wrong) l6 c6 k6
  have D_first_wrong : Df K mg "first_wrong" s_first_wrong ["block", "deep", "place", "is_row"] f6 _ := ⟨F6, PySem.W.mg_of X G a6, L2.Fun.binds (ps := ["block", "deep", "place", "is_row"]) F6 fun _ _ _ _ _ _ us hl => match us, hl with | [_, _, _, _], _ => rfl⟩
  have F7 := fun_mk (st := s_size_of) l7 c7 k7
  have D_size_of : Df K mg "size_of" s_size_of ["row"] f7 _ := ⟨F7, PySem.W.mg_of X G a7, L2.Fun.binds (ps := ["row"]) F7 fun _ _ _ _ _ _ us hl => match us, hl with | [_], _ => rfl⟩
  have F8 := fun_mk (st := s_size_of_block) l8 c8 k8
  have D_size_of_block : Df K mg "size_of_block" s_size_of_block ["block"] f8 _ := ⟨F8, PySem.W.mg_of X G a8, L2.Fun.binds (ps := ["block"]) F8 fun _ _ _ _ _ _ us hl => match us, hl with | [_], _ => rfl⟩
  have F9 := fun_mk (st := s_lay_rows) l9 c9 k9
  have D_lay_rows : Df K mg "lay_rows" s_lay_rows ["rows", "block", "after"] f9 _ := ⟨F9, PySem.W.mg_of X G a9, L2.Fun.binds (ps := ["rows", "block", "after"]) F9 fun _ _ _ _ _ _ us hl => match us, hl with | [_, _, _], _ => rfl⟩
  have F10 := fun_mk (st := s_rows_of) l10 c10 k10
  have D_rows_of : Df K mg "rows_of" s_rows_of ["block"] f10 _ := ⟨F10, PySem.W.mg_of X G a10, L2.Fun.binds (ps := ["block"]) F10 fun _ _ _ _ _ _ us hl => match us, hl with | [_], _ => rfl⟩
  have F11 := fun_mk (st := s_names_in) l11 c11 k11
  have D_names_in : Df K mg "names_in" s_names_in ["row"] f11 _ := ⟨F11, PySem.W.mg_of X G a11, L2.Fun.binds (ps := ["row"]) F11 fun _ _ _ _ _ _ us hl => match us, hl with | [_], _ => rfl⟩
  have F12 := fun_mk (st := s_names_of) l12 c12 k12
  have D_names_of : Df K mg "names_of" s_names_of ["rows"] f12 _ := ⟨F12, PySem.W.mg_of X G a12, L2.Fun.binds (ps := ["rows"]) F12 fun _ _ _ _ _ _ us hl => match us, hl with | [_], _ => rfl⟩
  have F13 := fun_mk (st := s_text_of) l13 c13 k13
  have D_text_of : Df K mg "text_of" s_text_of ["row"] f13 _ := ⟨F13, PySem.W.mg_of X G a13, L2.Fun.binds (ps := ["row"]) F13 fun _ _ _ _ _ _ us hl => match us, hl with | [_], _ => rfl⟩
  have F14 := fun_mk (st := s_row_text) l14 c14 k14
  have D_row_text : Df K mg "row_text" s_row_text ["row"] f14 _ := ⟨F14, PySem.W.mg_of X G a14, L2.Fun.binds (ps := ["row"]) F14 fun _ _ _ _ _ _ us hl => match us, hl with | [_], _ => rfl⟩
  have F15 := fun_mk (st := s_lines_of) l15 c15 k15
  have D_lines_of : Df K mg "lines_of" s_lines_of ["block", "ahead"] f15 _ := ⟨F15, PySem.W.mg_of X G a15, L2.Fun.binds (ps := ["block", "ahead"]) F15 fun _ _ _ _ _ _ us hl => match us, hl with | [_, _], _ => rfl⟩
  have F16 := fun_mk (st := s_program_text) l16 c16 k16
  have D_program_text : Df K mg "program_text" s_program_text ["program"] f16 _ := ⟨F16, PySem.W.mg_of X G a16, L2.Fun.binds (ps := ["program"]) F16 fun _ _ _ _ _ _ us hl => match us, hl with | [_], _ => rfl⟩
  have F17 := fun_mk (st := s_integer_told) l17 c17 k17
  have D_integer_told : Df K mg "integer_told" s_integer_told ["word"] f17 _ := ⟨F17, PySem.W.mg_of X G a17, L2.Fun.binds (ps := ["word"]) F17 fun _ _ _ _ _ _ us hl => match us, hl with | [_], _ => rfl⟩
  have F18 := fun_mk (st := s_note_told) l18 c18 k18
  have D_note_told : Df K mg "note_told" s_note_told ["name", "text"] f18 _ := ⟨F18, PySem.W.mg_of X G a18, L2.Fun.binds (ps := ["name", "text"]) F18 fun _ _ _ _ _ _ us hl => match us, hl with | [_, _], _ => rfl⟩
  have F19 := fun_mk (st := s_row_told) l19 c19 k19
  have D_row_told : Df K mg "row_told" s_row_told ["text"] f19 _ := ⟨F19, PySem.W.mg_of X G a19, L2.Fun.binds (ps := ["text"]) F19 fun _ _ _ _ _ _ us hl => match us, hl with | [_], _ => rfl⟩
  have F20 := fun_mk (st := s_blanks_ahead) l20 c20 k20
  have D_blanks_ahead : Df K mg "blanks_ahead" s_blanks_ahead ["line"] f20 _ := ⟨F20, PySem.W.mg_of X G a20, L2.Fun.binds (ps := ["line"]) F20 fun _ _ _ _ _ _ us hl => match us, hl with | [_], _ => rfl⟩
  have F21 := fun_mk (st := s_read_program) l21 c21 k21
  have D_read_program : Df K mg "read_program" s_read_program ["text"] f21 _ := ⟨F21, PySem.W.mg_of X G a21, L2.Fun.binds (ps := ["text"]) F21 fun _ _ _ _ _ _ us hl => match us, hl with | [_], _ => rfl⟩
  have F22 := fun_mk (st := s__law_hand) l22 c22 k22
  have D__law_hand : Df K mg "_law_hand" s__law_hand ["_law_script"] f22 _ := ⟨F22, PySem.W.mg_of X G a22, L2.Fun.binds (ps := ["_law_script"]) F22 fun _ _ _ _ _ _ us hl => match us, hl with | [_], _ => rfl⟩
  have F23 := fun_mk (st := s__law_draw) l23 c23 k23
  have D__law_draw : Df K mg "_law_draw" s__law_draw ["_law_hand_here", "_law_many"] f23 _ := ⟨F23, PySem.W.mg_of X G a23, L2.Fun.binds (ps := ["_law_hand_here", "_law_many"]) F23 fun _ _ _ _ _ _ us hl => match us, hl with | [_, _], _ => rfl⟩
  have F24 := fun_mk (st := s__law_any) l24 c24 k24
  have D__law_any : Df K mg "_law_any" s__law_any ["_law_hand_here", "_law_things"] f24 _ := ⟨F24, PySem.W.mg_of X G a24, L2.Fun.binds (ps := ["_law_hand_here", "_law_things"]) F24 fun _ _ _ _ _ _ us hl => match us, hl with | [_, _], _ => rfl⟩
  have F25 := fun_mk (st := s__law_plain_row) l25 c25 k25
  have D__law_plain_row : Df K mg "_law_plain_row" s__law_plain_row ["_law_hand_here", "_law_names", "_law_ops"] f25 _ := ⟨F25, PySem.W.mg_of X G a25, L2.Fun.binds (ps := ["_law_hand_here", "_law_names", "_law_ops"]) F25 fun _ _ _ _ _ _ us hl => match us, hl with | [_, _, _], _ => rfl⟩
  have F26 := fun_mk (st := s__law_size) l26 c26 k26
  have D__law_size : Df K mg "_law_size" s__law_size ["_law_block_here"] f26 _ := ⟨F26, PySem.W.mg_of X G a26, L2.Fun.binds (ps := ["_law_block_here"]) F26 fun _ _ _ _ _ _ us hl => match us, hl with | [_], _ => rfl⟩
  have F27 := fun_mk (st := s__law_block) l27 c27 k27
  have D__law_block : Df K mg "_law_block" s__law_block ["_law_hand_here", "_law_names", "_law_ops", "_law_deep_here", "_law_most"] f27 _ := ⟨F27, PySem.W.mg_of X G a27, L2.Fun.binds (ps := ["_law_hand_here", "_law_names", "_law_ops", "_law_deep_here", "_law_most"]) F27 fun _ _ _ _ _ _ us hl => match us, hl with | [_, _, _, _, _], _ => rfl⟩
  have F28 := fun_mk (st := s__law_drawn) l28 c28 k28
  have D__law_drawn : Df K mg "_law_drawn" s__law_drawn ["_law_hand_here"] f28 _ := ⟨F28, PySem.W.mg_of X G a28, L2.Fun.binds (ps := ["_law_hand_here"]) F28 fun _ _ _ _ _ _ us hl => match us, hl with | [_], _ => rfl⟩
  have F29 := fun_mk (st := s__law_rows) l29 c29 k29
  have D__law_rows : Df K mg "_law_rows" s__law_rows ["_law_block_here"] f29 _ := ⟨F29, PySem.W.mg_of X G a29, L2.Fun.binds (ps := ["_law_block_here"]) F29 fun _ _ _ _ _ _ us hl => match us, hl with | [_], _ => rfl⟩
  have F30 := fun_mk (st := s__law_deep) l30 c30 k30
  have D__law_deep : Df K mg "_law_deep" s__law_deep ["_law_hand_here"] f30 _ := ⟨F30, PySem.W.mg_of X G a30, L2.Fun.binds (ps := ["_law_hand_here"]) F30 fun _ _ _ _ _ _ us hl => match us, hl with | [_], _ => rfl⟩
  have F31 := fun_mk (st := s__law_row_text) l31 c31 k31
  have D__law_row_text : Df K mg "_law_row_text" s__law_row_text ["_law_row"] f31 _ := ⟨F31, PySem.W.mg_of X G a31, L2.Fun.binds (ps := ["_law_row"]) F31 fun _ _ _ _ _ _ us hl => match us, hl with | [_], _ => rfl⟩
  have F32 := fun_mk (st := s__law_lines) l32 c32 k32
  have D__law_lines : Df K mg "_law_lines" s__law_lines ["_law_block_here", "_law_deep_here"] f32 _ := ⟨F32, PySem.W.mg_of X G a32, L2.Fun.binds (ps := ["_law_block_here", "_law_deep_here"]) F32 fun _ _ _ _ _ _ us hl => match us, hl with | [_, _], _ => rfl⟩
  have F33 := fun_mk (st := s__law_told) l33 c33 k33
  have D__law_told : Df K mg "_law_told" s__law_told ["_law_row"] f33 _ := ⟨F33, PySem.W.mg_of X G a33, L2.Fun.binds (ps := ["_law_row"]) F33 fun _ _ _ _ _ _ us hl => match us, hl with | [_], _ => rfl⟩
  have F34 := fun_mk (st := s_law) l34 c34 k34
  have D_law : Df K mg "law" s_law ["_law_script"] f34 _ := ⟨F34, PySem.W.mg_of X G a34, L2.Fun.binds (ps := ["_law_script"]) F34 fun _ _ _ _ _ _ us hl => match us, hl with | [_], _ => rfl⟩
  have FI := fun_mk (st := s_Program_d__init_d_) l99 c99 k99
  have bI : Binds K _ ["self", "block"] [] := L2.Fun.binds (ps := ["self", "block"]) FI fun _ _ _ _ _ _ us hl => match us, hl with | [_, _], _ => rfl
  have FE := fun_mk (st := s_Program_d__eq_d_) l98 c98 k98
  have bE : Binds K _ ["self", "other"] [] := L2.Fun.binds (ps := ["self", "other"]) FE fun _ _ _ _ _ _ us hl => match us, hl with | [_, _], _ => rfl
  have FM97 := fun_mk (st := s_Level_d__init_d_) l97 c97 k97
  have b97 : Binds K _ ["self", "word", "first"] [] := L2.Fun.binds (ps := ["self", "word", "first"]) FM97 fun _ _ _ _ _ _ us hl => match us, hl with | [_, _, _], _ => rfl
  have FM96 := fun_mk (st := s_Lines_d__init_d_) l96 c96 k96
  have b96 : Binds K _ ["self"] [] := L2.Fun.binds (ps := ["self"]) FM96 fun _ _ _ _ _ _ us hl => match us, hl with | [_], _ => rfl
  have FM95 := fun_mk (st := s_Lines_row_of) l95 c95 k95
  have b95 : Binds K _ ["self", "text"] [] := L2.Fun.binds (ps := ["self", "text"]) FM95 fun _ _ _ _ _ _ us hl => match us, hl with | [_, _], _ => rfl
  have FM94 := fun_mk (st := s_Lines_shrink) l94 c94 k94
  have b94 : Binds K _ ["self", "many", "number"] [] := L2.Fun.binds (ps := ["self", "many", "number"]) FM94 fun _ _ _ _ _ _ us hl => match us, hl with | [_, _, _], _ => rfl
  have FM93 := fun_mk (st := s_Lines_take_or) l93 c93 k93
  have b93 : Binds K _ ["self", "deep", "number"] [] := L2.Fun.binds (ps := ["self", "deep", "number"]) FM93 fun _ _ _ _ _ _ us hl => match us, hl with | [_, _, _], _ => rfl
  have FM92 := fun_mk (st := s_Lines_take_row) l92 c92 k92
  have b92 : Binds K _ ["self", "text", "deep", "number"] [] := L2.Fun.binds (ps := ["self", "text", "deep", "number"]) FM92 fun _ _ _ _ _ _ us hl => match us, hl with | [_, _, _, _], _ => rfl
  refine ⟨PySem.W.fnOf "law" "law" (defArgs s_law) (defBody s_law) (defScope s_law) .none kV34 dc34 pm34 an34 cd34 ct34, fun s v => .of_eq rfl, fun base _ _ => ?_⟩
  have C_is_integer : Cal l.prog w K mg base 1 "is_integer" ["thing"] (sp_is_integer (OCof C)) := D_is_integer.cal (ok_is_integer T  D_is_integer)
  have C_is_name : Cal l.prog w K mg base 1 "is_name" ["thing"] (sp_is_nameG (OCof C)) := D_is_name.cal (ok_is_name T  D_is_name)
  have C_is_plain_row : Cal l.prog w K mg base 2 "is_plain_row" ["thing"] (sp_is_plain_rowG (OCof C)) := D_is_plain_row.cal (ok_is_plain_row T ((C_is_name).mono (by decide)) ((C_is_integer).mono (by decide)) D_is_plain_row)
  have C_is_branch : Cal l.prog w K mg base 1 "is_branch" ["thing"] sp_is_branch := D_is_branch.cal (ok_is_branch T  D_is_branch)
  have C_is_inner : Cal l.prog w K mg base 1 "is_inner" ["thing", "deep"] sp_is_inner := D_is_inner.cal (ok_is_inner T  D_is_inner)
  have O_plain : ∀ NS : List Str, FnOk l.prog w K mg base CX0 2 f3 _ ["thing"] (liftSp K (sp_is_plain_row NS)) := fun NS => FnOk.imp (ok_is_plain_row T ((C_is_name).mono (by decide)) ((C_is_integer).mono (by decide)) D_is_plain_row) fun _ _ _ _ q => liftSp_imp (fun _ _ _ _ h => plain_imp h) q
  have C_first_wrong : ∀ (NS : List Str), Cal l.prog w K mg base 6 "first_wrong" ["block", "deep", "place", "is_row"] (sp_first_wrong NS f3 3) := fun NS => D_first_wrong.cal (ok_first_wrong T (C_is_branch.mono (by decide)) (C_is_inner.mono (by decide)) ⟨⟨_, D_is_plain_row.F.kp, D_is_plain_row.b, O_plain NS⟩⟩ D_first_wrong 3)
  have O_sizes := fun (NS : List Str) => ok_sizes (P := l.prog) (base := base) T (NS := NS) D_size_of D_size_of_block
  have C_size_of : ∀ (NS : List Str), Cal l.prog w K mg base 8 "size_of" ["row"] (sp_size_of NS 3) := fun NS => (D_size_of.cal (O_sizes NS 3).1).mono (by decide)
  have C_size_of_block : ∀ (NS : List Str), Cal l.prog w K mg base 8 "size_of_block" ["block"] (sp_size_of_block NS 3) := fun NS => (D_size_of_block.cal (O_sizes NS 3).2)
  have C_lay_rows : ∀ (NS : List Str), Cal l.prog w K mg base 12 "lay_rows" ["rows", "block", "after"] (sp_lay_rows NS 3) := fun NS => D_lay_rows.cal (ok_lay_rows T (NS := NS) (fun n h => (D_size_of.cal (O_sizes NS n).1).mono (by omega)) D_lay_rows 3 (by decide))
  have C_rows_of : ∀ (NS : List Str), Cal l.prog w K mg base 13 "rows_of" ["block"] (sp_rows_of NS) := fun NS => D_rows_of.cal (ok_rows_of T ((C_size_of_block NS).mono (by decide)) ((C_lay_rows NS).mono (by decide)) D_rows_of)
  have C_names_in : ∀ (NS : List Str), Cal l.prog w K mg base 1 "names_in" ["row"] (sp_names_in NS) := fun NS => D_names_in.cal (ok_names_in T  D_names_in)
  have C_names_of : ∀ (NS : List Str), Cal l.prog w K mg base 2 "names_of" ["rows"] (sp_names_of NS) := fun NS => D_names_of.cal (ok_names_of T ((C_names_in NS).mono (by decide)) D_names_of)
  have M : CalM l.prog w K mg base 14 "Program" C ["self", "block"] (SPprog C) := ⟨⟨_, _, T.prog, ⟨mkC, a99, i99, kcC⟩, bI, fn_any (fun NS => ok_Program_d__init_d_ T D_is_plain_row.g ((C_first_wrong NS).mono (by decide)) ((C_rows_of NS).mono (by decide)) ((C_names_of NS).mono (by decide)) FI)⟩⟩
  have QE : EqO l.prog w K mg base 1 C (sp_eq C) := ⟨⟨_, _, ⟨⟨a98, i98⟩, neC, omC⟩, bE, ok_Program_d__eq_d_ T  FE⟩⟩
  have C_text_of : ∀ (NS : List Str), Cal l.prog w K mg base 1 "text_of" ["row"] (sp_text_of NS) := fun NS => D_text_of.cal (ok_text_of T  D_text_of)
  have U_text_of : Cal l.prog w K mg base 1 "text_of" ["row"] SPtext := D_text_of.cal (fn_any fun NS => ok_text_of T  D_text_of)
  have C_row_text : CalX l.prog w K mg base 3 "row_text" ["row"] (sp_row_text (OCof C) CN) := D_row_text.calx (ok_row_text T ((C_is_plain_row).mono (by decide)) ((U_text_of).mono (by decide)) D_row_text)
  have C_lines_of : ∀ (NS : List Str), Cal l.prog w K mg base 5 "lines_of" ["block", "ahead"] ((sp_lines_of NS) 3) := fun NS => D_lines_of.cal (ok_lines_of T ((C_text_of NS).mono (by decide)) D_lines_of 3)
  have C_program_text : ∀ (NS : List Str), Cal l.prog w K mg base 6 "program_text" ["program"] (sp_ptext NS C) := fun NS => D_program_text.cal (ok_program_text T ((C_lines_of NS).mono (by decide)) D_program_text)
  have C_integer_told : Cal l.prog w K mg base 1 "integer_told" ["word"] sp_int_told := D_integer_told.cal (ok_integer_told T  D_integer_told)
  have C_note_told : Cal l.prog w K mg base 2 "note_told" ["name", "text"] sp_note_told := D_note_told.cal (ok_note_told T ((C_is_name).mono (by decide)) D_note_told)
  have C_row_told : ∀ (NS : List Str), Cal l.prog w K mg base 3 "row_told" ["text"] (sp_row_told NS) := fun NS => D_row_told.cal (ok_row_told T ((C_is_name).mono (by decide)) ((C_integer_told).mono (by decide)) ((C_note_told).mono (by decide)) D_row_told)
  have M_Level : CalM l.prog w K mg base 1 "Level" CV ["self", "word", "first"] (sp_level CV) := ⟨⟨_, _, T.isCV, ⟨mkCV, a97, i97, kcCV⟩, b97, ok_Level_d__init_d_ T  FM97⟩⟩
  have M_Lines : CalM l.prog w K mg base 3 "Lines" CL ["self"] (sp_lines0 CL CV) := ⟨⟨_, _, T.isCL, ⟨mkCL, a96, i96, kcCL⟩, b96, ok_Lines_d__init_d_ T M_Level FM96⟩⟩
  have ME_row_of : ∀ (NS : List Str), CalMe l.prog w K mg base 4 CL "row_of" ["self", "text"] (sp_row_of NS) := fun NS => ⟨⟨_, _, T.cl_Lines, ⟨a95, i95, k95⟩, b95, ok_Lines_row_of T ((C_row_told NS).mono (by decide)) FM95⟩⟩
  have ME_shrink : CalMe l.prog w K mg base 1 CL "shrink" ["self", "many", "number"] (sp_shrink CL CV) := ⟨⟨_, _, T.cl_Lines, ⟨a94, i94, k94⟩, b94, ok_Lines_shrink T  FM94⟩⟩
  have ME_take_or : CalMe l.prog w K mg base 3 CL "take_or" ["self", "deep", "number"] (sp_take_or CL CV) := ⟨⟨_, _, T.cl_Lines, ⟨a93, i93, k93⟩, b93, ok_Lines_take_or T ((ME_shrink).mono (by decide)) M_Level FM93⟩⟩
  have ME_take_row : ∀ (NS : List Str), CalMe l.prog w K mg base 5 CL "take_row" ["self", "text", "deep", "number"] (sp_take_row NS CL CV) := fun NS => ⟨⟨_, _, T.cl_Lines, ⟨a92, i92, k92⟩, b92, ok_Lines_take_row T ((ME_row_of NS).mono (by decide)) ((ME_shrink).mono (by decide)) M_Level FM92⟩⟩
  have C_blanks_ahead : ∀ (NS : List Str), Cal l.prog w K mg base 1 "blanks_ahead" ["line"] (sp_blanks NS) := fun NS => D_blanks_ahead.cal (ok_blanks_ahead T  D_blanks_ahead)
  have C_read_program : ∀ (NS : List Str), Cal l.prog w K mg base 16 "read_program" ["text"] (sp_read NS C) := fun NS => D_read_program.cal (ok_read_program T M_Lines ((C_blanks_ahead NS).mono (by decide)) ((ME_take_or).mono (by decide)) ((ME_take_row NS).mono (by decide)) ((ME_shrink).mono (by decide)) M D_read_program)
  have C__law_hand : Cal l.prog w K mg base 1 "_law_hand" ["_law_script"] sp_hand := D__law_hand.cal (ok__law_hand T  D__law_hand)
  have C__law_draw : Cal l.prog w K mg base 1 "_law_draw" ["_law_hand_here", "_law_many"] sp_draw := D__law_draw.cal (ok__law_draw T  D__law_draw)
  have C__law_any : Cal l.prog w K mg base 2 "_law_any" ["_law_hand_here", "_law_things"] sp_any := D__law_any.cal (ok__law_any T ((C__law_draw).mono (by decide)) D__law_any)
  have C__law_plain_row : ∀ (NS OS : List Str), Cal l.prog w K mg base 3 "_law_plain_row" ["_law_hand_here", "_law_names", "_law_ops"] (sp_lplain NS OS) := fun NS OS => D__law_plain_row.cal (ok__law_plain_row T ((C__law_any).mono (by decide)) ((C__law_draw).mono (by decide)) D__law_plain_row)
  have C__law_size : ∀ (NS : List Str), Cal l.prog w K mg base 4 "_law_size" ["_law_block_here"] ((sp_lsize NS) 3) := fun NS => D__law_size.cal (ok__law_size T  D__law_size 3)
  have C__law_block : Cal l.prog w K mg base 8 "_law_block" ["_law_hand_here", "_law_names", "_law_ops", "_law_deep_here", "_law_most"] lblocks := D__law_block.cal (fn_any fun i : List Str × List Str => (ok__law_block T ((C__law_draw).mono (by decide)) ((C__law_size i.1).mono (by decide)) ((C__law_plain_row i.1 i.2).mono (by decide)) D__law_block 3))
  have C__law_drawn : Cal l.prog w K mg base 9 "_law_drawn" ["_law_hand_here"] sp_drawn := D__law_drawn.cal (ok__law_drawn T ((C__law_draw).mono (by decide)) ((C__law_any).mono (by decide)) ((C__law_block).mono (by decide)) D__law_drawn)
  have C__law_rows : ∀ (NS : List Str), Cal l.prog w K mg base 4 "_law_rows" ["_law_block_here"] ((sp_lrows NS) 3) := fun NS => D__law_rows.cal (ok__law_rows T  D__law_rows 3)
  have C__law_deep : Cal l.prog w K mg base 2 "_law_deep" ["_law_hand_here"] (sp_deepG (OCof C)) := D__law_deep.cal (ok__law_deep T ((C__law_draw).mono (by decide)) D__law_deep)
  have C__law_row_text : ∀ (NS : List Str), Cal l.prog w K mg base 1 "_law_row_text" ["_law_row"] (sp_text_of NS) := fun NS => D__law_row_text.cal (ok__law_row_text T  D__law_row_text)
  have C__law_lines : ∀ (NS : List Str), Cal l.prog w K mg base 5 "_law_lines" ["_law_block_here", "_law_deep_here"] ((sp_llines NS) 3) := fun NS => D__law_lines.cal (ok__law_lines T ((C__law_row_text NS).mono (by decide)) D__law_lines 3)
  have C__law_told : Cal l.prog w K mg base 4 "_law_told" ["_law_row"] (sp_told (OCof C)) := D__law_told.cal (ok__law_told T ((C_row_text).mono (by decide)) D__law_told)
  have U__law_lines : Cal l.prog w K mg base 5 "_law_lines" ["_law_block_here", "_law_deep_here"] SPllines := D__law_lines.cal (fn_any fun NS => ok__law_lines T ((C__law_row_text NS).mono (by decide)) D__law_lines 3)
  have U__law_row_text : Cal l.prog w K mg base 1 "_law_row_text" ["_law_row"] SPtext := D__law_row_text.cal (fn_any fun NS => ok__law_row_text T  D__law_row_text)
  have U__law_rows : Cal l.prog w K mg base 4 "_law_rows" ["_law_block_here"] SProws := D__law_rows.cal (fn_any fun NS => ok__law_rows T  D__law_rows 3)
  have U_program_text : Cal l.prog w K mg base 6 "program_text" ["program"] (SPptext C) := D_program_text.cal (fn_any fun NS => ok_program_text T ((C_lines_of NS).mono (by decide)) D_program_text)
  have U_read_program : Cal l.prog w K mg base 16 "read_program" ["text"] (SPread C) := D_read_program.cal (fn_any fun NS => ok_read_program T M_Lines ((C_blanks_ahead NS).mono (by decide)) ((ME_take_or).mono (by decide)) ((ME_take_row NS).mono (by decide)) ((ME_shrink).mono (by decide)) M D_read_program)
  exact ok_law T ((C__law_hand).mono (by decide)) ((C__law_drawn).mono (by decide)) ((U__law_lines).mono (by decide)) M ((U_program_text).mono (by decide)) ((U_read_program).mono (by decide)) QE ((U__law_rows).mono (by decide)) ((C__law_told).mono (by decide)) ((U__law_row_text).mono (by decide)) ((C__law_deep).mono (by decide)) ((C__law_draw).mono (by decide)) D_law
theorem start_ok {K : PySem.W.Frag} {H : Hp} {a : Addr} {ns : List Int} (hl : ns.length ≤ 63) (hO : Only H) (hS : SqL K H a (ns.map V.int)) : liftSp K sp_law [.ref a] H (fun v _ => v = .bl true) fun _ _ _ => False := by
  have hns : ns.length ≤ sizeLine := by rw [sizeLine_eq]; omega
  refine ⟨⟨fun b => b = a ∧ ∃ u, H b = some u, fun _ => False⟩, [.scr ns], fun _ => none, fun d _ => d = .bl true, noX, .cons (.scr ⟨hns, ?_⟩) .nil, ⟨?_, fun _ _ z => z, fun _ _ z => by cases z⟩, ⟨ns, rfl, fun _ => rfl⟩, ?_, .no⟩
  · rcases hS with hR | hK
    · refine .inl ⟨⟨rfl, ?_⟩, hR⟩
      rcases hR with e | ⟨o, e⟩
      · exact ⟨_, e⟩
      · exact ⟨_, e⟩
    · exact .inr fun H' => .inr hK
  · rintro b (⟨_, hu⟩ | hz)
    · exact hu
    · exact hz.elim
  · rintro F' d G' v H' _ r _ rfl
    cases r
    rfl
theorem walk {l : PySem.W.OpenLaw} {q : Program} {loose : List Str} {XP : (Str → Option Value) → Heap → Prop} {YP : World → Heap → Prop} {d : DefRec} {K : Params → PySem.W.Frag} (hn : l.most = some 63) (hdf : d.params.defaults = [])
    (hY : ∀ (w : World) (h : Heap), YP w h → (K w.params).In h)
    (F : ∀ (w : World) (mg : Str → Option Value) (fa : Addr) (h : Heap), (K w.params).In h → h.Ns mainGlobals mg → mg d.name = some (.ref fa) →
      ∃ fd : FuncData, (∀ (s : Shared) (u : Value), BindsTo s fd ⟨[u], []⟩ [("_law_script", u)]) ∧ ∀ base : Heap, (K w.params).In base → base.Ns mainGlobals mg → FnOk l.prog w (K w.params) mg base CX0 17 fa fd ["_law_script"] (liftSp (K w.params) sp_law)) :
    PySem.W.WalkO q loose XP YP l.row.toRowW d [] (fun f vs => PySem.call f vs) :=
  L2.walk_of (n := 63) (k := 17) (x := "_law_script") (CX := fun _ => CX0) (sp := fun w => liftSp (K w.params) sp_law) hn (by decide) hdf ⟨rfl, by decide, by decide⟩ hY F (fun _ _ a ns hl hO hS => start_ok hl hO hS) fun _ _ _ _ _ z => z
end P3

open PySem PySem.W PyProof.Rows in
set_option maxRecDepth 100000 in
set_option maxHeartbeats 0 in
theorem PySem.Challenge.cw_putoffpiles_k04_whole_texts_there_and_ba_holds : PySem.Challenge.rw_putoffpiles_k04_whole_texts_there_and_ba.Holds := by
  w_on; o_law; k_head; (case hw => w_witness2)
  k_fill
  refine P3.walk (l := PySem.Challenge.rw_putoffpiles_k04_whole_texts_there_and_ba) rfl rfl (fun w h Y => PySem.W.kIn_of Y) ?F
  case F =>
    intro w mg fa h KX G hmg
    refine' P3.all_mk KX G hmg ?a1 ?l1 ?c1 ?k1 ?a2 ?l2 ?c2 ?k2 ?a3 ?l3 ?c3 ?k3 ?a4 ?l4 ?c4 ?k4 ?a5 ?l5 ?c5 ?k5 ?a6 ?l6 ?c6 ?k6 ?a7 ?l7 ?c7 ?k7 ?a8 ?l8 ?c8 ?k8 ?a9 ?l9 ?c9 ?k9 ?a10 ?l10 ?c10 ?k10 ?a11 ?l11 ?c11 ?k11 ?a12 ?l12 ?c12 ?k12 ?a13 ?l13 ?c13 ?k13 ?a14 ?l14 ?c14 ?k14 ?a15 ?l15 ?c15 ?k15 ?a16 ?l16 ?c16 ?k16 ?a17 ?l17 ?c17 ?k17 ?a18 ?l18 ?c18 ?k18 ?a19 ?l19 ?c19 ?k19 ?a20 ?l20 ?c20 ?k20 ?a21 ?l21 ?c21 ?k21 ?a22 ?l22 ?c22 ?k22 ?a23 ?l23 ?c23 ?k23 ?a24 ?l24 ?c24 ?k24 ?a25 ?l25 ?c25 ?k25 ?a26 ?l26 ?c26 ?k26 ?a27 ?l27 ?c27 ?k27 ?a28 ?l28 ?c28 ?k28 ?a29 ?l29 ?c29 ?k29 ?a30 ?l30 ?c30 ?k30 ?a31 ?l31 ?c31 ?k31 ?a32 ?l32 ?c32 ?k32 ?a33 ?l33 ?c33 ?k33 ?a34 ?l34 ?c34 ?k34 ?aCC ?pgC ?hdC ?poC ?saC ?mkC ?kcC ?oaC ?onC ?otC ?omC ?qC_non ?qC_bl ?qC_int ?qC_str ?qC_tup ?qC_lst ?qC_dic ?nC_block ?a99 ?i99 ?l99 ?c99 ?k99 ?a98 ?i98 ?l98 ?c98 ?k98 ?aCCV ?pgCV ?hdCV ?poCV ?saCV ?mkCV ?kcCV ?nCV_kept_word ?nCV_kept_rows ?nCV_kept_first ?aCCL ?pgCL ?hdCL ?poCL ?saCL ?mkCL ?kcCL ?nCL_kept_levels ?aCCN ?xiCN ?xkCN ?xsCN ?xtCN ?aCCP ?pB ?pD ?pT ?pS ?hdxCN ?ssxCN ?neC ?kb_non ?nb_non ?kb_bl ?nb_bl ?kb_int ?nb_int ?kb_str ?nb_str ?kb_tup ?nb_tup ?kb_lst ?nb_lst ?kb_dic ?nb_dic ?kb_C ?a97 ?i97 ?l97 ?c97 ?k97 ?a96 ?i96 ?l96 ?c96 ?k96 ?a95 ?i95 ?l95 ?c95 ?k95 ?a94 ?i94 ?l94 ?c94 ?k94 ?a93 ?i93 ?l93 ?c93 ?k93 ?a92 ?i92 ?l92 ?c92 ?k92 ?v_SMALL ?v_MOST_SIGNS ?v_MOST_PARTS ?aBB ?lBB ?litBB ?lowBB ?eBB ?v_MOST_DEEP ?v_MOST_IN_BLOCK ?v_MOST_ROWS ?v_MOST_NAMES ?v_MOST_FIGURES ?v_FIGURES ?z_len ?z_range ?z_isinstance ?z_all ?z_any ?z_sum ?z_tuple ?z_list ?z_sorted ?z_set ?z_abs ?z_int ?z_enumerate ?z_bool ?z_str ?z_dict ?z_min ?z_max ?z_ord
    (case a1 => k_is)
    (case l1 => k_is)
    (case c1 => k_is)
    (case k1 => k_is)
    (case a2 => k_is)
    (case l2 => k_is)
    (case c2 => k_is)
    (case k2 => k_is)
    (case a3 => k_is)
    (case l3 => k_is)
    (case c3 => k_is)
    (case k3 => k_is)
    (case a4 => k_is)
    (case l4 => k_is)
    (case c4 => k_is)
    (case k4 => k_is)
    (case a5 => k_is)
    (case l5 => k_is)
    (case c5 => k_is)
    (case k5 => k_is)
    (case a6 => k_is)
    (case l6 => k_is)
    (case c6 => k_is)
    (case k6 => k_is)
    (case a7 => k_is)
    (case l7 => k_is)
    (case c7 => k_is)
    (case k7 => k_is)
    (case a8 => k_is)
    (case l8 => k_is)
    (case c8 => k_is)
    (case k8 => k_is)
    (case a9 => k_is)
    (case l9 => k_is)
    (case c9 => k_is)
    (case k9 => k_is)
    (case a10 => k_is)
    (case l10 => k_is)
    (case c10 => k_is)
    (case k10 => k_is)
    (case a11 => k_is)
    (case l11 => k_is)
    (case c11 => k_is)
    (case k11 => k_is)
    (case a12 => k_is)
    (case l12 => k_is)
    (case c12 => k_is)
    (case k12 => k_is)
    (case a13 => k_is)
    (case l13 => k_is)
    (case c13 => k_is)
    (case k13 => k_is)
    (case a14 => k_is)
    (case l14 => k_is)
    (case c14 => k_is)
    (case k14 => k_is)
    (case a15 => k_is)
    (case l15 => k_is)
    (case c15 => k_is)
    (case k15 => k_is)
    (case a16 => k_is)
    (case l16 => k_is)
    (case c16 => k_is)
    (case k16 => k_is)
    (case a17 => k_is)
    (case l17 => k_is)
    (case c17 => k_is)
    (case k17 => k_is)
    (case a18 => k_is)
    (case l18 => k_is)
    (case c18 => k_is)
    (case k18 => k_is)
    (case a19 => k_is)
    (case l19 => k_is)
    (case c19 => k_is)
    (case k19 => k_is)
    (case a20 => k_is)
    (case l20 => k_is)
    (case c20 => k_is)
    (case k20 => k_is)
    (case a21 => k_is)
    (case l21 => k_is)
    (case c21 => k_is)
    (case k21 => k_is)
    (case a22 => k_is)
    (case l22 => k_is)
    (case c22 => k_is)
    (case k22 => k_is)
    (case a23 => k_is)
    (case l23 => k_is)
    (case c23 => k_is)
    (case k23 => k_is)
    (case a24 => k_is)
    (case l24 => k_is)
    (case c24 => k_is)
    (case k24 => k_is)
    (case a25 => k_is)
    (case l25 => k_is)
    (case c25 => k_is)
    (case k25 => k_is)
    (case a26 => k_is)
    (case l26 => k_is)
    (case c26 => k_is)
    (case k26 => k_is)
    (case a27 => k_is)
    (case l27 => k_is)
    (case c27 => k_is)
    (case k27 => k_is)
    (case a28 => k_is)
    (case l28 => k_is)
    (case c28 => k_is)
    (case k28 => k_is)
    (case a29 => k_is)
    (case l29 => k_is)
    (case c29 => k_is)
    (case k29 => k_is)
    (case a30 => k_is)
    (case l30 => k_is)
    (case c30 => k_is)
    (case k30 => k_is)
    (case a31 => k_is)
    (case l31 => k_is)
    (case c31 => k_is)
    (case k31 => k_is)
    (case a32 => k_is)
    (case l32 => k_is)
    (case c32 => k_is)
    (case k32 => k_is)
    (case a33 => k_is)
    (case l33 => k_is)
    (case c33 => k_is)
    (case k33 => k_is)
    (case a34 => k_is)
    (case l34 => k_is)
    (case c34 => k_is)
    (case k34 => k_is)
    (case aCC => k_is)
    (case pgC => k_is)
    (case hdC => k_is)
    (case poC => k_is)
    (case saC => k_is)
    (case mkC => k_is)
    (case kcC => k_is)
    (case oaC => k_is)
    (case onC => k_is)
    (case otC => k_is)
    (case omC => k_is)
    (case qC_non => kit_is)
    (case qC_bl => kit_is)
    (case qC_int => kit_is)
    (case qC_str => kit_is)
    (case qC_tup => kit_is)
    (case qC_lst => kit_is)
    (case qC_dic => kit_is)
    (case nC_block => k_is)
    (case a99 => k_is)
    (case i99 => k_is)
    (case l99 => k_is)
    (case c99 => k_is)
    (case k99 => k_is)
    (case a98 => k_is)
    (case i98 => k_is)
    (case l98 => k_is)
    (case c98 => k_is)
    (case k98 => k_is)
    (case aCCV => k_is)
    (case pgCV => k_is)
    (case hdCV => k_is)
    (case poCV => k_is)
    (case saCV => k_is)
    (case mkCV => k_is)
    (case kcCV => k_is)
    (case nCV_kept_word => k_is)
    (case nCV_kept_rows => k_is)
    (case nCV_kept_first => k_is)
    (case aCCL => k_is)
    (case pgCL => k_is)
    (case hdCL => k_is)
    (case poCL => k_is)
    (case saCL => k_is)
    (case mkCL => k_is)
    (case kcCL => k_is)
    (case nCL_kept_levels => k_is)
    (case aCCN => k_is)
    (case xiCN => k_exc)
    (case xkCN => k_is)
    (case xsCN => k_is)
    (case xtCN => k_is)
    (case aCCP => k_is)
    (case pB => k_is)
    (case pD => k_is)
    (case pT => k_is)
    (case pS => k_is)
    (case hdxCN => k_is)
    (case ssxCN => k_is)
    (case neC => k_is)
    (case kb_non => kit_is)
    (case nb_non => k_is)
    (case kb_bl => kit_is)
    (case nb_bl => k_is)
    (case kb_int => kit_is)
    (case nb_int => k_is)
    (case kb_str => kit_is)
    (case nb_str => k_is)
    (case kb_tup => kit_is)
    (case nb_tup => k_is)
    (case kb_lst => kit_is)
    (case nb_lst => k_is)
    (case kb_dic => kit_is)
    (case nb_dic => k_is)
    (case kb_C => kit_is)
    (case a97 => k_is)
    (case i97 => k_is)
    (case l97 => k_is)
    (case c97 => k_is)
    (case k97 => k_is)
    (case a96 => k_is)
    (case i96 => k_is)
    (case l96 => k_is)
    (case c96 => k_is)
    (case k96 => k_is)
    (case a95 => k_is)
    (case i95 => k_is)
    (case l95 => k_is)
    (case c95 => k_is)
    (case k95 => k_is)
    (case a94 => k_is)
    (case i94 => k_is)
    (case l94 => k_is)
    (case c94 => k_is)
    (case k94 => k_is)
    (case a93 => k_is)
    (case i93 => k_is)
    (case l93 => k_is)
    (case c93 => k_is)
    (case k93 => k_is)
    (case a92 => k_is)
    (case i92 => k_is)
    (case l92 => k_is)
    (case c92 => k_is)
    (case k92 => k_is)
    (case v_SMALL => k_is)
    (case v_MOST_SIGNS => k_is)
    (case v_MOST_PARTS => k_is)
    (case aBB => k_is)
    (case lBB => k_is)
    (case litBB => exact ⟨⟨_, _, rfl, rfl⟩, ⟨_, _, rfl, rfl⟩, True.intro⟩)
    (case lowBB => rfl)
    (case eBB => rfl)
    (case v_MOST_DEEP => k_is)
    (case v_MOST_IN_BLOCK => k_is)
    (case v_MOST_ROWS => k_is)
    (case v_MOST_NAMES => k_is)
    (case v_MOST_FIGURES => k_is)
    (case v_FIGURES => k_is)
    (case z_len => k_is)
    (case z_range => k_is)
    (case z_isinstance => k_is)
    (case z_all => k_is)
    (case z_any => k_is)
    (case z_sum => k_is)
    (case z_tuple => k_is)
    (case z_list => k_is)
    (case z_sorted => k_is)
    (case z_set => k_is)
    (case z_abs => k_is)
    (case z_int => k_is)
    (case z_enumerate => k_is)
    (case z_bool => k_is)
    (case z_str => k_is)
    (case z_dict => k_is)
    (case z_min => k_is)
    (case z_max => k_is)
    (case z_ord => k_is)
