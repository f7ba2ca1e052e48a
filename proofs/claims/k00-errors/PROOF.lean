import PyProof.Rows.All
import Wide.All
import OpenK.AllK
import Wide.FinOn
import HandS.ForMost
import HandS.ForExc
import KE.KeyNested
import HandS.ExcInit
import HandS.TupAny
import HandS.IsInst
import HandS.Deep
import HandS.More
import HandS.Small
import HandS.CallLocal
import HandS.Set
import HandS.SetFor
import HandS.Strs
import PyProof.Rows.SortShellAny
import HandS.Style
import PyProof.EnumMake
import PyProof.Draws
import KE.GoesMore
import HandS.RaiseMore
import HandS.TryOnly
import HandS.WordsExc
import PyProof.InstEq
import KE.KExcSuper
import HandS.Nested
import HandS.ExcField
import HandS.TryMany
import HandS.TupMul
import HandS.Text
import HandS.Iter
import HandS.StrMore
import HandS.Replace
import KE.KDictKeyed
import HandS.WideBits
import KE.KDictDisplayH
import HandS.ExcIs
import HandS.ExcValue
import PyProof.NeKinds
import PySem.Challenge.RW_putoffpiles_k00_errors_and_their_fields
set_option Elab.async false
set_option linter.all false
set_option maxRecDepth 100000
set_option maxHeartbeats 4000000
/-! DL1: values as data (D), what represents them (Rep), what stays (Stay), readings over data lifted to the hand layer's. -/
namespace DL
open PySem PySem.Spec L2

inductive D where
  | non | bl (b : Bool) | int (i : Int) | str (x : Str) | tup (ds : List D) | lst (ds : List D) | dic (kvs : List (Key × D)) | obj (C : Addr) (fs : List (Str × D)) | ref (a : Addr) | ty (n : String) | scr (ns : List Int) | exc (a C : Addr) (od : Option Addr) (fs : List (Str × D)) | xo (C : Addr) (fs : List (Str × D)) | same (v : V) (d : D)

/-- what is known of an object that may change -/
inductive GO where
  | lst (ds : List D) | dic (kvs : List (Key × D)) | ins (C : Addr) (fs : List (Str × D)) | dit (hf : NestedKey → Int) (kvs : List (D × D))
mutual
/-- a thing as a key of any depth -/
def nkD : D → Option NestedKey
  | .non => some .none
  | .int i => some (.num i)
  | .str x => some (.text x)
  | .tup ds => match nkDs ds with | some ks => some (.tup ks) | none => none
  | _ => none
def nkDs : List D → Option (List NestedKey)
  | [] => some []
  | d :: ds => match nkD d with | some k => (match nkDs ds with | some ks => some (k :: ks) | none => none) | none => none
end
abbrev Gh := Addr → Option GO
def gup (G : Gh) (a : Addr) (o : GO) : Gh := fun b => if b = a then some o else G b
theorem gup_same {G : Gh} {a : Addr} {o : GO} : gup G a o a = some o := by unfold gup; rw [if_pos rfl]
theorem gup_ne {G : Gh} {a b : Addr} {o : GO} (h : b ≠ a) : gup G a o b = G b := by unfold gup; rw [if_neg h]
theorem gup_gup {G : Gh} {a : Addr} {o u : GO} : gup (gup G a o) a u = gup G a u := by
  funext b; unfold gup; split <;> rfl
theorem gup_id {G : Gh} {a : Addr} {o : GO} (h : G a = some o) : gup G a o = G := by
  funext b; unfold gup; split
  · rename_i e; rw [e, h]
  · rfl

/-- what is frozen; what is guarded while something runs -/
structure FP where
  fz : Addr → Prop
  pr : Addr → Prop
def FP.has (F : FP) (a : Addr) : Prop := F.fz a ∨ F.pr a
def FP.add (F : FP) (p : Addr) : FP := ⟨fun a => F.fz a ∨ a = p, F.pr⟩
def FP.guard (F : FP) (p : Addr) : FP := ⟨F.fz, fun a => F.pr a ∨ a = p⟩
def FP.free (F : FP) (p : Addr) : FP := ⟨F.fz, fun a => F.pr a ∧ a ≠ p⟩
/-- the script: a list that nobody may change -/
def ScrOk (K : PySem.W.Frag) (H : Hp) (F : FP) (a : Addr) (ns : List Int) : Prop :=
  ns.length ≤ sizeLine ∧ ((F.fz a ∧ Rd H a (.lst (ns.map .int))) ∨ ∀ H', SqL K H' a (ns.map .int))
section
variable (K : PySem.W.Frag)
mutual
inductive Rep (H : Hp) (F : FP) : D → V → Prop
  | non : Rep H F .non .non
  | bl (b : Bool) : Rep H F (.bl b) (.bl b)
  | int (i : Int) : Rep H F (.int i) (.int i)
  | str (x : Str) (h : x.length ≤ sizeLine) : Rep H F (.str x) (.str x)
  | ref (a : Addr) : Rep H F (.ref a) (.ref a)
  | ty (n : String) : Rep H F (.ty n) (.ty n)
  | scr {a : Addr} {ns : List Int} (h : ScrOk K H F a ns) : Rep H F (.scr ns) (.ref a)
  | tup {a : Addr} {vs : List V} {ds : List D} (h : SqT K H a vs) (hl : ds.length ≤ sizeLine) (r : Reps H F ds vs) : Rep H F (.tup ds) (.ref a)
  | lst {a : Addr} {vs : List V} {ds : List D} (f : F.fz a) (h : H a = some (.lst vs)) (hl : ds.length ≤ sizeLine) (r : Reps H F ds vs) : Rep H F (.lst ds) (.ref a)
  | dic {a : Addr} {ks : List (Key × V)} {kvs : List (Key × D)} (f : F.fz a) (h : H a = some (.dK ks)) (hl : kvs.length ≤ sizeLine) (r : RepK H F kvs ks) : Rep H F (.dic kvs) (.ref a)
  | obj {a C dx : Addr} {vs : List (Str × V)} {fs : List (Str × D)} (f : F.fz a) (h : H a = some (.ins C dx vs)) (r : RepF H F fs vs) : Rep H F (.obj C fs) (.ref a)
  | exc0 {a C : Addr} : Rep H F (.exc a C none []) (.ref a)
  | exc {a C dx : Addr} {vs : List (Str × V)} {fs : List (Str × D)} (f : F.fz dx) (h : H dx = some (.xd vs)) (r : RepF H F fs vs) : Rep H F (.exc a C (some dx) fs) (.ref a)
  | xo0 {a C : Addr} (f : F.fz a) (h : H a = some (exo a C none)) : Rep H F (.xo C []) (.ref a)
  | xo {a C dx : Addr} {vs : List (Str × V)} {fs : List (Str × D)} (f : F.fz a) (h : H a = some (exo a C (some dx))) (g : F.fz dx) (hd : H dx = some (exd dx vs)) (r : RepF H F fs vs) : Rep H F (.xo C fs) (.ref a)
  | same {v : V} {d : D} (r : Rep H F d v) : Rep H F (.same v d) v
inductive Reps (H : Hp) (F : FP) : List D → List V → Prop
  | nil : Reps H F [] []
  | cons {d : D} {v : V} {ds : List D} {vs : List V} (r : Rep H F d v) (t : Reps H F ds vs) : Reps H F (d :: ds) (v :: vs)
inductive RepK (H : Hp) (F : FP) : List (Key × D) → List (Key × V) → Prop
  | nil : RepK H F [] []
  | cons {k : Key} {d : D} {v : V} {ds : List (Key × D)} {vs : List (Key × V)} (r : Rep H F d v) (t : RepK H F ds vs) : RepK H F ((k, d) :: ds) ((k, v) :: vs)
inductive RepF (H : Hp) (F : FP) : List (Str × D) → List (Str × V) → Prop
  | nil : RepF H F [] []
  | cons {k : Str} {d : D} {v : V} {ds : List (Str × D)} {vs : List (Str × V)} (r : Rep H F d v) (t : RepF H F ds vs) : RepF H F ((k, d) :: ds) ((k, v) :: vs)
end
/-- tuples and what is frozen stay -/
structure StayF (H : Hp) (F : FP) (H' : Hp) (F' : FP) : Prop where
  tup : ∀ a vs, SqT K H a vs → SqT K H' a vs
  fz : ∀ a, F.fz a → F'.fz a
  at_ : ∀ a, F.fz a → H' a = H a
/-- .. and what is guarded -/
structure Stay (H : Hp) (F : FP) (H' : Hp) (F' : FP) : Prop extends StayF K H F H' F' where
  pr : ∀ a, F.pr a → F'.pr a ∧ H' a = H a
end

section
variable {K : PySem.W.Frag} {H H' H'' : Hp} {F F' F'' : FP}
theorem Stay.refl : Stay K H F H F := ⟨⟨fun _ _ h => h, fun _ h => h, fun _ _ => rfl⟩, fun _ h => ⟨h, rfl⟩⟩
theorem Stay.trans (a : Stay K H F H' F') (b : Stay K H' F' H'' F'') : Stay K H F H'' F'' :=
  ⟨⟨fun x vs h => b.tup x vs (a.tup x vs h), fun x h => b.fz x (a.fz x h), fun x h => (b.at_ x (a.fz x h)).trans (a.at_ x h)⟩, fun x h => ⟨(b.pr x (a.pr x h).1).1, (b.pr x (a.pr x h).1).2.trans (a.pr x h).2⟩⟩
theorem ScrOk.stayF (s : StayF K H F H' F') {a : Addr} {ns : List Int} (h : ScrOk K H F a ns) : ScrOk K H' F' a ns :=
  ⟨h.1, h.2.imp (fun ⟨f, r⟩ => ⟨s.fz a f, r.imp (fun e => (s.at_ a f).trans e) fun ⟨o, e⟩ => ⟨o, (s.at_ a f).trans e⟩⟩) id⟩
mutual
theorem Rep.stayF (s : StayF K H F H' F') : ∀ {d : D} {v : V}, Rep K H F d v → Rep K H' F' d v
  | _, _, .non => .non
  | _, _, .bl b => .bl b
  | _, _, .int i => .int i
  | _, _, .str x h => .str x h
  | _, _, .ref a => .ref a
  | _, _, .ty n => .ty n
  | _, _, .scr h => .scr (h.stayF s)
  | _, _, .tup h hl r => .tup (s.tup _ _ h) hl (Reps.stayF s r)
  | _, _, .lst f h hl r => .lst (s.fz _ f) ((s.at_ _ f).trans h) hl (Reps.stayF s r)
  | _, _, .dic f h hl r => .dic (s.fz _ f) ((s.at_ _ f).trans h) hl (RepK.stayF s r)
  | _, _, .obj f h r => .obj (s.fz _ f) ((s.at_ _ f).trans h) (RepF.stayF s r)
  | _, _, .exc0 => .exc0
  | _, _, .exc f h r => .exc (s.fz _ f) ((s.at_ _ f).trans h) (RepF.stayF s r)
  | _, _, .xo0 f h => .xo0 (s.fz _ f) ((s.at_ _ f).trans h)
  | _, _, .xo f h g hd r => .xo (s.fz _ f) ((s.at_ _ f).trans h) (s.fz _ g) ((s.at_ _ g).trans hd) (RepF.stayF s r)
  | _, _, .same r => .same (Rep.stayF s r)
theorem Reps.stayF (s : StayF K H F H' F') : ∀ {ds : List D} {vs : List V}, Reps K H F ds vs → Reps K H' F' ds vs
  | _, _, .nil => .nil
  | _, _, .cons r t => .cons (Rep.stayF s r) (Reps.stayF s t)
theorem RepK.stayF (s : StayF K H F H' F') : ∀ {ds : List (Key × D)} {vs : List (Key × V)}, RepK K H F ds vs → RepK K H' F' ds vs
  | _, _, .nil => .nil
  | _, _, .cons r t => .cons (Rep.stayF s r) (RepK.stayF s t)
theorem RepF.stayF (s : StayF K H F H' F') : ∀ {ds : List (Str × D)} {vs : List (Str × V)}, RepF K H F ds vs → RepF K H' F' ds vs
  | _, _, .nil => .nil
  | _, _, .cons r t => .cons (Rep.stayF s r) (RepF.stayF s t)
end

theorem Rep.stay (s : Stay K H F H' F') {d : D} {v : V} (r : Rep K H F d v) : Rep K H' F' d v := r.stayF s.toStayF
theorem Reps.stay (s : Stay K H F H' F') {d : List D} {v : List V} (r : Reps K H F d v) : Reps K H' F' d v := r.stayF s.toStayF
theorem RepK.stay (s : Stay K H F H' F') {d : List (Key × D)} {v : List (Key × V)} (r : RepK K H F d v) : RepK K H' F' d v := r.stayF s.toStayF
theorem RepF.stay (s : Stay K H F H' F') {d : List (Str × D)} {v : List (Str × V)} (r : RepF K H F d v) : RepF K H' F' d v := r.stayF s.toStayF

theorem Reps.length : ∀ {ds : List D} {vs : List V}, Reps K H F ds vs → ds.length = vs.length
  | _, _, .nil => rfl
  | _, _, .cons _ t => by simp [Reps.length t]
theorem Reps.get : ∀ {ds : List D} {vs : List V} {i : Nat} {d : D}, Reps K H F ds vs → ds[i]? = some d → ∃ v, vs[i]? = some v ∧ Rep K H F d v
  | _, _, _, _, .nil, e => by simp at e
  | _, _, 0, _, .cons r _, e => by simp at e; subst e; exact ⟨_, rfl, r⟩
  | _, _, i + 1, d, .cons _ t, e => by
    obtain ⟨v, h1, h2⟩ := Reps.get (i := i) (d := d) t (by simpa using e)
    exact ⟨v, by simpa using h1, h2⟩
theorem Reps.append : ∀ {ds es : List D} {vs ws : List V}, Reps K H F ds vs → Reps K H F es ws → Reps K H F (ds ++ es) (vs ++ ws)
  | _, _, _, _, .nil, s => s
  | _, _, _, _, .cons r t, s => .cons r (Reps.append t s)
theorem Reps.set {d : D} {v : V} (r : Rep K H F d v) : ∀ {ds : List D} {vs : List V} (i : Nat), Reps K H F ds vs → Reps K H F (ds.set i d) (vs.set i v)
  | _, _, _, .nil => .nil
  | _, _, 0, .cons _ t => .cons r t
  | _, _, i + 1, .cons q t => .cons q (Reps.set r i t)
theorem Reps.take : ∀ {ds : List D} {vs : List V} (n : Nat), Reps K H F ds vs → Reps K H F (ds.take n) (vs.take n)
  | _, _, 0, _ => .nil
  | _, _, _ + 1, .nil => .nil
  | _, _, n + 1, .cons r t => .cons r (Reps.take n t)
theorem Reps.drop : ∀ {ds : List D} {vs : List V} (n : Nat), Reps K H F ds vs → Reps K H F (ds.drop n) (vs.drop n)
  | _, _, 0, r => r
  | _, _, _ + 1, .nil => .nil
  | _, _, n + 1, .cons _ t => Reps.drop n t
theorem Reps.snoc {ds : List D} {vs : List V} {d : D} {v : V} (t : Reps K H F ds vs) (r : Rep K H F d v) : Reps K H F (ds ++ [d]) (vs ++ [v]) := t.append (.cons r .nil)
theorem Reps.reverse {ds : List D} {vs : List V} (t : Reps K H F ds vs) : Reps K H F ds.reverse vs.reverse := by
  induction ds generalizing vs with
  | nil => cases t; exact .nil
  | cons d ds ih => cases t with | cons r t => rw [List.reverse_cons, List.reverse_cons]; exact (ih t).snoc r
theorem Reps.ints : ∀ {ns : List Int} {vs : List V}, Reps K H F (ns.map D.int) vs → vs = ns.map V.int
  | [], _, .nil => rfl
  | n :: ns, _, .cons r t => by cases r; rw [Reps.ints t]; rfl
theorem Reps.of_ints : ∀ (ns : List Int), Reps K H F (ns.map D.int) (ns.map V.int)
  | [] => .nil
  | n :: ns => .cons (.int n) (Reps.of_ints ns)
theorem RepF.lookup (f : Str) : ∀ {ds : List (Str × D)} {vs : List (Str × V)}, RepF K H F ds vs → (∀ d, ds.lookup f = some d → ∃ v, vs.lookup f = some v ∧ Rep K H F d v) ∧ (ds.lookup f = none → vs.lookup f = none)
  | _, _, .nil => ⟨fun _ e => (by simp at e), fun _ => rfl⟩
  | _, _, .cons (k := k) r t => by
    obtain ⟨h1, h2⟩ := RepF.lookup f t
    by_cases e : f = k
    · subst e
      refine ⟨fun d q => ?_, fun q => ?_⟩
      · rw [List.lookup_cons_self] at q; cases q
        exact ⟨_, List.lookup_cons_self, r⟩
      · rw [List.lookup_cons_self] at q; cases q
    · have eb : (f == k) = false := beq_eq_false_iff_ne.mpr e
      refine ⟨fun d q => ?_, fun q => ?_⟩
      · simp only [List.lookup_cons, eb] at q ⊢
        exact h1 d q
      · simp only [List.lookup_cons, eb] at q ⊢
        exact h2 q
theorem RepK.length : ∀ {ds : List (Key × D)} {vs : List (Key × V)}, RepK K H F ds vs → ds.length = vs.length
  | _, _, .nil => rfl
  | _, _, .cons _ t => by simp [RepK.length t]
end

/-! ### slots, the objects that may change -/
abbrev DSt := List (Option D)
section
variable (K : PySem.W.Frag)
inductive RelSt (H : Hp) (F : FP) : DSt → St → Prop
  | nil : RelSt H F [] []
  | no {o : Option V} {sd : DSt} {sv : St} (t : RelSt H F sd sv) : RelSt H F (none :: sd) (o :: sv)
  | so {d : D} {v : V} {sd : DSt} {sv : St} (r : Rep K H F d v) (t : RelSt H F sd sv) : RelSt H F (some d :: sd) (some v :: sv)
/-- the dict object at a has these entries -/
def RawF (a : Addr) (es : Array DictEntry) : Heap → Prop := fun h => ∃ o ep, h.get? a = some o ∧ o.ExactDict ∧ o.data = .dict es ep
/-- entries with keys of any depth -/
inductive EntRs (H : Hp) (F : FP) (hf : NestedKey → Int) : List (D × D) → List DictEntry → Prop
  | nil : EntRs H F hf [] []
  | cons {kd vd : D} {key : NestedKey} {b : Addr} {v : V} {u : Value} {kvs : List (D × D)} {es : List DictEntry} (rk : Rep K H F kd (.ref b)) (hk : nkD kd = some key) (hd : key.depth ≤ 8) (rv : Rep K H F vd v) (hv : RelV v u) (t : EntRs H F hf kvs es) : EntRs H F hf ((kd, vd) :: kvs) (⟨hf key, .ref b, u⟩ :: es)
def GOk (H : Hp) (F : FP) (a : Addr) : GO → Prop
  | .lst ds => ds.length ≤ sizeLine ∧ ∃ vs, H a = some (.lst vs) ∧ Reps K H F ds vs
  | .dic kvs => kvs.length ≤ sizeLine ∧ ∃ ks, H a = some (.dK ks) ∧ RepK K H F kvs ks
  | .ins C fs => ∃ dx vs, H a = some (.ins C dx vs) ∧ RepF K H F fs vs
  | .dit hf kvs => kvs.length ≤ sizeLine ∧ (a == sysModules) = false ∧ (kvs.map fun kv => nkD kv.1).Nodup ∧ ∃ es : Array DictEntry, H a = some (.ext (RawF a es)) ∧ EntRs K H F hf kvs es.toList
structure RelG (H : Hp) (F : FP) (G : Gh) : Prop where
  fo : ∀ a, F.has a → ∃ u, H a = some u
  dj : ∀ a, F.fz a → ¬ F.pr a
  g : ∀ a o, G a = some o → ¬ F.has a ∧ GOk K H F a o
end
section
variable {K : PySem.W.Frag} {H H' : Hp} {F F' : FP} {G : Gh} {sd : DSt} {sv : St}
theorem RelSt.stayF (s : StayF K H F H' F') {sd : DSt} {sv : St} (h : RelSt K H F sd sv) : RelSt K H' F' sd sv := by
  induction h with
  | nil => exact .nil
  | no _ ih => exact .no ih
  | so r _ ih => exact .so (r.stayF s) ih
theorem RelSt.stay (s : Stay K H F H' F') {sd : DSt} {sv : St} (h : RelSt K H F sd sv) : RelSt K H' F' sd sv := h.stayF s.toStayF
theorem RelSt.get {sd : DSt} {sv : St} (h : RelSt K H F sd sv) : ∀ {i : Nat} {d : D}, sd[i]? = some (some d) → ∃ v, sv[i]? = some (some v) ∧ Rep K H F d v := by
  induction h with
  | nil => intro i d e; simp at e
  | no _ ih =>
    intro i d e
    cases i with
    | zero => simp at e
    | succ i => simpa using ih (by simpa using e)
  | so r _ ih =>
    intro i d e
    cases i with
    | zero => simp at e; subst e; exact ⟨_, rfl, r⟩
    | succ i => simpa using ih (by simpa using e)
theorem RelSt.set {d : D} {v : V} (r : Rep K H F d v) {sd : DSt} {sv : St} (h : RelSt K H F sd sv) : ∀ (i : Nat), RelSt K H F (sd.set i (some d)) (sv.set i (some v)) := by
  induction h with
  | nil => intro i; exact .nil
  | no t ih =>
    intro i
    cases i with
    | zero => exact .so r t
    | succ i => exact .no (ih i)
  | so q t ih =>
    intro i
    cases i with
    | zero => exact .so r t
    | succ i => exact .so q (ih i)
theorem RelSt.clear {sd : DSt} {sv : St} (h : RelSt K H F sd sv) : ∀ (i : Nat) (o : Option V), RelSt K H F (sd.set i none) (sv.set i o) := by
  induction h with
  | nil => intro i o; exact .nil
  | no t ih =>
    intro i o
    cases i with
    | zero => exact .no t
    | succ i => exact .no (ih i o)
  | so q t ih =>
    intro i o
    cases i with
    | zero => exact .no t
    | succ i => exact .so q (ih i o)
theorem RelSt.start : ∀ {ds : List D} {vs : List V}, Reps K H F ds vs → ∀ n, RelSt K H F (ds.map some ++ List.replicate n none) (vs.map some ++ List.replicate n none)
  | _, _, .nil, n => by
    induction n with
    | zero => exact .nil
    | succ n ih => exact .no ih
  | _, _, .cons r t, n => .so r (RelSt.start t n)
theorem EntRs.stayF {hf : NestedKey → Int} (s : StayF K H F H' F') {kvs : List (D × D)} {es : List DictEntry} (h : EntRs K H F hf kvs es) : EntRs K H' F' hf kvs es := by
  induction h with
  | nil => exact .nil
  | cons rk hk hd rv hv _ ih => exact .cons (rk.stayF s) hk hd (rv.stayF s) hv ih
theorem EntRs.stay {hf : NestedKey → Int} (s : Stay K H F H' F') {kvs : List (D × D)} {es : List DictEntry} (h : EntRs K H F hf kvs es) : EntRs K H' F' hf kvs es := h.stayF s.toStayF
/-- a heap where what F and G know is as it was -/
theorem RelG.keep (g : RelG K H F G) (s : StayF K H F H' F') (fo : ∀ a, F'.has a → ∃ u, H' a = some u) (dj : ∀ a, F'.fz a → ¬ F'.pr a) (k : ∀ a o, G a = some o → H' a = H a ∧ ¬ F'.has a) : RelG K H' F' G := ⟨fo, dj, fun a o e => by
  obtain ⟨nf, q⟩ := g.g a o e
  obtain ⟨k1, k2⟩ := k a o e
  refine ⟨k2, ?_⟩
  cases o with
  | lst ds => obtain ⟨hl, vs, h, r⟩ := q; exact ⟨hl, vs, k1.trans h, r.stayF s⟩
  | dic kvs => obtain ⟨hl, vs, h, r⟩ := q; exact ⟨hl, vs, k1.trans h, r.stayF s⟩
  | ins C fs => obtain ⟨dx, vs, h, r⟩ := q; exact ⟨dx, vs, k1.trans h, r.stayF s⟩
  | dit hf kvs => obtain ⟨hl, hs, hn, es, h, r⟩ := q; exact ⟨hl, hs, hn, es, k1.trans h, r.stayF s⟩⟩
theorem GOk.there {a : Addr} {o : GO} (q : GOk K H F a o) : ∃ u, H a = some u := by
  cases o with
  | lst ds => obtain ⟨_, vs, h, _⟩ := q; exact ⟨_, h⟩
  | dic kvs => obtain ⟨_, vs, h, _⟩ := q; exact ⟨_, h⟩
  | ins C fs => obtain ⟨dx, vs, h, _⟩ := q; exact ⟨_, h⟩
  | dit hf kvs => obtain ⟨_, _, _, es, h, _⟩ := q; exact ⟨_, h⟩
theorem RelG.there (g : RelG K H F G) {a : Addr} {o : GO} (e : G a = some o) : ∃ u, H a = some u := (g.g a o e).2.there
theorem RelG.gnone (g : RelG K H F G) {a : Addr} (h : H a = none) : G a = none := by
  cases e : G a with
  | none => rfl
  | some o => obtain ⟨u, q⟩ := g.there e; rw [h] at q; cases q
/-- fewer objects known -/
def Sub (G0 G : Gh) : Prop := ∀ a o, G0 a = some o → G a = some o
theorem Sub.refl {G : Gh} : Sub G G := fun _ _ h => h
theorem Sub.trans {A B C : Gh} (h : Sub A B) (k : Sub B C) : Sub A C := fun a o e => k a o (h a o e)
theorem Sub.up {G0 G : Gh} {p : Addr} {o : GO} (h : Sub G0 G) (n : G0 p = none) : Sub G0 (gup G p o) := fun a u e => by
  by_cases q : a = p
  · subst q; rw [n] at e; cases e
  · rw [gup_ne q]; exact h a u e
theorem RelG.sub {G0 : Gh} (g : RelG K H F G) (s : Sub G0 G) : RelG K H F G0 := ⟨g.fo, g.dj, fun a o e => g.g a o (s a o e)⟩
/-- a new object is laid -/
theorem Stay.laid {p : Addr} {o : HO} (n : H p = none) (nf : ¬ F.has p) : Stay K H F (upd H p o) F := by
  refine ⟨⟨fun a vs h => ?_, fun _ h => h, fun a h => ?_⟩, fun a h => ⟨h, ?_⟩⟩
  · rcases h with (h | ⟨ob, h⟩) | h
    · exact .inl (.inl (by rw [upd_ne (ne_of_none h n)]; exact h))
    · exact .inl (.inr ⟨ob, by rw [upd_ne (ne_of_none h n)]; exact h⟩)
    · exact .inr h
  · exact upd_ne (fun e => nf (e ▸ .inl h))
  · exact upd_ne (fun e => nf (e ▸ .inr h))
end
end DL

/-! DL2: readings over data, lifted; expressions. -/
namespace DL
open PySem PySem.Spec L2

abbrev DQ := D → Gh → Prop
abbrev DE := DSt → Gh → DQ → Prop
abbrev DT := DSt → Gh → (Bool → Gh → Prop) → Prop
abbrev DA := DSt → Gh → (List D → Gh → Prop) → Prop
section
variable {α β : Type} (K : PySem.W.Frag) (R : Hp → FP → α → β → Prop)
/-- what is wanted over data is enough for what is wanted over the heap -/
def Kt (H : Hp) (F : FP) (Qd : α → Gh → Prop) (Q : β → Hp → Prop) : Prop :=
  ∀ F' a G' b H', Stay K H F H' F' → R H' F' a b → RelG K H' F' G' → Qd a G' → Q b H'
def liftG (t : DSt → Gh → (α → Gh → Prop) → Prop) : L2.St → Hp → (β → Hp → Prop) → Prop := fun σ H Q => ∃ F σd G Qd, RelSt K H F σd σ ∧ RelG K H F G ∧ t σd G Qd ∧ Kt K R H F Qd Q
end
abbrev REq {α : Type} : Hp → FP → α → α → Prop := fun _ _ a b => a = b
abbrev lift (K : PySem.W.Frag) (t : DE) : TE := liftG K (Rep K) t
abbrev liftT (K : PySem.W.Frag) (t : DT) : TT := liftG K REq t
abbrev liftA (K : PySem.W.Frag) (t : DA) : TA := liftG K (Reps K) t
section
variable {α β : Type} {K : PySem.W.Frag} {R : Hp → FP → α → β → Prop} {H H' : Hp} {F F' : FP} {Qd : α → Gh → Prop} {Q : β → Hp → Prop}
theorem Kt.go (k : Kt K R H F Qd Q) (s : Stay K H F H' F') : Kt K R H' F' Qd Q := fun F2 a G2 b H2 s2 r g q => k F2 a G2 b H2 (s.trans s2) r g q
theorem Kt.here (k : Kt K R H F Qd Q) {a : α} {b : β} {G : Gh} (r : R H F a b) (g : RelG K H F G) (q : Qd a G) : Q b H := k F a G b H .refl r g q
/-- the first of two: its wish over data -/
theorem lift_bind {t : DSt → Gh → (α → Gh → Prop) → Prop} {σd : DSt} {σ : L2.St} {G : Gh} (hs : RelSt K H F σd σ) (hg : RelG K H F G) (h : t σd G Qd)
    (k : ∀ F' a G' b H', Stay K H F H' F' → RelSt K H' F' σd σ → R H' F' a b → RelG K H' F' G' → Qd a G' → Q b H') : liftG K R t σ H Q :=
  ⟨F, σd, G, Qd, hs, hg, h, fun F' a G' b H' s r g q => k F' a G' b H' s (hs.stay s) r g q⟩
end
section
variable {X : Cx} {e a b c : Expr} {t ta tb tc : DE} {pos : Pos}
theorem PE.weak {T U : TE} (h : PE X e T) (i : ∀ σ H Q, U σ H Q → T σ H Q) : PE X e U := ⟨fun pins s σ H Q I q => h.run pins s σ H Q I (i σ H Q q)⟩
theorem PT.weak {T U : TT} (h : PT X e T) (i : ∀ σ H Q, U σ H Q → T σ H Q) : PT X e U := ⟨fun pins s σ H Q I q => h.run pins s σ H Q I (i σ H Q q)⟩
theorem PS.weak {st : Stmt} {T U : TS} (h : PS X st T) (i : ∀ D σ H, U D σ H → T D σ H) : PS X st U := ⟨fun pins s σ H D I q => h.run pins s σ H D I (i D σ H q)⟩
theorem PSs.weak {st : List Stmt} {T U : TS} (h : PSs X st T) (i : ∀ D σ H, U D σ H → T D σ H) : PSs X st U := ⟨fun pins s σ H D I q => h.run pins s σ H D I (i D σ H q)⟩

/-! ### names, constants -/
def slot (σ : DSt) (i : Nat) : Option D := (σ[i]?).join
def wVar (i : Nat) : DE := fun σ G Q => match slot σ i with | some d => Q d G | none => False
def wC (d : D) : DE := fun _ G Q => Q d G
theorem slot_some {σ : DSt} {i : Nat} {d : D} (h : slot σ i = some d) : σ[i]? = some (some d) := by
  unfold slot at h
  cases q : σ[i]? with
  | none => rw [q] at h; cases h
  | some o => rw [q] at h; cases o with
    | none => cases h
    | some u => simp at h; subst h; rfl
theorem dv (i : Nat) {x : Str} {pos : Pos} (hN : X.N[i]? = some x := by rfl) (hv : Vis X.env.scope x := by first | exact Or.inl rfl | exact Or.inr (Or.inl rfl) | exact Or.inr (Or.inr rfl)) (hd : (x == ("__debug__" : Str)) = false := by decide)
    (hcd : (x == ("__classdict__" : Str)) = false := by decide) : PE X (.Name x pos) (lift X.K (wVar i)) := by
  refine PE.weak (pe_var hN hv hd hcd) fun σ H Q h => ?_
  obtain ⟨F, σd, G, Qd, hs, hg, h, k⟩ := h
  unfold wVar at h
  split at h
  · rename_i d e
    obtain ⟨v, e1, r⟩ := hs.get (slot_some e)
    exact ⟨v, e1, k.here r hg h⟩
  · exact h.elim
theorem PE.ofC {d : D} {v : V} (h : PE X e (tC v)) (r : ∀ H F, Rep X.K H F d v) : PE X e (lift X.K (wC d)) :=
  PE.weak h fun σ H Q ⟨F, σd, G, Qd, hs, hg, h, k⟩ => k.here (r _ _) hg h
theorem de_int {i j pos} : PE X (.Constant (.int i) j pos) (lift X.K (wC (.int i))) := PE.ofC pe_int fun _ _ => .int i
theorem de_bl {b j pos} : PE X (.Constant (.bool b) j pos) (lift X.K (wC (.bl b))) := PE.ofC pe_bl fun _ _ => .bl b
theorem de_non {j pos} : PE X (.Constant .none j pos) (lift X.K (wC .non)) := PE.ofC pe_non fun _ _ => .non
theorem de_str {x j pos} (h : x.length ≤ sizeLine := by decide +kernel) : PE X (.Constant (.str x) j pos) (lift X.K (wC (.str x))) := PE.ofC pe_str fun _ _ => .str x h
/-- a module's constant -/
theorem de_gint {x : Str} {i : Int} {tk : Tok} {pos : Pos} (hg : Gl X x) (hm : X.mg x = some (.int i tk)) (hd : (x == ("__debug__" : Str)) = false := by decide) : PE X (.Name x pos) (lift X.K (wC (.int i))) := PE.ofC (pe_glob (v := .int i) hg hm ⟨tk, rfl⟩ hd) fun _ _ => .int i
theorem de_gstr {x y : Str} {tk : Tok} {pos : Pos} (hg : Gl X x) (hm : X.mg x = some (.str y tk)) (hl : y.length ≤ sizeLine := by decide +kernel) (hd : (x == ("__debug__" : Str)) = false := by decide) : PE X (.Name x pos) (lift X.K (wC (.str y))) := PE.ofC (pe_glob (v := .str y) hg hm ⟨tk, rfl⟩ hd) fun _ _ => .str y hl
/-- a def, a class of the module as a value -/
theorem de_gref {x : Str} {f : Addr} {pos : Pos} (hg : Gl X x) (hm : X.mg x = some (.ref f)) (hd : (x == ("__debug__" : Str)) = false := by decide) : PE X (.Name x pos) (lift X.K (wC (.ref f))) := PE.ofC (pe_glob (v := .ref f) hg hm rfl hd) fun _ _ => .ref f
/-- a built-in class as a value -/
theorem de_bty {x : Str} {n : String} {pos : Pos} (hg : Gl X x) (hm : X.mg x = none) (hv : bootBuiltins x = some (.type n)) (hn : x ≠ "__name__" := by decide) (hd : (x == ("__debug__" : Str)) = false := by decide) : PE X (.Name x pos) (lift X.K (wC (.ty n))) :=
  PE.ofC (pe_bltn (v := .ty n) hg hm hv rfl hn hd) fun _ _ => .ty n

/-! ### operators by values -/
abbrev DR2 := D → D → Gh → DQ → Prop
def OpD (K : PySem.W.Frag) (R : R2) (r : DR2) : Prop := ∀ F H G x y v w Qd Q, Rep K H F x v → Rep K H F y w → RelG K H F G → r x y G Qd → Kt K (Rep K) H F Qd Q → R v w H Q
def wOp (r : DR2) (ta tb : DE) : DE := fun σ G Q => ta σ G fun x G1 => tb σ G1 fun y G2 => r x y G2 Q
theorem tOp_lift {K : PySem.W.Frag} {R : R2} {r : DR2} (hr : OpD K R r) {σ H Q} (h : lift K (wOp r ta tb) σ H Q) : tOp R (lift K ta) (lift K tb) σ H Q := by
  obtain ⟨F, σd, G, Qd, hs, hg, h, k⟩ := h
  exact lift_bind hs hg h fun F1 x G1 v H1 s1 hs1 r1 g1 q1 => lift_bind hs1 g1 q1 fun F2 y G2 u H2 s2 hs2 r2 g2 q2 => hr F2 H2 G2 x y v u Qd Q (r1.stay s2) r2 g2 q2 (k.go (s1.trans s2))
theorem de_op {op : Operator} {R : R2} {r : DR2} (ho : OpR X (binaryOp op) R) (hr : OpD X.K R r) (ha : PE X a (lift X.K ta)) (hb : PE X b (lift X.K tb)) : PE X (.BinOp a op b pos) (lift X.K (wOp r ta tb)) :=
  PE.weak (pe_op ho ha hb) fun _ _ _ => tOp_lift hr
theorem de_cmp {op : CmpOp} {R : R2} {r : DR2} (ho : OpR X (compareOp op) R) (hr : OpD X.K R r) (ha : PE X a (lift X.K ta)) (hb : PE X b (lift X.K tb)) (hm : behindInMarks op b = false) : PE X (.Compare a [op] [b] pos) (lift X.K (wOp r ta tb)) :=
  PE.weak (pe_cmpR ho ha hb hm) fun _ _ _ => tOp_lift hr
/-- a value that is a bool, as a test -/
def wB (t : DE) : DT := fun σ G Q => t σ G fun x G1 => match x with | .bl k => Q k G1 | _ => False
theorem tTest_lift {K : PySem.W.Frag} {T : TE} (h : ∀ σ H Q, lift K t σ H Q → T σ H Q) {σ H Q} (q : liftT K (wB t) σ H Q) : tTest T σ H Q := by
  obtain ⟨F, σd, G, Qd, hs, hg, q, k⟩ := q
  refine h _ _ _ (lift_bind hs hg q fun F1 x G1 v H1 s1 hs1 r1 g1 q1 => ?_)
  cases r1 with
  | bl c => exact ⟨c, rfl, (k.go s1).here rfl g1 q1⟩
  | _ => exact q1.elim
theorem dt_cmp {op : CmpOp} {R : R2} {r : DR2} (ho : OpR X (compareOp op) R) (hr : OpD X.K R r) (ha : PE X a (lift X.K ta)) (hb : PE X b (lift X.K tb)) (hm : behindInMarks op b = false) : PT X (.Compare a [op] [b] pos) (liftT X.K (wB (wOp r ta tb))) :=
  PT.weak (pt_cmpR ho ha hb hm) fun _ _ _ => tTest_lift fun _ _ _ => tOp_lift hr
theorem dt_val (h : PE X e (lift X.K t)) (he : ∀ whole, isTrue e X.env whole = (do let v ← whole; standAt e.pos; holding [v] (truthy v)) := by intro _; rfl) : PT X e (liftT X.K (wB t)) :=
  PT.weak (pt_val h he) fun _ _ _ => tTest_lift (T := lift X.K t) fun _ _ _ q => q
/-- a < b < c -/
def wChain (r r' : DR2) (ta tb tc : DE) : DE := fun σ G Q => ta σ G fun x G1 => tb σ G1 fun y G2 => r x y G2 fun z G3 => match z with
  | .bl true => tc σ G3 fun u G4 => r' y u G4 Q
  | .bl false => Q (.bl false) G3
  | _ => False
theorem tChain_lift {K : PySem.W.Frag} {R R' : R2} {r r' : DR2} (hr : OpD K R r) (hr' : OpD K R' r') {σ H Q} (h : lift K (wChain r r' ta tb tc) σ H Q) : tChain R R' (lift K ta) (lift K tb) (lift K tc) σ H Q := by
  obtain ⟨F, σd, G, Qd, hs, hg, h, k⟩ := h
  refine lift_bind hs hg h fun F1 x G1 v H1 s1 hs1 r1 g1 q1 => lift_bind hs1 g1 q1 fun F2 y G2 u H2 s2 hs2 r2 g2 q2 => hr F2 H2 G2 x y v u _ _ (r1.stay s2) r2 g2 q2 fun F3 z G3 z' H3 s3 r3 g3 q3 => ?_
  cases r3 with
  | bl c =>
    refine ⟨c, rfl, ?_⟩
    cases c with
    | true =>
      exact iteT (lift_bind (hs2.stay s3) g3 q3 fun F4 z G4 z' H4 s4 hs4 r4 g4 q4 => hr' F4 H4 G4 y z u z' Qd Q ((r2.stay s3).stay s4) r4 g4 q4 (k.go (((s1.trans s2).trans s3).trans s4)))
    | false => exact iteF ((k.go ((s1.trans s2).trans s3)).here (.bl false) g3 q3)
  | _ => exact q3.elim
theorem de_chain {op op' : CmpOp} {R R' : R2} {r r' : DR2} (ho : OpR X (compareOp op) R) (ho' : OpR X (compareOp op') R') (hr : OpD X.K R r) (hr' : OpD X.K R' r') (ha : PE X a (lift X.K ta)) (hb : PE X b (lift X.K tb)) (hc : PE X c (lift X.K tc))
    (hm : lastMarks [op, op'] [b, c] = false := by with_unfolding_all rfl) : PE X (.Compare a [op, op'] [b, c] pos) (lift X.K (wChain r r' ta tb tc)) :=
  PE.weak (pe_chain ho ho' ha hb hc hm) fun _ _ _ => tChain_lift hr hr'
theorem dt_chain {op op' : CmpOp} {R R' : R2} {r r' : DR2} (ho : OpR X (compareOp op) R) (ho' : OpR X (compareOp op') R') (hr : OpD X.K R r) (hr' : OpD X.K R' r') (ha : PE X a (lift X.K ta)) (hb : PE X b (lift X.K tb)) (hc : PE X c (lift X.K tc))
    (hm : lastMarks [op, op'] [b, c] = false := by with_unfolding_all rfl) : PT X (.Compare a [op, op'] [b, c] pos) (liftT X.K (wB (wChain r r' ta tb tc))) :=
  PT.weak (pt_chain ho ho' ha hb hc hm) fun _ _ _ => tTest_lift fun _ _ _ => tChain_lift hr hr'

/-! ### and, or, not, if -/
variable {tA tB' : DT} {rest : List Expr}
def wAnd (t u : DT) : DT := fun σ G Q => t σ G fun c G1 => if c = true then u σ G1 Q else Q false G1
def wOr (t u : DT) : DT := fun σ G Q => t σ G fun c G1 => if c = true then Q true G1 else u σ G1 Q
def wNot (t : DT) : DT := fun σ G Q => t σ G fun c G1 => Q (!c) G1
theorem dw_and1 (ha : PT X a (liftT X.K tA)) : PW X (.BoolOp .And [a] pos) (liftT X.K tA) := pw_and1 ha
theorem dw_or1 (ha : PT X a (liftT X.K tA)) : PW X (.BoolOp .Or [a] pos) (liftT X.K tA) := pw_or1 ha
theorem PW.weak {T U : TT} (h : PW X e T) (i : ∀ σ H Q, U σ H Q → T σ H Q) : PW X e U := ⟨fun wh pins s σ H Q I q => h.run wh pins s σ H Q I (i σ H Q q)⟩
theorem dw_and (ha : PT X a (liftT X.K tA)) (hb : PW X (.BoolOp .And (b :: rest) pos) (liftT X.K tB')) : PW X (.BoolOp .And (a :: b :: rest) pos) (liftT X.K (wAnd tA tB')) :=
  PW.weak (pw_and ha hb) fun σ H Q ⟨F, σd, G, Qd, hs, hg, h, k⟩ => lift_bind hs hg h fun F1 x G1 v H1 s1 hs1 r1 g1 q1 => by
    subst r1
    cases x with
    | true => rw [if_pos rfl] at q1; exact iteT ⟨F1, σd, G1, Qd, hs1, g1, q1, k.go s1⟩
    | false => rw [if_neg Bool.false_ne_true] at q1; exact iteF ((k.go s1).here rfl g1 q1)
theorem dw_or (ha : PT X a (liftT X.K tA)) (hb : PW X (.BoolOp .Or (b :: rest) pos) (liftT X.K tB')) : PW X (.BoolOp .Or (a :: b :: rest) pos) (liftT X.K (wOr tA tB')) :=
  PW.weak (pw_or ha hb) fun σ H Q ⟨F, σd, G, Qd, hs, hg, h, k⟩ => lift_bind hs hg h fun F1 x G1 v H1 s1 hs1 r1 g1 q1 => by
    subst r1
    cases x with
    | true => rw [if_pos rfl] at q1; exact iteT ((k.go s1).here rfl g1 q1)
    | false => rw [if_neg Bool.false_ne_true] at q1; exact iteF ⟨F1, σd, G1, Qd, hs1, g1, q1, k.go s1⟩
theorem dt_not (ha : PT X a (liftT X.K tA)) : PT X (.UnaryOp .Not a pos) (liftT X.K (wNot tA)) :=
  PT.weak (pt_not ha) fun σ H Q ⟨F, σd, G, Qd, hs, hg, h, k⟩ => lift_bind hs hg h fun F1 x G1 v H1 s1 hs1 r1 g1 q1 => by
    subst r1
    exact (k.go s1).here rfl g1 q1
/-- .. as values -/
def wAndV (ta tb : DE) : DE := fun σ G Q => ta σ G fun x G1 => match x with | .bl true => tb σ G1 Q | .bl false => Q (.bl false) G1 | _ => False
def wOrV (ta tb : DE) : DE := fun σ G Q => ta σ G fun x G1 => match x with | .bl true => Q (.bl true) G1 | .bl false => tb σ G1 Q | _ => False
def wNotV (ta : DE) : DE := fun σ G Q => ta σ G fun x G1 => match x with | .bl c => Q (.bl (!c)) G1 | _ => False
theorem de_one {op} (h : PE X a (lift X.K t)) : PE X (.BoolOp op [a] pos) (lift X.K t) := pe_one h
theorem de_and (ha : PE X a (lift X.K ta)) (hb : PE X (.BoolOp .And (b :: rest) pos) (lift X.K tb)) : PE X (.BoolOp .And (a :: b :: rest) pos) (lift X.K (wAndV ta tb)) :=
  PE.weak (pe_and ha hb) fun σ H Q ⟨F, σd, G, Qd, hs, hg, h, k⟩ => lift_bind hs hg h fun F1 x G1 v H1 s1 hs1 r1 g1 q1 => by
    cases r1 with
    | bl c =>
      refine ⟨c, rfl, ?_⟩
      cases c with
      | true => exact iteT ⟨F1, σd, G1, Qd, hs1, g1, q1, k.go s1⟩
      | false => exact iteF ((k.go s1).here (.bl false) g1 q1)
    | _ => exact q1.elim
theorem de_or (ha : PE X a (lift X.K ta)) (hb : PE X (.BoolOp .Or (b :: rest) pos) (lift X.K tb)) : PE X (.BoolOp .Or (a :: b :: rest) pos) (lift X.K (wOrV ta tb)) :=
  PE.weak (pe_or ha hb) fun σ H Q ⟨F, σd, G, Qd, hs, hg, h, k⟩ => lift_bind hs hg h fun F1 x G1 v H1 s1 hs1 r1 g1 q1 => by
    cases r1 with
    | bl c =>
      refine ⟨c, rfl, ?_⟩
      cases c with
      | true => exact iteT ((k.go s1).here (.bl true) g1 q1)
      | false => exact iteF ⟨F1, σd, G1, Qd, hs1, g1, q1, k.go s1⟩
    | _ => exact q1.elim
theorem de_not (ha : PE X a (lift X.K ta)) : PE X (.UnaryOp .Not a pos) (lift X.K (wNotV ta)) :=
  PE.weak (pe_not ha) fun σ H Q ⟨F, σd, G, Qd, hs, hg, h, k⟩ => lift_bind hs hg h fun F1 x G1 v H1 s1 hs1 r1 g1 q1 => by
    cases r1 with
    | bl c => exact ⟨c, rfl, (k.go s1).here (.bl _) g1 q1⟩
    | _ => exact q1.elim
def wIf (t : DT) (ta tb : DE) : DE := fun σ G Q => t σ G fun c G1 => if c = true then ta σ G1 Q else tb σ G1 Q
theorem de_if (hc : PT X c (liftT X.K tA)) (ha : PE X a (lift X.K ta)) (hb : PE X b (lift X.K tb)) : PE X (.IfExp c a b pos) (lift X.K (wIf tA ta tb)) :=
  PE.weak (pe_ifExp hc ha hb) fun σ H Q ⟨F, σd, G, Qd, hs, hg, h, k⟩ => lift_bind hs hg h fun F1 x G1 v H1 s1 hs1 r1 g1 q1 => by
    subst r1
    cases x with
    | true => rw [if_pos rfl] at q1; exact iteT ⟨F1, σd, G1, Qd, hs1, g1, q1, k.go s1⟩
    | false => rw [if_neg Bool.false_ne_true] at q1; exact iteF ⟨F1, σd, G1, Qd, hs1, g1, q1, k.go s1⟩

/-! ### arguments, displays -/
variable {es : List Expr} {u : DA}
def wNil : DA := fun _ G Q => Q [] G
def wCons (ta : DE) (tr : DA) : DA := fun σ G Q => ta σ G fun x G1 => tr σ G1 fun xs G2 => Q (x :: xs) G2
theorem PA.weak {T U : TA} (h : PA X es T) (i : ∀ σ H Q, U σ H Q → T σ H Q) : PA X es U := ⟨fun p pins s σ H Q I q => h.run p pins s σ H Q I (i σ H Q q)⟩
theorem da_nil : PA X [] (liftA X.K wNil) := PA.weak pa_nil fun σ H Q ⟨F, σd, G, Qd, hs, hg, h, k⟩ => k.here .nil hg h
theorem da_cons (ha : PE X e (lift X.K t)) (hr : PA X es (liftA X.K u)) (hs : starEach (e :: es) X.env = (false, eval e X.env) :: starEach es X.env := by rfl) : PA X (e :: es) (liftA X.K (wCons t u)) :=
  PA.weak (pa_cons ha hr hs) fun σ H Q ⟨F, σd, G, Qd, hs, hg, h, k⟩ => lift_bind hs hg h fun F1 x G1 v H1 s1 hs1 r1 g1 q1 => lift_bind hs1 g1 q1 fun F2 y G2 w H2 s2 hs2 r2 g2 q2 =>
    (k.go (s1.trans s2)).here (.cons (r1.stay s2) r2) g2 q2
theorem RelG.tupled {K : PySem.W.Frag} {H : Hp} {F : FP} {G : Gh} (g : RelG K H F G) {p : Addr} {o : HO} (n : H p = none) : ¬ F.has p ∧ Stay K H F (upd H p o) F ∧ RelG K (upd H p o) F G := by
  have nf : ¬ F.has p := fun f => by obtain ⟨u, q⟩ := g.fo p f; rw [n] at q; cases q
  have s : Stay K H F (upd H p o) F := .laid n nf
  refine ⟨nf, s, g.keep s.toStayF (fun a f => ?_) g.dj fun a ob e => ⟨upd_ne fun q => ?_, (g.g a ob e).1⟩⟩
  · obtain ⟨u, q⟩ := g.fo a f
    exact ⟨u, by rw [upd_ne (ne_of_none q n)]; exact q⟩
  · obtain ⟨u, z⟩ := g.there e
    rw [q, n] at z; cases z
theorem Rep.newTup {K : PySem.W.Frag} {H : Hp} {F : FP} {p : Addr} {ds : List D} {vs : List V} (s : Stay K H F (upd H p (.tup vs)) F) (hl : ds.length ≤ sizeLine) (r : Reps K H F ds vs) : Rep K (upd H p (.tup vs)) F (.tup ds) (.ref p) :=
  .tup (SqT.of upd_same) hl (r.stay s)
/-- (a, b, ..) -/
def wTup (t : DA) : DE := fun σ G Q => t σ G fun xs G1 => xs.length ≤ sizeLine ∧ Q (.tup xs) G1
theorem de_tup {x1} (h : PA X es (liftA X.K u)) : PE X (.Tuple es x1 pos) (lift X.K (wTup u)) :=
  PE.weak (pe_tup h) fun σ H Q ⟨F, σd, G, Qd, hs, hg, h, k⟩ => lift_bind hs hg h fun F1 x G1 v H1 s1 hs1 r1 g1 q1 => by
    refine ⟨by rw [← r1.length]; exact q1.1, fun p hp => ?_⟩
    obtain ⟨nf, s, g⟩ := g1.tupled (o := .tup v) hp
    exact k _ _ _ _ _ (s1.trans s) (.newTup s q1.1 r1) g q1.2
/-- a new object is taken into G -/
theorem RelG.made {K : PySem.W.Frag} {H : Hp} {F : FP} {G : Gh} (g : RelG K H F G) {p : Addr} {o : HO} {u : GO} (n : H p = none) (q : GOk K (upd H p o) F p u) : RelG K (upd H p o) F (gup G p u) := by
  obtain ⟨nf, s, g'⟩ := g.tupled (o := o) n
  refine ⟨g'.fo, g'.dj, fun a ob e => ?_⟩
  by_cases z : a = p
  · subst z; rw [gup_same] at e; cases e; exact ⟨nf, q⟩
  · rw [gup_ne z] at e; exact g'.g a ob e
/-- [a, b, ..] that may change -/
def wLst (t : DA) : DE := fun σ G Q => t σ G fun xs G1 => xs.length ≤ sizeLine ∧ ∀ p, G1 p = none → Q (.ref p) (gup G1 p (.lst xs))
theorem de_lst (h : PA X es (liftA X.K u)) : PE X (.List es pos) (lift X.K (wLst u)) :=
  PE.weak (pe_lst h) fun σ H Q ⟨F, σd, G, Qd, hs, hg, h, k⟩ => lift_bind hs hg h fun F1 x G1 v H1 s1 hs1 r1 g1 q1 => by
    refine ⟨by rw [← r1.length]; exact q1.1, fun p hp => ?_⟩
    obtain ⟨nf, s, g⟩ := g1.tupled (o := .lst v) hp
    exact k _ _ _ _ _ (s1.trans s) (.ref p) (g1.made (u := .lst x) hp ⟨q1.1, v, upd_same, r1.stay s⟩) (q1.2 p (g1.gnone hp))
/-- what is frozen: one more -/
theorem Stay.froze {K : PySem.W.Frag} {H : Hp} {F : FP} {p : Addr} : Stay K H F H (F.add p) := ⟨⟨fun _ _ h => h, fun _ h => .inl h, fun _ _ => rfl⟩, fun _ h => ⟨h, rfl⟩⟩
theorem RelG.froze {K : PySem.W.Frag} {H : Hp} {F : FP} {G : Gh} (g : RelG K H F G) {p : Addr} {u : HO} (n : G p = none) (q : H p = some u) (np : ¬ F.pr p) : RelG K H (F.add p) G :=
  g.keep Stay.froze.toStayF (fun a h => by
    rcases h with (h | h) | h
    · exact g.fo a (.inl h)
    · exact ⟨u, h ▸ q⟩
    · exact g.fo a (.inr h)) (fun a h => h.elim (g.dj a) fun e => e ▸ np) fun a o e => ⟨rfl, fun h => by
    rcases h with (h | h) | h
    · exact (g.g a o e).1 (.inl h)
    · rw [h, n] at e; cases e
    · exact (g.g a o e).1 (.inr h)⟩
/-- [a, b, ..] that is never changed: a value -/
def wLstV (t : DA) : DE := fun σ G Q => t σ G fun xs G1 => xs.length ≤ sizeLine ∧ Q (.lst xs) G1
theorem froze_list {K : PySem.W.Frag} {H : Hp} {F : FP} {G : Gh} (g : RelG K H F G) {p : Addr} {ds : List D} {vs : List V} (n : H p = none) (hl : ds.length ≤ sizeLine) (r : Reps K H F ds vs) :
    Stay K H F (upd H p (.lst vs)) (F.add p) ∧ Rep K (upd H p (.lst vs)) (F.add p) (.lst ds) (.ref p) ∧ RelG K (upd H p (.lst vs)) (F.add p) G := by
  obtain ⟨nf, s, g'⟩ := g.tupled (o := .lst vs) n
  have s2 := s.trans (Stay.froze (K := K) (p := p))
  exact ⟨s2, .lst (.inr rfl) upd_same hl (r.stay s2), g'.froze (g.gnone n) upd_same fun z => nf (.inr z)⟩
theorem de_lstV (h : PA X es (liftA X.K u)) : PE X (.List es pos) (lift X.K (wLstV u)) :=
  PE.weak (pe_lst h) fun σ H Q ⟨F, σd, G, Qd, hs, hg, h, k⟩ => lift_bind hs hg h fun F1 x G1 v H1 s1 hs1 r1 g1 q1 => by
    refine ⟨by rw [← r1.length]; exact q1.1, fun p hp => ?_⟩
    obtain ⟨s, r, g⟩ := froze_list g1 hp q1.1 r1
    exact k _ _ _ _ _ (s1.trans s) r g q1.2
end
end DL

/-! DL3: operators and built-in calls by values. -/
namespace DL
open PySem PySem.Spec L2

/-! ### what a thing holds -/
def goL : Option GO → Option (List D)
  | some (.lst ds) => some ds
  | _ => none
def goK : Option GO → Option (List (Key × D))
  | some (.dic kvs) => some kvs
  | _ => none
def listOf (G : Gh) : D → Option (List D)
  | .lst ds => some ds
  | .ref a => goL (G a)
  | _ => none
def itemsOf (G : Gh) : D → Option (List D)
  | .tup ds => some ds
  | .lst ds => some ds
  | .ref a => goL (G a)
  | _ => none
def dictOf (G : Gh) : D → Option (List (Key × D))
  | .dic kvs => some kvs
  | .ref a => goK (G a)
  | _ => none
def keyOf : D → Option Key
  | .int i => some (.inl i)
  | .str x => some (.inr x)
  | _ => none
def valD (kvs : List (Key × D)) (k : Key) : Option D := (kvs.find? fun kv => decide (kv.1 = k)).map (·.2)
section
variable {K : PySem.W.Frag} {H : Hp} {F : FP} {G : Gh}
theorem goL_some {o : Option GO} {ds : List D} (h : goL o = some ds) : o = some (.lst ds) := by
  cases o with
  | none => cases h
  | some u => cases u <;> cases h; rfl
theorem goK_some {o : Option GO} {ds : List (Key × D)} (h : goK o = some ds) : o = some (.dic ds) := by
  cases o with
  | none => cases h
  | some u => cases u <;> cases h; rfl
theorem list_rep {d : D} {v : V} {ds : List D} (r : Rep K H F d v) (g : RelG K H F G) (h : listOf G d = some ds) : ds.length ≤ sizeLine ∧ ∃ a vs, v = .ref a ∧ H a = some (.lst vs) ∧ Reps K H F ds vs := by
  cases r with
  | lst f h1 h2 h3 => cases h; exact ⟨h2, _, _, rfl, h1, h3⟩
  | ref a =>
    obtain ⟨_, hl, vs, q1, q2⟩ := g.g a _ (goL_some h)
    exact ⟨hl, _, _, rfl, q1, q2⟩
  | _ => cases h
theorem items_rep {d : D} {v : V} {ds : List D} (r : Rep K H F d v) (g : RelG K H F G) (h : itemsOf G d = some ds) : ds.length ≤ sizeLine ∧ ∃ a vs, v = .ref a ∧ (SqL K H a vs ∨ SqT K H a vs) ∧ Reps K H F ds vs := by
  cases r with
  | tup h1 h2 h3 => cases h; exact ⟨h2, _, _, rfl, .inr h1, h3⟩
  | lst f h1 h2 h3 => cases h; exact ⟨h2, _, _, rfl, .inl (SqL.of h1), h3⟩
  | ref a =>
    obtain ⟨_, hl, vs, q1, q2⟩ := g.g a _ (goL_some h)
    exact ⟨hl, _, _, rfl, .inl (SqL.of q1), q2⟩
  | _ => cases h
theorem dict_rep {d : D} {v : V} {kvs : List (Key × D)} (r : Rep K H F d v) (g : RelG K H F G) (h : dictOf G d = some kvs) : kvs.length ≤ sizeLine ∧ ∃ a ks, v = .ref a ∧ H a = some (.dK ks) ∧ RepK K H F kvs ks := by
  cases r with
  | dic f h1 h2 h3 => cases h; exact ⟨h2, _, _, rfl, h1, h3⟩
  | ref a =>
    obtain ⟨_, hl, vs, q1, q2⟩ := g.g a _ (goK_some h)
    exact ⟨hl, _, _, rfl, q1, q2⟩
  | _ => cases h
theorem key_rep {d : D} {v : V} {k : Key} (r : Rep K H F d v) (h : keyOf d = some k) : v = kV k := by
  cases r <;> cases h <;> rfl
theorem repK_val {kvs : List (Key × D)} {ks : List (Key × V)} (r : RepK K H F kvs ks) (k : Key) : (∀ d, valD kvs k = some d → ∃ v, valV ks k = some v ∧ Rep K H F d v) ∧ (valD kvs k = none → valV ks k = none) := by
  induction kvs generalizing ks with
  | nil => cases r; exact ⟨fun d e => (by cases e), fun _ => rfl⟩
  | cons p t ih =>
    cases r with
    | @cons k' d' v' _ vs' r1 r2 =>
      obtain ⟨h1, h2⟩ := ih r2
      by_cases e : k' = k
      · refine ⟨fun d q => ?_, fun q => ?_⟩
        · have : valD ((k', d') :: t) k = some d' := by simp [valD, List.find?_cons, e]
          rw [this] at q; cases q
          exact ⟨v', valV_pos (p := (k', v')) e, r1⟩
        · have : valD ((k', d') :: t) k = some d' := by simp [valD, List.find?_cons, e]
          rw [this] at q; cases q
      · have e1 : valD ((k', d') :: t) k = valD t k := by simp [valD, List.find?_cons, e]
        have e2 : valV ((k', v') :: vs') k = valV vs' k := valV_neg (p := (k', v')) e
        rw [e1, e2]
        exact ⟨h1, h2⟩
theorem repK_isSome {kvs : List (Key × D)} {ks : List (Key × V)} (r : RepK K H F kvs ks) (k : Key) : (valV ks k).isSome = (valD kvs k).isSome := by
  obtain ⟨h1, h2⟩ := repK_val r k
  cases e : valD kvs k with
  | none => rw [h2 e]; rfl
  | some d => obtain ⟨v, q, _⟩ := h1 d e; rw [q]; rfl
theorem atI_rep {ds : List D} {vs : List V} {i : Int} {d : D} (r : Reps K H F ds vs) (h : atI ds i = some d) : ∃ v, atI vs i = some v ∧ Rep K H F d v := by
  unfold atI at h ⊢
  rw [← r.length]
  cases e : ixN ds.length i with
  | none => rw [e] at h; cases h
  | some j =>
    rw [e] at h
    exact r.get h
end

/-! ### arithmetic -/
def rI2 (C : Int → Int → Prop) (g : Int → Int → D) : DR2 := fun x y G Q => match x, y with | .int i, .int j => C i j ∧ Q (g i j) G | _, _ => False
def lst2 (o u : Option (List D)) (P : List D → List D → Prop) : Prop := match o, u with | some xs, some ys => P xs ys | _, _ => False
def rAdd : DR2 := fun x y G Q => match x with
  | .int i => match y with | .int j => Q (.int (i + j)) G | _ => False
  | .str i => match y with | .str j => i.length + j.length ≤ sizeLine ∧ Q (.str (i ++ j)) G | _ => False
  | .tup xs => match y with | .tup ys => xs.length + ys.length ≤ sizeLine ∧ Q (.tup (xs ++ ys)) G | _ => False
  | x => lst2 (listOf G x) (listOf G y) fun xs ys => xs.length + ys.length ≤ sizeLine ∧ Q (.lst (xs ++ ys)) G
def rSub : DR2 := fun x y G Q => match x, y with | .int i, .int j => Q (.int (i - j)) G | _, _ => False
def rMul : DR2 := rI2 CMul fun i j => .int (i * j)
def rDiv : DR2 := rI2 CDiv fun i j => .int (i / j)
def rMod : DR2 := rI2 (fun _ j => 0 < j) fun i j => .int (i % j)
def rPow : DR2 := rI2 CPow fun i j => .int (i ^ j.toNat)
def rCmpI (p : Int → Int → Bool) : DR2 := fun x y G Q => match x, y with | .int i, .int j => Q (.bl (p i j)) G | _, _ => False
section
variable {K : PySem.W.Frag}
theorem od_I2 {C : Int → Int → Prop} {g : Int → Int → Int} : OpD K (rI C fun i j => .int (g i j)) (rI2 C fun i j => .int (g i j)) := by
  intro F H G x y v w Qd Q rx ry hg h k
  cases rx <;> cases ry <;> first | exact (show False from h).elim | exact ⟨_, _, rfl, rfl, h.1, k.here (.int _) hg h.2⟩
theorem od_sub : OpD K (rI0 fun i j => .int (i - j)) rSub := by
  intro F H G x y v w Qd Q rx ry hg h k
  cases rx <;> cases ry <;> first | exact (show False from h).elim | exact ⟨_, _, rfl, rfl, k.here (.int _) hg h⟩
theorem od_cmpI {p : Int → Int → Bool} : OpD K (rI0 fun i j => .bl (p i j)) (rCmpI p) := by
  intro F H G x y v w Qd Q rx ry hg h k
  cases rx <;> cases ry <;> first | exact (show False from h).elim | exact ⟨_, _, rfl, rfl, k.here (.bl _) hg h⟩
def rStrAdd : R2 := fun x y H Q => ∃ i j, x = .str i ∧ y = .str j ∧ i.length + j.length ≤ sizeLine ∧ Q (.str (i ++ j)) H
/-- two lists (tracked, locked or written): a new one -/
def rAddV (K : PySem.W.Frag) : R2 := fun x y H Q => rI0 (fun i j => .int (i + j)) x y H Q ∨ rStrAdd x y H Q ∨ rCatA K x y H Q ∨ rCat x y H Q
theorem op_addV {X : Cx} : OpR X (binaryOp .Add) (rAddV X.K) := op_add.or (op_add_str.or (op_catA.or op_cat))
/-- a tuple laid, or one that stands -/
theorem Kt.tup {H : Hp} {F : FP} {G : Gh} {Qd : DQ} {Q : VK} (k : Kt K (Rep K) H F Qd Q) (g : RelG K H F G) {ds : List D} {vs : List V} (hl : ds.length ≤ sizeLine) (r : Reps K H F ds vs) (q : Qd (.tup ds) G) : ∀ p, H p = none → Q (.ref p) (upd H p (.tup vs)) := fun p hp => by
  obtain ⟨nf, s, g'⟩ := g.tupled (o := .tup vs) hp
  exact k _ _ _ _ _ s (.newTup s hl r) g' q
theorem Kt.lst {H : Hp} {F : FP} {G : Gh} {Qd : DQ} {Q : VK} (k : Kt K (Rep K) H F Qd Q) (g : RelG K H F G) {ds : List D} {vs : List V} (hl : ds.length ≤ sizeLine) (r : Reps K H F ds vs) (q : Qd (.lst ds) G) : ∀ p, H p = none → Q (.ref p) (upd H p (.lst vs)) := fun p hp => by
  obtain ⟨s, r', g'⟩ := froze_list g hp hl r
  exact k _ _ _ _ _ s r' g' q
theorem od_add : OpD K (rAddV K) rAdd := by
  intro F H G x y v w Qd Q rx ry hg h k
  have hlist : (lst2 (listOf G x) (listOf G y) fun xs ys => xs.length + ys.length ≤ sizeLine ∧ Qd (.lst (xs ++ ys)) G) → rAddV K v w H Q := by
    intro h
    unfold lst2 at h
    split at h
    · rename_i xs ys e1 e2
      obtain ⟨l1, a, vs, rfl, h1, r1⟩ := list_rep rx hg e1
      obtain ⟨l2, b, ws, rfl, h2, r2⟩ := list_rep ry hg e2
      exact .inr (.inr (.inr ⟨a, b, vs, ws, rfl, rfl, h1, h2, by rw [← r1.length, ← r2.length]; exact h.1, k.lst hg (by rw [List.length_append]; exact h.1) (r1.append r2) h.2⟩))
    · exact h.elim
  cases rx with
  | int i => cases ry with
    | int j => exact .inl ⟨i, j, rfl, rfl, k.here (.int _) hg h⟩
    | _ => exact (show False from h).elim
  | str i hi => cases ry with
    | str j hj => exact .inr (.inl ⟨i, j, rfl, rfl, h.1, k.here (.str _ (by rw [Str.length_append]; exact h.1)) hg h.2⟩)
    | _ => exact (show False from h).elim
  | @tup a vs ds h1 hl1 r1 => cases ry with
    | @tup b ws es h2 hl2 r2 =>
      refine .inr (.inr (.inl ⟨a, b, vs, ws, rfl, rfl, h1, h2, by rw [← r1.length, ← r2.length]; exact h.1, fun e => ?_, fun _ e => ?_, fun _ _ => ?_⟩))
      · subst e; cases r1; exact k.here (.tup h2 hl2 r2) hg (by simpa using h.2)
      · subst e; cases r2; exact k.here (.tup h1 hl1 r1) hg (by simpa using h.2)
      · exact k.tup hg (by rw [List.length_append]; exact h.1) (r1.append r2) h.2
    | _ => exact (show False from h).elim
  | _ => exact hlist h

/-! ### equality -/
mutual
def toP : D → Option PyData
  | .non => some .none
  | .bl b => some (.bool b)
  | .int i => some (.int i)
  | .str x => some (.str x)
  | .tup ds => match toPs ds with | some ps => some (.tuple ps) | none => none
  | .lst ds => match toPs ds with | some ps => some (.list ps) | none => none
  | _ => none
def toPs : List D → Option (List PyData)
  | [] => some []
  | d :: ds => match toP d with | some p => (match toPs ds with | some ps => some (p :: ps) | none => none) | none => none
end
mutual
theorem toP_rep {H : Hp} {F : FP} : ∀ {d : D} {v : V} {p : PyData}, Rep K H F d v → toP d = some p → Dp K H v p
  | _, _, _, .non, e => by simp only [toP] at e; cases e; exact .non
  | _, _, _, .bl b, e => by simp only [toP] at e; cases e; exact .bl b
  | _, _, _, .int i, e => by simp only [toP] at e; cases e; exact .int i
  | _, _, _, .str x h, e => by simp only [toP] at e; cases e; exact .str x
  | _, _, _, .ref a, e => by simp only [toP] at e; cases e
  | _, _, _, .ty n, e => by simp only [toP] at e; cases e
  | _, _, _, .scr _, e => by simp only [toP] at e; cases e
  | _, _, _, .dic _ _ _ _, e => by simp only [toP] at e; cases e
  | _, _, _, .obj _ _ _, e => by simp only [toP] at e; cases e
  | _, _, _, .tup (ds := ds) h hl r, e => by
    simp only [toP] at e
    cases q : toPs ds with
    | none => rw [q] at e; cases e
    | some ps => rw [q] at e; cases e; exact .tup h (toPs_rep r q)
  | _, _, _, .lst (ds := ds) f h hl r, e => by
    simp only [toP] at e
    cases q : toPs ds with
    | none => rw [q] at e; cases e
    | some ps => rw [q] at e; cases e; exact .lst (SqL.of h) (toPs_rep r q)
theorem toPs_rep {H : Hp} {F : FP} : ∀ {ds : List D} {vs : List V} {ps : List PyData}, Reps K H F ds vs → toPs ds = some ps → DpAll K H vs ps
  | _, _, _, .nil, e => by simp only [toPs] at e; cases e; exact .nil
  | _, _, _, .cons (d := d) (ds := ds) r t, e => by
    simp only [toPs] at e
    cases q : toP d with
    | none => rw [q] at e; cases e
    | some p =>
      rw [q] at e
      cases q2 : toPs ds with
      | none => rw [q2] at e; cases e
      | some ps => rw [q2] at e; cases e; exact .cons (toP_rep r q) (toPs_rep t q2)
end
/-- x == y (neg: x != y) -/
def rEqB (neg : Bool) : DR2 := fun x y G Q => match x, y with
  | .int i, .int j => Q (.bl (neg ^^ decide (i = j))) G
  | .str i, .str j => Q (.bl (neg ^^ decide (i = j))) G
  | .bl i, .bl j => Q (.bl (neg ^^ decide (i = j))) G
  | .non, .non => Q (.bl (neg ^^ true)) G
  | x, y => ∃ p q, toP x = some p ∧ toP y = some q ∧ SeqAt.shaped p = true ∧ SeqAt.shaped q = true ∧ Q (.bl (neg ^^ PyData.eqv p q)) G
theorem op_eqA {X : Cx} (hu : X.A.units + 64 < cLine) : OpR X (compareOp .Eq) (fun x y H Q => L2.rEq x y H Q ∨ rEqD X.K x y H Q) := op_eq.or (op_eqD hu)
theorem op_neA {X : Cx} (hu : X.A.units + 64 < cLine) : OpR X (compareOp .NotEq) (fun x y H Q => L2.rNe x y H Q ∨ rNeD X.K x y H Q) := op_ne.or (op_neD hu)
theorem od_eq : OpD K (fun x y H Q => L2.rEq x y H Q ∨ rEqD K x y H Q) (rEqB false) := by
  intro F H G x y v w Qd Q rx ry hg h k
  unfold rEqB at h
  split at h
  · cases rx; cases ry; refine .inl ⟨rfl, k.here (.bl _) hg ?_⟩; rename_i i j; simpa using h
  · cases rx; cases ry; refine .inl ⟨rfl, k.here (.bl _) hg ?_⟩; rename_i i j _ _; simpa using h
  · cases rx; cases ry; refine .inl ⟨rfl, k.here (.bl _) hg ?_⟩; rename_i i j; simpa using h
  · cases rx; cases ry; refine .inl ⟨rfl, k.here (.bl _) hg ?_⟩; simpa using h
  · obtain ⟨p, q, e1, e2, s1, s2, h⟩ := h
    exact .inr ⟨p, q, toP_rep rx e1, toP_rep ry e2, s1, s2, k.here (.bl _) hg (by simpa using h)⟩
theorem od_ne : OpD K (fun x y H Q => L2.rNe x y H Q ∨ rNeD K x y H Q) (rEqB true) := by
  intro F H G x y v w Qd Q rx ry hg h k
  unfold rEqB at h
  split at h
  · cases rx; cases ry; refine .inl ⟨rfl, k.here (.bl _) hg ?_⟩; rename_i i j; simpa using h
  · cases rx; cases ry; refine .inl ⟨rfl, k.here (.bl _) hg ?_⟩; rename_i i j _ _; simpa using h
  · cases rx; cases ry; refine .inl ⟨rfl, k.here (.bl _) hg ?_⟩; rename_i i j; simpa using h
  · cases rx; cases ry; refine .inl ⟨rfl, k.here (.bl _) hg ?_⟩; simpa using h
  · obtain ⟨p, q, e1, e2, s1, s2, h⟩ := h
    exact .inr ⟨p, q, toP_rep rx e1, toP_rep ry e2, s1, s2, k.here (.bl _) hg (by simpa using h)⟩
/-- is None, is not None -/
def rIsN (neg : Bool) : DR2 := fun x y G Q => match y with
  | .non => (match x with | .non => Q (.bl (neg ^^ true)) G | .same _ _ => False | _ => Q (.bl (neg ^^ false)) G)
  | _ => False
theorem isN_rep {H : Hp} {F : FP} {x : D} {v : V} (r : Rep K H F x v) (nx : x ≠ .non) (ns : ∀ v d, x ≠ .same v d) : v ≠ .non := by
  cases r <;> first | exact (nx rfl).elim | exact (ns _ _ rfl).elim | exact fun e => nomatch e
theorem od_isN : OpD K (fun x y H Q => y = .non ∧ Q (.bl (decide (x = .non))) H) (rIsN false) := by
  intro F H G x y v w Qd Q rx ry hg h k
  cases ry with
  | non =>
    refine ⟨rfl, ?_⟩
    cases rx with
    | non => exact k.here (.bl _) hg (by simpa [rIsN] using h)
    | same _ => exact (show False from h).elim
    | _ => exact k.here (.bl _) hg (by simpa [rIsN] using h)
  | _ => exact (show False from h).elim
theorem od_notN : OpD K (fun x y H Q => y = .non ∧ Q (.bl (!decide (x = .non))) H) (rIsN true) := by
  intro F H G x y v w Qd Q rx ry hg h k
  cases ry with
  | non =>
    refine ⟨rfl, ?_⟩
    cases rx with
    | non => exact k.here (.bl _) hg (by simpa [rIsN] using h)
    | same _ => exact (show False from h).elim
    | _ => exact k.here (.bl _) hg (by simpa [rIsN] using h)
  | _ => exact (show False from h).elim

/-! ### in -/
def flatD : D → Bool
  | .non => true | .bl _ => true | .int _ => true | .str _ => true | _ => false
def toV : D → V
  | .non => .non | .bl b => .bl b | .int i => .int i | .str x => .str x | _ => .non
def eqF (x y : D) : Bool := eqV (toV x) (toV y)
def inF (x : D) (ds : List D) : Bool := ds.any fun y => eqF y x
theorem flat_rep {H : Hp} {F : FP} {x : D} {v : V} (r : Rep K H F x v) (f : flatD x = true) : flatV v = true ∧ toV x = v := by
  cases r <;> first | exact ⟨rfl, rfl⟩ | cases f
theorem flats_rep {H : Hp} {F : FP} : ∀ {ds : List D} {vs : List V}, Reps K H F ds vs → ds.all flatD = true → vs.all flatV = true ∧ ds.map toV = vs
  | _, _, .nil, _ => ⟨rfl, rfl⟩
  | _, _, .cons r t, h => by
    simp only [List.all_cons, Bool.and_eq_true] at h
    obtain ⟨h1, h2⟩ := flat_rep r h.1
    obtain ⟨h3, h4⟩ := flats_rep t h.2
    exact ⟨by simp [h1, h3], by simp [h2, h4]⟩
def rInS (neg : Bool) : DR2 := fun x y G Q => match itemsOf G y with
  | some ds => flatD x = true ∧ ds.all flatD = true ∧ Q (.bl (neg ^^ inF x ds)) G
  | none => False
theorem od_inS (neg : Bool) : OpD K (rIn K neg) (rInS neg) := by
  intro F H G x y v w Qd Q rx ry hg h k
  unfold rInS at h
  split at h
  · rename_i ds e
    obtain ⟨fx, fs, h⟩ := h
    obtain ⟨hl, a, vs, rfl, hs, r⟩ := items_rep ry hg e
    obtain ⟨f1, e1⟩ := flat_rep rx fx
    obtain ⟨f2, e2⟩ := flats_rep r fs
    refine ⟨a, vs, rfl, hs, f1, f2, k.here (.bl _) hg ?_⟩
    have : inV v vs = inF x ds := by
      subst e1 e2
      unfold inV inF eqF
      rw [List.any_map]; rfl
    rw [this]
    cases neg <;> simpa using h
  · exact h.elim
def rInSign (neg : Bool) : DR2 := fun x y G Q => match x, y with
  | .str c, .str z => ∃ n, c = ⟨#[n]⟩ ∧ Q (.bl (neg ^^ decide (n ∈ z.cps.toList))) G
  | _, _ => False
theorem od_inSign : OpD K (fun x y H Q => ∃ (c : Nat) (z : Str), x = .str ⟨#[c]⟩ ∧ y = .str z ∧ Q (.bl (decide (c ∈ z.cps.toList))) H) (rInSign false) := by
  intro F H G x y v w Qd Q rx ry hg h k
  unfold rInSign at h
  split at h
  · obtain ⟨n, e, h⟩ := h
    subst e
    cases rx; cases ry
    exact ⟨n, _, rfl, rfl, k.here (.bl _) hg (by simpa using h)⟩
  · exact h.elim

/-! ### x[i] -/
def ixSeq (o : Option (List D)) (i : Int) (P : D → Prop) : Prop := match o with
  | some ds => (match atI ds i with | some d => P d | none => False)
  | none => False
def rIx2 : DR2 := fun x y G Q => match y with
  | .int i => (match x with
    | .str z => z.length ≤ sizeLine ∧ ∃ c, atI z.cps.toList i = some c ∧ Q (.str ⟨#[c]⟩) G
    | x => ixSeq (itemsOf G x) i fun d => Q d G)
  | _ => False
theorem od_ix : OpD K (rIx K) rIx2 := by
  intro F H G x y v w Qd Q rx ry hg h k
  cases ry with
  | int i =>
    have seq : (ixSeq (itemsOf G x) i fun d => Qd d G) → rIx K v (.int i) H Q := by
      intro h
      unfold ixSeq at h
      split at h
      · rename_i ds e
        split at h
        · rename_i d e2
          obtain ⟨hl, a, vs, rfl, hs, r⟩ := items_rep rx hg e
          obtain ⟨u, e3, r2⟩ := atI_rep r e2
          rcases hs with hs | hs
          · exact .inl ⟨a, vs, i, u, rfl, rfl, hs, e3, k.here r2 hg h⟩
          · exact .inr (.inl ⟨a, vs, i, u, rfl, rfl, hs, e3, k.here r2 hg h⟩)
        · exact h.elim
      · exact h.elim
    cases rx with
    | str z hz =>
      obtain ⟨hl, c, e, h⟩ := h
      exact .inr (.inr ⟨z, i, c, rfl, rfl, hl, e, k.here (.str _ (by show 1 ≤ sizeLine; decide)) hg h⟩)
    | _ => exact seq h
  | _ => exact (show False from h).elim
/-- one operator for values: the reading of a subscript -/
theorem de_ix {X : Cx} {a b : Expr} {ta tb : DE} {pos : Pos} {R : R2} {r : DR2} (ho : IxR X R) (hr : OpD X.K R r) (ha : PE X a (lift X.K ta)) (hb : PE X b (lift X.K tb)) (hs : PlainIx b := by exact fun _ _ => rfl) : PE X (.Subscript a b pos) (lift X.K (wOp r ta tb)) :=
  PE.weak (pe_ix ho ha hb hs) fun _ _ _ => tOp_lift hr
end
end DL

/-! DL4: built-in calls, slices, methods, fields. -/
namespace DL
open PySem PySem.Spec L2

/-! ### calls by values -/
abbrev DC := List D → Gh → DQ → Prop
def CallD (K : PySem.W.Frag) (R : List V → Hp → VK → Prop) (r : DC) : Prop := ∀ F H G ds vs Qd Q, Reps K H F ds vs → RelG K H F G → r ds G Qd → Kt K (Rep K) H F Qd Q → R vs H Q
def wCall (r : DC) (t : DA) : DE := fun σ G Q => t σ G fun xs G1 => r xs G1 Q
section
variable {X : Cx} {e : Expr} {es : List Expr} {t : DA} {x : Str} {id T : String} {R : List V → Hp → VK → Prop} {r : DC} {p pos : Pos}
theorem tCB_lift {K : PySem.W.Frag} (hr : CallD K R r) {σ H Q} (h : lift K (wCall r t) σ H Q) : tCB R (liftA K t) σ H Q := by
  obtain ⟨F, σd, G, Qd, hs, hg, h, k⟩ := h
  exact lift_bind hs hg h fun F1 x G1 v H1 s1 hs1 r1 g1 q1 => hr F1 H1 G1 x v Qd Q r1 g1 q1 (k.go s1)
theorem de_callB (hc : CallR X (.builtin id) R) (hr : CallD X.K R r) (hg : Gl X x) (hm : X.mg x = none) (hv : bootBuiltins x = some (.builtin id)) (ha : PA X (e :: es) (liftA X.K t)) (hn : x ≠ "__name__" := by decide) (hdb : (x == ("__debug__" : Str)) = false := by decide)
    (he : starEach (e :: es) X.env = (false, eval e X.env) :: starEach es X.env := by rfl) (hpl : (backTo pos (starEach es X.env)).any (·.1) = false := by rfl) : PE X (.Call (.Name x p) (e :: es) [] pos) (lift X.K (wCall r t)) :=
  PE.weak (pe_callB hc hg hm hv ha hn hdb he hpl) fun _ _ _ => tCB_lift hr
theorem de_callTy (hc : CallR X (.type T) R) (hr : CallD X.K R r) (hg : Gl X x) (hm : X.mg x = none) (hv : bootBuiltins x = some (.type T)) (ha : PA X (e :: es) (liftA X.K t)) (hn : x ≠ "__name__" := by decide) (hdb : (x == ("__debug__" : Str)) = false := by decide)
    (he : starEach (e :: es) X.env = (false, eval e X.env) :: starEach es X.env := by rfl) (hpl : (backTo pos (starEach es X.env)).any (·.1) = false := by rfl) : PE X (.Call (.Name x p) (e :: es) [] pos) (lift X.K (wCall r t)) :=
  PE.weak (pe_callTy hc hg hm hv ha hn hdb he hpl) fun _ _ _ => tCB_lift hr
end
section
variable {K : PySem.W.Frag}
def rLen : DC := fun ds G Q => match ds with
  | [x] => (match x with
    | .str z => Q (.int z.length) G
    | x => (match itemsOf G x with | some xs => Q (.int xs.length) G | none => False))
  | _ => False
theorem cd_len : CallD K (fun xs H Q => ∃ x n, xs = [x] ∧ LenV K x H n ∧ Q (.int n) H) rLen := by
  intro F H G ds vs Qd Q rs hg h k
  cases rs with
  | nil => exact (show False from h).elim
  | cons r t =>
    cases t with
    | cons _ _ => exact (show False from h).elim
    | nil =>
      rename_i x v
      have seq : (match itemsOf G x with | some xs => Qd (.int xs.length) G | none => False) → ∃ y n, [v] = [y] ∧ LenV K y H n ∧ Q (.int n) H := by
        intro h
        split at h
        · rename_i xs e
          obtain ⟨hl, a, ws, rfl, hs, r2⟩ := items_rep r hg e
          refine ⟨_, xs.length, rfl, ?_, k.here (.int _) hg h⟩
          rcases hs with hs | hs
          · exact .inl ⟨ws, hs, r2.length⟩
          · exact .inr ⟨ws, hs, r2.length⟩
        · exact h.elim
      cases r with
      | str z hz => exact ⟨_, z.length, rfl, ⟨hz, rfl⟩, k.here (.int _) hg h⟩
      | _ => exact seq h
/-- the ints, the truths of a list -/
def intsOf : List D → Option (List Int)
  | [] => some []
  | .int i :: r => (intsOf r).map (i :: ·)
  | _ => none
def blsOf : List D → Option (List Bool)
  | [] => some []
  | .bl i :: r => (blsOf r).map (i :: ·)
  | _ => none
theorem intsOf_map (ns : List Int) : intsOf (ns.map D.int) = some ns := by
  induction ns with
  | nil => rfl
  | cons n ns ih => simp [intsOf, ih]
theorem blsOf_map (ns : List Bool) : blsOf (ns.map D.bl) = some ns := by
  induction ns with
  | nil => rfl
  | cons n ns ih => simp [blsOf, ih]
theorem intsOf_rep {H : Hp} {F : FP} : ∀ {ds : List D} {vs : List V} {ns : List Int}, Reps K H F ds vs → intsOf ds = some ns → vs = ns.map V.int
  | _, _, _, .nil, e => by cases e; rfl
  | _, _, _, .cons (d := d) (ds := ds) r t, e => by
    cases r with
    | int i =>
      simp only [intsOf] at e
      cases q : intsOf ds with
      | none => rw [q] at e; cases e
      | some ms => rw [q] at e; cases e; rw [intsOf_rep t q]; rfl
    | _ => cases e
theorem blsOf_rep {H : Hp} {F : FP} : ∀ {ds : List D} {vs : List V} {ns : List Bool}, Reps K H F ds vs → blsOf ds = some ns → vs = ns.map V.bl
  | _, _, _, .nil, e => by cases e; rfl
  | _, _, _, .cons (d := d) (ds := ds) r t, e => by
    cases r with
    | bl i =>
      simp only [blsOf] at e
      cases q : blsOf ds with
      | none => rw [q] at e; cases e
      | some ms => rw [q] at e; cases e; rw [blsOf_rep t q]; rfl
    | _ => cases e
/-- sum, all, any of a list -/
def rSum : DC := fun ds G Q => match ds with
  | [x] => ∃ xs ns, listOf G x = some xs ∧ intsOf xs = some ns ∧ Q (.int ns.sum) G
  | _ => False
def rAll : DC := fun ds G Q => match ds with
  | [x] => ∃ xs ns, listOf G x = some xs ∧ blsOf xs = some ns ∧ Q (.bl (ns.all id)) G
  | _ => False
def rAny : DC := fun ds G Q => match ds with
  | [x] => ∃ xs ns, listOf G x = some xs ∧ blsOf xs = some ns ∧ Q (.bl (ns.any id)) G
  | _ => False
theorem cd_sum : CallD K (L2.rSum K) rSum := by
  intro F H G ds vs Qd Q rs hg h k
  cases rs with
  | nil => exact (show False from h).elim
  | cons r t =>
    cases t with
    | cons _ _ => exact (show False from h).elim
    | nil =>
      obtain ⟨xs, ns, e1, e2, h⟩ := h
      obtain ⟨hl, a, ws, rfl, hs, r2⟩ := list_rep r hg e1
      have e3 := intsOf_rep r2 e2
      subst e3
      exact ⟨a, ns, rfl, SqL.of hs, k.here (.int _) hg h⟩
theorem cd_all : CallD K (L2.rAll K) rAll := by
  intro F H G ds vs Qd Q rs hg h k
  cases rs with
  | nil => exact (show False from h).elim
  | cons r t =>
    cases t with
    | cons _ _ => exact (show False from h).elim
    | nil =>
      obtain ⟨xs, ns, e1, e2, h⟩ := h
      obtain ⟨hl, a, ws, rfl, hs, r2⟩ := list_rep r hg e1
      have e3 := blsOf_rep r2 e2
      subst e3
      exact ⟨a, ns, rfl, SqL.of hs, k.here (.bl _) hg h⟩
theorem cd_any : CallD K (L2.rAny K) rAny := by
  intro F H G ds vs Qd Q rs hg h k
  cases rs with
  | nil => exact (show False from h).elim
  | cons r t =>
    cases t with
    | cons _ _ => exact (show False from h).elim
    | nil =>
      obtain ⟨xs, ns, e1, e2, h⟩ := h
      obtain ⟨hl, a, ws, rfl, hs, r2⟩ := list_rep r hg e1
      have e3 := blsOf_rep r2 e2
      subst e3
      exact ⟨a, ns, rfl, SqL.of hs, k.here (.bl _) hg h⟩
/-- tuple(x), list(x) -/
def rTuple : DC := fun ds G Q => match ds with
  | [x] => (match itemsOf G x with | some xs => Q (.tup xs) G | none => False)
  | _ => False
theorem cd_tuple : CallD K (fun xs H Q => ∃ p ys, xs = [.ref p] ∧ ((SqL K H p ys ∧ ∀ l, H l = none → Q (.ref l) (upd H l (.tup ys))) ∨ (SqT K H p ys ∧ Q (.ref p) H))) rTuple := by
  intro F H G ds vs Qd Q rs hg h k
  cases rs with
  | nil => exact (show False from h).elim
  | cons r t =>
    cases t with
    | cons _ _ => exact (show False from h).elim
    | nil =>
      unfold rTuple at h
      dsimp only at h
      split at h
      · rename_i xs e
        obtain ⟨hl, a, ws, rfl, hs, r2⟩ := items_rep r hg e
        refine ⟨a, ws, rfl, ?_⟩
        rcases hs with hs | hs
        · exact .inl ⟨hs, k.tup hg hl r2 h⟩
        · exact .inr ⟨hs, k.here (.tup hs hl r2) hg h⟩
      · exact h.elim
/-- list(x): a value -/
def rList : DC := fun ds G Q => match ds with
  | [x] => (match itemsOf G x with | some xs => Q (.lst xs) G | none => False)
  | _ => False
theorem cd_list : CallD K (fun xs H Q => ∃ p ys, xs = [.ref p] ∧ (SqL K H p ys ∨ SqT K H p ys) ∧ ∀ l, H l = none → Q (.ref l) (upd H l (.lst ys))) rList := by
  intro F H G ds vs Qd Q rs hg h k
  cases rs with
  | nil => exact (show False from h).elim
  | cons r t =>
    cases t with
    | cons _ _ => exact (show False from h).elim
    | nil =>
      unfold rList at h
      dsimp only at h
      split at h
      · rename_i xs e
        obtain ⟨hl, a, ws, rfl, hs, r2⟩ := items_rep r hg e
        exact ⟨a, ws, rfl, hs, k.lst hg hl r2 h⟩
      · exact h.elim
/-- abs, int of ints -/
def rAbs : DC := fun ds G Q => match ds with | [.int i] => Q (.int (if i < 0 then -i else i)) G | _ => False
theorem cd_abs : CallD K (fun xs H Q => ∃ i, xs = [.int i] ∧ Q (.int (if i < 0 then -i else i)) H) rAbs := by
  intro F H G ds vs Qd Q rs hg h k
  unfold rAbs at h
  split at h
  · cases rs with | cons r t => cases t; cases r; exact ⟨_, rfl, k.here (.int _) hg h⟩
  · exact h.elim
def rInt : DC := fun ds G Q => match ds with | [.int i] => Q (.int i) G | _ => False
theorem cd_int : CallD K (fun xs H Q => (∃ i, xs = [.int i] ∧ Q (.int i) H) ∨ ∃ k, xs = [.bl k] ∧ Q (.int (if k then 1 else 0)) H) rInt := by
  intro F H G ds vs Qd Q rs hg h k
  unfold rInt at h
  split at h
  · cases rs with | cons r t => cases t; cases r; exact .inl ⟨_, rfl, k.here (.int _) hg h⟩
  · exact h.elim

/-! ### isinstance -/
inductive Tg where | non | bl | int | str | tup | lst | dic
  deriving DecidableEq
def Tg.nm : Tg → String
  | .non => "NoneType" | .bl => "bool" | .int => "int" | .str => "str" | .tup => "tuple" | .lst => "list" | .dic => "dict"
def goTag : Option GO → Option (Tg ⊕ Addr)
  | some (.lst _) => some (.inl .lst)
  | some (.dic _) => some (.inl .dic)
  | some (.ins C _) => some (.inr C)
  | some (.dit _ _) => none
  | none => none
def dataTag : D → Option (Tg ⊕ Addr)
  | .non => some (.inl .non) | .bl _ => some (.inl .bl) | .int _ => some (.inl .int) | .str _ => some (.inl .str)
  | .tup _ => some (.inl .tup) | .lst _ => some (.inl .lst) | .dic _ => some (.inl .dic)
  | _ => none
def tagOf (G : Gh) : D → Option (Tg ⊕ Addr)
  | .non => some (.inl .non) | .bl _ => some (.inl .bl) | .int _ => some (.inl .int) | .str _ => some (.inl .str)
  | .tup _ => some (.inl .tup) | .lst _ => some (.inl .lst) | .dic _ => some (.inl .dic)
  | .obj C _ => some (.inr C)
  | .ref a => goTag (G a)
  | .ty _ => none
  | .scr _ => none
  | .exc _ _ _ _ => none
  | .xo _ _ => none
  | .same _ d => dataTag d
structure ObjC (K : PySem.W.Frag) (C : Addr) : Prop where
  cl : Cls K C
  ha : PySem.W.findIn K (.ref C) "__class__" = some (some (.builtin "object.__class__"))
  hn : PySem.W.specialIn K (.builtin "object.__class__") "__get__" = some (some (.builtin "getset_descriptor.__get__"))
  ht : PySem.W.takesIn K (.builtin "object.__class__") = some true
  hm : PySem.W.mroIn K C (.type "object") = some true
def tagV : Tg ⊕ Addr → Value
  | .inl t => .type t.nm
  | .inr C => .ref C
/-- what isinstance(x, c) answers, by x's type -/
structure IsA (K : PySem.W.Frag) (c : V) (ans : Tg ⊕ Addr → Option Bool) : Prop where
  ok : ∃ cv, ClsV c cv ∧ ∀ t b, ans t = some b → PySem.W.kitOne K (tagV t) cv = some b ∧ ∀ C, t = .inr C → ObjC K C
theorem data_rep {H : Hp} {F : FP} {x : D} {v : V} {t : Tg ⊕ Addr} (r : Rep K H F x v) (e : dataTag x = some t) : TyX K H v (tagV t) ∧ ∀ C, t ≠ .inr C := by
  cases r with
  | non => cases e; exact ⟨.base .non, fun C z => by cases z⟩
  | bl b => cases e; exact ⟨.base (.bl b), fun C z => by cases z⟩
  | int i => cases e; exact ⟨.base (.int i), fun C z => by cases z⟩
  | str x h => cases e; exact ⟨.base (.str x), fun C z => by cases z⟩
  | tup h _ _ =>
    cases e
    refine ⟨?_, fun C z => by cases z⟩
    rcases h with (h | ⟨o, h⟩) | ⟨o, its, n, h1, h2, _⟩
    · exact .base (.tup h)
    · exact .fTuple h
    · exact .kTuple h1 h2
  | lst f h _ _ => cases e; exact ⟨.base (.lst h), fun C z => by cases z⟩
  | dic f h _ _ => cases e; exact ⟨.base (.dK h), fun C z => by cases z⟩
  | _ => cases e
theorem tag_rep {H : Hp} {F : FP} {G : Gh} {x : D} {v : V} {t : Tg ⊕ Addr} (r : Rep K H F x v) (hg : RelG K H F G) (e : tagOf G x = some t) (hC : ∀ C, t = .inr C → ObjC K C) : TyX K H v (tagV t) := by
  cases r with
  | non => cases e; exact .base .non
  | bl b => cases e; exact .base (.bl b)
  | int i => cases e; exact .base (.int i)
  | str x h => cases e; exact .base (.str x)
  | tup h _ _ =>
    cases e
    rcases h with (h | ⟨o, h⟩) | ⟨o, its, n, h1, h2, _⟩
    · exact .base (.tup h)
    · exact .fTuple h
    · exact .kTuple h1 h2
  | lst f h _ _ => cases e; exact .base (.lst h)
  | dic f h _ _ => cases e; exact .base (.dK h)
  | exc0 => cases e
  | exc _ _ _ => cases e
  | xo0 _ _ => cases e
  | xo _ _ _ _ _ => cases e
  | same r => exact (data_rep r e).1
  | @obj a C dx vs fs f h _ =>
    cases e
    have o := hC C rfl
    exact .base (.ins h o.cl o.ha o.hn o.ht o.hm)
  | ref a =>
    have e : goTag (G a) = some t := e
    cases q : G a with
    | none => rw [q] at e; cases e
    | some u =>
      rw [q] at e
      obtain ⟨_, ok⟩ := hg.g a u q
      cases u with
      | lst ds => cases e; obtain ⟨_, vs, h, _⟩ := ok; exact .base (.lst h)
      | dic ds => cases e; obtain ⟨_, vs, h, _⟩ := ok; exact .base (.dK h)
      | ins C fs =>
        cases e
        obtain ⟨dx, vs, h, _⟩ := ok
        have o := hC C rfl
        exact .base (.ins h o.cl o.ha o.hn o.ht o.hm)
      | dit hf kvs => cases e
  | ty n => cases e
  | scr _ => cases e
def isK (o : Option Bool) (P : Bool → Prop) : Prop := match o with | some b => P b | none => False
/-- isinstance(x, c), c the class that stands written -/
def rIsi (ans : Tg ⊕ Addr → Option Bool) : DC := fun ds G Q => match ds with
  | [x, _] => isK ((tagOf G x).bind ans) fun b => Q (.bl b) G
  | _ => False
def isB (T n : Tg) : Bool := decide (T = n) || (decide (T = .bl) && decide (n = .int))
theorem kitB_is (T n : Tg) : kitB T.nm n.nm = some (isB T n) := by
  cases T <;> cases n <;> decide +kernel
/-- .. c a built-in class; OC: the own classes that may come -/
def ansB (n : Tg) (OC : Addr → Bool) : Tg ⊕ Addr → Option Bool
  | .inl t => some (isB t n)
  | .inr C => if OC C then some false else none
theorem isA_B {n : Tg} {OC : Addr → Bool} (h : ∀ C, OC C = true → ObjC K C ∧ PySem.W.kitOne K (.ref C) (.type n.nm) = some false) : IsA K (.ty n.nm) (ansB n OC) := by
  refine ⟨_, .ty _, fun t b e => ?_⟩
  cases t with
  | inl t => cases e; exact ⟨kit_ty (kitB_is t n), fun C z => nomatch z⟩
  | inr C =>
    have e : (if OC C then some false else none) = some b := e
    split at e
    · rename_i q
      cases e
      exact ⟨(h C q).2, fun C' z => by cases z; exact (h C q).1⟩
    · cases e
theorem cd_isi {c : D} {cv : V} {ans : Tg ⊕ Addr → Option Bool} (A : IsA K cv ans) {F : FP} {H : Hp} {G : Gh} {x : D} {v : V} {Qd : DQ} {Q : VK} (rx : Rep K H F x v) (hg : RelG K H F G) (h : rIsi ans [x, c] G Qd) (k : Kt K (Rep K) H F Qd Q) : L2.rIsi K [v, cv] H Q := by
  obtain ⟨cv', hc, A⟩ := A.ok
  have h : isK ((tagOf G x).bind ans) fun b => Qd (.bl b) G := h
  cases e : tagOf G x with
  | none => rw [e] at h; exact (show False from h).elim
  | some t =>
    rw [e] at h
    have h : isK (ans t) fun b => Qd (.bl b) G := h
    cases e2 : ans t with
    | none => rw [e2] at h; exact h.elim
    | some b =>
      rw [e2] at h
      obtain ⟨h1, h2⟩ := A t b e2
      exact ⟨v, cv, tagV t, cv', b, rfl, hc, tag_rep rx hg e h2, h1, k.here (.bl b) hg h⟩
end
end DL

/-! DL5: isinstance, slices, methods, fields, dicts as expressions. -/
namespace DL
open PySem PySem.Spec L2

section
variable {X : Cx} {a b c e : Expr} {es : List Expr} {ta tb tc t : DE} {p pos p2 : Pos}
def wIsi (ans : Tg ⊕ Addr → Option Bool) (ta : DE) : DE := fun σ G Q => ta σ G fun x G1 => isK ((tagOf G1 x).bind ans) fun b => Q (.bl b) G1
theorem de_isi {ans : Tg ⊕ Addr → Option Bool} {cv : V} (A : IsA X.K cv ans) (hg : Gl X "isinstance") (hm : X.mg "isinstance" = none) (ha : PE X a (lift X.K ta)) (hc : PE X c (tC cv))
    (h1 : starEach [a, c] X.env = (false, eval a X.env) :: starEach [c] X.env := by rfl) (h2 : starEach [c] X.env = (false, eval c X.env) :: starEach [] X.env := by rfl) (hpl : (backTo pos (starEach [c] X.env)).any (·.1) = false := by rfl) :
    PE X (.Call (.Name "isinstance" p) [a, c] [] pos) (lift X.K (wIsi ans ta)) := by
  refine PE.weak (pe_callB call_isi hg hm PyProof.Rows.boot_isinstance (pa_cons ha (pa_cons hc pa_nil h2) h1) (by decide) (by decide) h1 hpl) fun σ H Q h => ?_
  obtain ⟨F, σd, G, Qd, hs, hg, h, k⟩ := h
  exact lift_bind hs hg h fun F1 x G1 v H1 s1 hs1 r1 g1 q1 => cd_isi (c := .non) A r1 g1 q1 (k.go s1)

/-! ### slices -/
abbrev DO := DSt → Gh → (Option Int → Gh → Prop) → Prop
abbrev liftO (K : PySem.W.Frag) (t : DO) : TO := liftG K REq t
def wNoPart : DO := fun _ G Q => Q none G
def wPart (t : DE) : DO := fun σ G Q => t σ G fun x G1 => match x with | .int i => Q (some i) G1 | _ => False
theorem PO.weak {eo : Option Expr} {T U : TO} (h : PO X eo T) (i : ∀ σ H Q, U σ H Q → T σ H Q) : PO X eo U := ⟨fun pins s σ H Q I q => h.run pins s σ H Q I (i σ H Q q)⟩
theorem do_none : PO X none (liftO X.K wNoPart) := PO.weak po_none fun σ H Q ⟨F, σd, G, Qd, hs, hg, h, k⟩ => k.here rfl hg h
theorem do_some (h : PE X e (lift X.K t)) : PO X (some e) (liftO X.K (wPart t)) := PO.weak (po_some h) fun σ H Q ⟨F, σd, G, Qd, hs, hg, h, k⟩ => lift_bind hs hg h fun F1 x G1 v H1 s1 hs1 r1 g1 q1 => by
  cases r1 with
  | int i => exact ⟨i, rfl, (k.go s1).here rfl g1 q1⟩
  | _ => exact (show False from q1).elim
def cutD (xs : List D) (lo hi : Option Int) : List D := (xs.drop (HT.sIx xs.length 0 lo)).take (HT.sIx xs.length xs.length hi - HT.sIx xs.length 0 lo)
def wSl (te : DE) (tl th : DO) : DE := fun σ G Q => te σ G fun x G1 => tl σ G1 fun lo G2 => th σ G2 fun hi G3 => match x with
  | .tup ds => Q (.tup (cutD ds lo hi)) G3
  | .str z => Q (.str (cutS z lo hi)) G3
  | .scr ns => Q (.lst (cutD (ns.map .int) lo hi)) G3
  | x => (match listOf G3 x with | some ds => Q (.lst (cutD ds lo hi)) G3 | none => False)
theorem cut_rep {K : PySem.W.Frag} {H : Hp} {F : FP} {ds : List D} {vs : List V} (r : Reps K H F ds vs) (lo hi : Option Int) : Reps K H F (cutD ds lo hi) (cutV vs lo hi) := by
  unfold cutD cutV
  rw [r.length]
  exact (r.drop _).take _
theorem cutD_length (xs : List D) (lo hi : Option Int) : (cutD xs lo hi).length ≤ xs.length := by
  unfold cutD
  rw [List.length_take, List.length_drop]
  omega
def rSlAll (K : PySem.W.Frag) : V → Option Int → Option Int → Hp → VK → Prop := fun x lo hi H Q => rSlA K x lo hi H Q ∨ rSlL K x lo hi H Q ∨ rSlS x lo hi H Q
theorem sl_all : SlR X (rSlAll X.K) := sl_tupA.or (sl_list.or sl_str)
theorem cutS_le (z : Str) (lo hi : Option Int) : (cutS z lo hi).length ≤ z.length := by
  unfold cutS
  simp only [Str.length, List.size_toArray, List.length_take, List.length_drop, Array.length_toList]
  omega
theorem de_slice {lo hi : Option Expr} {tl th : DO} (he : PE X e (lift X.K t)) (hl : PO X lo (liftO X.K tl)) (hu : PO X hi (liftO X.K th)) : PE X (.Subscript e (.Slice lo hi none p2) pos) (lift X.K (wSl t tl th)) := by
  refine PE.weak (pe_slice sl_all he hl hu) fun σ H Q ⟨F, σd, G, Qd, hs, hg, h, k⟩ => ?_
  refine lift_bind hs hg h fun F1 x G1 v H1 s1 hs1 r1 g1 q1 => lift_bind hs1 g1 q1 fun F2 l G2 l' H2 s2 hs2 e2 g2 q2 => lift_bind hs2 g2 q2 fun F3 u G3 u' H3 s3 hs3 e3 g3 q3 => ?_
  subst e2 e3
  have k3 := k.go ((s1.trans s2).trans s3)
  have r3 := (r1.stay s2).stay s3
  have seq : (match listOf G3 x with | some ds => Qd (.lst (cutD ds l u)) G3 | none => False) → rSlAll X.K v l u H3 Q := by
    intro h
    split at h
    · rename_i ds e
      obtain ⟨hl, a, vs, rfl, hs, r⟩ := list_rep r3 g3 e
      exact .inr (.inl ⟨a, vs, rfl, SqL.of hs, k3.lst g3 (Nat.le_trans (cutD_length _ _ _) hl) (cut_rep r l u) h⟩)
    · exact h.elim
  cases r3 with
  | @tup a vs ds hs hl r =>
    refine .inl ⟨a, vs, rfl, hs, fun w => ?_, fun _ => k3.tup g3 (Nat.le_trans (cutD_length _ _ _) hl) (cut_rep r l u) q3⟩
    refine k3.here (.tup hs hl r) g3 ?_
    have : cutD ds l u = ds := by
      unfold cutD
      rw [r.length, w.1, w.2, List.drop_zero, Nat.sub_zero, ← r.length, List.take_length]
    have q4 : Qd (.tup (cutD ds l u)) G3 := q3
    rw [this] at q4
    exact q4
  | str z hz => exact .inr (.inr ⟨z, rfl, hz, k3.here (.str _ (Nat.le_trans (cutS_le z l u) hz)) g3 q3⟩)
  | @scr a ns h =>
    have hq : SqL X.K H3 a (ns.map .int) := h.2.elim (fun z => .inl z.2) fun z => z H3
    exact .inr (.inl ⟨a, _, rfl, hq, k3.lst g3 (Nat.le_trans (cutD_length _ _ _) (by rw [List.length_map]; exact h.1)) (cut_rep (Reps.of_ints ns) l u) q3⟩)
  | _ => exact seq q3

/-! ### what changes -/
section
variable {K : PySem.W.Frag} {H : Hp} {F : FP} {G : Gh} {q : Addr} {o o' : GO} {u : HO}
theorem GOk.mut {a : Addr} {o : GO} (h : GOk K H F a o) : ∃ u, H a = some u ∧ (∀ xs, u ≠ .tup xs) ∧ ∀ ob w, u ≠ .frz ob w := by
  cases o with
  | lst ds => obtain ⟨_, vs, h, _⟩ := h; exact ⟨_, h, (fun _ e => by cases e), (fun _ _ e => by cases e)⟩
  | dic kvs => obtain ⟨_, vs, h, _⟩ := h; exact ⟨_, h, (fun _ e => by cases e), (fun _ _ e => by cases e)⟩
  | ins C fs => obtain ⟨dx, vs, h, _⟩ := h; exact ⟨_, h, (fun _ e => by cases e), (fun _ _ e => by cases e)⟩
  | dit hf kvs => obtain ⟨_, _, _, es, h, _⟩ := h; exact ⟨_, h, (fun _ e => by cases e), (fun _ _ e => by cases e)⟩
theorem RelG.wr (g : RelG K H F G) (e : G q = some o) : Stay K H F (upd H q u) F := by
  obtain ⟨nf, ok⟩ := g.g q o e
  obtain ⟨w, hw, n1, n2⟩ := ok.mut
  refine ⟨⟨fun a vs h => ?_, fun _ h => h, fun a h => upd_ne fun z => nf (z ▸ .inl h)⟩, fun a h => ⟨h, upd_ne fun z => nf (z ▸ .inr h)⟩⟩
  rcases h with (h | ⟨ob, h⟩) | h
  · exact .inl (.inl (by rw [upd_ne (fun z => by rw [z, hw] at h; cases h; exact n1 _ rfl)]; exact h))
  · exact .inl (.inr ⟨ob, by rw [upd_ne (fun z => by rw [z, hw] at h; cases h; exact n2 _ _ rfl)]; exact h⟩)
  · exact .inr h
theorem RelG.write (g : RelG K H F G) (e : G q = some o) (ok : GOk K (upd H q u) F q o') : RelG K (upd H q u) F (gup G q o') := by
  have s : Stay K H F (upd H q u) F := g.wr e
  have nf := (g.g q o e).1
  refine ⟨fun a f => ?_, g.dj, fun a ob e2 => ?_⟩
  · by_cases z : a = q
    · subst z; exact (nf f).elim
    · rw [upd_ne z]; exact g.fo a f
  · by_cases z : a = q
    · subst z; rw [gup_same] at e2; cases e2; exact ⟨nf, ok⟩
    · rw [gup_ne z] at e2
      obtain ⟨nf2, ok2⟩ := g.g a ob e2
      refine ⟨nf2, ?_⟩
      cases ob with
      | lst ds => obtain ⟨hl, vs, h, r⟩ := ok2; exact ⟨hl, vs, by rw [upd_ne z]; exact h, r.stay s⟩
      | dic kvs => obtain ⟨hl, vs, h, r⟩ := ok2; exact ⟨hl, vs, by rw [upd_ne z]; exact h, r.stay s⟩
      | ins C fs => obtain ⟨dx, vs, h, r⟩ := ok2; exact ⟨dx, vs, by rw [upd_ne z]; exact h, r.stay s⟩
      | dit hf kvs => obtain ⟨hl, hs, hn, es, h, r⟩ := ok2; exact ⟨hl, hs, hn, es, by rw [upd_ne z]; exact h, r.stay s⟩
end
/-- found.append(y), found.extend(ys): found may change -/
def wAppend (to ta : DE) : DE := fun σ G Q => to σ G fun x G1 => match x with
  | .ref q => (goL (G1 q)).isSome = true ∧ ta σ G1 fun y G2 => (match goL (G2 q) with | some ds => ds.length < sizeLine ∧ Q .non (gup G2 q (.lst (ds ++ [y]))) | none => False)
  | _ => False
def wExtend (to ta : DE) : DE := fun σ G Q => to σ G fun x G1 => match x with
  | .ref q => (goL (G1 q)).isSome = true ∧ ta σ G1 fun y G2 => (match goL (G2 q) with
    | some ds => (match listOf G2 y with | some ys => ds.length + ys.length ≤ sizeLine ∧ Q .non (gup G2 q (.lst (ds ++ ys))) | none => False)
    | none => False)
  | _ => False
theorem de_append {apos cpos : Pos} (ho : PE X a (lift X.K ta)) (hb : PE X b (lift X.K tb))
    (hbase : attributeBase a "append" X.env (eval a X.env) = eval a X.env := by rfl)
    (hfew : ((backTo cpos (starEach [b] X.env)).all (fun x => !x.1) && (backToKw cpos (keywordEach [] X.env)).all (fun x => x.1.isSome)
      && decide ([b].length + ([] : List Keyword).length + (if ([] : List Keyword).isEmpty then 0 else 1) < 30)) = true := by rfl)
    (hline : (apos.endLine == cpos.line) = true := by rfl) (hs : starEach [b] X.env = (false, eval b X.env) :: starEach [] X.env := by rfl) (hplain : (backTo cpos (starEach [] X.env)).any (·.1) = false := by rfl) :
    PE X (.Call (.Attribute a "append" apos) [b] [] cpos) (lift X.K (wAppend ta tb)) := by
  refine PE.weak (pe_bm PySem.F.plainAttrs_list PySem.F.slot_list_append PySem.F.type_list_append mt_append ho (pa_cons hb pa_nil hs) hbase hfew hline hs hplain) fun σ H Q ⟨F, σd, G, Qd, hs, hg, h, k⟩ => ?_
  refine lift_bind hs hg h fun F1 x G1 v H1 s1 hs1 r1 g1 q1 => ?_
  cases r1 with
  | ref q =>
    obtain ⟨e, q1⟩ := q1
    obtain ⟨ds, e⟩ := Option.isSome_iff_exists.mp e
    obtain ⟨nf, hl, vs, hq, r⟩ := g1.g q _ (goL_some e)
    refine ⟨.inl ⟨rfl, _, SqL.of hq⟩, ?_⟩
    refine lift_bind hs1 g1 q1 fun F2 y G2 w H2 s2 hs2 r2 g2 q2 => ?_
    split at q2
    · rename_i ds2 e2
      obtain ⟨nf2, hl2, vs2, hq2, r3⟩ := g2.g q _ (goL_some e2)
      refine ⟨q, vs2, w, rfl, rfl, hq2, by rw [← r3.length]; exact q2.1, ?_⟩
      have s3 : Stay X.K H2 F2 (upd H2 q (.lst (vs2 ++ [w]))) F2 := g2.wr (goL_some e2)
      exact k _ _ _ _ _ ((s1.trans s2).trans s3) .non (g2.write (o' := .lst (ds2 ++ [y])) (goL_some e2) ⟨by rw [List.length_append]; simp; omega, _, upd_same, (r3.snoc r2).stay s3⟩) q2.2
    · exact q2.elim
  | _ => exact (show False from q1).elim
theorem de_extend {apos cpos : Pos} (ho : PE X a (lift X.K ta)) (hb : PE X b (lift X.K tb))
    (hbase : attributeBase a "extend" X.env (eval a X.env) = eval a X.env := by rfl)
    (hfew : ((backTo cpos (starEach [b] X.env)).all (fun x => !x.1) && (backToKw cpos (keywordEach [] X.env)).all (fun x => x.1.isSome)
      && decide ([b].length + ([] : List Keyword).length + (if ([] : List Keyword).isEmpty then 0 else 1) < 30)) = true := by rfl)
    (hline : (apos.endLine == cpos.line) = true := by rfl) (hs : starEach [b] X.env = (false, eval b X.env) :: starEach [] X.env := by rfl) (hplain : (backTo cpos (starEach [] X.env)).any (·.1) = false := by rfl) :
    PE X (.Call (.Attribute a "extend" apos) [b] [] cpos) (lift X.K (wExtend ta tb)) := by
  refine PE.weak (pe_bm PySem.F.plainAttrs_list PySem.F.slot_list_extend PySem.F.type_list_extend mt_extend ho (pa_cons hb pa_nil hs) hbase hfew hline hs hplain) fun σ H Q ⟨F, σd, G, Qd, hs, hg, h, k⟩ => ?_
  refine lift_bind hs hg h fun F1 x G1 v H1 s1 hs1 r1 g1 q1 => ?_
  cases r1 with
  | ref q =>
    obtain ⟨e, q1⟩ := q1
    obtain ⟨ds, e⟩ := Option.isSome_iff_exists.mp e
    obtain ⟨nf, hl, vs, hq, r⟩ := g1.g q _ (goL_some e)
    refine ⟨.inl ⟨rfl, _, SqL.of hq⟩, ?_⟩
    refine lift_bind hs1 g1 q1 fun F2 y G2 w H2 s2 hs2 r2 g2 q2 => ?_
    split at q2
    · rename_i ds2 e2
      split at q2
      · rename_i ys e3
        obtain ⟨nf2, hl2, vs2, hq2, r3⟩ := g2.g q _ (goL_some e2)
        obtain ⟨hl3, b', ws, rfl, hb', r4⟩ := list_rep r2 g2 e3
        refine ⟨q, b', vs2, ws, rfl, rfl, hq2, hb', by rw [← r3.length, ← r4.length]; exact q2.1, ?_⟩
        have s3 : Stay X.K H2 F2 (upd H2 q (.lst (vs2 ++ ws))) F2 := g2.wr (goL_some e2)
        exact k _ _ _ _ _ ((s1.trans s2).trans s3) .non (g2.write (o' := .lst (ds2 ++ ys)) (goL_some e2) ⟨by rw [List.length_append]; exact q2.1, _, upd_same, (r3.append r4).stay s3⟩) q2.2
      · exact q2.elim
    · exact q2.elim
  | _ => exact (show False from q1).elim

/-! ### fields -/
def goI : Option GO → Option (Addr × List (Str × D))
  | some (.ins C fs) => some (C, fs)
  | _ => none
theorem goI_some {o : Option GO} {C : Addr} {fs : List (Str × D)} (h : goI o = some (C, fs)) : o = some (.ins C fs) := by
  cases o with
  | none => cases h
  | some u => cases u <;> cases h; rfl
def objOf (G : Gh) : D → Option (Addr × List (Str × D))
  | .obj C fs => some (C, fs)
  | .ref a => goI (G a)
  | _ => none
theorem obj_rep {K : PySem.W.Frag} {H : Hp} {F : FP} {G : Gh} {d : D} {v : V} {C : Addr} {fs : List (Str × D)} (r : Rep K H F d v) (g : RelG K H F G) (h : objOf G d = some (C, fs)) : ∃ a dx vs, v = .ref a ∧ H a = some (.ins C dx vs) ∧ RepF K H F fs vs := by
  cases r with
  | obj f h1 h2 => cases h; exact ⟨_, _, _, rfl, h1, h2⟩
  | ref a =>
    obtain ⟨_, dx, vs, q1, q2⟩ := g.g a _ (goI_some h)
    exact ⟨_, _, _, rfl, q1, q2⟩
  | _ => cases h
/-- o.f of an instance of the class at C -/
def wFld (C : Addr) (f : Str) (ta : DE) : DE := fun σ G Q => ta σ G fun x G1 => match objOf G1 x with
  | some (C', fs) => C' = C ∧ (match fs.lookup f with | some d => Q d G1 | none => False)
  | none => False
theorem de_fld {C : Addr} {f : Str} (c : Cls X.K C) (n : NoAttr X.K C f) (ha : PE X a (lift X.K ta)) (hb : attributeBase a f X.env (eval a X.env) = eval a X.env := by rfl) : PE X (.Attribute a f pos) (lift X.K (wFld C f ta)) := by
  refine PE.weak (pe_fld ha hb) fun σ H Q ⟨F, σd, G, Qd, hs, hg, h, k⟩ => ?_
  refine lift_bind hs hg h fun F1 x G1 v H1 s1 hs1 r1 g1 q1 => ?_
  split at q1
  · rename_i C' fs e
    obtain ⟨rfl, q1⟩ := q1
    obtain ⟨a', dx, vs, rfl, h1, h2⟩ := obj_rep r1 g1 e
    split at q1
    · rename_i d e2
      obtain ⟨v, e3, r⟩ := (h2.lookup f).1 d e2
      exact ⟨a', C', dx, vs, v, rfl, h1, c, n, e3, (k.go s1).here r g1 q1⟩
    · exact q1.elim
  · exact q1.elim

/-! ### dicts -/
def wDGet (td ty : DE) : DE := fun σ G Q => td σ G fun x G1 => ty σ G1 fun y G2 => ∃ kvs k d, dictOf G2 x = some kvs ∧ keyOf y = some k ∧ valD kvs k = some d ∧ Q d G2
def wDIn (neg : Bool) (ty td : DE) : DE := fun σ G Q => ty σ G fun y G1 => td σ G1 fun x G2 => ∃ kvs k, dictOf G2 x = some kvs ∧ keyOf y = some k ∧ Q (.bl (neg ^^ (valD kvs k).isSome)) G2
theorem de_dget (hu : X.A.units + 1 < cLine) (ho : PE X a (lift X.K ta)) (hi : PE X b (lift X.K tb)) (hs : NoSl b := by exact fun _ _ => rfl) : PE X (.Subscript a b pos) (lift X.K (wDGet ta tb)) := by
  refine PE.weak (pe_dget hu ho hi hs) fun σ H Q ⟨F, σd, G, Qd, hs, hg, h, k⟩ => ?_
  refine lift_bind hs hg h fun F1 x G1 v H1 s1 hs1 r1 g1 q1 => lift_bind hs1 g1 q1 fun F2 y G2 w H2 s2 hs2 r2 g2 q2 => ?_
  obtain ⟨kvs, kk, d, e1, e2, e3, q⟩ := q2
  obtain ⟨hl, a', ks, rfl, h1, h2⟩ := dict_rep (r1.stay s2) g2 e1
  have e4 := key_rep r2 e2
  subst e4
  obtain ⟨u, e5, r⟩ := (repK_val h2 kk).1 d e3
  exact ⟨a', u, rfl, by rw [← e5]; exact DGet.k h1, (k.go (s1.trans s2)).here r g2 q⟩
theorem de_din (hu : X.A.units + 1 < cLine) (hi : PE X b (lift X.K tb)) (ho : PE X a (lift X.K ta)) (h1 : behindInMarks .In a = false := by rfl) : PE X (.Compare b [.In] [a] pos) (lift X.K (wDIn false tb ta)) := by
  refine PE.weak (pe_cmp (pc_din hu hi ho) h1) fun σ H Q ⟨F, σd, G, Qd, hs, hg, h, k⟩ => ?_
  refine lift_bind hs hg h fun F1 x G1 v H1 s1 hs1 r1 g1 q1 => lift_bind hs1 g1 q1 fun F2 y G2 w H2 s2 hs2 r2 g2 q2 => ?_
  obtain ⟨kvs, kk, e1, e2, q⟩ := q2
  obtain ⟨hl, a', ks, rfl, h1, h2⟩ := dict_rep r2 g2 e1
  have e4 := key_rep (r1.stay s2) e2
  subst e4
  refine ⟨a', _, rfl, DGet.k h1, (k.go (s1.trans s2)).here (.bl _) g2 ?_⟩
  rw [repK_isSome h2 kk]
  simpa using q
theorem de_dnin (hu : X.A.units + 1 < cLine) (hi : PE X b (lift X.K tb)) (ho : PE X a (lift X.K ta)) (h1 : behindInMarks .NotIn a = false := by rfl) : PE X (.Compare b [.NotIn] [a] pos) (lift X.K (wDIn true tb ta)) := by
  refine PE.weak (pe_cmp (pc_dnotin hu hi ho) h1) fun σ H Q ⟨F, σd, G, Qd, hs, hg, h, k⟩ => ?_
  refine lift_bind hs hg h fun F1 x G1 v H1 s1 hs1 r1 g1 q1 => lift_bind hs1 g1 q1 fun F2 y G2 w H2 s2 hs2 r2 g2 q2 => ?_
  obtain ⟨kvs, kk, e1, e2, q⟩ := q2
  obtain ⟨hl, a', ks, rfl, h1, h2⟩ := dict_rep r2 g2 e1
  have e4 := key_rep (r1.stay s2) e2
  subst e4
  refine ⟨a', _, rfl, DGet.k h1, (k.go (s1.trans s2)).here (.bl _) g2 ?_⟩
  rw [repK_isSome h2 kk]
  simpa using q
/-- a dict that stands written in the module, text keys: tb its content -/
structure KDc (K : PySem.W.Frag) (w : World) (B : Addr) (tb : List (Str × D)) : Prop where
  ex : ∃ es n, KDict K w B es n
  at_ : ∀ z : Str, ∃ r, PySem.W.nsIn K B z = some r ∧ (match tb.lookup z with | none => r = none | some d => ∃ u v, r = some u ∧ RelV v u ∧ ∀ H F, Rep K H F d v)
def rKIn (neg : Bool) (B : Addr) (tb : List (Str × D)) : DR2 := fun x y G Q => match x with | .str z => (match y with | .ref a => a = B ∧ Q (.bl (neg ^^ (tb.lookup z).isSome)) G | _ => False) | _ => False
def rKGet (B : Addr) (tb : List (Str × D)) : DR2 := fun x y G Q => match x with | .ref a => (match y with | .str z => a = B ∧ (match tb.lookup z with | some d => Q d G | none => False) | _ => False) | _ => False
theorem od_kin {B : Addr} {tb : List (Str × D)} {w : World} {K : PySem.W.Frag} (T : KDc K w B tb) : OpD K (fun x y H Q => ∃ (z : Str) (r : Option Value), x = .str z ∧ y = .ref B ∧ PySem.W.nsIn K B z = some r ∧ Q (.bl r.isSome) H) (rKIn false B tb) := by
  intro F H G x y v u Qd Q rx ry hg h k
  cases rx with
  | str z hz => cases ry with
    | ref a =>
      obtain ⟨rfl, h⟩ := h
      obtain ⟨r, e, q⟩ := T.at_ z
      refine ⟨z, r, rfl, rfl, e, k.here (.bl _) hg ?_⟩
      cases l : tb.lookup z with
      | none => rw [l] at q h; rw [q]; exact h
      | some d => rw [l] at q h; obtain ⟨u, v, q, _⟩ := q; rw [q]; exact h
    | _ => exact (show False from h).elim
  | _ => exact (show False from h).elim
theorem od_knin {B : Addr} {tb : List (Str × D)} {w : World} {K : PySem.W.Frag} (T : KDc K w B tb) : OpD K (fun x y H Q => ∃ (z : Str) (r : Option Value), x = .str z ∧ y = .ref B ∧ PySem.W.nsIn K B z = some r ∧ Q (.bl (!r.isSome)) H) (rKIn true B tb) := by
  intro F H G x y v u Qd Q rx ry hg h k
  cases rx with
  | str z hz => cases ry with
    | ref a =>
      obtain ⟨rfl, h⟩ := h
      obtain ⟨r, e, q⟩ := T.at_ z
      refine ⟨z, r, rfl, rfl, e, k.here (.bl _) hg ?_⟩
      cases l : tb.lookup z with
      | none => rw [l] at q h; rw [q]; exact h
      | some d => rw [l] at q h; obtain ⟨u, v, q, _⟩ := q; rw [q]; exact h
    | _ => exact (show False from h).elim
  | _ => exact (show False from h).elim
theorem od_kget {B : Addr} {tb : List (Str × D)} {w : World} {K : PySem.W.Frag} (T : KDc K w B tb) : OpD K (rIxD K w) (rKGet B tb) := by
  intro F H G x y v u Qd Q rx ry hg h k
  cases rx with
  | ref a => cases ry with
    | str z hz =>
      obtain ⟨rfl, h⟩ := h
      obtain ⟨r, e, q⟩ := T.at_ z
      obtain ⟨es, n, D⟩ := T.ex
      cases l : tb.lookup z with
      | none => rw [l] at h; exact h.elim
      | some d =>
        rw [l] at q h
        obtain ⟨u, v, q, r1, r2⟩ := q
        exact ⟨a, z, v, rfl, rfl, ⟨es, n, u, D.at_, D.lit, by rw [e, q], r1⟩, k.here (r2 _ _) hg h⟩
    | _ => exact (show False from h).elim
  | _ => exact (show False from h).elim
end
end DL

/-! DL6: statements, loops, comprehensions. -/
namespace DL
open PySem PySem.Spec L2

/-- what an exception carries: nothing, or its own dict -/
def ExR (K : PySem.W.Frag) (H : Hp) (F : FP) (fs : List (Str × D)) (od : Option Addr) : Prop := (fs = [] ∧ od = none) ∨ ∃ d vs, od = some d ∧ F.fz d ∧ H d = some (.xd vs) ∧ RepF K H F fs vs
abbrev DXs := DSt → Addr → List (Str × D) → Gh → Prop
structure DEnds where
  nx : DSt → Gh → Prop
  rt : DQ
  bk : DSt → Gh → Prop := fun _ _ => False
  ct : DSt → Gh → Prop := fun _ _ => False
  ex : DXs := fun _ _ _ _ => False
abbrev DS := DEnds → DSt → Gh → Prop
section
variable (K : PySem.W.Frag) (W : WX)
structure KEnds (H : Hp) (F : FP) (Dd : DEnds) (D : Ends) : Prop where
  nx : Kt K (RelSt K) H F (fun σ G => Dd.nx σ G) (fun σ H => D.nx σ H)
  rt : Kt K (Rep K) H F Dd.rt D.rt
  bk : Kt K (RelSt K) H F (fun σ G => Dd.bk σ G) (fun σ H => D.bk σ H)
  ct : Kt K (RelSt K) H F (fun σ G => Dd.ct σ G) (fun σ H => D.ct σ H)
  ex : ∀ F' σd' C fs G' σ' H' od, Stay K H F H' F' → RelSt K H' F' σd' σ' → RelG K H' F' G' → ExR K H' F' fs od → Dd.ex σd' C fs G' → W (.ref C) od σ' H'
def liftS (t : DS) : TS := fun D σ H => ∃ F σd G Dd, RelSt K H F σd σ ∧ RelG K H F G ∧ t Dd σd G ∧ KEnds K W H F Dd D
end
section
variable {K : PySem.W.Frag} {H H' : Hp} {F F' : FP} {Dd : DEnds} {D : Ends}
theorem KEnds.go {W : WX} (k : KEnds K W H F Dd D) (s : Stay K H F H' F') : KEnds K W H' F' Dd D := ⟨k.nx.go s, k.rt.go s, k.bk.go s, k.ct.go s, fun F2 σ2 C fs G2 σ2' H2 od s2 => k.ex F2 σ2 C fs G2 σ2' H2 od (s.trans s2)⟩
end
section
variable {X : Cx} {W : WX} {st : Stmt} {rest : List Stmt} {t u : DS} {e : Expr} {te : DE} {pos : Pos}
def wNext : DS := fun D σ G => D.nx σ G
def wSeq (t u : DS) : DS := fun D σ G => t { D with nx := u D } σ G
theorem dss_nil : PSs X [] (liftS X.K W wNext) := PSs.weak pss_nil fun D σ H ⟨F, σd, G, Dd, hs, hg, h, k⟩ => k.nx.here hs hg h
theorem dss_cons (h1 : PS X st (liftS X.K W t)) (h2 : PSs X rest (liftS X.K W u)) : PSs X (st :: rest) (liftS X.K W (wSeq t u)) :=
  PSs.weak (pss_cons h1 h2) fun D σ H ⟨F, σd, G, Dd, hs, hg, h, k⟩ => ⟨F, σd, G, _, hs, hg, h, ⟨fun F1 σ1 G1 σ1' H1 s1 r1 g1 q1 => ⟨F1, σ1, G1, Dd, r1, g1, q1, k.go s1⟩, k.rt, k.bk, k.ct, k.ex⟩⟩
theorem dss_one (h1 : PS X st (liftS X.K W t)) : PSs X [st] (liftS X.K W t) := pss_one h1
def wBreak : DS := fun D σ G => D.bk σ G
def wCont : DS := fun D σ G => D.ct σ G
theorem ds_pass : PS X (.Pass pos) (liftS X.K W wNext) := PS.weak ps_pass fun D σ H ⟨F, σd, G, Dd, hs, hg, h, k⟩ => k.nx.here hs hg h
theorem ds_break : PS X (.Break pos) (liftS X.K W wBreak) := PS.weak ps_break fun D σ H ⟨F, σd, G, Dd, hs, hg, h, k⟩ => k.bk.here hs hg h
theorem ds_continue : PS X (.Continue pos) (liftS X.K W wCont) := PS.weak ps_continue fun D σ H ⟨F, σd, G, Dd, hs, hg, h, k⟩ => k.ct.here hs hg h
def wDrop (te : DE) : DS := fun D σ G => te σ G fun _ G1 => D.nx σ G1
theorem ds_expr (he : PE X e (lift X.K te)) (hs : swapsWith e none pos.line X.env = pure false := by rfl) : PS X (.Expr e pos) (liftS X.K W (wDrop te)) :=
  PS.weak (ps_expr he hs) fun D σ H ⟨F, σd, G, Dd, hs, hg, h, k⟩ => lift_bind hs hg h fun F1 x G1 v H1 s1 hs1 r1 g1 q1 => (k.go s1).nx.here hs1 g1 q1
def wRet (te : DE) : DS := fun D σ G => te σ G D.rt
theorem ds_ret (he : PE X e (lift X.K te)) : PS X (.Return (some e) pos) (liftS X.K W (wRet te)) :=
  PS.weak (ps_ret he) fun D σ H ⟨F, σd, G, Dd, hs, hg, h, k⟩ => ⟨F, σd, G, _, hs, hg, h, k.rt⟩
def wRetN : DS := fun D _ G => D.rt .non G
theorem ds_retN : PS X (.Return none pos) (liftS X.K W wRetN) := PS.weak ps_retN fun D σ H ⟨F, σd, G, Dd, hs, hg, h, k⟩ => k.rt.here .non hg h
def wIfS (c : DT) (t u : DS) : DS := fun D σ G => c σ G fun b G1 => if b = true then t D σ G1 else u D σ G1
theorem ds_if {c : Expr} {a b : List Stmt} {tc : DT} (hc : PT X c (liftT X.K tc)) (ha : PSs X a (liftS X.K W t)) (hb : PSs X b (liftS X.K W u)) : PS X (.If c a b pos) (liftS X.K W (wIfS tc t u)) :=
  PS.weak (ps_if hc ha hb) fun D σ H ⟨F, σd, G, Dd, hs, hg, h, k⟩ => lift_bind hs hg h fun F1 x G1 v H1 s1 hs1 r1 g1 q1 => by
    subst r1
    cases x with
    | true => rw [if_pos rfl] at q1; exact iteT ⟨F1, σd, G1, Dd, hs1, g1, q1, k.go s1⟩
    | false => rw [if_neg Bool.false_ne_true] at q1; exact iteF ⟨F1, σd, G1, Dd, hs1, g1, q1, k.go s1⟩
/-- what is never reached -/
def wNever : DS := fun _ _ _ => False
theorem ds_never : PS X st (liftS X.K W wNever) := PS.weak ps_never fun D σ H ⟨F, σd, G, Dd, hs, hg, h, k⟩ => h.elim
theorem dss_never {sts : List Stmt} : PSs X sts (liftS X.K W wNever) := PSs.weak pss_never fun D σ H ⟨F, σd, G, Dd, hs, hg, h, k⟩ => h.elim

/-! ### targets: names and tuples of names -/
abbrev DG := D → DSt → Gh → (DSt → Gh → Prop) → Prop
abbrev DGs := List D → DSt → Gh → (DSt → Gh → Prop) → Prop
/-- .. that store in the slots of vs alone -/
def liftTG (K : PySem.W.Frag) (vs : List Nat) (t : DG) : TG := fun v σ H Q => ∃ F d σd G Qd, Rep K H F d v ∧ RelSt K H F σd σ ∧ RelG K H F G ∧ t d σd G Qd ∧
  ∀ F' σd' G' σ' H', wipe σ' vs = wipe σ vs → Stay K H F H' F' → RelSt K H' F' σd' σ' → RelG K H' F' G' → Qd σd' G' → Q σ' H'
def liftTGs (K : PySem.W.Frag) (vs : List Nat) (t : DGs) : TGs := fun v σ H Q => ∃ F d σd G Qd, Reps K H F d v ∧ RelSt K H F σd σ ∧ RelG K H F G ∧ t d σd G Qd ∧
  ∀ F' σd' G' σ' H', wipe σ' vs = wipe σ vs → Stay K H F H' F' → RelSt K H' F' σd' σ' → RelG K H' F' G' → Qd σd' G' → Q σ' H'
theorem PG.weak {tg : Expr} {T U : TG} (h : PG X tg T) (i : ∀ v σ H Q, U v σ H Q → T v σ H Q) : PG X tg U := ⟨fun pins s σ H v u Q I r q => h.run pins s σ H v u Q I r (i v σ H Q q)⟩
theorem PGs.weak {tg : List Expr} {T U : TGs} (h : PGs X tg T) (i : ∀ v σ H Q, U v σ H Q → T v σ H Q) : PGs X tg U := ⟨fun pins s σ H v u Q I r q => h.run pins s σ H v u Q I r (i v σ H Q q)⟩
theorem wipe_set (x : Option V) : ∀ (vs : List Nat) (σ : L2.St) (i : Nat), i ∈ vs → wipe (σ.set i x) vs = wipe σ vs
  | [], _, _, h => nomatch h
  | j :: vs, σ, i, h => by
    show (wipe (σ.set i x) vs).set j none = (wipe σ vs).set j none
    rcases List.mem_cons.mp h with e | h
    · subst e
      have : ∀ (vs : List Nat) (σ : L2.St), (wipe (σ.set i x) vs).set i none = (wipe σ vs).set i none := by
        intro vs
        induction vs with
        | nil => intro σ; show (σ.set i x).set i none = σ.set i none; simp
        | cons k vs ih =>
          intro σ
          show ((wipe (σ.set i x) vs).set k none).set i none = ((wipe σ vs).set k none).set i none
          by_cases e : k = i
          · subst e; simp [ih]
          · rw [List.set_comm _ _ e, List.set_comm _ _ e, ih]
      exact this vs σ
    · rw [wipe_set x vs σ i h]
def wName (i : Nat) : DG := fun d σ G Q => Q (σ.set i (some d)) G
theorem dg_name {vs : List Nat} (i : Nat) {x : Str} (hN : X.N.Nodup) (hi : X.N[i]? = some x := by rfl) (hx : Loc X.env.scope x := by first | exact Or.inl rfl | exact Or.inr rfl) (hv : i ∈ vs := by decide) (hf : X.fn x = true ∨ X.env.scope.names.lookup x = some .local := by first | exact .inl rfl | exact .inr rfl | assumption) : PG X (.Name x pos) (liftTG X.K vs (wName i)) :=
  PG.weak (pg_name hN hi hx hf) fun v σ H Q ⟨F, d, σd, G, Qd, r, hs, hg, h, k⟩ => k F _ G _ H (wipe_set _ vs σ i hv) .refl (hs.set r i) hg h
def wGNil : DGs := fun vs σ G Q => vs = [] ∧ Q σ G
def wGCons (t : DG) (u : DGs) : DGs := fun vs σ G Q => match vs with | v :: r => t v σ G fun σ1 G1 => u r σ1 G1 Q | [] => False
theorem dgs_nil {vs : List Nat} : PGs X [] (liftTGs X.K vs wGNil) := PGs.weak pgs_nil fun v σ H Q ⟨F, d, σd, G, Qd, r, hs, hg, h, k⟩ => by
  obtain ⟨rfl, h⟩ := h
  cases r
  exact ⟨rfl, k F _ G _ H rfl .refl hs hg h⟩
theorem dgs_cons {vs : List Nat} {e : Expr} {es : List Expr} {t : DG} {u : DGs} (h1 : PG X e (liftTG X.K vs t)) (h2 : PGs X es (liftTGs X.K vs u))
    (hs : (assignEach (e :: es) X.env).map (·.2) = assign e X.env :: (assignEach es X.env).map (·.2) := by rfl) : PGs X (e :: es) (liftTGs X.K vs (wGCons t u)) :=
  PGs.weak (pgs_cons h1 h2 hs) fun v σ H Q ⟨F, d, σd, G, Qd, r, hs, hg, h, k⟩ => by
    cases r with
    | nil => exact (show False from h).elim
    | cons r rt =>
      refine ⟨_, _, rfl, F, _, σd, G, _, r, hs, hg, h, fun F1 σ1 G1 σ1' H1 w1 s1 rs1 g1 q1 => ⟨F1, _, σ1, G1, Qd, rt.stay s1, rs1, g1, q1, fun F2 σ2 G2 σ2' H2 w2 s2 rs2 g2 q2 => k F2 σ2 G2 σ2' H2 (w2.trans w1) (s1.trans s2) rs2 g2 q2⟩⟩
/-- (a, b, ..) = a tuple of that length -/
def wGTup (n : Nat) (t : DGs) : DG := fun d σ G Q => match d with | .tup xs => xs.length = n ∧ t xs σ G Q | _ => False
theorem dg_tup {vs : List Nat} {es : List Expr} {k : Nat} {t : DGs} {n : Nat} (hc : X.calm = true) (h : PGs X es (liftTGs X.K vs t))
    (hn : (assignEach es X.env).length = n := by rfl) (hst : (assignEach es X.env).findIdx? (·.1) = none := by rfl) : PG X (.Tuple es k pos) (liftTG X.K vs (wGTup n t)) :=
  PG.weak (pg_tup hc h hn hst) fun v σ H Q ⟨F, d, σd, G, Qd, r, hs, hg, h, k⟩ => by
    cases r with
    | @tup a ws ds h1 hl r => exact ⟨a, ws, rfl, h1, by rw [← r.length]; exact h.1, F, _, σd, G, Qd, r, hs, hg, h.2, k⟩
    | _ => exact (show False from h).elim

/-! ### assignments -/
def wAsg (te : DE) (g : DG) : DS := fun D σ G => te σ G fun x G1 => g x σ G1 D.nx
theorem ds_asg {vs : List Nat} {tg e : Expr} {g : DG} (he : PE X e (lift X.K te)) (hg : PG X tg (liftTG X.K vs g)) (hs : swapsWithSole [tg] e pos.line X.env = pure false := by rfl) (hw : swappedStores [tg] e X.env = pure none := by rfl)
    (h1 : (assignEach [tg] X.env).map (·.2) = [assign tg X.env] := by rfl) : PS X (.Assign [tg] e pos) (liftS X.K W (wAsg te g)) :=
  PS.weak (ps_asg he hg hs hw h1) fun D σ H ⟨F, σd, G, Dd, hs, hg, h, k⟩ => lift_bind hs hg h fun F1 x G1 v H1 s1 hs1 r1 g1 q1 =>
    ⟨F1, x, σd, G1, Dd.nx, r1, hs1, g1, q1, fun F2 σ2 G2 σ2' H2 _ s2 rs2 g2 q2 => (k.go (s1.trans s2)).nx.here rs2 g2 q2⟩
theorem ds_set (i : Nat) {x : Str} {e : Expr} {pos' : Pos} (hN : X.N.Nodup) (he : PE X e (lift X.K te)) (hi : X.N[i]? = some x := by rfl) (hx : Loc X.env.scope x := by first | exact Or.inl rfl | exact Or.inr rfl) (hs : swapsWith e (some (.Name x pos')) pos.line X.env = pure false := by rfl) (hf : X.fn x = true ∨ X.env.scope.names.lookup x = some .local := by first | exact .inl rfl | exact .inr rfl | assumption) :
    PS X (.Assign [.Name x pos'] e pos) (liftS X.K W (wAsg te (wName i))) :=
  PS.weak (ps_set hN hi hx he hs hf) fun D σ H ⟨F, σd, G, Dd, hs, hg, h, k⟩ => lift_bind hs hg h fun F1 x G1 v H1 s1 hs1 r1 g1 q1 => (k.go s1).nx.here (hs1.set r1 i) g1 q1
/-- a, b = x, y -/
def wPar (i j : Nat) (ta : DA) : DS := fun D σ G => ta σ G fun vs G1 => match vs with | [v, w] => D.nx ((σ.set i (some v)).set j (some w)) G1 | _ => False
theorem ds_par (i j : Nat) {x y : Str} {a b : Expr} {ta : DA} {px py pt : Pos} {kt k2 pt2} (hc : X.calm = true) (hN : X.N.Nodup) (ha : PA X [a, b] (liftA X.K ta)) (hi : X.N[i]? = some x := by rfl) (hj : X.N[j]? = some y := by rfl) (hij : i ≠ j := by decide)
    (hx : X.env.scope.names.lookup x = some .local := by rfl) (hy : X.env.scope.names.lookup y = some .local := by rfl)
    (hw : swappedStores [.Tuple [.Name x px, .Name y py] kt pt] (.Tuple [a, b] k2 pt2) X.env = pure (some [x, y]) := by rfl)
    (hs : swapsWithSole [.Tuple [.Name x px, .Name y py] kt pt] (.Tuple [a, b] k2 pt2) pos.line X.env = pure false := by rfl) :
    PS X (.Assign [.Tuple [.Name x px, .Name y py] kt pt] (.Tuple [a, b] k2 pt2) pos) (liftS X.K W (wPar i j ta)) :=
  PS.weak (ps_par hc hN hi hj hij hx hy ha hw hs) fun D σ H ⟨F, σd, G, Dd, hs, hg, h, k⟩ => lift_bind hs hg h fun F1 xs G1 vs H1 s1 hs1 r1 g1 q1 => by
    split at q1
    · cases r1 with
      | cons r1 t => cases t with
        | cons r2 t => cases t; exact ⟨_, _, rfl, (k.go s1).nx.here ((hs1.set r1 i).set r2 j) g1 q1⟩
    · exact q1.elim
/-- x += e, ints -/
def wAugI (i : Nat) (te : DE) (f : Int → Int → Int) : DS := fun D σ G => match slot σ i with
  | some (.int m) => te σ G fun y G1 => (match y with | .int n => D.nx (σ.set i (some (.int (f m n)))) G1 | _ => False)
  | _ => False
theorem ds_augI (i : Nat) {x : Str} {op : Operator} {f : Int → Int → Int} {pos' : Pos} (hN : X.N.Nodup) (he : PE X e (lift X.K te)) (ho : PIp X op (ipI f)) (hi : X.N[i]? = some x := by rfl) (hx : Loc X.env.scope x := by first | exact Or.inl rfl | exact Or.inr rfl) (hf : X.fn x = true ∨ X.env.scope.names.lookup x = some .local := by first | exact .inl rfl | exact .inr rfl | assumption) :
    PS X (.AugAssign (.Name x pos') op e pos) (liftS X.K W (wAugI i te f)) :=
  PS.weak (ps_aug hN hi hx he ho hf) fun D σ H ⟨F, σd, G, Dd, hs, hg, h, k⟩ => by
    unfold wAugI at h
    split at h
    · rename_i m e1
      obtain ⟨v, e2, r⟩ := hs.get (slot_some e1)
      cases r
      refine ⟨.int m, e2, lift_bind hs hg h fun F1 x G1 v H1 s1 hs1 r1 g1 q1 => ?_⟩
      cases r1 with
      | int n => exact ⟨m, n, rfl, rfl, (k.go s1).nx.here (hs1.set (.int _) i) g1 q1⟩
      | _ => exact (show False from q1).elim
    · exact h.elim
/-- xs[i] = e -/
def wSetL (tv to ti : DE) : DS := fun D σ G => tv σ G fun v G1 => to σ G1 fun x G2 => ti σ G2 fun i G3 => match x with
  | .ref p => (match i with
    | .int n => (match goL (G3 p) with
      | some ds => (match ixN ds.length n with | some j => D.nx σ (gup G3 p (.lst (ds.set j v))) | none => False)
      | none => False)
    | _ => False)
  | _ => False
theorem ds_setL {o i v : Expr} {tv to ti : DE} {pos' : Pos} (hv : PE X v (lift X.K tv)) (ho : PE X o (lift X.K to)) (hi : PE X i (lift X.K ti))
    (ha : ∀ v, assign (.Subscript o i pos') X.env v = (do
      let ov ← holding [v] (eval o X.env)
      let iv ← holding [v, ov] (eval i X.env)
      standAt pos'
      holding [v, ov, iv] (setItem ov iv v)
      release [v, ov, iv] []) := by intro _; rfl)
    (hs : swapsWithSole [.Subscript o i pos'] v pos.line X.env = pure false := by rfl) (hw : swappedStores [.Subscript o i pos'] v X.env = pure none := by rfl)
    (h1 : (assignEach [.Subscript o i pos'] X.env).map (·.2) = [assign (.Subscript o i pos') X.env] := by rfl) : PS X (.Assign [.Subscript o i pos'] v pos) (liftS X.K W (wSetL tv to ti)) := by
  refine PS.weak (ps_asg hv (pg_sub ho hi set_list ha) hs hw h1) fun D σ H ⟨F, σd, G, Dd, hs, hg, h, k⟩ => ?_
  refine lift_bind hs hg h fun F1 x G1 v H1 s1 hs1 r1 g1 q1 => lift_bind hs1 g1 q1 fun F2 y G2 w H2 s2 hs2 r2 g2 q2 => lift_bind hs2 g2 q2 fun F3 z G3 u H3 s3 hs3 r3 g3 q3 => ?_
  have r2' := r2.stay s3
  cases r2' with
  | ref p =>
    cases r3 with
    | int n =>
      dsimp only at q3
      split at q3
      · rename_i ds e
        split at q3
        · rename_i j e2
          obtain ⟨nf, hl, vs, hq, r⟩ := g3.g p _ (goL_some e)
          have s4 : Stay X.K H3 F3 (upd H3 p (.lst (vs.set j v))) F3 := g3.wr (goL_some e)
          refine ⟨p, vs, n, j, rfl, rfl, hq, by rw [← r.length]; exact e2, ?_⟩
          exact (k.go (((s1.trans s2).trans s3).trans s4)).nx.here (hs3.stay s4) (g3.write (o' := .lst (ds.set j x)) (goL_some e) ⟨by rw [List.length_set]; exact hl, _, upd_same, (r.set (((r1.stay s2).stay s3)) j).stay s4⟩) q3
        · exact q3.elim
      · exact q3.elim
    | _ => exact (show False from q3).elim
  | _ => exact (show False from q3).elim
/-- d[k] = e -/
def putD (kvs : List (Key × D)) (k : Key) (v : D) : List (Key × D) := if (kvs.any fun kv => decide (kv.1 = k)) = true then kvs.map fun kv => if kv.1 = k then (kv.1, v) else kv else kvs ++ [(k, v)]
def wSetD (tv td ty : DE) : DS := fun D σ G => tv σ G fun v G1 => td σ G1 fun x G2 => ty σ G2 fun y G3 => match x with
  | .ref p => (match goK (G3 p) with
      | some kvs => (match keyOf y with | some k => kvs.length < sizeLine ∧ D.nx σ (gup G3 p (.dic (putD kvs k v))) | none => False)
      | none => False)
  | _ => False
theorem RepK.any {K : PySem.W.Frag} {H : Hp} {F : FP} {kvs : List (Key × D)} {ks : List (Key × V)} (r : RepK K H F kvs ks) (k : Key) : (kvs.any fun kv => decide (kv.1 = k)) = ks.any fun kv => decide (kv.1 = k) := by
  induction kvs generalizing ks with
  | nil => cases r; rfl
  | cons p t ih => cases r with | cons r1 r2 => simp [ih r2]
theorem RepK.repl {K : PySem.W.Frag} {H : Hp} {F : FP} {d : D} {v : V} (rv : Rep K H F d v) (k : Key) {kvs : List (Key × D)} {ks : List (Key × V)} (r : RepK K H F kvs ks) : RepK K H F (kvs.map fun kv => if kv.1 = k then (kv.1, d) else kv) (ks.map fun kv => if kv.1 = k then (kv.1, v) else kv) := by
  induction kvs generalizing ks with
  | nil => cases r; exact .nil
  | cons p t ih => cases r with
    | @cons k' d' v' _ vs' r1 r2 =>
      rw [List.map_cons, List.map_cons]
      by_cases e : k' = k
      · simp only [e, if_true]; exact .cons rv (ih r2)
      · simp only [e, if_false]; exact .cons r1 (ih r2)
theorem RepK.app {K : PySem.W.Frag} {H : Hp} {F : FP} {a b : List (Key × D)} {c d : List (Key × V)} (r : RepK K H F a c) (s : RepK K H F b d) : RepK K H F (a ++ b) (c ++ d) := by
  induction a generalizing c with
  | nil => cases r; exact s
  | cons p t ih => cases r with | cons r1 r2 => exact .cons r1 (ih r2)
theorem RepK.put {K : PySem.W.Frag} {H : Hp} {F : FP} {d : D} {v : V} (rv : Rep K H F d v) (k : Key) {kvs : List (Key × D)} {ks : List (Key × V)} (r : RepK K H F kvs ks) : RepK K H F (putD kvs k d) (putK ks k v) := by
  unfold putD putK
  rw [r.any k]
  split
  · exact r.repl rv k
  · exact r.app (.cons rv .nil)
theorem putD_length (kvs : List (Key × D)) (k : Key) (v : D) : (putD kvs k v).length ≤ kvs.length + 1 := by
  unfold putD
  split
  · rw [List.length_map]; omega
  · simp
theorem ds_setD {o i v : Expr} {tv to ti : DE} {pos' : Pos} (hu : X.A.units + 1 < cLine) (hv : PE X v (lift X.K tv)) (ho : PE X o (lift X.K to)) (hi : PE X i (lift X.K ti)) (hsw : swapsWith v (some (.Subscript o i pos')) pos.line X.env = pure false := by rfl) :
    PS X (.Assign [.Subscript o i pos'] v pos) (liftS X.K W (wSetD tv to ti)) := by
  refine PS.weak (ps_dput hu ho hi hv hsw) fun D σ H ⟨F, σd, G, Dd, hs, hg, h, k⟩ => ?_
  refine lift_bind hs hg h fun F1 x G1 v H1 s1 hs1 r1 g1 q1 => lift_bind hs1 g1 q1 fun F2 y G2 w H2 s2 hs2 r2 g2 q2 => lift_bind hs2 g2 q2 fun F3 z G3 u H3 s3 hs3 r3 g3 q3 => ?_
  have r2' := r2.stay s3
  cases r2' with
  | ref p =>
    dsimp only at q3
    split at q3
    · rename_i kvs e
      split at q3
      · rename_i kk e2
        obtain ⟨nf, hl, vs, hq, r⟩ := g3.g p _ (goK_some e)
        have e3 := key_rep r3 e2
        subst e3
        have s4 : Stay X.K H3 F3 (upd H3 p (.dK (putK vs kk v))) F3 := g3.wr (goK_some e)
        refine ⟨p, _, rfl, DPut.k hq (by rw [← r.length]; exact q3.1), ?_⟩
        exact (k.go (((s1.trans s2).trans s3).trans s4)).nx.here (hs3.stay s4) (g3.write (o' := .dic (putD kvs kk x)) (goK_some e) ⟨Nat.le_trans (putD_length _ _ _) q3.1, _, upd_same, (RepK.put ((r1.stay s2).stay s3) kk r).stay s4⟩) q3.2
      · exact q3.elim
    · exact q3.elim
  | _ => exact (show False from q3).elim
end
end DL

/-! DL7: what is walked, for, comprehensions. -/
namespace DL
open PySem PySem.Spec L2

/-- J walks these items, wherever chk holds of what may change -/
structure JOk (K : PySem.W.Frag) (F : FP) (H : Hp) (J : It) (items : List D) (chk : Gh → Prop) : Prop where
  stop : ∀ F' H' G', Stay K H F H' F' → RelG K H' F' G' → chk G' → J.stop items.length H'
  go : ∀ i d F' H' G', items[i]? = some d → Stay K H F H' F' → RelG K H' F' G' → chk G' → J.go i H' ∧ ∀ x H2, J.yld i H' x H2 → Stay K H' F' H2 F' ∧ Rep K H2 F' d x ∧ RelG K H2 F' G'
theorem JOk.stay {K : PySem.W.Frag} {F F' : FP} {H H' : Hp} {J : It} {items : List D} {chk : Gh → Prop} (j : JOk K F H J items chk) (s : Stay K H F H' F') : JOk K F' H' J items chk :=
  ⟨fun F2 H2 G2 s2 => j.stop F2 H2 G2 (s.trans s2), fun i d F2 H2 G2 e s2 => j.go i d F2 H2 G2 e (s.trans s2)⟩
abbrev DI := DSt → Gh → (List D → (Gh → Prop) → Gh → Prop) → Prop
def liftI (K : PySem.W.Frag) (t : DI) : TI := fun σ H R => ∃ F σd G Qd, RelSt K H F σd σ ∧ RelG K H F G ∧ t σd G Qd ∧
  ∀ F' items chk G' J H', Stay K H F H' F' → JOk K F' H' J items chk → RelG K H' F' G' → Qd items chk G' → R J H'
section
variable {X : Cx} {W : WX} {tg l a b : Expr} {t ta tb : DE} {p pos : Pos}
theorem PI.weak {tg l : Expr} {T U : TI} (h : PI X tg l T) (i : ∀ σ H R, U σ H R → T σ H R) : PI X tg l U := ⟨fun pins s σ H R I q => h.run pins s σ H R I (i σ H R q)⟩
/-- a list or a tuple -/
def iSeq (K : PySem.W.Frag) (tl : TE) : TI := fun σ H R => tl σ H fun x H1 => ∃ a, x = .ref a ∧ (((∃ xs, SqL K H1 a xs) ∧ R (Itl K a) H1) ∨ ((∃ xs, SqT K H1 a xs) ∧ R (Itt K a) H1))
theorem pi_seq {tl : TE} (hl : PE X l tl) : PI X tg l (iSeq X.K tl) := by
  refine ⟨fun pins s σ H R I h => ?_⟩
  refine thn (hl.run pins s σ H _ I h) fun v s1 ⟨x, H1, I1, r1, q1⟩ => ?_
  obtain ⟨a, e, q⟩ := q1
  subst e
  cases r1
  rcases q with ⟨⟨xs, hq⟩, q⟩ | ⟨⟨xs, hq⟩, q⟩
  · obtain ⟨its, rv, p, hz⟩ := I1.list hq
    refine wpAny_pyIter_list p.isList ?_
    refine ⟨s1.heap.objs.size, [s1.heap.objs.size], _, _, H1, rfl, I1.kept (t' := s1.toks) fun b o e => Heap.get?_push_of_some _ e, turn_list a _, ⟨_, Heap.get?_push_size _ rfl, rfl, rfl⟩, fun b hb => ?_, q⟩
    have e : b = s1.heap.objs.size := by simpa using hb
    subst e
    exact I1.fpOk (Nat.le_refl _) (I1.hok.fresh (Nat.le_refl _))
  · obtain ⟨its, rv, p, hz⟩ := I1.tuple hq
    refine wpAny_pyIter_tuple (show s1.heap.IsTuple a its.toArray from p) ?_
    refine ⟨s1.heap.objs.size, [s1.heap.objs.size], _, _, H1, rfl, I1.kept (t' := s1.toks) fun b o e => Heap.get?_push_of_some _ e, turn_tuple a _, ⟨_, Heap.get?_push_size _ rfl, rfl, rfl⟩, fun b hb => ?_, q⟩
    have e : b = s1.heap.objs.size := by simpa using hb
    subst e
    exact I1.fpOk (Nat.le_refl _) (I1.hok.fresh (Nat.le_refl _))
def wISeq (te : DE) : DI := fun σ G Q => te σ G fun x G1 => match itemsOf G1 x with | some ds => Q ds (fun G' => itemsOf G' x = some ds) G1 | none => False
theorem di_seq (hl : PE X l (lift X.K t)) : PI X tg l (liftI X.K (wISeq t)) :=
  PI.weak (pi_seq hl) fun σ H R ⟨F, σd, G, Qd, hs, hg, h, k⟩ => lift_bind hs hg h fun F1 x G1 v H1 s1 hs1 r1 g1 q1 => by
    split at q1
    · rename_i ds e
      have one : ∀ {a : Addr} {F2 : FP} {H2 : Hp} {G2 : Gh} {vs : List V} {i : Nat} {d : D}, SqL X.K H2 a vs → Reps X.K H2 F2 ds vs → RelG X.K H2 F2 G2 → ds[i]? = some d →
          (Itl X.K a).go i H2 ∧ ∀ x H3, (Itl X.K a).yld i H2 x H3 → Stay X.K H2 F2 H3 F2 ∧ Rep X.K H3 F2 d x ∧ RelG X.K H3 F2 G2 := by
        intro a F2 H2 G2 vs i d hq r g2 e2
        obtain ⟨u, e3, r3⟩ := r.get e2
        refine ⟨⟨vs, u, hq, e3⟩, fun x H3 y => ?_⟩
        obtain ⟨rfl, y⟩ := y
        have := y vs hq
        rw [e3] at this
        cases this
        exact ⟨.refl, r3, g2⟩
      cases r1 with
      | @tup a vs ds' hq hl r =>
        cases e
        refine ⟨a, rfl, .inr ⟨⟨vs, hq⟩, k F1 ds _ G1 _ H1 s1 ⟨fun F2 H2 G2 s2 g2 c2 => ?_, fun i d F2 H2 G2 e2 s2 g2 c2 => ?_⟩ g1 q1⟩⟩
        · exact ⟨vs, s2.tup _ _ hq, by rw [r.length]; exact Nat.le_refl _⟩
        · obtain ⟨u, e3, r3⟩ := r.get e2
          refine ⟨⟨vs, u, s2.tup _ _ hq, e3⟩, fun x H3 y => ?_⟩
          obtain ⟨rfl, y⟩ := y
          have := y vs (s2.tup _ _ hq)
          rw [e3] at this
          cases this
          exact ⟨.refl, r3.stay s2, g2⟩
      | @lst a vs ds' f hq hl r =>
        cases e
        refine ⟨a, rfl, .inl ⟨⟨vs, SqL.of hq⟩, k F1 ds _ G1 _ H1 s1 ⟨fun F2 H2 G2 s2 g2 c2 => ?_, fun i d F2 H2 G2 e2 s2 g2 c2 => ?_⟩ g1 q1⟩⟩
        · exact ⟨vs, SqL.of ((s2.at_ _ f).trans hq), by rw [r.length]; exact Nat.le_refl _⟩
        · exact one (SqL.of ((s2.at_ _ f).trans hq)) (r.stay s2) g2 e2
      | ref a =>
        obtain ⟨_, hl, vs, hq, r⟩ := g1.g a _ (goL_some e)
        refine ⟨a, rfl, .inl ⟨⟨vs, SqL.of hq⟩, k F1 ds _ G1 _ H1 s1 ⟨fun F2 H2 G2 s2 g2 c2 => ?_, fun i d F2 H2 G2 e2 s2 g2 c2 => ?_⟩ g1 q1⟩⟩
        · obtain ⟨_, _, vs', hq', r'⟩ := g2.g a _ (goL_some c2)
          exact ⟨vs', SqL.of hq', by rw [r'.length]; exact Nat.le_refl _⟩
        · obtain ⟨_, _, vs', hq', r'⟩ := g2.g a _ (goL_some c2)
          exact one (SqL.of hq') r' g2 e2
      | _ => cases e
    · exact q1.elim
/-- range(n), range(a, b) -/
def rng (lo : Int) (n : Nat) : List D := (List.range n).map fun i => D.int (lo + (i : Nat))
theorem jok_rng {K : PySem.W.Frag} {F : FP} {H : Hp} {lo : Int} {n : Nat} : JOk K F H (Itr lo n) (rng lo n) (fun _ => True) := by
  refine ⟨fun F2 H2 G2 s2 g2 c2 => ?_, fun i d F2 H2 G2 e2 s2 g2 c2 => ?_⟩
  · show n ≤ (rng lo n).length
    unfold rng; simp
  · unfold rng at e2
    rw [List.getElem?_map] at e2
    by_cases hi : i < n
    · rw [List.getElem?_range hi] at e2
      cases e2
      refine ⟨hi, fun x H3 y => ?_⟩
      obtain ⟨rfl, rfl⟩ := y
      exact ⟨.refl, .int _, g2⟩
    · rw [List.getElem?_eq_none (by simpa using hi)] at e2
      cases e2
def wIRng1 (te : DE) : DI := fun σ G Q => te σ G fun x G1 => match x with | .int j => -(2 ^ 62) ≤ j ∧ j < 2 ^ 62 ∧ Q (rng 0 j.toNat) (fun _ => True) G1 | _ => False
theorem di_rng1 (hg : Gl X "range") (hm : X.mg "range" = none) (ha : PE X a (lift X.K ta)) (hs : starEach [a] X.env = [(false, eval a X.env)] := by rfl) : PI X tg (.Call (.Name "range" p) [a] [] pos) (liftI X.K (wIRng1 ta)) :=
  PI.weak (pi_range1 hg hm (pa_cons ha pa_nil (by rw [hs]; rfl)) hs) fun σ H R ⟨F, σd, G, Qd, hs, hg, h, k⟩ => lift_bind hs hg h fun F1 x G1 v H1 s1 hs1 r1 g1 q1 => by
    cases r1 with
    | int j => exact ⟨j, rfl, q1.1, q1.2.1, k _ _ _ _ _ _ s1 jok_rng g1 q1.2.2⟩
    | _ => exact (show False from q1).elim
def wIRng2 (ta tb : DE) : DI := fun σ G Q => ta σ G fun x G1 => tb σ G1 fun y G2 => match x with
  | .int i => (match y with | .int j => (-(2 ^ 62) ≤ i ∧ i < 2 ^ 62 ∧ -(2 ^ 62) ≤ j ∧ j < 2 ^ 62) ∧ Q (rng i (j - i).toNat) (fun _ => True) G2 | _ => False)
  | _ => False
theorem di_rng2 (hg : Gl X "range") (hm : X.mg "range" = none) (ha : PE X a (lift X.K ta)) (hb : PE X b (lift X.K tb)) (hs : starEach [a, b] X.env = [(false, eval a X.env), (false, eval b X.env)] := by rfl) (hs2 : starEach [b] X.env = [(false, eval b X.env)] := by rfl) :
    PI X tg (.Call (.Name "range" p) [a, b] [] pos) (liftI X.K (wIRng2 ta tb)) :=
  PI.weak (pi_range2 hg hm (pa_cons ha (pa_cons hb pa_nil (by rw [hs2]; rfl)) (by rw [hs, hs2])) hs hs2) fun σ H R ⟨F, σd, G, Qd, hs, hg, h, k⟩ => lift_bind hs hg h fun F1 x G1 v H1 s1 hs1 r1 g1 q1 => lift_bind hs1 g1 q1 fun F2 y G2 w H2 s2 hs2 r2 g2 q2 => by
    cases r1 with
    | int i => cases r2 with
      | int j => exact ⟨i, j, rfl, q2.1, k _ _ _ _ _ _ (s1.trans s2) jok_rng g2 q2.2⟩
      | _ => exact (show False from q2).elim
    | _ => exact (show False from q2).elim

/-! ### for -/
def wLoop (chk : Gh → Prop) (g : DG) (tb : DS) : List D → DS
  | [], D, σ, G => chk G ∧ D.nx σ G
  | d :: ds, D, σ, G => chk G ∧ g d σ G fun σ1 G1 => tb { D with nx := wLoop chk g tb ds D, ct := wLoop chk g tb ds D, bk := D.nx } σ1 G1
def wFor (wi : DI) (g : DG) (tb : DS) : DS := fun D σ G => wi σ G fun items chk G1 => wLoop chk g tb items D σ G1
theorem ds_for {iter : Expr} {body : List Stmt} {wi : DI} {g : DG} {tb : DS} {vs : List Nat} (hp : PassesOwn (model X.prog X.w) X.A X.env X.xe) (hc : X.calm = true) (hi : PI X tg iter (liftI X.K wi)) (hg : PG X tg (liftTG X.K vs g)) (hb : PSs X body (liftS X.K W tb))
    (hs : ∀ x, foldedSetIterable iter X.env x = pure x := by intro _; rfl) : PS X (.For tg iter body [] pos) (liftS X.K W (wFor wi g tb)) := by
  refine PS.weak (ps_for hp hc hi hg hb hs) fun D σ H ⟨F, σd, G, Dd, hs, hg, h, k⟩ => ?_
  refine ⟨F, σd, G, _, hs, hg, h, fun F1 items chk G1 J H1 s1 j1 g1 q1 => ?_⟩
  refine ⟨fun i m σ' H' => m = items.length - i ∧ i ≤ items.length ∧ ∃ F2 σd2 G2, Stay X.K H1 F1 H' F2 ∧ RelSt X.K H' F2 σd2 σ' ∧ RelG X.K H' F2 G2 ∧ wLoop chk g tb (items.drop i) Dd σd2 G2,
    ⟨items.length, by simp, Nat.zero_le _, F1, σd, G1, .refl, hs.stay s1, g1, by rw [List.drop_zero]; exact q1⟩, ?_⟩
  rintro i m σ2 H2 ⟨rfl, hi, F2, σd2, G2, s2, rs2, g2, w⟩
  by_cases hlt : i < items.length
  · rw [List.drop_eq_getElem_cons hlt] at w
    obtain ⟨c, w⟩ := w
    obtain ⟨go, yl⟩ := j1.go i items[i] F2 H2 G2 (List.getElem?_eq_getElem hlt) s2 g2 c
    refine .inr ⟨go, _, fun σ' H' n => ⟨items.length - (i + 1), by omega, rfl, hlt, n⟩, fun x H3 y => ?_⟩
    obtain ⟨s3, r3, g3⟩ := yl x H3 y
    refine ⟨F2, _, σd2, G2, _, r3, rs2.stay s3, g3, w, fun F4 σ4 G4 σ4' H4 _ s4 rs4 g4 q4 => ?_⟩
    have s5 := (s2.trans s3).trans s4
    have k5 := k.go (s1.trans s5)
    refine ⟨F4, σ4, G4, _, rs4, g4, q4, ⟨?_, k5.rt, k5.nx, ?_, k5.ex⟩⟩
    · exact fun F6 σ6 G6 σ6' H6 s6 rs6 g6 q6 => ⟨F6, σ6, G6, s5.trans s6, rs6, g6, q6⟩
    · exact fun F6 σ6 G6 σ6' H6 s6 rs6 g6 q6 => ⟨F6, σ6, G6, s5.trans s6, rs6, g6, q6⟩
  · have e : i = items.length := by omega
    subst e
    rw [List.drop_length] at w
    obtain ⟨c, w⟩ := w
    exact .inl ⟨j1.stop F2 H2 G2 s2 g2 c, (k.go (s1.trans s2)).nx.here rs2 g2 w⟩

/-! ### comprehensions -/
def dwipe (σ : DSt) : List Nat → DSt
  | [] => σ
  | i :: vs => (dwipe σ vs).set i none
theorem wipe_rel {K : PySem.W.Frag} {H : Hp} {F : FP} {σd : DSt} {σ : L2.St} (r : RelSt K H F σd σ) : ∀ vs, RelSt K H F (dwipe σd vs) (wipe σ vs)
  | [] => r
  | i :: vs => (wipe_rel r vs).clear i none
/-- what is made so far: acc -/
def wComp (chk : Gh → Prop) (g : DG) (tt : DT) (te : DE) (σ : DSt) : List D → List D → Gh → (List D → Gh → Prop) → Prop
  | [], acc, G, Q => chk G ∧ Q acc G
  | d :: ds, acc, G, Q => chk G ∧ g d σ G fun σ1 G1 => tt σ1 G1 fun b G2 => if b = true then te σ1 G2 fun y G3 => acc.length < sizeLine ∧ wComp chk g tt te σ ds (acc ++ [y]) G3 Q else wComp chk g tt te σ ds acc G2 Q
/-- a new list that may change -/
def wLc (wi : DI) (g : DG) (tt : DT) (te : DE) (vs : List Nat) : DE := fun σ G Q => wi σ G fun items chk G1 => wComp chk g tt te (dwipe σ vs) items [] G1 fun acc G2 => ∀ p, G2 p = none → Q (.ref p) (gup G2 p (.lst acc))
/-- .. that is never changed -/
def wLcV (wi : DI) (g : DG) (tt : DT) (te : DE) (vs : List Nat) : DE := fun σ G Q => wi σ G fun items chk G1 => wComp chk g tt te (dwipe σ vs) items [] G1 fun acc G2 => Q (.lst acc) G2
theorem wipe_idem (σ : L2.St) (vs : List Nat) : wipe (wipe σ vs) vs = wipe σ vs := by
  have : ∀ (us ws : List Nat) (σ : L2.St), (∀ i ∈ us, i ∈ ws) → wipe (wipe σ us) ws = wipe σ ws := by
    intro us
    induction us with
    | nil => intro ws σ _; rfl
    | cons i us ih =>
      intro ws σ hm
      show wipe ((wipe σ us).set i none) ws = wipe σ ws
      rw [wipe_set none ws _ i (hm i List.mem_cons_self), ih ws σ fun j hj => hm j (List.mem_cons_of_mem _ hj)]
  exact this vs vs σ fun _ h => h
/-- the hidden list D, known by H alone: what G knows and F holds is not it -/
theorem StayF.same {K : PySem.W.Frag} {H : Hp} {F F' : FP} (h : ∀ a, F.fz a → F'.fz a) : StayF K H F H F' := ⟨fun _ _ h => h, h, fun _ _ => rfl⟩
/-- D is guarded meanwhile -/
theorem RelG.guard {K : PySem.W.Frag} {H : Hp} {F : FP} {G : Gh} (g : RelG K H F G) {D : Addr} {u : HO} (h : H D = some u) (nf : ¬ F.has D) (n : G D = none) : RelG K H (F.guard D) G :=
  g.keep (StayF.same fun _ h => h) (fun a q => by
    rcases q with q | q | q
    · exact g.fo a (.inl q)
    · exact g.fo a (.inr q)
    · exact ⟨u, q ▸ h⟩) (fun a q r => r.elim (g.dj a q) fun e => nf (.inl (e ▸ q))) fun a o e => ⟨rfl, fun q => by
    rcases q with q | q | q
    · exact (g.g a o e).1 (.inl q)
    · exact (g.g a o e).1 (.inr q)
    · rw [q, n] at e; cases e⟩
/-- .. and then written -/
theorem RelG.wrote {K : PySem.W.Frag} {H : Hp} {F : FP} {G : Gh} (g : RelG K H F G) {D : Addr} {xs : List V} {u : HO} (h : H D = some (.lst xs)) (q : F.pr D) :
    StayF K H F (upd H D u) (F.free D) ∧ RelG K (upd H D u) (F.free D) G ∧ ¬ (F.free D).has D ∧ G D = none := by
  have nz : ¬ F.fz D := fun z => g.dj D z q
  have s : StayF K H F (upd H D u) (F.free D) := by
    refine ⟨fun a vs z => ?_, fun _ h => h, fun a z => upd_ne fun e => nz (e ▸ z)⟩
    rcases z with (z | ⟨ob, z⟩) | z
    · exact .inl (.inl (by rw [upd_ne (fun e => by rw [e, h] at z; cases z)]; exact z))
    · exact .inl (.inr ⟨ob, by rw [upd_ne (fun e => by rw [e, h] at z; cases z)]; exact z⟩)
    · exact .inr z
  refine ⟨s, g.keep s (fun a z => ?_) (fun a z w => g.dj a z w.1) fun a o e => ?_, fun z => z.elim nz fun w => w.2 rfl, ?_⟩
  · by_cases e : a = D
    · subst e; exact ⟨u, upd_same⟩
    · rw [upd_ne e]; exact g.fo a (z.imp id fun w => w.1)
  · have ne : a ≠ D := fun z => (g.g a o e).1 (.inr (z ▸ q))
    exact ⟨upd_ne ne, fun z => (g.g a o e).1 (z.imp id fun w => w.1)⟩
  · cases e : G D with
    | none => rfl
    | some o => exact ((g.g D o e).1 (.inr q)).elim
theorem RelG.freed {K : PySem.W.Frag} {H : Hp} {F : FP} {G : Gh} (g : RelG K H F G) {D : Addr} (q : F.pr D) : RelG K H (F.free D) G ∧ ¬ (F.free D).has D ∧ G D = none := by
  have nz : ¬ F.fz D := fun z => g.dj D z q
  refine ⟨g.keep (StayF.same fun _ h => h) (fun a z => g.fo a (z.imp id fun w => w.1)) (fun a z w => g.dj a z w.1) fun a o e => ⟨rfl, fun z => (g.g a o e).1 (z.imp id fun w => w.1)⟩, fun z => z.elim nz fun w => w.2 rfl, ?_⟩
  cases e : G D with
  | none => rfl
  | some o => exact ((g.g D o e).1 (.inr q)).elim
theorem comp_core {K : PySem.W.Frag} {wi : DI} {g : DG} {tt : DT} {te : DE} {vs : List Nat} {Qf : List D → Gh → Prop} {σ : L2.St} {H : Hp} {Q : VK}
    (h : ∃ F σd G, RelSt K H F σd σ ∧ RelG K H F G ∧ (wi σd G fun items chk G1 => wComp chk g tt te (dwipe σd vs) items [] G1 Qf) ∧
      ∀ F' G' D H' acc ws, Stay K H F H' F' → RelG K H' F' G' → H' D = some (.lst ws) → ¬ F'.has D → G' D = none → acc.length ≤ sizeLine → Reps K H' F' acc ws → Qf acc G' → Q (.ref D) H') :
    tLc (liftI K wi) (liftTG K vs g) (liftT K tt) (lift K te) vs σ H Q := by
  obtain ⟨F, σd, G, hs, hg, h, fin⟩ := h
  refine ⟨F, σd, G, _, hs, hg, h, fun F1 items chk G1 J H1 s1 j1 g1 q1 D hD => ?_⟩
  obtain ⟨nf, s2, g2⟩ := g1.tupled (o := .lst []) hD
  have hw := wipe_rel ((hs.stay s1).stay s2) vs
  refine ⟨fun i m H' => m = items.length - i ∧ i ≤ items.length ∧ ∃ F2 G2 acc ws, Stay K (upd H1 D (.lst [])) F1 H' F2 ∧ RelG K H' F2 G2 ∧ H' D = some (.lst ws) ∧ ¬ F2.has D ∧ G2 D = none ∧ acc.length ≤ sizeLine ∧ Reps K H' F2 acc ws ∧ wComp chk g tt te (dwipe σd vs) (items.drop i) acc G2 Qf,
    ⟨items.length, by simp, Nat.zero_le _, F1, G1, [], [], .refl, g2, upd_same, nf, g1.gnone hD, Nat.zero_le _, .nil, by rw [List.drop_zero]; exact q1⟩, ?_⟩
  rintro i m H2 ⟨rfl, hi, F2, G2, acc, ws, s3, g3, hD2, nf2, gn2, hl2, r2, w⟩
  by_cases hlt : i < items.length
  · rw [List.drop_eq_getElem_cons hlt] at w
    obtain ⟨c, w⟩ := w
    have gg : RelG K H2 (F2.guard D) G2 := g3.guard hD2 nf2 gn2
    have s3g : Stay K (upd H1 D (.lst [])) F1 H2 (F2.guard D) := ⟨⟨s3.tup, s3.fz, s3.at_⟩, fun a h => ⟨.inl (s3.pr a h).1, (s3.pr a h).2⟩⟩
    obtain ⟨go, yl⟩ := j1.go i items[i] (F2.guard D) H2 G2 (List.getElem?_eq_getElem hlt) (s2.trans s3g) gg c
    have rg : Reps K H2 (F2.guard D) acc ws := Reps.stayF (F := F2) (F' := F2.guard D) ⟨fun _ _ h => h, fun _ h => h, fun _ _ => rfl⟩ r2
    have nD1 : ∀ a, F1.has a → a ≠ D := fun a h e => nf (e ▸ h)
    refine .inr ⟨go, _, fun H' n => ⟨items.length - (i + 1), by omega, rfl, hlt, n⟩, fun x H3 y => ?_⟩
    obtain ⟨s4, r4, g4⟩ := yl x H3 y
    have hw3 := hw.stayF ((s3g.trans s4).toStayF)
    refine ⟨F2.guard D, _, _, G2, _, r4, hw3, g4, w, fun F5 σ5 G5 σ5' H5 w5 s5 rs5 g5 q5 => ⟨by rw [w5]; exact wipe_idem σ vs, ?_⟩⟩
    refine lift_bind rs5 g5 q5 fun F6 b G6 b' H6 s6 rs6 e6 g6 q6 => ?_
    subst e6
    have prD : ∀ {F7 : FP} {H7 : Hp}, Stay K H2 (F2.guard D) H7 F7 → F7.pr D ∧ H7 D = some (.lst ws) := fun s => ⟨(s.pr D (.inr rfl)).1, (s.pr D (.inr rfl)).2.trans hD2⟩
    -- from the start to the end of the turn
    have whole : ∀ {F7 : FP} {H7 H8 : Hp}, Stay K H2 (F2.guard D) H7 F7 → StayF K H7 F7 H8 (F7.free D) → (∀ a, a ≠ D → H8 a = H7 a) → Stay K (upd H1 D (.lst [])) F1 H8 (F7.free D) := fun {F7 H7 H8} s t k => by
      have u := s3g.trans s
      exact ⟨⟨fun a xs h => t.tup a xs (u.tup a xs h), fun a h => t.fz a (u.fz a h), fun a h => (k a (nD1 a (.inl h))).trans (u.at_ a h)⟩, fun a h => ⟨⟨(u.pr a h).1, nD1 a (.inr h)⟩, (k a (nD1 a (.inr h))).trans (u.pr a h).2⟩⟩
    cases b with
    | true =>
      rw [if_pos rfl] at q6
      refine iteT (lift_bind rs6 g6 q6 fun F7 y G7 u H7 s7 rs7 r7 g7 q7 => ?_)
      obtain ⟨hl, q7⟩ := q7
      have s27 : Stay K H2 (F2.guard D) H7 F7 := ((s4.trans s5).trans s6).trans s7
      obtain ⟨p7, h7⟩ := prD s27
      obtain ⟨t8, g8, n8, gn8⟩ := g7.wrote (u := .lst (ws ++ [u])) h7 p7
      refine ⟨ws, h7, by rw [← r2.length]; exact hl, F7.free D, G7, acc ++ [y], ws ++ [u], whole s27 t8 (fun a h => upd_ne h), g8, upd_same, n8, gn8, by rw [List.length_append]; simp; omega, ?_, q7⟩
      exact (((Reps.stay s27 rg).snoc r7).stayF t8)
    | false =>
      rw [if_neg Bool.false_ne_true] at q6
      have s26 : Stay K H2 (F2.guard D) H6 F6 := (s4.trans s5).trans s6
      obtain ⟨p6, h6⟩ := prD s26
      obtain ⟨g8, n8, gn8⟩ := g6.freed p6
      exact iteF ⟨F6.free D, G6, acc, ws, whole s26 (StayF.same fun _ h => h) (fun _ _ => rfl), g8, h6, n8, gn8, hl2, Reps.stayF (F := F6) (F' := F6.free D) (StayF.same fun _ h => h) (Reps.stay s26 rg), q6⟩
  · have e : i = items.length := by omega
    subst e
    rw [List.drop_length] at w
    obtain ⟨c, w⟩ := w
    exact .inl ⟨j1.stop F2 H2 G2 (s2.trans s3) g3 c, fin F2 G2 D H2 acc ws (s1.trans (s2.trans s3)) g3 hD2 nf2 gn2 hl2 r2 w⟩
/-- [e for t in xs if c]: a new list that may change -/
theorem de_lc {elt tg iter : Expr} {ifs : List Expr} {scope : Scope} {own : List (Str × Nat)} {wi : DI} {g : DG} {tt : DT} {te : DE} (hc : X.calm = true) (hN : X.N.Nodup) (hi : PI X tg iter (liftI X.K wi)) (ok : BlkOk X.N X.env.scope scope own)
    (hg : ∀ (s : Shared) (H : Hp) (C : Addr) (cl : List (Str × Addr)) (fp : List Addr), PG (X.blk s H scope (compEnvC scope cl C X.env) fp) tg (liftTG X.K (own.map (·.2)) g)) (ht : ∀ (s : Shared) (H : Hp) (C : Addr) (cl : List (Str × Addr)) (fp : List Addr), PTs (X.blk s H scope (compEnvC scope cl C X.env) fp) ifs (liftT X.K tt))
    (he : ∀ (s : Shared) (H : Hp) (C : Addr) (cl : List (Str × Addr)) (fp : List Addr), PE (X.blk s H scope (compEnvC scope cl C X.env) fp) elt (lift X.K te)) (hs : ∀ x, foldedSetIterable iter X.env x = pure x := by intro _; rfl) :
    PE X (.ListComp elt [⟨tg, iter, ifs, 0⟩] scope pos) (lift X.K (wLc wi g tt te (own.map (·.2)))) :=
  PE.weak (pe_lc hc hN hi ok hg ht he hs) fun σ H Q ⟨F, σd, G, Qd, hs, hg, h, k⟩ => comp_core ⟨F, σd, G, hs, hg, h, fun F' G' D H' acc ws s g' hD nf n hl r q =>
    k F' (.ref D) _ _ H' s (.ref D) ⟨g'.fo, g'.dj, fun a o e => by
      by_cases z : a = D
      · subst z; rw [gup_same] at e; cases e; exact ⟨nf, hl, ws, hD, r⟩
      · rw [gup_ne z] at e; exact g'.g a o e⟩ (q D n)⟩
/-- .. that is never changed -/
theorem de_lcV {elt tg iter : Expr} {ifs : List Expr} {scope : Scope} {own : List (Str × Nat)} {wi : DI} {g : DG} {tt : DT} {te : DE} (hc : X.calm = true) (hN : X.N.Nodup) (hi : PI X tg iter (liftI X.K wi)) (ok : BlkOk X.N X.env.scope scope own)
    (hg : ∀ (s : Shared) (H : Hp) (C : Addr) (cl : List (Str × Addr)) (fp : List Addr), PG (X.blk s H scope (compEnvC scope cl C X.env) fp) tg (liftTG X.K (own.map (·.2)) g)) (ht : ∀ (s : Shared) (H : Hp) (C : Addr) (cl : List (Str × Addr)) (fp : List Addr), PTs (X.blk s H scope (compEnvC scope cl C X.env) fp) ifs (liftT X.K tt))
    (he : ∀ (s : Shared) (H : Hp) (C : Addr) (cl : List (Str × Addr)) (fp : List Addr), PE (X.blk s H scope (compEnvC scope cl C X.env) fp) elt (lift X.K te)) (hs : ∀ x, foldedSetIterable iter X.env x = pure x := by intro _; rfl) :
    PE X (.ListComp elt [⟨tg, iter, ifs, 0⟩] scope pos) (lift X.K (wLcV wi g tt te (own.map (·.2)))) :=
  PE.weak (pe_lc hc hN hi ok hg ht he hs) fun σ H Q ⟨F, σd, G, Qd, hs, hg, h, k⟩ => comp_core ⟨F, σd, G, hs, hg, h, fun F' G' D H' acc ws s g' hD nf n hl r q =>
    k (F'.add D) (.lst acc) G' _ H' (s.trans .froze) (.lst (.inr rfl) hD hl (r.stay .froze)) (g'.froze n hD fun z => nf (.inr z)) q⟩
/-- y = [..] on one line -/
theorem ds_setLc (i : Nat) {y : Str} {py : Pos} {elt tg iter : Expr} {ifs : List Expr} {scope : Scope} {own : List (Str × Nat)} {spos : Pos} {wi : DI} {g : DG} {tt : DT} {te : DE} (hc : X.calm = true) (hN : X.N.Nodup) (hi : PI X tg iter (liftI X.K wi)) (ok : BlkOk X.N X.env.scope scope own)
    (hg : ∀ (s : Shared) (H : Hp) (C : Addr) (cl : List (Str × Addr)) (fp : List Addr), PG (X.blk s H scope (compEnvC scope cl C X.env) fp) tg (liftTG X.K (own.map (·.2)) g)) (ht : ∀ (s : Shared) (H : Hp) (C : Addr) (cl : List (Str × Addr)) (fp : List Addr), PTs (X.blk s H scope (compEnvC scope cl C X.env) fp) ifs (liftT X.K tt))
    (he : ∀ (s : Shared) (H : Hp) (C : Addr) (cl : List (Str × Addr)) (fp : List Addr), PE (X.blk s H scope (compEnvC scope cl C X.env) fp) elt (lift X.K te))
    (hsw : swapsWith (.ListComp elt [⟨tg, iter, ifs, 0⟩] scope pos) (some (.Name y py)) spos.line X.env = pure true) (hy : X.N[i]? = some y := by rfl) (hyl : X.env.scope.names.lookup y = some .local := by rfl) (hs : ∀ x, foldedSetIterable iter X.env x = pure x := by intro _; rfl) :
    PS X (.Assign [.Name y py] (.ListComp elt [⟨tg, iter, ifs, 0⟩] scope pos) spos) (liftS X.K W (wAsg (wLc wi g tt te (own.map (·.2))) (wName i))) :=
  PS.weak (ps_setLc hc hN hy hyl hsw hi ok hg ht he hs) fun D σ H ⟨F, σd, G, Dd, hs, hg, h, k⟩ => comp_core ⟨F, σd, G, hs, hg, h, fun F' G' L H' acc ws s g' hD nf n hl r q =>
    (k.go s).nx.here ((hs.stay s).set (.ref L) i) ⟨g'.fo, g'.dj, fun a o e => by
      by_cases z : a = L
      · subst z; rw [gup_same] at e; cases e; exact ⟨nf, hl, ws, hD, r⟩
      · rw [gup_ne z] at e; exact g'.g a o e⟩ (q L n)⟩
theorem ds_setLcV (i : Nat) {y : Str} {py : Pos} {elt tg iter : Expr} {ifs : List Expr} {scope : Scope} {own : List (Str × Nat)} {spos : Pos} {wi : DI} {g : DG} {tt : DT} {te : DE} (hc : X.calm = true) (hN : X.N.Nodup) (hi : PI X tg iter (liftI X.K wi)) (ok : BlkOk X.N X.env.scope scope own)
    (hg : ∀ (s : Shared) (H : Hp) (C : Addr) (cl : List (Str × Addr)) (fp : List Addr), PG (X.blk s H scope (compEnvC scope cl C X.env) fp) tg (liftTG X.K (own.map (·.2)) g)) (ht : ∀ (s : Shared) (H : Hp) (C : Addr) (cl : List (Str × Addr)) (fp : List Addr), PTs (X.blk s H scope (compEnvC scope cl C X.env) fp) ifs (liftT X.K tt))
    (he : ∀ (s : Shared) (H : Hp) (C : Addr) (cl : List (Str × Addr)) (fp : List Addr), PE (X.blk s H scope (compEnvC scope cl C X.env) fp) elt (lift X.K te))
    (hsw : swapsWith (.ListComp elt [⟨tg, iter, ifs, 0⟩] scope pos) (some (.Name y py)) spos.line X.env = pure true) (hy : X.N[i]? = some y := by rfl) (hyl : X.env.scope.names.lookup y = some .local := by rfl) (hs : ∀ x, foldedSetIterable iter X.env x = pure x := by intro _; rfl) :
    PS X (.Assign [.Name y py] (.ListComp elt [⟨tg, iter, ifs, 0⟩] scope pos) spos) (liftS X.K W (wAsg (wLcV wi g tt te (own.map (·.2))) (wName i))) :=
  PS.weak (ps_setLc hc hN hy hyl hsw hi ok hg ht he hs) fun D σ H ⟨F, σd, G, Dd, hs, hg, h, k⟩ => comp_core ⟨F, σd, G, hs, hg, h, fun F' G' L H' acc ws s g' hD nf n hl r q =>
    (k.go (s.trans (Stay.froze (p := L)))).nx.here ((hs.stay (s.trans (Stay.froze (p := L)))).set (.lst (F := F'.add L) (.inr rfl) hD hl (r.stay (Stay.froze (p := L)))) i) (g'.froze n hD fun z => nf (.inr z)) q⟩
def wYes : DT := fun _ G Q => Q true G
theorem dts_nil : PTs X [] (liftT X.K wYes) := ⟨fun pins s σ H Q I ⟨F, σd, G, Qd, hs, hg, h, k⟩ => pts_nil.run pins s σ H Q I (k.here rfl hg h)⟩
theorem dts_one {c : Expr} {t : DT} (h : PT X c (liftT X.K t)) : PTs X [c] (liftT X.K t) := pts_one h
end
end DL

/-! DL8: defs, their promises over data, calls, instances. -/
namespace DL
open PySem PySem.Spec L2

abbrev DXq := Addr → List (Str × D) → Gh → Prop
abbrev DSp := List D → Gh → DQ → DXq → Prop
section
variable (K : PySem.W.Frag)
def KtX (H : Hp) (F : FP) (Ed : DXq) (E : XK) : Prop := ∀ F' C fs G' H' od, Stay K H F H' F' → RelG K H' F' G' → ExR K H' F' fs od → Ed C fs G' → E (.ref C) od H'
def liftSp (sp : DSp) : Sp := fun vs H Q E => ∃ F ds G Qd Ed, Reps K H F ds vs ∧ RelG K H F G ∧ sp ds G Qd Ed ∧ Kt K (Rep K) H F Qd Q ∧ KtX K H F Ed E
/-- the same thing, seen otherwise -/
def Vs (d : D) (G : Gh) (d0 : D) (G0 : Gh) : Prop := ∀ H F v, Rep K H F d v → RelG K H F G → ∃ F', Stay K H F H F' ∧ Rep K H F' d0 v ∧ RelG K H F' G0
end
abbrev noX : DXq := fun _ _ _ => False
section
variable {K : PySem.W.Frag}
theorem Vs.sub {d : D} {G0 G : Gh} (s : Sub G0 G) : Vs K d G d G0 := fun H F v r g => ⟨F, .refl, r, g.sub s⟩
theorem Vs.refl {d : D} {G : Gh} : Vs K d G d G := .sub .refl
theorem Vs.lst {p : Addr} {ds : List D} {G0 G : Gh} (e : G p = some (.lst ds)) (s : Sub G0 G) (n : G0 p = none) : Vs K (.ref p) G (.lst ds) G0 := fun H F v r g => by
  cases r
  obtain ⟨nf, hl, vs, h, q⟩ := g.g p _ e
  exact ⟨F.add p, .froze, .lst (.inr rfl) h hl (q.stay .froze), (g.sub s).froze n h fun z => nf (.inr z)⟩
theorem Vs.dic {p : Addr} {ds : List (Key × D)} {G0 G : Gh} (e : G p = some (.dic ds)) (s : Sub G0 G) (n : G0 p = none) : Vs K (.ref p) G (.dic ds) G0 := fun H F v r g => by
  cases r
  obtain ⟨nf, hl, vs, h, q⟩ := g.g p _ e
  exact ⟨F.add p, .froze, .dic (.inr rfl) h hl (q.stay .froze), (g.sub s).froze n h fun z => nf (.inr z)⟩
theorem Vs.obj {p C : Addr} {fs : List (Str × D)} {G0 G : Gh} (e : G p = some (.ins C fs)) (s : Sub G0 G) (n : G0 p = none) : Vs K (.ref p) G (.obj C fs) G0 := fun H F v r g => by
  cases r
  obtain ⟨nf, dx, vs, h, q⟩ := g.g p _ e
  exact ⟨F.add p, .froze, .obj (.inr rfl) h (q.stay .froze), (g.sub s).froze n h fun z => nf (.inr z)⟩
theorem KtX.go {H H' : Hp} {F F' : FP} {Ed : DXq} {E : XK} (k : KtX K H F Ed E) (s : Stay K H F H' F') : KtX K H' F' Ed E := fun F2 C fs G2 H2 od s2 => k F2 C fs G2 H2 od (s.trans s2)
theorem KtX.no {H : Hp} {F : FP} {E : XK} : KtX K H F noX E := fun _ _ _ _ _ _ _ _ _ h => h.elim
end
/-- the slots at the entry -/
def dstart (N : List Str) (ds : List D) : DSt := ds.map some ++ List.replicate (N.length - ds.length) none
/-- what a def's body is to reach, for the wish Qd -/
def endsOf (K : PySem.W.Frag) (Qd : DQ) : DEnds := { nx := fun _ G' => ∃ d0 G0, Vs K .non G' d0 G0 ∧ Qd d0 G0, rt := fun d G' => ∃ d0 G0, Vs K d G' d0 G0 ∧ Qd d0 G0 }
section
variable {P : Program} {w : World} {K : PySem.W.Frag} {mg : Str → Option Value} {base : Heap}
theorem Fun.okD {W : WX} {x qual : Str} {st : Stmt} {f : Addr} {fd : FuncData} {N ps : List Str} {k : Nat} {sp : DSp} {t : DS} (F : Fun K x qual st f fd) (S : FnScope N ps (defScope st)) (len : ∀ ds G Q E, sp ds G Q E → ds.length = ps.length)
    (hbody : ∀ (cdv : Value) (A : Around) (outer : List Env) (s : Shared) (H : Hp) (E : XK), Room k (A.deeper (PyProof.Rows.envOfC qual (defScope st) s.heap.objs.size f cdv)) →
      PSs (cxOf CX0 P w K mg base N qual (defScope st) f cdv A outer s H E).nox (defBody st) (liftS K W t))
    (hv : ∀ ds G Qd Ed, sp ds G Qd Ed → t (endsOf K Qd) (dstart N ds) G) : FnOk P w K mg base CX0 (k + 1) f fd ps (liftSp K sp) := by
  refine F.ok S (fun vs H Q E h => ?_) (fun cdv A outer s H vs Q E hr h => ?_)
  · obtain ⟨F0, ds, G, Qd, Ed, r, _, h, _⟩ := h
    rw [← r.length]; exact len _ _ _ _ h
  · obtain ⟨F0, ds, G, Qd, Ed, r, g, h, k, _⟩ := h
    refine ⟨_, hbody cdv A outer s H E hr, F0, dstart N ds, G, endsOf K Qd, ?_, g, hv ds G Qd Ed h, ⟨?_, ?_, ?_, ?_, ?_⟩⟩
    · unfold dstart L2.start
      rw [← r.length]
      exact RelSt.start r _
    · rintro F1 σ1 G1 σ1' H1 s1 r1 g1 ⟨d0, G0, vs, q⟩
      obtain ⟨F2, s2, r2, g2⟩ := vs H1 F1 .non .non g1
      exact k F2 d0 G0 .non H1 (s1.trans s2) r2 g2 q
    · rintro F1 d G1 v H1 s1 r1 g1 ⟨d0, G0, vs, q⟩
      obtain ⟨F2, s2, r2, g2⟩ := vs H1 F1 v r1 g1
      exact k F2 d0 G0 v H1 (s1.trans s2) r2 g2 q
    · exact fun _ _ _ _ _ _ _ _ h => h.elim
    · exact fun _ _ _ _ _ _ _ _ h => h.elim
    · exact fun _ _ _ _ _ _ _ _ _ _ _ _ h => h.elim
/-- a def that may be called -/
structure Cal (P : Program) (w : World) (K : PySem.W.Frag) (mg : Str → Option Value) (base : Heap) (k : Nat) (x : Str) (ps : List Str) (sp : DSp) : Prop where
  ex : ∃ f fd, mg x = some (.ref f) ∧ PySem.W.keepIn K (.ref f) = true ∧ Binds K fd ps [] ∧ FnOk P w K mg base CX0 k f fd ps (liftSp K sp)
theorem Cal.mono {j k : Nat} {x : Str} {ps : List Str} {sp : DSp} (c : Cal P w K mg base j x ps sp) (h : j ≤ k) : Cal P w K mg base k x ps sp :=
  let ⟨f, fd, a, b, c, d⟩ := c.ex; ⟨f, fd, a, b, c, d.mono h⟩
end
theorem liftSp_imp {K : PySem.W.Frag} {sp sp' : DSp} (h : ∀ ds G Q E, sp' ds G Q E → sp ds G Q E) {vs H Q E} (q : liftSp K sp' vs H Q E) : liftSp K sp vs H Q E :=
  let ⟨F, ds, G, Qd, Ed, r, g, s, k, kx⟩ := q; ⟨F, ds, G, Qd, Ed, r, g, h _ _ _ _ s, k, kx⟩
theorem Cal.imp {P : Program} {w : World} {K : PySem.W.Frag} {mg : Str → Option Value} {base : Heap} {k : Nat} {x : Str} {ps : List Str} {sp sp' : DSp} (c : Cal P w K mg base k x ps sp) (h : ∀ ds G Q E, sp' ds G Q E → sp ds G Q E) : Cal P w K mg base k x ps sp' :=
  let ⟨f, fd, a, b, c, d⟩ := c.ex; ⟨f, fd, a, b, c, d.imp fun _ _ _ _ q => liftSp_imp h q⟩
section
variable {X : Cx} {W : WX} {k : Nat} {ps : List Str} {sp : DSp} {x : Str} {p pos : Pos} {e a b : Expr} {es : List Expr} {t : DA} {ta tb : DE}
/-- f(a, ..), no exception leaves it -/
def wCallF (sp : DSp) (t : DA) : DE := fun σ G Q => t σ G fun ds G1 => sp ds G1 Q noX
theorem tCall_lift {K : PySem.W.Frag} {σ H Q} (h : lift K (wCallF sp t) σ H Q) : tCall (liftSp K sp) [] E0 (liftA K t) σ H Q := by
  obtain ⟨F, σd, G, Qd, hs, hg, h, k⟩ := h
  exact lift_bind hs hg h fun F1 ds G1 vs H1 s1 hs1 r1 g1 q1 => ⟨F1, ds, G1, Qd, noX, by rw [List.append_nil]; exact r1, g1, q1, k.go s1, .no⟩
theorem de_call (c : Cal X.prog X.w X.K X.mg X.base k x ps sp) (hr : Room k X.A) (hg : Gl X x)
    (ha : PA X (e :: es) (liftA X.K t)) (hdb : (x == ("__debug__" : Str)) = false := by decide) (he : starEach (e :: es) X.env = (false, eval e X.env) :: starEach es X.env := by rfl) (hpl : (backTo pos (starEach es X.env)).any (·.1) = false := by rfl) :
    PE X (.Call (.Name x p) (e :: es) [] pos) (lift X.K (wCallF sp t)) := by
  obtain ⟨f, fd, hm, hk, hb, F⟩ := c.ex
  exact PE.weak (pe_call F hr hg hm hk hb .nil pass0 ha hdb he hpl) fun _ _ _ => tCall_lift
/-- a local name that holds a def: f is known by its address -/
structure CalA (P : Program) (w : World) (K : PySem.W.Frag) (mg : Str → Option Value) (base : Heap) (k : Nat) (f : Addr) (ps : List Str) (sp : DSp) : Prop where
  ex : ∃ fd, PySem.W.keepIn K (.ref f) = true ∧ Binds K fd ps [] ∧ FnOk P w K mg base CX0 k f fd ps (liftSp K sp)
def wCallL (i : Nat) (f : Addr) (sp : DSp) (t : DA) : DE := fun σ G Q => slot σ i = some (.ref f) ∧ t σ G fun ds G1 => sp ds G1 Q noX
theorem de_callL (i : Nat) {f : Addr} (c : CalA X.prog X.w X.K X.mg X.base k f ps sp) (hr : Room k X.A) (ha : PA X (e :: es) (liftA X.K t)) (hN : X.N[i]? = some x := by rfl) (hv : Vis X.env.scope x := by first | exact Or.inl rfl | exact Or.inr (Or.inl rfl) | exact Or.inr (Or.inr rfl))
    (hdb : (x == ("__debug__" : Str)) = false := by decide) (hcd : (x == ("__classdict__" : Str)) = false := by decide)
    (he : starEach (e :: es) X.env = (false, eval e X.env) :: starEach es X.env := by rfl) (hpl : (backTo pos (starEach es X.env)).any (·.1) = false := by rfl) : PE X (.Call (.Name x p) (e :: es) [] pos) (lift X.K (wCallL i f sp t)) := by
  obtain ⟨fd, hk, hb, F⟩ := c.ex
  refine PE.weak (pe_callL (i := i) F hr hN hv hk hb .nil pass0 ha hdb hcd he hpl) fun σ H Q ⟨F, σd, G, Qd, hs, hg, ⟨h0, h⟩, k⟩ => ?_
  obtain ⟨v, e1, r⟩ := hs.get (slot_some h0)
  cases r
  exact ⟨e1, tCall_lift ⟨F, σd, G, Qd, hs, hg, h, k⟩⟩

/-! ### instances -/
def putFD (f : Str) (v : D) : List (Str × D) → List (Str × D)
  | [] => [(f, v)]
  | (g, x) :: r => if g = f then (g, v) :: r else (g, x) :: putFD f v r
theorem RepF.put {K : PySem.W.Frag} {H : Hp} {F : FP} (f : Str) {d : D} {v : V} (r : Rep K H F d v) : ∀ {ds : List (Str × D)} {vs : List (Str × V)}, RepF K H F ds vs → RepF K H F (putFD f d ds) (putF f v vs)
  | _, _, .nil => .cons r .nil
  | _, _, .cons (k := k) q t => by
    unfold putFD putF
    by_cases e : k = f
    · rw [if_pos e, if_pos e]; exact .cons r t
    · rw [if_neg e, if_neg e]; exact .cons q (RepF.put f r t)
theorem RepF.length {K : PySem.W.Frag} {H : Hp} {F : FP} : ∀ {ds : List (Str × D)} {vs : List (Str × V)}, RepF K H F ds vs → ds.length = vs.length
  | _, _, .nil => rfl
  | _, _, .cons _ t => by simp [RepF.length t]
/-- o.f = e, o an instance of the class at C that may change -/
def wSetF (C : Addr) (f : Str) (to tv : DE) : DS := fun D σ G => tv σ G fun y G1 => to σ G1 fun x G2 => match x with
  | .ref p => (match goI (G2 p) with | some (C', fs) => C' = C ∧ fs.length < 1000 ∧ D.nx σ (gup G2 p (.ins C (putFD f y fs))) | none => False)
  | _ => False
theorem ds_setF {C : Addr} {f : Str} {pos' : Pos} (c : Cls X.K C) (n : NoAttr X.K C f) (ho : PE X a (lift X.K ta)) (hv : PE X b (lift X.K tb)) (hs : swapsWith b (some (.Attribute a f pos')) pos.line X.env = pure false := by rfl) : PS X (.Assign [.Attribute a f pos'] b pos) (liftS X.K W (wSetF C f ta tb)) := by
  refine PS.weak (ps_fld ho hv hs) fun D σ H ⟨F, σd, G, Dd, hs, hg, h, k⟩ => ?_
  refine lift_bind hs hg h fun F1 y G1 v H1 s1 hs1 r1 g1 q1 => lift_bind hs1 g1 q1 fun F2 x G2 u H2 s2 hs2 r2 g2 q2 => ?_
  cases r2 with
  | ref p =>
    dsimp only at q2
    split at q2
    · rename_i C' fs e
      obtain ⟨rfl, hl, q2⟩ := q2
      obtain ⟨nf, dx, vs, h1, h2⟩ := g2.g p _ (goI_some e)
      have s3 : Stay X.K H2 F2 (upd H2 p (.ins C' dx (putF f v vs))) F2 := g2.wr (goI_some e)
      exact ⟨p, C', dx, vs, rfl, h1, c, n, by rw [← h2.length]; exact hl, (k.go ((s1.trans s2).trans s3)).nx.here (hs2.stay s3) (g2.write (o' := .ins C' (putFD f y fs)) (goI_some e) ⟨dx, _, upd_same, ((h2.put f (r1.stay s2))).stay s3⟩) q2⟩
    · exact q2.elim
  | _ => exact (show False from q2).elim
/-- C(a, ..): a new instance, then __init__; it may be seen otherwise at once -/
def wMake (K : PySem.W.Frag) (C : Addr) (sp : DSp) (t : DA) : DE := fun σ G Q => t σ G fun ds G1 => ∀ p, G1 p = none → sp (.ref p :: ds) (gup G1 p (.ins C [])) (fun d G2 => d = .non ∧ ∃ d0 G0, Vs K (.ref p) G2 d0 G0 ∧ Q d0 G0) noX
/-- a class whose instances are made by an __init__ of its own -/
structure CalM (P : Program) (w : World) (K : PySem.W.Frag) (mg : Str → Option Value) (base : Heap) (k : Nat) (x : Str) (C : Addr) (ps : List Str) (sp : DSp) : Prop where
  ex : ∃ f fd, mg x = some (.ref C) ∧ Mk K C f ∧ Binds K fd ps [] ∧ FnOk P w K mg base CX0 k f fd ps (liftSp K sp)
theorem de_make {C : Addr} (c : CalM X.prog X.w X.K X.mg X.base k x C ps sp) (hr : Room (k + 1) X.A) (hg : Gl X x)
    (ha : PA X (e :: es) (liftA X.K t)) (hdb : (x == ("__debug__" : Str)) = false := by decide) (he : starEach (e :: es) X.env = (false, eval e X.env) :: starEach es X.env := by rfl) (hpl : (backTo pos (starEach es X.env)).any (·.1) = false := by rfl) :
    PE X (.Call (.Name x p) (e :: es) [] pos) (lift X.K (wMake X.K C sp t)) := by
  obtain ⟨f, fd, hm, M, hb, F⟩ := c.ex
  refine PE.weak (pe_make M F hr hg hm hb .nil pass0 ha hdb he hpl) fun σ H Q ⟨F, σd, G, Qd, hs, hg, h, k⟩ => ?_
  refine lift_bind hs hg h fun F1 ds G1 vs H1 s1 hs1 r1 g1 q1 p dx hp hdx hne => ?_
  obtain ⟨nf, s2, g2⟩ := g1.tupled (o := .own p) hdx
  have hp2 : upd H1 dx (.own p) p = none := by rw [upd_ne (Ne.symm hne)]; exact hp
  obtain ⟨nf3, s3, g3⟩ := g2.tupled (o := .ins C dx []) hp2
  have g4 := g2.made (u := .ins C []) (o := .ins C dx []) hp2 ⟨dx, [], upd_same, .nil⟩
  refine ⟨F1, .ref p :: ds, _, _, noX, .cons (.ref p) (by rw [List.append_nil]; exact (r1.stay s2).stay s3), g4, q1 p (g1.gnone hp), ?_, .no⟩
  rintro F5 d G5 v H5 s5 r5 g5 ⟨rfl, d0, G0, vs, q5⟩
  cases r5
  obtain ⟨F6, s6, r6, g6⟩ := vs H5 F5 (.ref p) (.ref p) g5
  exact ⟨rfl, k F6 d0 G0 _ H5 ((((s1.trans s2).trans s3).trans s5).trans s6) r6 g6 q5⟩
end
end DL

/-! DLS: sets of texts made of a list, sorted(set(xs)). After the library's own road for ints. -/
namespace DL.TX
open PySem PySem.Spec PyProof.Rows L2

/-- the text of an entry -/
def txt (e : Int × Value) : Str := strOf e.2
/-- an entry that is a text with its hash -/
def Ent (w : World) (e : Int × Value) : Prop := ∃ x tk, e.2 = Value.str x tk ∧ e.1 = hashStr w x
/-- a set of texts at a -/
structure TSet (w : World) (h : Heap) (a : Addr) (S : Str → Bool) (n : Nat) (o : Obj) (es : Array (Int × Value)) (ep : Nat) (t : SetTable) : Prop where
  ob : h.get? a = some o
  ex : o.ExactSet
  dt : o.data = .set es ep t
  good : ∀ e ∈ es.toList, Ent w e
  nd : (es.toList.map txt).Nodup
  mem : ∀ k, S k = true ↔ k ∈ es.toList.map txt
  few : es.size < scanBound
  fit : t.fits es.size = true
  num : es.size = n
  ris : Ris t.place.toList
  led : w.params.followText "set-order" = true ∨ t.led = true
def TS (w : World) (h : Heap) (a : Addr) (S : Str → Bool) (n : Nat) : Prop := ∃ o es ep t, TSet w h a S n o es ep t
section
variable {P : Program} {w : World} {h h' : Heap} {a : Addr} {S : Str → Bool} {n : Nat}
theorem TS.keep (R : TS w h a S n) (k : ∀ o, h.get? a = some o → h'.get? a = some o) : TS w h' a S n :=
  let ⟨o, es, ep, t, r⟩ := R; ⟨o, es, ep, t, { r with ob := k o r.ob }⟩
theorem TS.as {S' : Str → Bool} (R : TS w h a S n) (e : ∀ k, S' k = S k) : TS w h a S' n := by
  rw [funext e]; exact R
theorem ent_elems {l : List (Int × Value)} (g : ∀ e ∈ l, Ent w e) : ElemsOf (strKind P w) l := fun e he => by
  obtain ⟨k, tk, h1, h2⟩ := g e he
  exact ⟨⟨k, by rw [h1]; exact strKind_is P w k tk, h2⟩, by rw [h1] <;> rfl⟩
theorem ent_is {e : Int × Value} (g : Ent w e) (k : Str) : (strKind P w).is k e.2 = true ↔ txt e = k := by
  obtain ⟨x, tk, h1, _⟩ := g
  unfold txt strOf
  rw [h1]
  show ((x == k) = true) ↔ x = k
  exact beq_iff_eq
theorem ent_mem {l : List (Int × Value)} (g : ∀ e ∈ l, Ent w e) (k : Str) : k ∈ l.map txt ↔ ∃ e ∈ l, (strKind P w).is k e.2 = true := by
  rw [List.mem_map]
  exact ⟨fun ⟨e, he, q⟩ => ⟨e, he, (ent_is (g e he) k).2 q⟩, fun ⟨e, he, q⟩ => ⟨e, he, (ent_is (g e he) k).1 q⟩⟩
end
section
variable {P : Program} {w : World} {A : Around} {E : Value → Shared → Prop} {s : Shared} {a : Addr} {S : Str → Bool} {n : Nat}
/-- the new entry is laid down; the table may be laid anew -/
theorem put_down {g : Bool → Sem Unit} (hg : ∀ (b : Bool) (s₁ : Shared) (Q' : Unit → Shared → Prop), Q' () s₁ → wpAny (model P w) A (g b) Q' E s₁) {o : Obj} {es : Array (Int × Value)} {ep : Nat} {t : SetTable} {S0 : Str → Bool} {n0 : Nat} (T : TSet w s.heap a S0 n0 o es ep t)
    {es1 : Array (Int × Value)} {t2 : SetTable} {S' : Str → Bool} (g1 : ∀ e ∈ es1.toList, Ent w e) (nd1 : (es1.toList.map txt).Nodup) (m1 : ∀ k, S' k = true ↔ k ∈ es1.toList.map txt)
    (hb1 : es1.size < scanBound) (hf2 : t2.fits es1.size = true) (hr : Ris t2.place.toList) (hl : w.params.followText "set-order" = true ∨ t2.led = true) {wd : Bool} {R : Option Bool → Shared → Prop}
    (hR : ∀ h', Heap.SameBut a s.heap h' → TS w h' a S' es1.size → R (some true) { s with heap := h' }) :
    wpAny (model P w) A (do
        storeSet a es1 t2
        if (!wd && t2.tooFull) = true then do
            g (relayAll t2 es1 (SetTable.grown es1.size)).2.2
            storeSet a (relayAll t2 es1 (SetTable.grown es1.size)).1 (relayAll t2 es1 (SetTable.grown es1.size)).2.1
            pure (some true)
          else pure (some true)) R E s := by
  refine wpAny_bind (wpAny_storeSet_of T.ob T.dt ?_ (fits_of_scanBound hb1))
  have at1 := store_at (es' := es1) (t' := t2) T.ob T.dt
  have same1 := Heap.SameBut.update s.heap a (Obj.putSet es1 t2)
  split
  · have perm := relayAll_perm t2 es1 (SetTable.grown es1.size)
    have fit3 := relayAll_fits t2 es1 (SetTable.grown es1.size)
    have ris3 := relayAll_ris t2 es1 (SetTable.grown es1.size)
    have led3 := relayAll_led t2 es1 (SetTable.grown es1.size)
    generalize relayAll t2 es1 (SetTable.grown es1.size) = Z at perm fit3 ris3 led3 ⊢
    obtain ⟨es2, t3, gv⟩ := Z
    dsimp only at perm fit3 ris3 led3 ⊢
    have size2 : es2.size = es1.size := by rw [← Array.length_toList, perm.length_eq, Array.length_toList]
    have few2 : es2.size < scanBound := by rw [size2]; exact hb1
    refine wpAny_bind (hg _ _ _ (wpAny_bind (wpAny_storeSet_of at1 rfl ?_ (fits_of_scanBound few2))))
    have at2 := store_at (es' := es2) (t' := t3) at1 rfl
    exact wpAny_pure (hR _ (same1.trans (Heap.SameBut.update _ a _)) ⟨_, es2, _, t3, at2, T.ex, rfl, fun e he => g1 e (perm.mem_iff.mp he), (perm.map txt).nodup_iff.mpr nd1, fun k => (m1 k).trans (perm.map txt).mem_iff.symm, few2, fit3, size2, ris3,
      hl.imp id fun z => by rw [led3]; exact z⟩)
  · exact wpAny_pure (hR _ same1 ⟨_, es1, _, t2, at1, T.ex, rfl, g1, nd1, m1, hb1, hf2, rfl, hr, hl⟩)
theorem add_text {k : Str} {tk : Tok} {Q : Bool → Shared → Prop} (R : TS w s.heap a S n) (room : n + 1 < scanBound)
    (hQ : ∀ h', Heap.SameBut a s.heap h' → TS w h' a (fun j => S j || decide (j = k)) (if S k = true then n else n + 1) → Q (!S k) { s with heap := h' }) :
    wpAny (model P w) A (setAddHashed a (.str k tk) ((strKind P w).hash k)) Q E s := by
  obtain ⟨o, es, ep, t, T⟩ := R
  have isk : (strKind P w).is k (.str k tk) = true := strKind_is P w k tk
  have scan : (Value.str k tk).scannable = true := rfl
  have elems : ElemsOf (strKind P w) es.toList := ent_elems T.good
  unfold setAddHashed setAddHashedIn
  refine wpAny_holding (wpAny_bind (wpAny_setState_of T.ob T.dt T.fit ?_))
  dsimp only
  rw [byScan_of scan T.few elems]
  simp only [↓reduceIte]
  unfold setAddByScan
  refine wpAny_bind (wpAny_bind (wpAny_rule (wpAny_bind (wpAny_setScan_of isk T.ob T.dt T.fit elems ?_))))
  cases found : List.findIdx? (fun e => (strKind P w).is k e.2) es.toList with
  | some j =>
    dsimp only
    obtain ⟨hj, pj, _⟩ := List.findIdx?_eq_some_iff_getElem.mp found
    have there : S k = true := (T.mem k).2 ((ent_mem (P := P) (w := w) T.good k).2 ⟨es.toList[j], List.getElem_mem hj, pj⟩)
    refine wpAny_pure (wpAny_pure ?_)
    have q := hQ s.heap (Heap.SameBut.refl a s.heap) ⟨o, es, ep, t, { T with
      mem := fun i => by
        rw [Bool.or_eq_true, decide_eq_true_eq, ← T.mem i]
        exact ⟨fun z => z.elim id (fun e => e ▸ there), .inl⟩
      num := by rw [if_pos there]; exact T.num }⟩
    rw [there] at q
    exact q
  | none =>
    dsimp only
    have newk : k ∉ es.toList.map txt := fun z => by
      obtain ⟨e, he, q⟩ := (ent_mem (P := P) (w := w) T.good k).1 z
      have c := List.findIdx?_eq_none_iff.mp found e he
      rw [q] at c
      cases c
    have lack : S k = false := by
      cases q : S k with
      | false => rfl
      | true => exact absurd ((T.mem k).1 q) newk
    have way : ∀ (b : Bool) {s₁ : Shared} {Q' : Unit → Shared → Prop}, Q' () s₁ → wpAny (model P w) A (match b with | true => rule "set.scan.the-table-gave-way" | false => pure ()) Q' E s₁ := fun b s₁ Q' q => by
      cases b
      · exact wpAny_pure q
      · exact wpAny_rule q
    have perm := layNew_perm t es ((strKind P w).hash k) (.str k tk)
    have fit1 := layNew_fits t es ((strKind P w).hash k) (.str k tk)
    have ris1 := layNew_ris t es ((strKind P w).hash k) (.str k tk) T.ris
    have led1 := layNew_led t es ((strKind P w).hash k) (.str k tk)
    generalize layNew t es ((strKind P w).hash k) (.str k tk) = Z at perm fit1 ris1 led1 ⊢
    obtain ⟨es1, t1, wd, gv⟩ := Z
    dsimp only at perm fit1 ris1 led1 ⊢
    rw [Array.toList_push] at perm
    have front : es1.toList.Perm (((strKind P w).hash k, Value.str k tk) :: es.toList) := perm.trans (List.perm_append_singleton _ _)
    have keys : (es1.toList.map txt).Perm (k :: es.toList.map txt) := front.map txt
    have good1 : ∀ e ∈ es1.toList, Ent w e := fun e he => by
      rcases List.mem_cons.mp (front.mem_iff.mp he) with z | z
      · rw [z]; exact ⟨k, tk, rfl, rfl⟩
      · exact T.good e z
    have nd1 : (es1.toList.map txt).Nodup := keys.nodup_iff.mpr (List.nodup_cons.mpr ⟨newk, T.nd⟩)
    have mem1 : ∀ i, (S i || decide (i = k)) = true ↔ i ∈ es1.toList.map txt := fun i => by
      rw [Bool.or_eq_true, decide_eq_true_eq, T.mem i, keys.mem_iff, List.mem_cons]
      exact Or.comm
    have size1 : es1.size = n + 1 := by rw [← Array.length_toList, front.length_eq, List.length_cons, Array.length_toList, T.num]
    have few1 : es1.size < scanBound := by rw [size1]; exact room
    have ledn : w.params.followText "set-order" = true ∨ t1.led = true := T.led.imp id fun z => by rw [led1]; exact z
    have fin : ∀ h', Heap.SameBut a s.heap h' → TS w h' a (fun j => S j || decide (j = k)) es1.size → Q true { s with heap := h' } := fun h' sb r => by
      have q := hQ h' sb
      rw [lack] at q
      rw [size1] at r
      exact q r
    refine wpAny_bind (way _ ?_)
    split
    · refine wpAny_bind ?_
      rw [hashByValue_scannable 8 scan]
      refine wpAny_pure ?_
      refine put_down ?_ T good1 nd1 mem1 few1 ?_ ?_ ?_ ?_
      · exact fun b s₁ Q' q => way b q
      · first | (split <;> first | exact fit1 | exact SetTable.fits_plain_off fit1) | exact fit1 | exact SetTable.fits_plain_off fit1
      · first | (split <;> exact ris1) | exact ris1
      · first | (split <;> exact ledn) | exact ledn
      · intro h' sb r; dsimp only; exact wpAny_pure (fin h' sb r)
    · refine wpAny_bind (wpAny_pure ?_)
      simp only [↓reduceIte]
      refine put_down (fun b s₁ Q' q => way b q) T good1 nd1 mem1 few1 fit1 ris1 ledn ?_
      intro h' sb r; dsimp only; exact wpAny_pure (fin h' sb r)
/-- the loop of set(xs) -/
theorem each_text {I : Addr} {fp wr : List Addr} {G : Array GenState → Array GenState → Prop} {n : Nat} {Pv : Nat → Value → Prop} {St : Nat → Shared → Prop} {R : Result → Shared → Prop}
    (W : WalksS P w A.in1 I fp wr G n Pv St) (D : Addr) (off : D ∉ fp) (xs : List Str) (hn : n = xs.length) (hb : xs.length + 1 < scanBound) (hval : ∀ i v, Pv i v → ∃ k t, xs[i]? = some k ∧ v = .str k t) :
    ∀ (k i : Nat) (s : Shared), n - i = k → i ≤ n → St i s → (∃ c, c ≤ i ∧ TS w s.heap D (fun j => decide (j ∈ xs.take i)) c) →
      (∀ s' c, Moved (D :: wr) G s s' → c ≤ n → TS w s'.heap D (fun j => decide (j ∈ xs)) c → R (.ok (.ret .none)) s') →
      codeAny (model P w) A (.builtin "set.update.loop" ⟨[.ref D, .ref I], []⟩) R s := by
  have offw : D ∉ wr := fun h => off (W.sub _ h)
  have wider : ∀ b ∈ wr, b ∈ D :: wr := fun b hb => List.mem_cons_of_mem _ hb
  intro k
  induction k with
  | zero =>
    intro i s hk hi hst ⟨c, hc, T⟩ hR
    obtain rfl : i = n := by omega
    refine codeAny_builtin F.entry_set_update_loop ?_
    rw [Around.under_plainId F.plain_set_update_loop _]
    show wpAny _ A.in1 (pyNext (.ref I) >>= _) _ _ s
    refine wpAny_bind (W.done s _ _ hst fun s' hm => ?_)
    show wpAny _ A.in1 (ret Value.none) _ _ s'
    rw [show xs.take i = xs from List.take_of_length_le (by omega)] at T
    exact wpAny_pure (hR s' c (hm.mono wider) hc (T.keep fun o e => hm.heap D o offw e))
  | succ k ih =>
    intro i s hk hi hst ⟨c, hc, T⟩ hR
    have lt : i < n := by omega
    refine codeAny_builtin F.entry_set_update_loop ?_
    rw [Around.under_plainId F.plain_set_update_loop _]
    show wpAny _ A.in1 (pyNext (.ref I) >>= _) _ _ s
    refine wpAny_bind (W.item i s _ _ lt hst fun v s' hP hst' hm => ?_)
    obtain ⟨z, t, hz, rfl⟩ := hval i v hP
    have T1 : TS w s'.heap D (fun j => decide (j ∈ xs.take i)) c := T.keep fun o e => hm.heap D o offw e
    show wpAny _ A.in1 (holding [Value.str z t] (setAdd D (.str z t)) >>= _) _ _ s'
    refine wpAny_bind (wpAny_holding ?_)
    unfold setAdd
    refine wpAny_holding (wpAny_bind ((strKind P w).pyHash (k := z) (strKind_is _ _ _ _) ?_))
    refine add_text (s := { s' with toks := s'.toks + 1 }) T1 (by omega) fun h' sb T2 => ?_
    have T3 : TS w h' D (fun j => decide (j ∈ xs.take (i + 1))) (if decide (z ∈ xs.take i) = true then c else c + 1) := T2.as fun j => by
      rw [List.take_add_one, hz]
      simp [List.mem_append]
    have c3 : (if decide (z ∈ xs.take i) = true then c else c + 1) ≤ i + 1 := by split <;> omega
    refine wpAny_pure ⟨plainId_quiet F.plain_set_update_loop _, ih (i + 1) _ (by omega) lt (W.frame _ s' _ _ hst' (Nat.le_succ _) fun b hb o e => (sb.2 b (fun h => off (by rw [← h]; exact hb))).trans e) ⟨_, c3, T3⟩ fun s'' c2 m2 hc2 T4 => ?_⟩
    refine hR s'' c2 (Moved.trans W.gtrans ((hm.mono wider).then_heap (Nat.le_succ _) fun b o hb e => ?_) m2) hc2 T4
    exact (sb.2 b (fun h => hb (by rw [h]; exact List.mem_cons_self))).trans e

theorem fresh_at {h : Heap} {xs : List Str} (ho : h.get? a = some { cls := .type "set", dict := none, data := .set #[] 0 (.fresh 0 0 (!w.params.followText "set-order")) }) : TS w h a (fun j => decide (j ∈ xs.take 0)) 0 :=
  ⟨_, #[], 0, _, ho, ⟨rfl, rfl, rfl⟩, rfl, (fun e he => by simp at he), (by simp), (fun k => by simp), (by decide), (by rfl), rfl, List.Pairwise.nil, by
    show _ ∨ (!w.params.followText "set-order") = true
    cases w.params.followText "set-order"
    · exact .inr rfl
    · exact .inl rfl⟩

set_option maxRecDepth 100000 in
set_option maxHeartbeats 3200000 in
/-- set(xs), xs a list of texts -/
theorem set_of_texts {l : Addr} {items : Array Value} (xs : List Str) {Q : Value → Shared → Prop} (hh : A.handled = none) (hl : s.heap.IsList l items) (hit : StrsAre items.toList xs) (hb : xs.length + 1 < scanBound)
    (h : ∀ (h' : Heap) (tk c : Nat), TS w h' s.heap.objs.size (fun j => decide (j ∈ xs)) c → c ≤ xs.length → (∀ b o, s.heap.get? b = some o → h'.get? b = some o) → Q (.ref s.heap.objs.size) { s with heap := h', toks := tk }) :
    wpAny (model P w) A (call (.type "set") [.ref l]) Q E s := by
  have number : items.size = xs.length := by
    have q := StrsAre.len_eq hit
    rw [Array.length_toList] at q
    exact q
  obtain ⟨c, tl, hmro⟩ := F.called_set.mro
  have made := F.called_set.made
  have subt := F.called_set.sub
  refine wpAny_call (codeAny_of_tree ?_)
  show wpAny _ _ (callAny (.type "set") _) _ _ _
  refine wpAny_pure ⟨Code.quiet_builtin _ (by decide +kernel), codeAny_builtin F.entry_type_call ?_⟩
  rw [Around.under_plain (weight_type_call_type "set" [.ref l] []) rfl]
  have h1 := F.called_set.notType
  have h2 := F.called_set.canCreate
  have hct := F.typeCall_set_1 (.ref l)
  repeat (any_goals (first | assumption | wp_step))
  refine codeAny_mono (code_set_led1 (.ref l) (E := E) (Q₁ := fun obj s₁ => obj = .ref s.heap.objs.size ∧ s₁ = { s with heap := s.heap.push { cls := .type "set", dict := none, data := .set #[] 0 (.fresh 0 0 (!w.params.followText "set-order")) } }) ⟨rfl, rfl⟩) fun r s₁ hr => ?_
  cases r with
  | error e => exact hr
  | ok fl =>
    cases fl with
    | ret obj =>
      obtain ⟨rfl, rfl⟩ := hr
      generalize hG : s.heap.push { cls := .type "set", dict := none, data := .set #[] 0 (.fresh 0 0 (!w.params.followText "set-order")) } = G1
      have new : G1.get? s.heap.objs.size = some { cls := .type "set", dict := none, data := .set #[] 0 (.fresh 0 0 (!w.params.followText "set-order")) } := by rw [← hG]; exact Heap.get?_push_size _ rfl
      have keepG : ∀ b o, s.heap.get? b = some o → G1.get? b = some o := fun b o e => by rw [← hG]; exact Heap.get?_push_of_some _ e
      have sizeG : G1.objs.size = s.heap.objs.size + 1 := by rw [← hG]; exact Heap.size_push ..
      have tyS : Shared.TypeIs { s with heap := G1 } (.ref s.heap.objs.size) "set" := ⟨_, new, rfl⟩
      have hli := F.called_set.init.lookup
      have hbi := F.called_set.init.bind (.ref s.heap.objs.size)
      repeat (any_goals (first | assumption | wp_step))
      refine codeAny_mono (codeAny_call_builtin (R := wants (fun r s₂ => r = .none ∧ ∃ h' tk c, s₂ = { s with heap := h', toks := tk } ∧ TS w h' s.heap.objs.size (fun j => decide (j ∈ xs)) c ∧ c ≤ xs.length ∧
          (∀ b o, s.heap.get? b = some o → h'.get? b = some o)) E) F.called_set.init.plain F.entry_set_init (check_set_init_1 tyS ?_)) fun r₂ s₂ hr₂ => ?_
      · obtain ⟨⟨ocls, odict, odata, oslots⟩, hol, hcl, nl, hdl⟩ := hl
        simp only at hcl hdl
        subst hcl; subst hdl
        have hol' := keepG _ _ hol
        have hsls := F.sub_list_set
        have hslf := F.sub_list_frozenset
        have hne : (Value.type "list" == Value.type "dict") = false := by decide
        have isl : G1.IsList l items := ⟨_, hol', rfl, nl, rfl⟩
        unfold Builtin.«set.__init__» noKeywords Builtin.Frozenset.updateFrom
        generalize hPI : pyIter = PI
        wp_walk
        subst hPI
        refine wpAny_pyIter_list isl (wpAny_bind (wpAny_runValue ?_))
        have before : l < s.heap.objs.size := Heap.lt_size hol
        have hh3 : A.in1.in1.in1.handled = none := by simp [hh]
        have apart : l ≠ G1.objs.size := Nat.ne_of_lt (by rw [sizeG]; exact Nat.lt_succ_of_lt before)
        have apart2 : s.heap.objs.size ≠ G1.objs.size := Nat.ne_of_lt (by rw [sizeG]; exact Nat.lt_succ_self _)
        have off : s.heap.objs.size ∉ [G1.objs.size, l] := by
          simp only [List.mem_cons, List.not_mem_nil, or_false, not_or]
          exact ⟨apart2, Nat.ne_of_gt before⟩
        have hval : ∀ (i : Nat) (v : Value), items[i]? = some v → ∃ k t, xs[i]? = some k ∧ v = .str k t := fun i v hv => by
          have hi : i < xs.length := by rw [← number]; exact (Array.getElem?_eq_some_iff.mp hv).1
          obtain ⟨t, e⟩ := SS.strs_at hit i v (by rw [Array.getElem?_toList]; exact hv)
          refine ⟨xs[i], t, List.getElem?_eq_getElem hi, ?_⟩
          rw [e, List.getD_eq_getElem?_getD, List.getElem?_eq_getElem hi] <;> rfl
        refine each_text ((Walks.list hh3 _ l apart items).toS) s.heap.objs.size off xs number hb hval (items.size - 0) 0 _ (by omega) (Nat.zero_le _)
          ⟨⟨_, Heap.get?_push_size _ rfl, rfl, rfl⟩, (isl.push _)⟩ ⟨0, Nat.le_refl 0, fresh_at (Heap.get?_push_of_some _ new)⟩ ?_
        rintro ⟨h', g2, d', tk', os'⟩ c' hm hc' T
        obtain rfl : g2 = s.gens := hm.gens
        obtain rfl : d' = s.drawn := hm.drawn
        obtain rfl : os' = s.os := hm.os
        show wpAny _ _ _ _ _ _
        refine wpAny_pure ?_
        show wpAny _ _ (ret Value.none) _ _ _
        rw [number] at hc'
        refine wpAny_pure ⟨rfl, h', tk', c', rfl, T, hc', fun b o e => ?_⟩
        have hb0 : b < s.heap.objs.size := Heap.lt_size e
        exact hm.heap b o (by simp only [List.mem_cons, List.not_mem_nil, or_false, not_or]; exact ⟨Nat.ne_of_lt hb0, Nat.ne_of_lt (by rw [sizeG]; exact Nat.lt_succ_of_lt hb0)⟩) (Heap.get?_push_of_some _ (keepG _ _ e))
      · cases r₂ with
        | error e => exact hr₂
        | ok fl₂ =>
          cases fl₂ with
          | ret r =>
            obtain ⟨rfl, h', tk, c', rfl, T, hc', hk'⟩ := hr₂
            repeat (any_goals (first | assumption | wp_step))
            exact h _ _ _ T hc' hk'
          | _ => exact hr₂.elim
    | _ => exact hr.elim
/-- sorted(found), a set of texts -/
theorem sorted_texts {Q : Value → Shared → Prop} (R : TS w s.heap a S n) (hh : A.handled = none)
    (hQ : ∀ s' p (out : Array Value) (c : Nat) (ys : List Str), (∀ b o, s.heap.get? b = some o → s'.heap.get? b = some o) → s'.gens = s.gens → s'.os = s.os → s.heap.objs.size ≤ p →
      s'.heap.get? p = some (seqObj "list" out c) → StrsAre out.toList ys → sortedS ys = true → ys.Nodup → (∀ k, k ∈ ys ↔ S k = true) → ys.length = n → Q (.ref p) s') :
    wpAny (model P w) A (call (.builtin "sorted") [.ref a]) Q E s := by
  obtain ⟨o, es, ep, t, T⟩ := R
  refine Calls.call_function_entry kind_sorted plain_sorted entry_sorted (args_sorted1 _) ?_
  unfold Builtin.«sorted»
  refine wpAny_bind (m := checkCount "sorted" 1 1 _) (wpAny_pure ?_)
  refine wpAny_bind (collect_set (A := A.in1) hh ⟨o, T.ob, T.ex.1, T.dt⟩ T.fit T.few T.ris T.led fun s1 vs k1 hz g1 o1 pm => ?_)
  have many : vs.length = n := by rw [pm.length_eq, List.length_map, Array.length_toList]; exact T.num
  have few : vs.length ≤ sizeLine := by
    have q := T.few
    rw [many, ← T.num, sizeLine_eq]
    unfold scanBound at q
    omega
  have texts : StrsAre vs (vs.map strOf) := strsAre_map vs fun v hv => by
    obtain ⟨e, he, q⟩ := List.mem_map.mp (pm.mem_iff.mp hv)
    obtain ⟨k, tk, h1, _⟩ := T.good e he
    exact ⟨k, tk, by rw [← q]; exact h1⟩
  have keys : (vs.map strOf).Perm (es.toList.map txt) := by
    have q := pm.map strOf
    rw [List.map_map] at q
    exact q
  refine wpAny_bind (wpAny_newList ?_ few)
  have at1 : (s1.heap.push (seqObj "list" vs.toArray 0)).get? s1.heap.objs.size = some (seqObj "list" vs.toArray 0) := Heap.get?_push_size _ rfl
  refine wpAny_bind (wpAny_holding (wpAny_call_entry slot_list_sort ⟨_, at1, rfl⟩ entry_list_sort (list_sort_treeKAny strKind_oneLt at1 texts.keysOf (fun v₁ v₂ rest e => keyKind_strs (by rw [← e]; exact texts)) few fun st hp hs => ?_) (args_list_sort _)))
  obtain ⟨ys, a1, a2, a3⟩ := sorted_out_str texts hp hs
  refine ⟨_, rfl, ?_⟩
  obtain ⟨c, hc⟩ := sortedHeap_at (vs := vs) (out := (arrOf st).map (·.2)) at1
  have perm : ys.Perm (es.toList.map txt) := a2.trans keys
  refine wpAny_pure ⟨_, rfl, hQ _ s1.heap.objs.size _ c ys (fun b u e => ?_) g1 o1 hz hc a1 a3 (perm.nodup_iff.mpr T.nd) (fun k => by rw [perm.mem_iff, ← T.mem k]) ?_⟩
  · have q := k1 b u e
    have lt := Heap.lt_size q
    show (sortedHeap (s1.heap.push (seqObj "list" vs.toArray 0)) s1.heap.objs.size vs _).get? b = some u
    rw [sortedHeap_old (Nat.ne_of_lt lt) (by rw [size_push']; exact Nat.lt_succ_of_lt lt)]
    exact Heap.get?_push_of_some _ q
  · rw [perm.length_eq, List.length_map, Array.length_toList]; exact T.num
end
end DL.TX

/-! DL9: further rules: len of anything, -x, dict displays, texts walked, enumerate, sorted(set(xs)), is of truth values. -/
namespace DL
open PySem PySem.Spec L2

/-- the built-in names stand as they are -/
structure Bi (mg : Str → Option Value) : Prop where
  len : mg "len" = none
  range : mg "range" = none
  isinstance : mg "isinstance" = none
  all : mg "all" = none
  any : mg "any" = none
  sum : mg "sum" = none
  tuple : mg "tuple" = none
  list : mg "list" = none
  sorted : mg "sorted" = none
  set : mg "set" = none
  abs : mg "abs" = none
  int : mg "int" = none
  enumerate : mg "enumerate" = none
  bool : mg "bool" = none
  str : mg "str" = none
  dict : mg "dict" = none
  min : mg "min" = none
  max : mg "max" = none
  ord : mg "ord" = none
section
variable {X : Cx} {e a b : Expr} {t ta tb : DE} {p pos : Pos}
/-! ### len -/
theorem call_lenA : CallR X (.builtin "len") (fun xs H Q => (∃ x n, xs = [x] ∧ LenV X.K x H n ∧ Q (.int n) H) ∨ ∃ a kvs, xs = [V.ref a] ∧ H a = some (.dK kvs) ∧ Q (.int kvs.length) H) := CallR.or call_len call_lenD
def rLenA : DC := fun ds G Q => match ds with
  | [x] => (match dictOf G x with | some kvs => Q (.int kvs.length) G | none => rLen [x] G Q)
  | _ => False
theorem cd_lenA {K : PySem.W.Frag} : CallD K (fun xs H Q => (∃ x n, xs = [x] ∧ LenV K x H n ∧ Q (.int n) H) ∨ ∃ a kvs, xs = [V.ref a] ∧ H a = some (.dK kvs) ∧ Q (.int kvs.length) H) rLenA := by
  intro F H G ds vs Qd Q rs hg h k
  unfold rLenA at h
  split at h
  · split at h
    · rename_i kvs e
      cases rs with
      | cons r t =>
        cases t
        obtain ⟨hl, a, ks, rfl, h1, h2⟩ := dict_rep r hg e
        exact .inr ⟨a, ks, rfl, h1, by rw [← h2.length]; exact k.here (.int _) hg h⟩
    · exact .inl (cd_len F H G _ vs Qd Q rs hg h k)
  · exact h.elim
/-! ### -x -/
def wNeg (t : DE) : DE := fun σ G Q => t σ G fun x G1 => match x with | .int i => Q (.int (-i)) G1 | _ => False
theorem de_neg (h : PE X e (lift X.K t)) : PE X (.UnaryOp .USub e pos) (lift X.K (wNeg t)) :=
  PE.weak (pe_un un_neg h) fun σ H Q ⟨F, σd, G, Qd, hs, hg, h, k⟩ => lift_bind hs hg h fun F1 x G1 v H1 s1 hs1 r1 g1 q1 => by
    cases r1 with
    | int i => exact ⟨i, rfl, (k.go s1).here (.int _) g1 q1⟩
    | _ => exact (show False from q1).elim
/-! ### is True, is False -/
def rIsBl (neg : Bool) : DR2 := fun x y G Q => match x, y with | .bl i, .bl j => Q (.bl (neg ^^ decide (i = j))) G | _, _ => False
theorem od_isBl {K : PySem.W.Frag} : OpD K rIsB (rIsBl false) := by
  intro F H G x y v w Qd Q rx ry hg h k
  cases rx <;> cases ry <;> first | exact (show False from h).elim | exact ⟨_, _, rfl, rfl, k.here (.bl _) hg (by simpa [rIsBl] using h)⟩
theorem od_notBl {K : PySem.W.Frag} : OpD K rNotB (rIsBl true) := by
  intro F H G x y v w Qd Q rx ry hg h k
  cases rx <;> cases ry <;> first | exact (show False from h).elim | exact ⟨_, _, rfl, rfl, k.here (.bl _) hg (by simpa [rIsBl] using h)⟩
/-! ### a text, sign by sign -/
def signs (x : Str) : List D := x.cps.toList.map fun c => D.str ⟨#[c]⟩
def wIStr (te : DE) : DI := fun σ G Q => te σ G fun x G1 => match x with | .str z => Q (signs z) (fun _ => True) G1 | _ => False
/-! ### sorted(set(xs)), xs a list of texts -/
def strsOf : List D → Option (List Str)
  | [] => some []
  | .str x :: r => (strsOf r).map (x :: ·)
  | _ => none
theorem strsOf_map (ns : List Str) : strsOf (ns.map D.str) = some ns := by
  induction ns with
  | nil => rfl
  | cons n ns ih => simp [strsOf, ih]
theorem strsOf_rep {K : PySem.W.Frag} {H : Hp} {F : FP} : ∀ {ds : List D} {vs : List V} {ns : List Str}, Reps K H F ds vs → strsOf ds = some ns → vs = ns.map V.str ∧ ∀ x ∈ ns, x.length ≤ sizeLine
  | _, _, _, .nil, e => by cases e; exact ⟨rfl, fun x h => by simp at h⟩
  | _, _, _, .cons (d := d) (ds := ds) r t, e => by
    cases r with
    | str i hi =>
      simp only [strsOf] at e
      cases q : strsOf ds with
      | none => rw [q] at e; cases e
      | some ms =>
        rw [q] at e; cases e
        obtain ⟨h1, h2⟩ := strsOf_rep t q
        refine ⟨by rw [h1]; rfl, fun x hx => ?_⟩
        rcases List.mem_cons.mp hx with z | z
        · rw [z]; exact hi
        · exact h2 x z
    | _ => cases e
theorem Reps.of_strs {K : PySem.W.Frag} {H : Hp} {F : FP} : ∀ (ns : List Str), (∀ x ∈ ns, x.length ≤ sizeLine) → Reps K H F (ns.map D.str) (ns.map V.str)
  | [], _ => .nil
  | n :: ns, h => .cons (.str n (h n List.mem_cons_self)) (Reps.of_strs ns fun x hx => h x (List.mem_cons_of_mem _ hx))
/-- the texts of a list, each once, rising -/
def wSortSet (t : DE) : DE := fun σ G Q => t σ G fun x G1 => ∃ xs ns, listOf G1 x = some xs ∧ strsOf xs = some ns ∧ ns.length + 1 < 4096 ∧ ∀ ys : List Str, PyProof.Rows.sortedS ys = true → ys.Nodup → (∀ k, k ∈ ys ↔ k ∈ ns) → ys.length ≤ ns.length → Q (.lst (ys.map D.str)) G1
theorem de_sortSet {p2 q : Pos} (hc : X.calm = true) (hg : Gl X "sorted") (hm : X.mg "sorted" = none) (hg2 : Gl X "set") (hm2 : X.mg "set" = none) (ha : PE X a (lift X.K ta))
    (na : starEach [a] X.env = (false, eval a X.env) :: starEach [] X.env := by rfl) (nb : starEach [Expr.Call (.Name "set" p2) [a] [] q] X.env = (false, eval (Expr.Call (.Name "set" p2) [a] [] q) X.env) :: starEach [] X.env := by rfl)
    (pl1 : (backTo q (starEach [] X.env)).any (·.1) = false := by rfl) (pl2 : (backTo pos (starEach [] X.env)).any (·.1) = false := by rfl) :
    PE X (.Call (.Name "sorted" p) [.Call (.Name "set" p2) [a] [] q] [] pos) (lift X.K (wSortSet ta)) := by
  -- set(xs) as a value: an object that is not tracked is enough, so both calls at once
  let T : TE := fun σ H Q => lift X.K ta σ H fun x H1 => ∃ (l : Addr) (ns : List Str), x = .ref l ∧ H1 l = some (.lst (ns.map V.str)) ∧ ns.length + 1 < 4096 ∧
    ∀ (ys : List Str) (p : Addr), PyProof.Rows.sortedS ys = true → ys.Nodup → (∀ k, k ∈ ys ↔ k ∈ ns) → ys.length ≤ ns.length → H1 p = none → Q (.ref p) (upd H1 p (.lst (ys.map V.str)))
  have low : PE X (.Call (.Name "sorted" p) [.Call (.Name "set" p2) [a] [] q] [] pos) T := by
    refine ⟨fun pins s σ H Q I h => ?_⟩
    refine PyProof.Rows.Call_ (ld_blt I hg hm PyProof.Rows.boot_sorted ?_)
    refine PyProof.Rows.callWith_builtin1 (PyProof.Rows.args_cons ?_ nb) nb rfl
    refine PyProof.Rows.Call_ (ld_blt I hg2 hm2 PyProof.Rows.boot_set ?_)
    refine PyProof.Rows.callWith_type1 (PyProof.Rows.args_cons (thn (ha.run pins s σ H _ I h) fun v s1 ⟨x, H1, I1, r1, l, ns, ex, hl, few, q1⟩ => PyProof.Rows.args_nil ?_) na) na pl1
    subst ex
    cases r1
    obtain ⟨its, rv, pl, hz⟩ := I1.list (SqL.of hl)
    refine TX.set_of_texts ns (I1.ok.hd hc) pl.isList (by simpa using rv.strs) (by unfold scanBound; exact few) fun h' tk c ts hc' keep => ?_
    refine PyProof.Rows.args_nil ?_
    have I2 : Inv X pins σ H1 { s1 with heap := h', toks := tk } := I1.kept keep
    refine TX.sorted_texts (s := { s1 with heap := h', toks := tk }) ts (I2.ok.hd hc) fun s' p out cc ys keep2 g o hp hgp hi hs nd hmem hlen => ?_
    have hsz : (ys.map V.str).length ≤ sizeLine := by rw [List.length_map, sizeLine_eq]; omega
    have hn : H1 p = none := I2.hok.fresh hp
    have J := Inv.call (ch := []) (h' := s'.heap) (g' := s'.gens) (d' := s'.drawn) (t' := s'.toks) (H' := upd H1 p (.lst (ys.map V.str))) I2 (Un.laid keep2 hp hn) (I2.hok.laid keep2 hp ⟨hsz, out.toList, cc, vals_of_strs hi, hgp⟩) (by rw [g]; exact I1.bare) (fun _ z => nomatch z)
    have e : s' = { s1 with heap := s'.heap, gens := s'.gens, drawn := s'.drawn, toks := s'.toks } := by
      cases s'
      cases s1
      cases o
      rfl
    rw [e]
    exact ⟨.ref p, _, J, rfl, q1 ys p hs nd (fun k => (hmem k).trans decide_eq_true_iff) (by omega) hn⟩
  refine PE.weak low fun σ H Q ⟨F, σd, G, Qd, hs, hg, h, k⟩ => ?_
  refine lift_bind hs hg h fun F1 x G1 v H1 s1 hs1 r1 g1 q1 => ?_
  obtain ⟨xs, ns, e1, e2, few, q1⟩ := q1
  obtain ⟨hl, l, ws, rfl, h1, r2⟩ := list_rep r1 g1 e1
  obtain ⟨rfl, hb⟩ := strsOf_rep r2 e2
  refine ⟨l, ns, rfl, h1, few, fun ys p a1 a2 a3 a4 hp => ?_⟩
  exact (k.go s1).lst g1 (by rw [List.length_map, sizeLine_eq]; omega) (Reps.of_strs ys fun x hx => hb x ((a3 x).1 hx)) (q1 ys a1 a2 a3 a4) p hp
end
end DL

/-! DLE: enumerate of a tuple. -/
namespace DL.EN
open PySem PySem.Spec L2
open PySem.AutoSeq1 (wpAny_loadPart')

theorem new_of_tuple (l : Addr) (items : Array Value) (n : Nat) (dct : Option Addr) (sl : Array (Option Value)) :
    Meets (Builtin.«enumerate.__new__» ⟨[.type "enumerate", .ref l], []⟩) (fun _ R s => s.heap.get? l = some { cls := .type "tuple", dict := dct, data := .seq items n, slots := sl } ∧
      R (.ok (.ret (.ref (s.heap.push { cls := .type "tuple_iterator", data := .fields #[.ref l, .int 0 0] }).objs.size)))
        { s with heap := (s.heap.push { cls := .type "tuple_iterator", data := .fields #[.ref l, .int 0 0] }).push { cls := .type "enumerate", data := .fields #[.none, .bool false, .ref s.heap.objs.size, rawInt 0, .none, .none] } }) :=
  .of_wp fun prog w A R s h => by
    obtain ⟨hp, g, d, tk, os⟩ := s
    obtain ⟨ht, h⟩ := h
    have hsub := sub_enumerate
    have isT : Heap.IsTuple (Shared.heap ⟨hp, g, d, tk, os⟩) l items := ⟨_, ht, rfl, n, rfl⟩
    wp_walk using wpAny_loadPart' ht
    refine wpAny_stack_any fun st => wpAny_pure ?_
    split
    · rename_i c _ _ _ _ _
      cases (c == Value.type "enumerate") <;>
      · wp_walk using wpAny_loadPart' ht, wpAny_pyIter_tuple isT
        exact ⟨_, rfl, h⟩
    · wp_walk using wpAny_loadPart' ht, wpAny_pyIter_tuple isT
      exact ⟨_, rfl, h⟩
section
variable {prog : Program} {w : World} {A : Around} {E : Value → Shared → Prop} {s : Shared}
theorem call_of_tuple {l : Addr} {items : Array Value} {Q : Value → Shared → Prop} (hL : s.heap.IsTuple l items)
    (h : ∀ h', IsEnum h' (s.heap.objs.size + 1) s.heap.objs.size 0 .none → h'.IsTupleIter s.heap.objs.size l 0 → h'.objs.size = s.heap.objs.size + 2 →
      (∀ b o, s.heap.get? b = some o → h'.get? b = some o) → Q (.ref (s.heap.objs.size + 1)) { s with heap := h' }) :
    wpAny (model prog w) A (call (.type "enumerate") [.ref l]) Q E s := by
  obtain ⟨⟨c, dct, dt, sl⟩, hl, hc, n, hd⟩ := hL
  obtain rfl : c = .type "tuple" := hc
  obtain rfl : dt = .seq items n := hd
  refine callType_new F.called_enumerate (by decide) (F.typeCall_enumerate_1 _) (F.newCall_enumerate_1 _) (fun obj => F.args_object_init_2 obj _) F.entry_enumerate_new (new_of_tuple l items n dct sl) ⟨hl, ?_⟩
  have hz : (s.heap.push { cls := .type "tuple_iterator", data := .fields #[.ref l, .int 0 0] }).objs.size = s.heap.objs.size + 1 := Heap.size_push ..
  show _ ∧ _
  rw [hz]
  have he : IsEnum ((s.heap.push { cls := .type "tuple_iterator", data := .fields #[.ref l, .int 0 0] }).push
      { cls := .type "enumerate", data := .fields #[.none, .bool false, .ref s.heap.objs.size, rawInt 0, .none, .none] }) (s.heap.objs.size + 1) s.heap.objs.size 0 .none := by
    have q := Heap.get?_push_size (s.heap.push { cls := .type "tuple_iterator", data := .fields #[.ref l, .int 0 0] })
      (o := { cls := .type "enumerate", data := .fields #[.none, .bool false, .ref s.heap.objs.size, rawInt 0, .none, .none] }) rfl
    rw [hz] at q
    exact q
  exact ⟨⟨_, he, rfl⟩, h _ he ⟨_, Heap.get?_push_of_some _ (Heap.get?_push_size _ rfl), rfl, rfl⟩ (by rw [Heap.size_push, hz]) fun b o x => Heap.get?_push_of_some _ (Heap.get?_push_of_some _ x)⟩
end
/-- the tuple at a, each item in a new pair -/
def Itet (K : PySem.W.Frag) (a : Addr) : It :=
  ⟨fun i H => ∃ (xs : List V) (x : V), SqT K H a xs ∧ xs[i]? = some x, fun i H v H' => ∃ T x, v = .ref T ∧ H T = none ∧ H' = upd H T (.tup [.int (i : Nat), x]) ∧ ∀ xs, SqT K H a xs → xs[i]? = some x, fun i H => ∃ xs : List V, SqT K H a xs ∧ xs.length = i⟩
theorem turn_enumT {P : Program} {w : World} {K : PySem.W.Frag} {elts : List Expr} {kk : Nat} {tpos : Pos} (a e it : Addr) :
    Turn P w K (.Tuple elts kk tpos) (Itet K a) [e, it] e (fun i h => (∃ old, IsEnum h e it ((i : Nat) : Int) old) ∧ h.IsTupleIter it a i ∧ e ≠ it ∧ a ≠ it) where
  mem := by simp
  obj := fun i h st b hb => by
    obtain ⟨⟨old, he⟩, ⟨o, ho, hc, hd⟩, _⟩ := st
    have e' : b = e ∨ b = it := by simpa using hb
    rcases e' with z | z
    · rw [z]; exact ⟨_, he, fun v q => nomatch q⟩
    · rw [z]; exact ⟨o, ho, fun v q => by rw [hd] at q; cases q⟩
  keep := fun i h h' st k => let ⟨⟨old, he⟩, hi, hne⟩ := st; ⟨⟨old, k e (by simp) _ he⟩, hi.at fun o q => k it (by simp) o q, hne⟩
  item := by
    intro X hP hw hK hc i pins s σ H E I hf st hg
    subst hP hw hK
    obtain ⟨⟨old, he⟩, hit, hne, hai⟩ := st
    obtain ⟨xs, x, hq, hx⟩ := hg
    obtain ⟨its, rv, p, hz⟩ := I.tuple hq
    obtain ⟨u, hu, ru⟩ := rv.get hx
    have hlt : i < its.toArray.size := by
      have := (List.getElem?_eq_some_iff.mp hu).1
      simpa using this
    have elt : e < s.heap.objs.size := Heap.lt_size he
    have ilt : it < s.heap.objs.size := by obtain ⟨_, q, _⟩ := hit; exact Heap.lt_size q
    have hea : e ≠ a := by
      rintro rfl
      obtain ⟨o, ho, hc', _⟩ := p
      rw [he] at ho; cases ho
      exact absurd (Value.type.inj hc') (by decide)
    refine wpAny_pyNext_enum_itemD (Draws.tuple (A := X.A.in1) (show X.A.in1.handled = none from I.ok.hd hc) it a hai its.toArray) he ⟨hit, p⟩ hlt hne (by simp [hne, hea]) fun y h' tk hP ho hst' hT hsz hk => ?_
    obtain rfl : u = y := by
      have q : its.toArray[i]? = some y := hP
      rw [show its.toArray[i]? = its[i]? by simp, hu] at q
      exact Option.some.inj q
    refine ⟨_, rfl, wpAny_letOwnedTupleGo_enum (s := { s with heap := h', toks := tk + 1 }) ho fun h'' he' sb => ?_⟩
    have hT2 : h''.get? s.heap.objs.size = some { cls := .type "tuple", data := .seq #[.int i tk, u] } := (sb.2 _ (Nat.ne_of_gt elt)).trans hT
    have new : ObjOk X.prog X.w (upd H s.heap.objs.size (.tup [.int (i : Nat), x])) h'' s.heap.objs.size (.tup [.int (i : Nat), x]) :=
      ⟨by show 2 ≤ sizeLine; decide, [.int i tk, u], .cons ⟨_, rfl⟩ (.cons ru .nil), ⟨_, hT2, rfl, _, rfl⟩⟩
    have I1 : L2.Inv X pins σ (upd H s.heap.objs.size (.tup [.int (i : Nat), x])) { s with heap := h'', toks := tk + 1 } :=
      I.turnedNew (ch := [e, it]) (fun b ob hb q => (sb.2 b (fun z => hb (by simp [z]))).trans (hk b ob (fun z => hb (by simp [z])) (fun z => hb (by simp [z])) q)) hf (Nat.le_refl _) new
    refine ⟨.ref s.heap.objs.size, _, I1, rfl, ⟨_, x, rfl, I.hok.fresh (Nat.le_refl _), rfl, fun ys hy => by rw [I.tuple_inj hy hq]; exact hx⟩, ⟨⟨u, ?_⟩, hst'.1.at fun o q => (sb.2 it (Ne.symm hne)).trans q, hne, hai⟩, fun b hb => ?_⟩
    · rw [show ((i + 1 : Nat) : Int) = (i : Int) + 1 by omega]; exact he'
    · have hb' : b < s.heap.objs.size := by
        have e' : b = e ∨ b = it := by simpa using hb
        rcases e' with z | z
        · rw [z]; exact elt
        · rw [z]; exact ilt
      rw [upd_ne (Nat.ne_of_lt hb')]
      exact (hf b hb).1
  done := by
    intro X hP hw hK hc i pins s σ H E I hf st hg
    subst hP hw hK
    obtain ⟨⟨old, he⟩, hit, hne, hai⟩ := st
    obtain ⟨xs, hq, hx⟩ := hg
    obtain ⟨its, rv, p, hz⟩ := I.tuple hq
    obtain ⟨f0, f1, f2, f3, f4, f5⟩ := hf it (by simp)
    have hl := rv.length
    obtain rfl : i = its.toArray.size := by rw [List.size_toArray]; omega
    exact wpAny_pyNext_enum_endD (Draws.tuple (A := X.A.in1) (show X.A.in1.handled = none from I.ok.hd hc) it a hai its.toArray) he ⟨hit, p⟩ fun h' eb => ⟨rfl, I.turned (t' := s.toks) (fun b o hb q => eb b o hb q) f0 f1 f3 f4 f5⟩
  self := fun A i s Q E st h => let ⟨⟨_, he⟩, _⟩ := st; wpAny_pyIter_enum he h
def iEnumT (K : PySem.W.Frag) (ta : TE) : TI := fun σ H R => ta σ H fun v H1 => ∃ a xs, v = .ref a ∧ SqT K H1 a xs ∧ R (Itet K a) H1
theorem pi_enumT {X : Cx} {e : Expr} {ta : TE} {p pos tpos : Pos} {elts : List Expr} {kk : Nat} (hg : Gl X "enumerate") (hm : X.mg "enumerate" = none) (ha : PE X e ta) (hs : starEach [e] X.env = [(false, eval e X.env)] := by rfl) :
    PI X (.Tuple elts kk tpos) (.Call (.Name "enumerate" p) [e] [] pos) (iEnumT X.K ta) := by
  refine ⟨fun pins s σ H R I h => ?_⟩
  refine PyProof.Rows.Call_ (ld_blt I hg hm PyProof.Rows.boot_enumerate (PyProof.Rows.callWith_type1 (PyProof.Rows.args_cons (thn (ha.run pins s σ H _ I h) fun u s1 ⟨v, H1, I1, r1, a, xs, ev, hq, q⟩ => PyProof.Rows.args_nil ?_) hs) hs rfl))
  subst ev
  cases r1
  obtain ⟨its, rv, isT, hz⟩ := I1.tuple hq
  have lta : a < s1.heap.objs.size := by obtain ⟨o, ho, _⟩ := isT; exact Heap.lt_size ho
  refine call_of_tuple isT fun h' he hit hsz hk => wpAny_pyIter_enum he ?_
  have I2 : L2.Inv X pins σ H1 { s1 with heap := h' } := I1.kept (t' := s1.toks) hk
  refine ⟨s1.heap.objs.size + 1, [s1.heap.objs.size + 1, s1.heap.objs.size], _, _, H1, rfl, I2, turn_enumT a (s1.heap.objs.size + 1) s1.heap.objs.size, ⟨⟨.none, he⟩, hit, Nat.succ_ne_self _, Nat.ne_of_lt lta⟩, fun b hb => ?_, q⟩
  have hle : s1.heap.objs.size ≤ b := by
    have e' : b = s1.heap.objs.size + 1 ∨ b = s1.heap.objs.size := by simpa using hb
    rcases e' with z | z
    · rw [z]; exact Nat.le_add_right _ _
    · rw [z]; exact Nat.le_refl _
  exact I1.fpOk hle (I1.hok.fresh hle)
end DL.EN

/-! DL10: texts walked, enumerate, dict displays, t[::-1], == of a tuple and (). -/
namespace DL
open PySem PySem.Spec L2

section
variable {X : Cx} {tg e a b : Expr} {t ta tb : DE} {p pos : Pos}
theorem di_str (he : PE X e (lift X.K t)) : PI X tg e (liftI X.K (wIStr t)) :=
  PI.weak (pi_str he) fun σ H R ⟨F, σd, G, Qd, hs, hg, h, k⟩ => lift_bind hs hg h fun F1 x G1 v H1 s1 hs1 r1 g1 q1 => by
    cases r1 with
    | str z hz =>
      have sz : (signs z).length = z.cps.size := by simp [signs]
      refine ⟨z, rfl, k F1 (signs z) _ G1 _ H1 s1 ⟨fun F2 H2 G2 s2 g2 c2 => ?_, fun i d F2 H2 G2 e2 s2 g2 c2 => ?_⟩ g1 q1⟩
      · show z.cps.size ≤ (signs z).length
        rw [sz]; exact Nat.le_refl _
      · have hi : i < z.cps.size := by rw [← sz]; exact (List.getElem?_eq_some_iff.mp e2).1
        refine ⟨hi, fun x H3 y => ?_⟩
        obtain ⟨rfl, c, hc, rfl⟩ := y
        unfold signs at e2
        rw [List.getElem?_map, Array.getElem?_toList, hc] at e2
        cases e2
        exact ⟨.refl, .str _ (by show 1 ≤ sizeLine; decide), g2⟩
    | _ => exact (show False from q1).elim
/-- pairs (number, item) -/
def pairsFrom : Nat → List D → List D
  | _, [] => []
  | i, d :: ds => .tup [.int (i : Nat), d] :: pairsFrom (i + 1) ds
theorem pairs_get : ∀ (ds : List D) (i j : Nat), (pairsFrom i ds)[j]? = (ds[j]?).map fun d => .tup [.int ((i + j : Nat) : Int), d]
  | [], i, j => by simp [pairsFrom]
  | d :: ds, i, 0 => by simp [pairsFrom]
  | d :: ds, i, j + 1 => by
    simp only [pairsFrom, List.getElem?_cons_succ, pairs_get ds (i + 1) j]
    rw [show i + 1 + j = i + (j + 1) by omega]
theorem pairs_length : ∀ (ds : List D) (i : Nat), (pairsFrom i ds).length = ds.length
  | [], i => rfl
  | d :: ds, i => by simp [pairsFrom, pairs_length ds (i + 1)]
/-- enumerate(t), t a tuple -/
def wIEnum (te : DE) : DI := fun σ G Q => te σ G fun x G1 => match x with | .tup ds => Q (pairsFrom 0 ds) (fun _ => True) G1 | _ => False
theorem di_enum {elts : List Expr} {kk : Nat} {tpos : Pos} (hg : Gl X "enumerate") (hm : X.mg "enumerate" = none) (ha : PE X e (lift X.K t)) (hs : starEach [e] X.env = [(false, eval e X.env)] := by rfl) :
    PI X (.Tuple elts kk tpos) (.Call (.Name "enumerate" p) [e] [] pos) (liftI X.K (wIEnum t)) :=
  PI.weak (EN.pi_enumT hg hm ha hs) fun σ H R ⟨F, σd, G, Qd, hs, hg, h, k⟩ => lift_bind hs hg h fun F1 x G1 v H1 s1 hs1 r1 g1 q1 => by
    cases r1 with
    | @tup a vs ds hq hl r =>
      refine ⟨a, vs, rfl, hq, k F1 _ _ G1 _ H1 s1 ⟨fun F2 H2 G2 s2 g2 c2 => ?_, fun i d F2 H2 G2 e2 s2 g2 c2 => ?_⟩ g1 q1⟩
      · exact ⟨vs, s2.tup _ _ hq, by rw [pairs_length, r.length]⟩
      · rw [pairs_get, Nat.zero_add] at e2
        cases e3 : ds[i]? with
        | none => rw [e3] at e2; cases e2
        | some y =>
          rw [e3] at e2
          cases e2
          obtain ⟨u, e4, r4⟩ := r.get e3
          refine ⟨⟨vs, u, s2.tup _ _ hq, e4⟩, fun x H3 yl => ?_⟩
          obtain ⟨T, z, rfl, hT, rfl, same⟩ := yl
          have q := same vs (s2.tup _ _ hq)
          rw [e4] at q
          cases q
          obtain ⟨nf, s3, g3⟩ := g2.tupled (o := .tup [.int (i : Nat), u]) hT
          exact ⟨s3, .newTup s3 (by show 2 ≤ sizeLine; decide) (.cons (.int _) (.cons (r4.stay s2) .nil)), g3⟩
    | _ => exact (show False from q1).elim

/-! ### dict displays -/
/-- the pairs of a display, from the left -/
abbrev DP := List (DE × DE)
def wPairs : DP → DSt → Gh → (List (D × D) → Gh → Prop) → Prop
  | [], _, G, Q => Q [] G
  | (tk, tv) :: r, σ, G, Q => tk σ G fun x G1 => tv σ G1 fun y G2 => wPairs r σ G2 fun ps G3 => Q ((x, y) :: ps) G3
abbrev wPNil : DP := []
abbrev wPCons (k v : DE) (r : DP) : DP := (k, v) :: r
inductive RepP (K : PySem.W.Frag) (H : Hp) (F : FP) : List (D × D) → List (V × V) → Prop
  | nil : RepP K H F [] []
  | cons {x y : D} {v w : V} {ds : List (D × D)} {vs : List (V × V)} (a : Rep K H F x v) (b : Rep K H F y w) (t : RepP K H F ds vs) : RepP K H F ((x, y) :: ds) ((v, w) :: vs)
def liftP (K : PySem.W.Frag) (t : DP) : List (TE × TE) := t.map fun p => (lift K p.1, lift K p.2)
theorem pairs_lift {K : PySem.W.Frag} : ∀ {t : DP} {σd : DSt} {σ : L2.St} {H : Hp} {F : FP} {G : Gh} {Qd : List (D × D) → Gh → Prop} {Q : List (V × V) → Hp → Prop}, RelSt K H F σd σ → RelG K H F G → wPairs t σd G Qd →
    Kt K (RepP K) H F Qd Q → tPairs (liftP K t) σ H Q
  | [], _, _, _, _, _, _, _, hs, hg, h, k => k.here .nil hg h
  | (tk, tv) :: r, _, _, _, _, _, _, _, hs, hg, h, k => lift_bind hs hg h fun F1 x G1 v H1 s1 hs1 r1 g1 q1 => lift_bind hs1 g1 q1 fun F2 y G2 w H2 s2 hs2 r2 g2 q2 =>
    pairs_lift hs2 g2 q2 fun F3 ps G3 vs H3 s3 r3 g3 q3 => k _ _ _ _ _ ((s1.trans s2).trans s3) (.cons ((r1.stay s2).stay s3) (r2.stay s3) r3) g3 q3
theorem dp_nil {pos : Pos} : PPs X pos [] [] (liftP X.K wPNil) := pps_nil
theorem dp_cons {pos : Pos} {k v : Expr} {ks : List (Option Expr)} {vs : List Expr} {r : DP} (hk : PE X k (lift X.K ta)) (hv : PE X v (lift X.K tb)) (hr : PPs X pos ks vs (liftP X.K r)) : PPs X pos (some k :: ks) (v :: vs) (liftP X.K (wPCons ta tb r)) := pps_cons hk hv hr
def keyed : List (D × D) → Option (List (Key × D))
  | [] => some []
  | (k, v) :: r => match keyOf k with | some kk => (keyed r).map ((kk, v) :: ·) | none => none
def mergeD (kvs more : List (Key × D)) : List (Key × D) := more.foldl (fun acc kv => putD acc kv.1 kv.2) kvs
theorem keyed_rep {K : PySem.W.Frag} {H : Hp} {F : FP} : ∀ {ps : List (D × D)} {vs : List (V × V)} {kvs : List (Key × D)}, RepP K H F ps vs → keyed ps = some kvs → ∃ ks : List (Key × V), vs = ks.map (fun kv => (kV kv.1, kv.2)) ∧ RepK K H F kvs ks
  | _, _, _, .nil, e => by cases e; exact ⟨[], rfl, .nil⟩
  | _, _, _, .cons (x := x) (y := y) (ds := ds) (w := w) a b t, e => by
    simp only [keyed] at e
    cases e1 : keyOf x with
    | none => rw [e1] at e; cases e
    | some kk =>
      rw [e1] at e
      cases e2 : keyed ds with
      | none => rw [e2] at e; cases e
      | some r =>
        rw [e2] at e
        cases e
        obtain ⟨ks, h1, h2⟩ := keyed_rep t e2
        have h3 := key_rep a e1
        subst h3
        exact ⟨(kk, w) :: ks, by rw [h1]; rfl, .cons b h2⟩
theorem merge_rep {K : PySem.W.Frag} {H : Hp} {F : FP} {more : List (Key × D)} : ∀ {mv : List (Key × V)} {kvs : List (Key × D)} {ks : List (Key × V)}, RepK K H F more mv → RepK K H F kvs ks → RepK K H F (mergeD kvs more) (mergeK ks mv) := by
  induction more with
  | nil => intro mv kvs ks q r; cases q; exact r
  | cons p t ih => intro mv kvs ks q r; cases q with | @cons k d v _ vs a t' => exact (show RepK K H F (mergeD (putD kvs k d) t) (mergeK (putK ks k v) vs) from ih t' (RepK.put a k r))
theorem mergeD_length : ∀ (more kvs : List (Key × D)), (mergeD kvs more).length ≤ kvs.length + more.length
  | [], kvs => by show kvs.length ≤ kvs.length + 0; omega
  | p :: r, kvs => by
    have h1 := mergeD_length r (putD kvs p.1 p.2)
    have h2 := putD_length kvs p.1 p.2
    show (mergeD (putD kvs p.1 p.2) r).length ≤ _
    rw [List.length_cons]; omega
def wDict (t : DP) : DE := fun σ G Q => wPairs t σ G fun ps G1 => ∃ kvs, keyed ps = some kvs ∧ kvs.length ≤ 15 ∧ ∀ p, G1 p = none → Q (.ref p) (gup G1 p (.dic (mergeD [] kvs)))
def wDictV (t : DP) : DE := fun σ G Q => wPairs t σ G fun ps G1 => ∃ kvs, keyed ps = some kvs ∧ kvs.length ≤ 15 ∧ Q (.dic (mergeD [] kvs)) G1
theorem mergeD_line {kvs : List (Key × D)} (h : kvs.length ≤ 15) : (mergeD [] kvs).length ≤ sizeLine := by
  have h1 := mergeD_length kvs []
  rw [List.length_nil] at h1
  rw [sizeLine_eq]; omega
/-- the new dict is guarded while the pairs are made -/
theorem disp_core {K : PySem.W.Frag} {trs : DP} {Qf : List (Key × D) → Gh → Prop} {σ : L2.St} {H : Hp} {Q : VK}
    (h : ∃ F σd G, RelSt K H F σd σ ∧ RelG K H F G ∧ (wPairs trs σd G fun ps G1 => ∃ kvs, keyed ps = some kvs ∧ kvs.length ≤ 15 ∧ Qf kvs G1) ∧
      ∀ F' G' p H' kvs ks, Stay K H F H' F' → RelG K H' F' G' → H' p = some (.dK (mergeK [] ks)) → ¬ F'.has p → G' p = none → kvs.length ≤ 15 → RepK K H' F' (mergeD [] kvs) (mergeK [] ks) → Qf kvs G' → Q (.ref p) H') :
    tDisp (liftP K trs) σ H Q := by
  obtain ⟨F, σd, G, hs, hg, h, fin⟩ := h
  intro p hp
  obtain ⟨nf, s1, g1⟩ := hg.tupled (o := .dK []) hp
  have gg : RelG K (upd H p (.dK [])) (F.guard p) G := by
    refine g1.keep ⟨fun _ _ h => h, fun _ h => h, fun _ _ => rfl⟩ (fun a q => ?_) (fun a q r => r.elim (g1.dj a q) fun e => nf (.inl (e ▸ q))) fun a o e => ⟨rfl, fun q => ?_⟩
    · rcases q with q | q | q
      · exact g1.fo a (.inl q)
      · exact g1.fo a (.inr q)
      · exact ⟨_, by rw [q]; exact upd_same⟩
    · rcases q with q | q | q
      · exact (g1.g a o e).1 (.inl q)
      · exact (g1.g a o e).1 (.inr q)
      · rw [q, hg.gnone hp] at e; cases e
  have hsg : RelSt K (upd H p (.dK [])) (F.guard p) σd σ := RelSt.stayF (F := F) (F' := F.guard p) ⟨fun _ _ h => h, fun _ h => h, fun _ _ => rfl⟩ (hs.stay s1)
  refine pairs_lift hsg gg h fun F2 ps G2 vs H2 s2 r2 g2 q2 => ?_
  obtain ⟨kvs, e1, few, q2⟩ := q2
  obtain ⟨ks, rfl, rk⟩ := keyed_rep r2 e1
  obtain ⟨pp, hpp⟩ := s2.pr p (.inr rfl)
  have h2 : H2 p = some (.dK []) := hpp.trans upd_same
  refine ⟨h2, ks, rfl, by rw [← rk.length]; exact few, ?_⟩
  have nz : ¬ F2.fz p := fun z => g2.dj p z pp
  have t3 : StayF K H2 F2 (upd H2 p (.dK (mergeK [] ks))) (F2.free p) := by
    refine ⟨fun a vs z => ?_, fun _ h => h, fun a z => upd_ne fun e => nz (e ▸ z)⟩
    rcases z with (z | ⟨ob, z⟩) | z
    · exact .inl (.inl (by rw [upd_ne (fun e => by rw [e, h2] at z; cases z)]; exact z))
    · exact .inl (.inr ⟨ob, by rw [upd_ne (fun e => by rw [e, h2] at z; cases z)]; exact z⟩)
    · exact .inr z
  have gn : G2 p = none := by
    cases e : G2 p with
    | none => rfl
    | some o => exact ((g2.g p o e).1 (.inr pp)).elim
  have g3 : RelG K (upd H2 p (.dK (mergeK [] ks))) (F2.free p) G2 := by
    refine g2.keep t3 (fun a z => ?_) (fun a z w => g2.dj a z w.1) fun a o e => ?_
    · by_cases e : a = p
      · subst e; exact ⟨_, upd_same⟩
      · rw [upd_ne e]; exact g2.fo a (z.imp id fun w => w.1)
    · have ne : a ≠ p := fun z => (g2.g a o e).1 (.inr (z ▸ pp))
      exact ⟨upd_ne ne, fun z => (g2.g a o e).1 (z.imp id fun w => w.1)⟩
  have nD : ∀ a, F.has a → a ≠ p := fun a h e => nf (e ▸ h)
  have whole : Stay K H F (upd H2 p (.dK (mergeK [] ks))) (F2.free p) := by
    refine ⟨⟨fun a xs h => t3.tup a xs (s2.tup a xs (s1.tup a xs h)), fun a h => s2.fz a h, fun a h => ?_⟩, fun a h => ⟨⟨(s2.pr a (.inl h)).1, nD a (.inr h)⟩, ?_⟩⟩
    · rw [upd_ne (nD a (.inl h)), s2.at_ a h]; exact upd_ne (nD a (.inl h))
    · rw [upd_ne (nD a (.inr h)), (s2.pr a (.inl h)).2]; exact upd_ne (nD a (.inr h))
  exact fin (F2.free p) G2 p _ kvs ks whole g3 upd_same (fun z => z.elim nz fun w => w.2 rfl) gn few ((merge_rep rk .nil).stayF t3) q2
theorem de_dict {keys : List (Option Expr)} {values : List Expr} {trs : DP} (h : PPs X pos keys values (liftP X.K trs)) (hall : keys.all (·.isSome) = true := by rfl) (hl : keys.length = values.length := by rfl) (h0 : keys ≠ [] := by intro z; cases z)
    (h15 : keys.length ≤ 15 := by decide) : PE X (.Dict keys values pos) (lift X.K (wDict trs)) :=
  PE.weak (pe_disp h hall hl h0 h15) fun σ H Q ⟨F, σd, G, Qd, hs, hg, h, k⟩ => disp_core ⟨F, σd, G, hs, hg, h, fun F' G' p H' kvs ks s g' hp nf n few r q =>
    k F' (.ref p) _ _ H' s (.ref p) ⟨g'.fo, g'.dj, fun a o e => by
      by_cases z : a = p
      · subst z; rw [gup_same] at e; cases e; exact ⟨nf, mergeD_line few, _, hp, r⟩
      · rw [gup_ne z] at e; exact g'.g a o e⟩ (q p n)⟩
theorem de_dictV {keys : List (Option Expr)} {values : List Expr} {trs : DP} (h : PPs X pos keys values (liftP X.K trs)) (hall : keys.all (·.isSome) = true := by rfl) (hl : keys.length = values.length := by rfl) (h0 : keys ≠ [] := by intro z; cases z)
    (h15 : keys.length ≤ 15 := by decide) : PE X (.Dict keys values pos) (lift X.K (wDictV trs)) :=
  PE.weak (pe_disp h hall hl h0 h15) fun σ H Q ⟨F, σd, G, Qd, hs, hg, h, k⟩ => disp_core ⟨F, σd, G, hs, hg, h, fun F' G' p H' kvs ks s g' hp nf n few r q =>
    k (F'.add p) (.dic (mergeD [] kvs)) G' _ H' (s.trans Stay.froze) (.dic (.inr rfl) hp (mergeD_line few) (r.stay Stay.froze)) (g'.froze n hp fun z => nf (.inr z)) q⟩
/-- {} -/
def wDict0V : DE := fun _ G Q => Q (.dic []) G
theorem de_dict0V : PE X (.Dict [] [] pos) (lift X.K wDict0V) :=
  PE.weak pe_dnewK fun σ H Q ⟨F, σd, G, Qd, hs, hg, h, k⟩ p hp => by
    obtain ⟨nf, s, g'⟩ := hg.tupled (o := .dK []) hp
    exact k (F.add p) (.dic []) G _ _ (s.trans Stay.froze) (.dic (.inr rfl) upd_same (Nat.zero_le _) .nil) (g'.froze (hg.gnone hp) upd_same fun z => nf (.inr z)) h
def wDict0 : DE := fun _ G Q => ∀ p, G p = none → Q (.ref p) (gup G p (.dic []))
theorem de_dict0 : PE X (.Dict [] [] pos) (lift X.K wDict0) :=
  PE.weak pe_dnewK fun σ H Q ⟨F, σd, G, Qd, hs, hg, h, k⟩ p hp => by
    obtain ⟨nf, s, g'⟩ := hg.tupled (o := .dK []) hp
    exact k F (.ref p) _ _ _ s (.ref p) (hg.made (u := .dic []) hp ⟨Nat.zero_le _, [], upd_same, .nil⟩) (h p (hg.gnone hp))

/-! ### == of a tuple and () -/
def rEqT0 (K : PySem.W.Frag) : R2 := fun x y H Q => ∃ a b xs, x = .ref a ∧ y = .ref b ∧ SqT K H a xs ∧ SqT K H b [] ∧ Q (.bl xs.isEmpty) H
theorem op_eqT0 (hu : X.A.units < cLine) : OpR X (compareOp .Eq) (rEqT0 X.K) := by
  intro pins s σ H x y v u Q I rx ry h
  obtain ⟨a, b, xs, rfl, rfl, ha, hb, q⟩ := h
  cases rx
  cases ry
  obtain ⟨its, r1, p1, _⟩ := I.tuple ha
  obtain ⟨its2, r2, p2, _⟩ := I.tuple hb
  cases r2
  refine SeqAt.eq_tupleAt (e := fun _ => true) p1 p2 hu (fun j _ h2 => absurd h2 (by simp)) ⟨.bl _, H, I, rfl, ?_⟩
  have : ((List.range (min its.toArray.size ([] : List Value).toArray.size)).all (fun _ => true) && its.toArray.size == ([] : List Value).toArray.size) = xs.isEmpty := by
    cases r1 <;> simp
  rw [this]
  exact q
/-- x == (), x a tuple of anything -/
def rEq0 : DR2 := fun x y G Q => match x with | .tup xs => (match y with | .tup [] => Q (.bl xs.isEmpty) G | _ => False) | _ => False
theorem od_eq0 {K : PySem.W.Frag} : OpD K (rEqT0 K) rEq0 := by
  intro F H G x y v w Qd Q rx ry hg h k
  cases rx with
  | @tup a vs ds h1 hl1 r1 =>
    cases ry with
    | @tup b ws es h2 hl2 r2 =>
      cases r2 with
      | nil =>
        refine ⟨a, b, vs, rfl, rfl, h1, h2, k.here (.bl _) hg ?_⟩
        have : vs.isEmpty = ds.isEmpty := by cases r1 <;> rfl
        rw [this]; exact h
      | cons _ _ => exact (show False from h).elim
    | _ => exact (show False from h).elim
  | _ => exact (show False from h).elim
end
end DL
namespace DL
open PySem
theorem boot_bool : bootBuiltins "bool" = some (.type "bool") := by decide +kernel
theorem boot_dict : bootBuiltins "dict" = some (.type "dict") := by decide +kernel
end DL

/-! DLR: t[::-1], t a tuple. -/
namespace HT
open PySem PySem.Spec PyProof.Rows L2
section
variable {prog : Program} {w : World} {A : Around} {E : Value → Shared → Prop} {s : Shared}
theorem adjust_rev (n : Nat) : Builtin.Slice.sliceAdjust none none (-1) (n : Int) = ((n : Int) - 1, -1) := by
  unfold Builtin.Slice.sliceAdjust
  simp
theorem places_rev (n : Nat) : Builtin.Slice.slicePlaces ((n : Int) - 1) (-1) (-1) = n := by
  unfold Builtin.Slice.slicePlaces
  have h1 : ¬ ((-1 : Int) > 0) := by decide
  simp only [h1, if_false]
  rw [show (-(-1) : Int) = 1 by decide, Int.ediv_one]
  split <;> omega
theorem sliceApplied_rev {sl : Addr} {vs : Value} {n : Nat} {Q : Int × Int × Nat → Shared → Prop} (hs : s.heap.IsSliceOf sl .none .none vs) (ps : IsPart vs (some (-1)))
    (h : Q ((n : Int) - 1, -1, n) s) : wpAny (model prog w) A (Builtin.Slice.sliceApplied (.ref sl) (pure (n : Int))) Q E s := by
  obtain ⟨os, hos, hcs, hds⟩ := id hs
  unfold Builtin.Slice.sliceApplied Builtin.Slice.sliceFields
  refine wpAny_bind (wpAny_bind (wpAny_field hos hds (x := .none) rfl (wpAny_bind (wpAny_field hos hds (x := .none) rfl (wpAny_bind (wpAny_field hos hds (x := vs) rfl (wpAny_pure ?_)))))))
  refine wpAny_bind (slicePart_ ps ?_)
  show wpAny _ _ (if ((-1 : Int) == 0) = true then _ else _) _ _ s
  rw [if_neg (by decide)]
  refine wpAny_bind (slicePart_none (wpAny_bind (slicePart_none (wpAny_bind (wpAny_pure ?_)))))
  show wpAny _ _ (match Builtin.Slice.sliceAdjust none none (-1) (n : Int) with | (lo, hi) => pure (lo, (-1 : Int), Builtin.Slice.slicePlaces lo hi (-1))) _ _ s
  rw [adjust_rev n]
  show wpAny _ _ (pure ((n : Int) - 1, (-1 : Int), Builtin.Slice.slicePlaces ((n : Int) - 1) (-1) (-1))) _ _ s
  rw [places_rev]
  exact wpAny_pure h
theorem fm_congr {α β : Type} {f g : α → Option β} : ∀ (l : List α), (∀ m ∈ l, f m = g m) → l.filterMap f = l.filterMap g
  | [], _ => rfl
  | a :: l, h => by
    rw [List.filterMap_cons, List.filterMap_cons, h a List.mem_cons_self, fm_congr l fun m hm => h m (List.mem_cons_of_mem _ hm)]
theorem pick_rev (xs : Array Value) : ((List.range xs.size).filterMap fun (m : Nat) => xs[(((xs.size : Nat) : Int) - 1 + (m : Int) * -1).toNat]?).toArray = xs.toList.reverse.toArray := by
  have e : (List.range xs.size).filterMap (fun (m : Nat) => xs[(((xs.size : Nat) : Int) - 1 + (m : Int) * -1).toNat]?) = (List.range xs.size).filterMap ((fun i => xs[i]?) ∘ fun m => xs.size - 1 - m) := by
    refine fm_congr _ fun m hm => ?_
    have := List.mem_range.mp hm
    show _ = xs[xs.size - 1 - m]?
    congr 1
    omega
  rw [e, ← List.filterMap_map, PySem.W.krv_range, List.filterMap_reverse, PySem.W.krv_all]
theorem getItem_tuple_rev {t sl : Addr} {items : Array Value} {vs : Value} {Q : Value → Shared → Prop} (ht : IsTup s.heap t items) (hs : s.heap.IsSliceOf sl .none .none vs) (ps : IsPart vs (some (-1)))
    (h : Q (.ref s.heap.objs.size) { s with heap := s.heap.push { cls := .type "tuple", data := .seq items.toList.reverse.toArray } })
    (hsz : items.size ≤ sizeLine) : wpAny (model prog w) A (getItem (.ref t) (.ref sl)) Q E s := by
  have htake : sizeOk (.seq items.toList.reverse.toArray) := by
    show items.toList.reverse.toArray.size ≤ sizeLine
    rw [List.size_toArray, List.length_reverse, Array.length_toList]
    exact hsz
  obtain ⟨os, hos, hcs, hds⟩ := id hs
  have hTs : s.TypeIs (.ref sl) "slice" := ⟨os, hos, hcs⟩
  unfold getItem
  try with_reducible refine wpAny_holding ?_
  first | refine wpAny_bind (wpAny_pure ?_) | skip
  refine wpAny_bind (wpAny_sequenceKey ht.typeIs (by decide) ?_)
  refine wpAny_bind (wpAny_callSpecial?_slot (name := Str.ofString "__getitem__") ht.typeIs PyProof.Rows.slot_tuple_getitem
    (wpAny_call_entry PyProof.Rows.slot_tuple_getitem ht.typeIs entry_tuple_getitem ?_ (args_tuple_getitem _ _)))
  show wpAny _ _ (Builtin.Tuple.tupleItemsOf (.ref t) >>= _) _ _ s
  refine wpAny_bind (tupleItemsOf_ ht ?_)
  refine wpAny_bind (wpAny_typeOf hTs ?_)
  rw [if_pos (by decide)]
  refine wpAny_bind (sliceApplied_rev hs ps ?_)
  have hno : ¬ ((((items.size : Nat) : Int) - 1 == 0 && (-1 : Int) == 1 && items.size == items.size) = true) := by
    intro q
    rw [Bool.and_eq_true, Bool.and_eq_true] at q
    exact absurd q.1.2 (by decide)
  show wpAny _ _ (if (((items.size : Nat) : Int) - 1 == 0 && (-1 : Int) == 1 && items.size == items.size) = true then _ else _) _ _ s
  rw [if_neg hno, pick_rev]
  first
    | exact wpAny_bind (m := Builtin.Tuple.tupleExact _) (wpAny_newObj_type (wpAny_pure ⟨_, rfl, wpAny_pure h⟩) htake)
    | exact wpAny_bind (m := Builtin.Tuple.tupleExact _) (wpAny_newObj_type (wpAny_bind (wpAny_pure (wpAny_pure ⟨_, rfl, wpAny_pure h⟩))) htake)
    | exact wpAny_bind (wpAny_bind (m := Builtin.Tuple.tupleExact _) (wpAny_newObj_type (wpAny_pure (wpAny_pure ⟨_, rfl, wpAny_pure h⟩)) htake))
    | exact wpAny_bind (wpAny_bind (m := Builtin.Tuple.tupleExact _) (wpAny_newObj_type (wpAny_pure ⟨_, rfl, wpAny_pure h⟩) htake))
end
end HT
namespace DL
open PySem PySem.Spec L2 PyProof.Rows
section
variable {X : Cx}
def tRevT (K : PySem.W.Frag) (te : TE) : TE := fun σ H Q => te σ H fun x H1 => ∃ a xs, x = .ref a ∧ SqT K H1 a xs ∧ ∀ p, H1 p = none → Q (.ref p) (upd H1 p (.tup xs.reverse))
theorem pe_revT {e : Expr} {te : TE} {k : Nat} {p1 p2 p3 pos : Pos} (he : PE X e te) : PE X (.Subscript e (.Slice none none (some (.UnaryOp .USub (.Constant (.int 1) k p1) p2)) p3) pos) (tRevT X.K te) := by
  refine ⟨fun pins s σ H Q I h => ?_⟩
  refine Subscript_ (thn (he.run pins s σ H _ I h) fun v s1 ⟨x, H1, I1, r1, q1⟩ => ?_)
  obtain ⟨a, xs, ex, hx, q⟩ := q1
  subst ex
  cases r1
  have hst : PO X (some (.UnaryOp .USub (.Constant (.int 1) k p1) p2)) (tPart (tUn (rU fun i => .int (-i)) (tC (.int 1)))) := po_some (pe_un un_neg pe_int)
  refine wpAny_Slice (thn (po_none.run pins s1 σ H1 (fun o H2 => o = none ∧ H2 = H1) I1 ⟨rfl, rfl⟩) fun vl s2 ⟨l, H2, I2, pl, el, e2⟩ => ?_)
  subst el e2
  refine thn (po_none.run pins s2 σ H2 (fun o H3 => o = none ∧ H3 = H2) I2 ⟨rfl, rfl⟩) fun vu s3 ⟨u, H3, I3, pu, eu, e3⟩ => ?_
  subst eu e3
  refine thn (hst.run pins s3 σ H3 (fun o H4 => o = some (-1) ∧ H4 = H3) I3 ⟨1, rfl, -1, rfl, rfl, rfl⟩) fun vs s4 ⟨o, H4, I4, ps, eo, e4⟩ => ?_
  subst eo e4
  cases pl
  cases pu
  have I5 : L2.Inv X pins σ H4 { s4 with heap := s4.heap.push { cls := .type "slice", data := .fields #[.none, .none, vs] } } := I4.kept (t' := s4.toks) fun b ob q => Heap.get?_push_of_some _ q
  obtain ⟨its, r, ht, hz⟩ := I5.tuple hx
  have hlen := r.length
  show wpAny (model X.prog X.w) X.A (subscriptTail e (.Slice none none (some (.UnaryOp .USub (.Constant (.int 1) k p1) p2)) p3) (.ref a) (.ref s4.heap.objs.size)) (EP X pins σ Q) X.xe { s4 with heap := s4.heap.push { cls := .type "slice", data := .fields #[.none, .none, vs] } }
  refine tail_any (ops := [.ref a, .ref s4.heap.objs.size]) ht.typeIs (PyProof.Rows.slot_tuple_getitem.lookup) ?_ (by with_unfolding_all rfl)
  refine HT.getItem_tuple_rev ht (Heap.IsSliceOf.new _ .none .none vs) ps ?_ (by rw [List.size_toArray]; omega)
  refine ⟨.ref _, _, I5.laid (t' := s4.toks) (o := .tup xs.reverse) (fun b ob q => Heap.get?_push_of_some _ q) (Nat.le_refl _) ?_, rfl, q _ (I5.hok.fresh (Nat.le_refl _))⟩
  exact ⟨by rw [List.length_reverse]; exact hz, _, r.reverse, IsTup.new _ _⟩
def wRev (te : DE) : DE := fun σ G Q => te σ G fun x G1 => match x with | .tup ds => Q (.tup ds.reverse) G1 | _ => False
theorem de_rev {e : Expr} {t : DE} {k : Nat} {p1 p2 p3 pos : Pos} (he : PE X e (lift X.K t)) : PE X (.Subscript e (.Slice none none (some (.UnaryOp .USub (.Constant (.int 1) k p1) p2)) p3) pos) (lift X.K (wRev t)) :=
  PE.weak (pe_revT he) fun σ H Q ⟨F, σd, G, Qd, hs, hg, h, k⟩ => lift_bind hs hg h fun F1 x G1 v H1 s1 hs1 r1 g1 q1 => by
    cases r1 with
    | @tup a vs ds h1 hl r =>
      exact ⟨a, vs, rfl, h1, (k.go s1).tup g1 (by rw [List.length_reverse]; exact hl) r.reverse q1⟩
    | _ => exact (show False from q1).elim
end
end DL

/-! ### != of a tuple and () -/
namespace DL
open PySem PySem.Spec L2
section
variable {X : Cx}
def rNeT0 (K : PySem.W.Frag) : R2 := fun x y H Q => ∃ a b xs, x = .ref a ∧ y = .ref b ∧ SqT K H a xs ∧ SqT K H b [] ∧ Q (.bl (!xs.isEmpty)) H
theorem op_neT0 (hu : X.A.units < cLine) : OpR X (compareOp .NotEq) (rNeT0 X.K) := by
  intro pins s σ H x y v u Q I rx ry h
  obtain ⟨a, b, xs, rfl, rfl, ha, hb, q⟩ := h
  cases rx
  cases ry
  obtain ⟨its, r1, p1, _⟩ := I.tuple ha
  obtain ⟨its2, r2, p2, _⟩ := I.tuple hb
  cases r2
  refine SeqAt.RcNeAt.tuples (e := fun _ => true) p1 p2 hu (fun j _ h2 => absurd h2 (by simp)) _ _ _ _ ⟨.bl _, H, I, rfl, ?_⟩
  have : (!((List.range (min its.toArray.size ([] : List Value).toArray.size)).all (fun _ => true) && its.toArray.size == ([] : List Value).toArray.size)) = !xs.isEmpty := by
    cases r1 <;> simp
  rw [this]
  exact q
/-- x != (), x a tuple of anything -/
def rNe0 : DR2 := fun x y G Q => match x with | .tup xs => (match y with | .tup [] => Q (.bl (!xs.isEmpty)) G | _ => False) | _ => False
theorem od_ne0 {K : PySem.W.Frag} : OpD K (rNeT0 K) rNe0 := by
  intro F H G x y v w Qd Q rx ry hg h k
  cases rx with
  | @tup a vs ds h1 hl1 r1 =>
    cases ry with
    | @tup b ws es h2 hl2 r2 =>
      cases r2 with
      | nil =>
        refine ⟨a, b, vs, rfl, rfl, h1, h2, k.here (.bl _) hg ?_⟩
        have : vs.isEmpty = ds.isEmpty := by cases r1 <;> rfl
        rw [this]; exact h
      | cons _ _ => exact (show False from h).elim
    | _ => exact (show False from h).elim
  | _ => exact (show False from h).elim
end
end DL
namespace DL
open PySem PySem.Spec L2
section
variable {P : Program} {w : World} {K : PySem.W.Frag} {mg : Str → Option Value} {base : Heap}
def recSpB (sp : Nat → DSp) : Nat → DSp
  | 0 => fun _ _ _ _ => False
  | n + 1 => sp n
def anySp {ι : Type} (sp : ι → DSp) : DSp := fun ds G Q E => ∃ i, sp i ds G Q E
theorem fn_any {ι : Type} {k : Nat} {f : Addr} {fd : FuncData} {ps : List Str} {sp : ι → DSp} (c : ∀ i, FnOk P w K mg base CX0 k f fd ps (liftSp K (sp i))) : FnOk P w K mg base CX0 k f fd ps (liftSp K (anySp sp)) :=
  ⟨fun vs H Q E ⟨F, ds, G, Qd, Ed, a, b, ⟨i, q⟩, c1, c2⟩ => (c i).len vs H Q E ⟨F, ds, G, Qd, Ed, a, b, q, c1, c2⟩,
   fun A outer s H args us vs Q E hr he hb hv ⟨F, ds, G, Qd, Ed, a, b, ⟨i, q⟩, c1, c2⟩ => (c i).run A outer s H args us vs Q E hr he hb hv ⟨F, ds, G, Qd, Ed, a, b, q, c1, c2⟩⟩
theorem fn_no {k : Nat} {f : Addr} {fd : FuncData} {ps : List Str} : FnOk P w K mg base CX0 k f fd ps (liftSp K fun _ _ _ _ => False) :=
  ⟨fun vs H Q E ⟨F, ds, G, Qd, Ed, a, b, q, c1, c2⟩ => q.elim, fun A outer s H args us vs Q E hr he hb hv ⟨F, ds, G, Qd, Ed, a, b, q, c1, c2⟩ => q.elim⟩
/-- recursion: the promise at each depth -/
theorem fn_rec {k : Nat} {f : Addr} {fd : FuncData} {ps : List Str} {sp : Nat → DSp} (step : ∀ (n j : Nat) (r : DSp), FnOk P w K mg base CX0 j f fd ps (liftSp K r) → (r = recSpB sp n) → k ≤ j → FnOk P w K mg base CX0 (j + 1) f fd ps (liftSp K (sp n))) :
    ∀ n, FnOk P w K mg base CX0 (k + 1 + n) f fd ps (liftSp K (sp n))
  | 0 => step 0 k _ fn_no rfl (Nat.le_refl _)
  | n + 1 => step (n + 1) (k + 1 + n) _ (fn_rec step n) rfl (by omega)
end
end DL

/-! DLX: raise, try, calls that may raise, defs that raise. -/
namespace DL
open PySem PySem.Spec L2

abbrev veB : List Value := [.type "ValueError", .type "Exception", .type "BaseException", .type "object"]
/-! ### X() -/
section
variable {X : Cx}
theorem pmk_own0 {C : Addr} {bmB : List Value} {B newId initId : String} {x : Str} {p pos : Pos} (F : ExcBaseFacts B newId initId bmB) (q : PySem.W.excIn X.K C bmB newId = true) (gC : X.mg x = some (.ref C))
    (kC : PySem.W.keepIn X.K (.ref C) = true) (r : Raises X (.ref C)) (hg : Gl X x) (hdb : (x == ("__debug__" : Str)) = false := by decide) :
    PMk X (.Call (.Name x p) [] [] pos) (fun _ H Q => Q (.ref C) none H) := by
  intro pins s σ H Q I h
  refine wpAny_Call_Name_kw (ld_glob I hg gC ?_ hdb)
  refine PySem.W.callWith_K0 I.kIn kC ?_
  show wpAny _ _ (call (.ref C) []) _ _ _
  obtain ⟨bm, N, nm, qn, bs, hdct, sn, sub, ab, col, dd, k0, k1, k2, k3, k5, mN, hC, hN, hni, T⟩ := exc_obj I.kIn q
  refine wpAny_call_exc_subT F T hC hN hni (fun h' e hm => ?_) (Nat.zero_le _)
  exact mk_of I hm r h (I.hok.gone hm.new)
end

section
variable {X : Cx} {W : WX} {k : Nat} {ps : List Str} {sp : DSp} {x : Str} {p pos pos2 : Pos} {e : Expr} {es : List Expr} {t : DA}
/-- raise X(): an own class of exceptions -/
structure ExcT (K : PySem.W.Frag) (mg : Str → Option Value) (x : Str) (C : Addr) (bmB : List Value) (newId : String) : Prop where
  inK : PySem.W.excIn K C bmB newId = true
  g : mg x = some (.ref C)
  kp : PySem.W.keepIn K (.ref C) = true
  sub : PySem.W.subIn K (.ref C) (.type "BaseException") = some true
  ty : PySem.W.typeIn K (.ref C) = some (.type "type")
def wRaise (C : Addr) : DS := fun D σ G => D.ex σ C [] G
theorem ds_raise0 {C : Addr} {bmB : List Value} {B newId initId : String} (F : ExcBaseFacts B newId initId bmB) (T : ExcT X.K X.mg x C bmB newId) (hc : X.calm = true) (tk : Takes X W) (hg : Gl X x) (hdb : (x == ("__debug__" : Str)) = false := by decide) :
    PS X (.Raise (some (.Call (.Name x p) [] [] pos)) none pos2) (liftS X.K W (wRaise C)) :=
  PS.weak (ps_raise hc tk (pmk_own0 F T.inK T.g T.kp (raises_own T.sub T.ty) hg hdb)) fun D σ H ⟨F, σd, G, Dd, hs, hg, h, k⟩ => k.ex F σd C [] G σ H none .refl hs hg (.inl ⟨rfl, rfl⟩) h
/-- a def that may raise -/
structure CalX (P : Program) (w : World) (K : PySem.W.Frag) (mg : Str → Option Value) (base : Heap) (k : Nat) (x : Str) (ps : List Str) (sp : DSp) : Prop where
  ex : ∃ f fd, mg x = some (.ref f) ∧ PySem.W.keepIn K (.ref f) = true ∧ Binds K fd ps [] ∧ FnOk P w K mg base (L2.CX P w) k f fd ps (liftSp K sp)
theorem CalX.mono {P : Program} {w : World} {K : PySem.W.Frag} {mg : Str → Option Value} {base : Heap} {j k : Nat} (c : CalX P w K mg base j x ps sp) (h : j ≤ k) : CalX P w K mg base k x ps sp :=
  let ⟨f, fd, a, b, c, d⟩ := c.ex; ⟨f, fd, a, b, c, d.mono h⟩
theorem callX_lift {D : Ends} {Dd : DEnds} {σ : L2.St} {H : Hp} {Q : VK} {F : FP} {σd : DSt} {G : Gh} {Qd : DQ} (hs : RelSt X.K H F σd σ) (hg : RelG X.K H F G) (h : t σd G fun ds G1 => sp ds G1 Qd fun C fs G2 => Dd.ex σd C fs G2)
    (kq : Kt X.K (Rep X.K) H F Qd Q) (k : KEnds X.K W H F Dd D) : tCallS (liftSp X.K sp) (WE W) (liftA X.K t) σ H Q :=
  lift_bind hs hg h fun F1 ds G1 vs H1 s1 hs1 r1 g1 q1 => ⟨F1, ds, G1, Qd, _, r1, g1, q1, kq.go s1, fun F' C fs G' H' od s g x e => k.ex F' σd C fs G' σ H' od (s1.trans s) (hs1.stay s) g x e⟩
/-- f(a, ..) as a statement -/
def wCallSt (sp : DSp) (t : DA) : DS := fun D σ G => t σ G fun ds G1 => sp ds G1 (fun _ G2 => D.nx σ G2) fun C fs G2 => D.ex σ C fs G2
theorem ds_callX (tk : Takes X W) (c : CalX X.prog X.w X.K X.mg X.base k x ps sp) (hr : Room k X.A) (hg : Gl X x) (ha : PA X (e :: es) (liftA X.K t))
    (hdb : (x == ("__debug__" : Str)) = false := by decide) (he : starEach (e :: es) X.env = (false, eval e X.env) :: starEach es X.env := by rfl) (hpl : (backTo pos (starEach es X.env)).any (·.1) = false := by rfl)
    (hs : swapsWith (.Call (.Name x p) (e :: es) [] pos) none pos2.line X.env = pure false := by rfl) : PS X (.Expr (.Call (.Name x p) (e :: es) [] pos) pos2) (liftS X.K W (wCallSt sp t)) := by
  obtain ⟨f, fd, hm, hk, hb, F⟩ := c.ex
  exact PS.weak (ps_expr (pe_callS F hr hg hm hk hb (fun σ => passAt tk σ) ha hdb he hpl) hs) fun D σ H ⟨F, σd, G, Dd, hs, hg, h, k⟩ =>
    callX_lift hs hg h (fun F' a G' b H' s r g q => k.nx F' σd G' σ H' s (hs.stay s) g q) k
/-- return f(a, ..) -/
def wRetX (sp : DSp) (t : DA) : DS := fun D σ G => t σ G fun ds G1 => sp ds G1 D.rt fun C fs G2 => D.ex σ C fs G2
theorem ds_retX (tk : Takes X W) (c : CalX X.prog X.w X.K X.mg X.base k x ps sp) (hr : Room k X.A) (hg : Gl X x) (ha : PA X (e :: es) (liftA X.K t))
    (hdb : (x == ("__debug__" : Str)) = false := by decide) (he : starEach (e :: es) X.env = (false, eval e X.env) :: starEach es X.env := by rfl) (hpl : (backTo pos (starEach es X.env)).any (·.1) = false := by rfl) :
    PS X (.Return (some (.Call (.Name x p) (e :: es) [] pos)) pos2) (liftS X.K W (wRetX sp t)) := by
  obtain ⟨f, fd, hm, hk, hb, F⟩ := c.ex
  exact PS.weak (ps_ret (pe_callS F hr hg hm hk hb (fun σ => passAt tk σ) ha hdb he hpl)) fun D σ H ⟨F, σd, G, Dd, hs, hg, h, k⟩ => callX_lift hs hg h k.rt k
/-- x = f(a, ..) -/
def wSetX (i : Nat) (sp : DSp) (t : DA) : DS := fun D σ G => t σ G fun ds G1 => sp ds G1 (fun d G2 => D.nx (σ.set i (some d)) G2) fun C fs G2 => D.ex σ C fs G2
theorem ds_setX (i : Nat) {y : Str} {pos' : Pos} (hN : X.N.Nodup) (tk : Takes X W) (c : CalX X.prog X.w X.K X.mg X.base k x ps sp) (hr : Room k X.A) (hg : Gl X x) (ha : PA X (e :: es) (liftA X.K t))
    (hi : X.N[i]? = some y := by rfl) (hx : Loc X.env.scope y := by first | exact Or.inl rfl | exact Or.inr rfl) (hs : swapsWith (.Call (.Name x p) (e :: es) [] pos) (some (.Name y pos')) pos2.line X.env = pure false := by rfl) (hf : X.fn y = true ∨ X.env.scope.names.lookup y = some .local := by first | exact .inl rfl | exact .inr rfl | assumption)
    (hdb : (x == ("__debug__" : Str)) = false := by decide) (he : starEach (e :: es) X.env = (false, eval e X.env) :: starEach es X.env := by rfl) (hpl : (backTo pos (starEach es X.env)).any (·.1) = false := by rfl) :
    PS X (.Assign [.Name y pos'] (.Call (.Name x p) (e :: es) [] pos) pos2) (liftS X.K W (wSetX i sp t)) := by
  obtain ⟨f, fd, hm, hk, hb, F⟩ := c.ex
  exact PS.weak (ps_set hN hi hx (pe_callS F hr hg hm hk hb (fun σ => passAt tk σ) ha hdb he hpl) hs hf) fun D σ H ⟨F, σd, G, Dd, hs, hg, h, k⟩ =>
    callX_lift hs hg h (fun F' a G' b H' s r g q => k.nx F' _ G' _ H' s ((hs.stay s).set r i) g q) k
/-- try: body except X: suite -/
def wTry (ans : Addr → Option Bool) (wb ws : DS) : DS := fun D σ G => wb { D with ex := fun σ' A fs G' => ∃ b, ans A = some b ∧ (if b = true then ws D σ' G' else D.ex σ' A fs G') } σ G
theorem ds_try {c : Value} {ans : Addr → Option Bool} {body suite : List Stmt} {b₀ : Stmt} {np pos' : Pos} {wb ws : DS} (hst : X.stack = X.env :: X.outer) (hfr : X.env.frame = some X.env.locals) (hc : Names X x c) (tk : Takes X W)
    (hans : ∀ A b, ans A = some b → PySem.W.exmOne X.K (.ref A) c = some b)
    (hb : ∀ (W' : WX) (pn : List (Addr × Obj)) (xe : Value → Shared → Prop), Takes (X.tr pn xe) W' → PassesOwn (model X.prog X.w) X.A X.env xe → PSs (X.tr pn xe) body (liftS X.K W' wb))
    (hsu : ∀ (a : Addr) (pn : List (Addr × Obj)), PSs (X.suite a pn) (b₀ :: suite) (liftS X.K W ws)) :
    PS X (.Try body [.ExceptHandler (some (.Name x np)) none (b₀ :: suite) pos'] [] [] pos) (liftS X.K W (wTry ans wb ws)) :=
  PS.weak (ps_try_only hst hfr hc tk (fun W' pn xe tk' p' => hb W' pn xe tk' p') (fun a oe cls d pn _ _ => hsu a ((a, oe) :: pn))) fun D σ H ⟨F, σd, G, Dd, hs, hg, h, k⟩ =>
    ⟨F, σd, G, _, hs, hg, h, ⟨k.nx, k.rt, k.bk, k.ct, fun F' σ2 A fs G' σ2' H' od s r g x ⟨b, e, q⟩ => ⟨b, hans A b e, fun eb a ha => ⟨F', σ2, G', Dd, r, g, (by rw [if_pos eb] at q; exact q), k.go s⟩,
      fun eb => k.ex F' σ2 A fs G' σ2' H' od s r g x (by rw [if_neg (by rw [eb]; exact Bool.false_ne_true)] at q; exact q)⟩⟩⟩
end
/-! ### defs that raise -/
def endsOfX (K : PySem.W.Frag) (Qd : DQ) (Ed : DXq) : DEnds := { nx := fun _ G' => ∃ d0 G0, Vs K .non G' d0 G0 ∧ Qd d0 G0, rt := fun d G' => ∃ d0 G0, Vs K d G' d0 G0 ∧ Qd d0 G0, ex := fun _ C fs G' => ∃ G0, Sub G0 G' ∧ Ed C fs G0 }
section
variable {P : Program} {w : World} {K : PySem.W.Frag} {mg : Str → Option Value} {base : Heap}
theorem Fun.okXD {x qual : Str} {st : Stmt} {f : Addr} {fd : FuncData} {N ps : List Str} {k : Nat} {sp : DSp} {t : DS} (F : Fun K x qual st f fd) (S : FnScope N ps (defScope st)) (len : ∀ ds G Q E, sp ds G Q E → ds.length = ps.length)
    (hbody : ∀ (cdv : Value) (A : Around) (outer : List Env) (s : Shared) (H : Hp) (E : XK), Room k (A.deeper (PyProof.Rows.envOfC qual (defScope st) s.heap.objs.size f cdv)) →
      PSs (cxOf (L2.CX P w) P w K mg base N qual (defScope st) f cdv A outer s H E) (defBody st) (liftS K (fun c d _ H => E c d H) t))
    (hv : ∀ ds G Qd Ed, sp ds G Qd Ed → t (endsOfX K Qd Ed) (dstart N ds) G) : FnOk P w K mg base (L2.CX P w) (k + 1) f fd ps (liftSp K sp) := by
  refine F.okX S (fun vs H Q E h => ?_) (fun cdv A outer s H vs Q E hr h => ?_)
  · obtain ⟨F0, ds, G, Qd, Ed, r, _, h, _⟩ := h
    rw [← r.length]; exact len _ _ _ _ h
  · obtain ⟨F0, ds, G, Qd, Ed, r, g, h, k, kx⟩ := h
    refine ⟨_, hbody cdv A outer s H E hr, F0, dstart N ds, G, endsOfX K Qd Ed, ?_, g, hv ds G Qd Ed h, ⟨?_, ?_, ?_, ?_, ?_⟩⟩
    · unfold dstart L2.start
      rw [← r.length]
      exact RelSt.start r _
    · rintro F1 σ1 G1 σ1' H1 s1 r1 g1 ⟨d0, G0, vs, q⟩
      obtain ⟨F2, s2, r2, g2⟩ := vs H1 F1 .non .non g1
      exact k F2 d0 G0 .non H1 (s1.trans s2) r2 g2 q
    · rintro F1 d G1 v H1 s1 r1 g1 ⟨d0, G0, vs, q⟩
      obtain ⟨F2, s2, r2, g2⟩ := vs H1 F1 v r1 g1
      exact k F2 d0 G0 v H1 (s1.trans s2) r2 g2 q
    · exact fun _ _ _ _ _ _ _ _ h => h.elim
    · exact fun _ _ _ _ _ _ _ _ h => h.elim
    · rintro F1 σ1 C fs G1 σ1' H1 od s1 r1 g1 x1 ⟨G0, sb, q⟩
      exact kx F1 C fs G0 H1 od s1 (g1.sub sb) x1 q
/-- a def that may raise, used where it does not -/
theorem fn_calm {k : Nat} {f : Addr} {fd : FuncData} {ps : List Str} {sp : DSp} (F : FnOk P w K mg base (L2.CX P w) k f fd ps (liftSp K sp)) : FnOk P w K mg base CX0 k f fd ps (liftSp K fun ds G Q _ => sp ds G Q noX) := by
  refine ⟨fun vs H Q E ⟨F0, ds, G, Qd, Ed, r, g, h, k, kx⟩ => F.len vs H Q E0 ⟨F0, ds, G, Qd, noX, r, g, h, k, .no⟩, fun A outer s H args us vs Q E hr he hb hv ⟨F0, ds, G, Qd, Ed, r, g, h, k, kx⟩ => ?_⟩
  refine PySem.codeAny_mono (F.run A outer s H args us vs Q E0 hr he hb hv ⟨F0, ds, G, Qd, noX, r, g, h, k, .no⟩) fun res s' q => ?_
  cases res with
  | ok f =>
    cases f with
    | ret u => exact q
    | _ => exact q
  | error e =>
    obtain ⟨_, _, _, _, _, _, _, _, _, _, _, _, z⟩ := q
    exact z.elim
end
end DL

/-! DLQ: == by an own __eq__. -/
namespace DL
open PySem PySem.Spec L2
section
variable {X : Cx} {C f : Addr} {n : Nat} {fd : FuncData} {ps : List Str} {sp : Sp}
structure EqC (K : PySem.W.Frag) (C f : Addr) : Prop where
  at_ : PySem.W.findIn K (.ref C) "__eq__" = some (some (.ref f))
  fn : PySem.W.isFn K (.ref f) = true
def rEqOwn (K : PySem.W.Frag) (C : Addr) (sp : Sp) : R2 := fun x y H Q => ∃ a dx fs t, x = .ref a ∧ H a = some (.ins C dx fs) ∧ TyX K H y t ∧ PySem.W.notFirst K C t = true ∧ sp [x, y] H (fun v H' => ∃ r, v = .bl r ∧ Q (.bl r) H') E0
theorem op_eqOwn (F : FnOk X.prog X.w X.K X.mg X.base CX0 n f fd ps sp) (c : EqC X.K C f) (hb : Binds X.K fd ps []) (hr : Room n X.A) : OpR X (compareOp .Eq) (rEqOwn X.K C sp) := by
  intro pins s σ H x y v u Q I rx ry h
  obtain ⟨a, dx, fs, t, rfl, ha, ty, hn, hsp⟩ := h
  cases rx
  obtain ⟨mA, J, _⟩ := ins_get I.hok ha
  obtain ⟨od, J, _⟩ := J.look
  obtain ⟨m, hF⟩ := I.fr
  obtain ⟨Pz, Z, hz, _⟩ := kit_of I ry ty
  show wpAny (model X.prog X.w) X.A (richCompare .Eq (.ref a) u) (EP X pins σ Q) X.xe s
  refine PySem.W.cmp_K (op := .Eq) (tb := t) hr.units0 hF I.ok.mod.kin J (Z.ty _ _ I.kIn hz) hn c.at_ c.fn ?_
  have hl := F.len _ _ _ _ hsp
  have r2 : Vals [V.ref a, y] [Value.ref a, u] := .cons rfl (.cons ry .nil)
  refine wpAny_call (codeAny_mono (F.run X.A X.stack s H ⟨[.ref a, u], []⟩ [.ref a, u] _ _ E0 hr I.env0 (by
    have := hb s [.ref a, u] I.kIn (by simpa using hl)
    simpa using this) r2 hsp) fun r s' hq => ?_)
  cases r with
  | error e => exact (show False from hq).elim
  | ok fl =>
    cases fl with
    | ret w =>
      obtain ⟨z, H', I', rz, b, ez, q⟩ := I.after hq
      subst ez
      cases rz
      exact ⟨.bl b, H', I', rfl, q⟩
    | next => exact False.elim hq
    | brk => exact False.elim hq
    | cont => exact False.elim hq
/-- over data -/
def rEqO (C : Addr) (nf : Tg ⊕ Addr → Bool) (sp : DSp) : DR2 := fun x y G Q => ∃ fs t, objOf G x = some (C, fs) ∧ tagOf G y = some t ∧ nf t = true ∧ sp [x, y] G (fun d G2 => ∃ r, d = .bl r ∧ Q (.bl r) G2) noX
theorem od_eqOwn {K : PySem.W.Frag} {C : Addr} {nf : Tg ⊕ Addr → Bool} {sp : DSp} (hnf : ∀ t, nf t = true → PySem.W.notFirst K C (tagV t) = true ∧ ∀ A, t = .inr A → ObjC K A) : OpD K (rEqOwn K C (liftSp K sp)) (rEqO C nf sp) := by
  intro F H G x y v w Qd Q rx ry hg h k
  obtain ⟨fs, t, e1, e2, e3, q⟩ := h
  obtain ⟨a, dx, vs, rfl, ha, _⟩ := obj_rep rx hg e1
  obtain ⟨h1, h2⟩ := hnf t e3
  refine ⟨a, dx, vs, tagV t, rfl, ha, tag_rep ry hg e2 h2, h1, F, [x, y], G, _, noX, .cons rx (.cons ry .nil), hg, q, fun F2 d G2 u H2 s r g z => ?_, .no⟩
  obtain ⟨b, rfl, z⟩ := z
  cases r
  exact ⟨b, rfl, k F2 (.bl b) G2 (.bl b) H2 s (.bl b) g z⟩
end
end DL

/-! DLN: != by an own __eq__. -/
namespace PySem.W
open PySem PySem.Spec PyProof.Rows
section
variable {prog : Program} {w : World} {A : Around} {E : Value → Shared → Prop} {s : Shared} {K : Frag} {x C f L : Addr} {h₀ : Heap} {m : Str → Option Value} {ox : Obj} {od : Option Obj} {b tb : Value}
theorem neO_check {rest : List Value} {Q : Unit → Shared → Prop} (X : K.In s.heap) (I : InstAt s.heap x ox C od) (ho : mroIn K C (.type "object") = some true) (ha : argsOk "object.__ne__" ⟨.ref x :: rest, []⟩) (hq : Q () s) :
    wpAny (model prog w) A (checkBuiltinCall "object.__ne__" ⟨.ref x :: rest, []⟩) Q E s := by
  simp only [checkBuiltinCall, F.cmpKind_ne, F.cmpSplit_ne]
  refine wpAny_bind ?_
  · unfold isInstance
    refine wpAny_bind (I.type.here ?_)
    refine (looks_mroIn X ho).here ?_
    cases hsig : Manifest.signature? "object.__ne__" with
    | none => exact wpAny_pure hq
    | some sig =>
      simp only [argsOk, hsig] at ha
      have h2 : Bind.checkArgs "object.__ne__" sig ⟨.ref x :: rest, []⟩ = pure () := ha
      show wpAny _ A (Bind.checkArgs "object.__ne__" sig ⟨.ref x :: rest, []⟩) Q E _
      rw [h2]; exact wpAny_pure hq
theorem neO_body {Q : Fin → Shared → Prop} (X : K.In s.heap) (I : InstAt s.heap x ox C od) (heq : findIn K (.ref C) "__eq__" = some (some (.ref f))) (hf : isFn K (.ref f) = true) (hu : A.units < cLine)
    (h : codeAny (model prog w) A (.call (.ref f) ⟨[.ref x, b], []⟩) (fun r s' => match r with | .ok (.ret v) => ∃ r, v = .bool r ∧ Q (.done (.ret (.bool (!r)))) s' | .ok _ => False | .error e => E e s') s) : wpAny (model prog w) A (Builtin.«object.__ne__» ⟨[.ref x, b], []⟩) Q E s := by
  unfold Builtin.«object.__ne__»
  obtain ⟨hp, g, d, t, os⟩ := s
  repeat (first | with_reducible refine wpAny_cRoomFor hu ?_ | with_reducible refine ifBound_K X I heq hf ?_ | wp_step)
  refine codeAny_mono h fun r s' hv => ?_
  cases r with
  | error e => exact hv
  | ok fl =>
    cases fl with
    | ret v =>
      obtain ⟨r, rfl, q⟩ := hv
      obtain ⟨hp, g, d, t, os⟩ := s'
      repeat wp_step
      exact q
    | next => exact hv
    | brk => exact hv
    | cont => exact hv
theorem neO_try {Q : Option Value → Shared → Prop} (X : K.In s.heap) (I : InstAt s.heap x ox C od) (hne : findIn K (.ref C) "__ne__" = some (some (.builtin "object.__ne__"))) (heq : findIn K (.ref C) "__eq__" = some (some (.ref f))) (hf : isFn K (.ref f) = true)
    (ho : mroIn K C (.type "object") = some true) (hu : A.units + 1 < cLine)
    (h : codeAny (model prog w) A.in1 (.call (.ref f) ⟨[.ref x, b], []⟩) (fun r s' => match r with | .ok (.ret v) => ∃ r, v = .bool r ∧ Q (some (.bool (!r))) s' | .ok _ => False | .error e => E e s') s) : wpAny (model prog w) A (tryCompare (.ref x) "__ne__" b) Q E s := by
  have S : Slot "object" "__ne__" "object.__ne__" := PySem.F.cmp_object.ne
  have hcall : wpAny (model prog w) A (call (.builtin "object.__ne__") [.ref x, b]) (fun v s' => ∃ r, v = .bool r ∧ Q (some (.bool r)) s') E s := by
    refine wpAny_call (codeAny_call_builtin S.plain F.cmpEntry_ne (neO_check X I ho (F.cmpArgs_ne _ _) (neO_body (A := A.in1) X I heq hf hu (codeAny_mono h fun r s' hv => ?_))))
    cases r with
    | error e => exact hv
    | ok fl =>
      cases fl with
      | ret v => obtain ⟨r, rfl, q⟩ := hv; exact ⟨r, rfl, _, rfl, q⟩
      | next => exact hv
      | brk => exact hv
      | cont => exact hv
  unfold tryCompare
  refine wpAny_bind ?_
  simp only [callSpecialIfBound?, bindSpecialIfBound?]
  refine wpAny_holding (wpAny_bind (wpAny_bind (wpAny_bind (I.type.here ((looks_findIn X hne).here ?_)))))
  simp only [S.bind]
  refine wpAny_bind (wpAny_askSetting (wpAny_ite ?_))
  have fin : wpAny (model prog w) A (call (.builtin "object.__ne__") ([.ref x] ++ [b]) >>= fun v => pure (some v)) (fun o s' => wpAny (model prog w) A (match o with | some .notImplemented => pure none | none => pure none | some r => pure (some r)) Q E s') E s :=
    wpAny_bind (wpAny_mono hcall (fun v s' ⟨r, e, q⟩ => by subst e; exact wpAny_pure (wpAny_pure q)) fun _ _ e => e)
  split
  · exact wpAny_bind (wpAny_pure (wpAny_pure (by exact fin)))
  · exact wpAny_tryCatch (wpAny_bind (wpAny_pure (wpAny_pure (by exact fin))))
theorem cmp_neO {Q : Value → Shared → Prop} (hu : A.units + 1 < cLine) (F : Fr h₀ L s.heap m) (X₀ : K.In h₀) (I : InstAt s.heap x ox C od) (hb : Looks (model prog w) s.heap (typeOf b) tb) (hn : notFirst K C tb = true)
    (hne : findIn K (.ref C) "__ne__" = some (some (.builtin "object.__ne__"))) (heq : findIn K (.ref C) "__eq__" = some (some (.ref f))) (hf : isFn K (.ref f) = true) (ho : mroIn K C (.type "object") = some true)
    (h : codeAny (model prog w) A.in1 (.call (.ref f) ⟨[.ref x, b], []⟩) (fun r s' => match r with | .ok (.ret v) => ∃ r, v = .bool r ∧ Q (.bool (!r)) s' | .ok _ => False | .error e => E e s') s) :
    wpAny (model prog w) A (richCompare .NotEq (.ref x) b) Q E s := by
  have X := X₀.keeps F.keep
  have one : wpAny (model prog w) A (tryCompare (.ref x) (cmpInfo .NotEq).2.1 b) (fun r s' => ∃ v, r = some v ∧ Q v s') E s := by
    refine neO_try X I hne heq hf ho hu (codeAny_mono h fun r s' hv => ?_)
    cases r with
    | error e => exact hv
    | ok fl =>
      cases fl with
      | ret v => obtain ⟨r, rfl, q⟩ := hv; exact ⟨r, rfl, _, rfl, q⟩
      | next => exact hv
      | brk => exact hv
      | cont => exact hv
  unfold richCompare
  simp only [oneThing_ref]
  refine wpAny_holding (wpAny_bind (wpAny_cRoomFor (by omega) ?_))
  refine wpAny_bind (I.type.here (wpAny_bind (hb.here ?_)))
  split
  · rename_i q
    have e : subIn K tb (.ref C) = some false := by
      rcases Bool.or_eq_true_iff.mp hn with e | e
      · rw [beq_iff_eq.mp e] at q; simp at q
      · exact beq_iff_eq.mp e
    refine wpAny_bind ((looks_subIn X e).here ?_)
    simp only [Bool.false_eq_true, if_false]
    refine wpAny_bind (wpAny_mono one (fun r s' z => ?_) fun _ _ e => e)
    obtain ⟨v, rfl, hq⟩ := z
    exact wpAny_pure hq
  · refine wpAny_bind (wpAny_pure ?_)
    simp only [Bool.false_eq_true, if_false]
    refine wpAny_bind (wpAny_mono one (fun r s' z => ?_) fun _ _ e => e)
    obtain ⟨v, rfl, hq⟩ := z
    exact wpAny_pure hq
end
end PySem.W
namespace DL
open PySem PySem.Spec L2
section
variable {X : Cx} {C f : Addr} {n : Nat} {fd : FuncData} {ps : List Str} {sp : Sp}
structure NeC (K : PySem.W.Frag) (C f : Addr) : Prop extends EqC K C f where
  ne : PySem.W.findIn K (.ref C) "__ne__" = some (some (.builtin "object.__ne__"))
  ob : PySem.W.mroIn K C (.type "object") = some true
def rNeOwn (K : PySem.W.Frag) (C : Addr) (sp : Sp) : R2 := fun x y H Q => ∃ a dx fs t, x = .ref a ∧ H a = some (.ins C dx fs) ∧ TyX K H y t ∧ PySem.W.notFirst K C t = true ∧ sp [x, y] H (fun v H' => ∃ r, v = .bl r ∧ Q (.bl (!r)) H') E0
theorem op_neOwn (F : FnOk X.prog X.w X.K X.mg X.base CX0 n f fd ps sp) (c : NeC X.K C f) (hb : Binds X.K fd ps []) (hr : Room (n + 1) X.A) : OpR X (compareOp .NotEq) (rNeOwn X.K C sp) := by
  intro pins s σ H x y v u Q I rx ry h
  obtain ⟨a, dx, fs, t, rfl, ha, ty, hn, hsp⟩ := h
  cases rx
  obtain ⟨mA, J, _⟩ := ins_get I.hok ha
  obtain ⟨od, J, _⟩ := J.look
  obtain ⟨m, hF⟩ := I.fr
  obtain ⟨Pz, Z, hz, _⟩ := kit_of I ry ty
  show wpAny (model X.prog X.w) X.A (richCompare .NotEq (.ref a) u) (EP X pins σ Q) X.xe s
  have e0 : Env0 X.prog X.w X.K X.mg X.base X.A.in1 X.stack s H := by
    have e := I.env0
    exact ⟨e.frames, e.mod, e.bs, e.bsz, e.funs, e.frf, e.hok, e.bare⟩
  refine PySem.W.cmp_neO (tb := t) (hu_of hr) hF I.ok.mod.kin J (Z.ty _ _ I.kIn hz) hn c.ne c.at_ c.fn c.ob ?_
  have hl := F.len _ _ _ _ hsp
  have r2 : Vals [V.ref a, y] [Value.ref a, u] := .cons rfl (.cons ry .nil)
  refine codeAny_mono (F.run X.A.in1 X.stack s H ⟨[.ref a, u], []⟩ [.ref a, u] _ _ E0 hr.in1 e0 (by
    have := hb s [.ref a, u] I.kIn (by simpa using hl)
    simpa using this) r2 hsp) fun r s' hq => ?_
  cases r with
  | error e => exact (show False from hq).elim
  | ok fl =>
    cases fl with
    | ret w =>
      obtain ⟨z, H', I', rz, b, ez, q⟩ := I.after hq
      subst ez
      cases rz
      exact ⟨b, rfl, .bl (!b), H', I', rfl, q⟩
    | next => exact False.elim hq
    | brk => exact False.elim hq
    | cont => exact False.elim hq
def rNeO (C : Addr) (nf : Tg ⊕ Addr → Bool) (sp : DSp) : DR2 := fun x y G Q => ∃ fs t, objOf G x = some (C, fs) ∧ tagOf G y = some t ∧ nf t = true ∧ sp [x, y] G (fun d G2 => ∃ r, d = .bl r ∧ Q (.bl (!r)) G2) noX
theorem od_neOwn {K : PySem.W.Frag} {C : Addr} {nf : Tg ⊕ Addr → Bool} {sp : DSp} (hnf : ∀ t, nf t = true → PySem.W.notFirst K C (tagV t) = true ∧ ∀ A, t = .inr A → ObjC K A) : OpD K (rNeOwn K C (liftSp K sp)) (rNeO C nf sp) := by
  intro F H G x y v w Qd Q rx ry hg h k
  obtain ⟨fs, t, e1, e2, e3, q⟩ := h
  obtain ⟨a, dx, vs, rfl, ha, _⟩ := obj_rep rx hg e1
  obtain ⟨h1, h2⟩ := hnf t e3
  refine ⟨a, dx, vs, tagV t, rfl, ha, tag_rep ry hg e2 h2, h1, F, [x, y], G, _, noX, .cons rx (.cons ry .nil), hg, q, fun F2 d G2 u H2 s r g z => ?_, .no⟩
  obtain ⟨b, rfl, z⟩ := z
  cases r
  exact ⟨b, rfl, k F2 (.bl (!b)) G2 (.bl (!b)) H2 s (.bl _) g z⟩
/-- the own __eq__ of a class, by its promise -/
structure EqO (P : Program) (w : World) (K : PySem.W.Frag) (mg : Str → Option Value) (base : Heap) (k : Nat) (C : Addr) (sp : DSp) : Prop where
  ex : ∃ f fd, NeC K C f ∧ Binds K fd ["self", "other"] [] ∧ FnOk P w K mg base CX0 k f fd ["self", "other"] (liftSp K sp)
theorem op_eqO {k : Nat} {sp : DSp} (o : EqO X.prog X.w X.K X.mg X.base k C sp) (hr : Room (k + 1) X.A) : OpR X (compareOp .Eq) (rEqOwn X.K C (liftSp X.K sp)) := by
  obtain ⟨f, fd, c, hb, F⟩ := o.ex
  exact op_eqOwn F c.toEqC hb (hr.mono (Nat.le_succ k))
theorem op_neO {k : Nat} {sp : DSp} (o : EqO X.prog X.w X.K X.mg X.base k C sp) (hr : Room (k + 1) X.A) : OpR X (compareOp .NotEq) (rNeOwn X.K C (liftSp X.K sp)) := by
  obtain ⟨f, fd, c, hb, F⟩ := o.ex
  exact op_neOwn F c hb hr
end
end DL

/-! DLI: own exceptions that keep one thing: class X(Base): def __init__(self, y): super().__init__(y); self.f = y. -/
namespace DL
open PySem PySem.Spec L2 NdefX

section
variable {X : Cx} {pins : List (Addr × Obj)} {σ : L2.St} {H : Hp} {s : Shared} {A : Around} {E : Value → Shared → Prop}
/-- ValueError.__init__, bound to the exception a by super() -/
theorem mw_call {C a u : Addr} {us : List Value} {Q : Value → Shared → Prop} (T : OexC X.K C) (I : Inv X pins σ H s) (e : H a = some (exo a C none)) (hu : s.heap.get? u = some (PySem.W.kxs_mw "ValueError.__init__" a)) (hl : us.length ≤ sizeLine)
    (h : ∀ s', Inv X pins σ H s' → Q .none s') : wpAny (model X.prog X.w) A (call (.ref u) us) Q E s := by
  obtain ⟨nm, q, N, bs, bm, sn, sub, ab, col, dd, k0, k1, k2, k3, k5, hC, hbm⟩ := T.cls
  obtain ⟨t1, ho⟩ := exo_at I.hok e
  obtain ⟨hp, g, d, tk, os⟩ := s
  refine wpAny_call (codeAny_of_tree (?_ : wpAny _ A.in1 (callAny (.ref u) ⟨us, []⟩) _ _ _))
  simp only [callAny]
  refine wpAny_bind (wpAny_load hu ?_)
  have yes : (Value.type "method-wrapper" == Value.type "method" || Value.type "method-wrapper" == Value.type "builtin_function_or_method" || Value.type "method-wrapper" == Value.type "method-wrapper") = true := by decide
  simp only [PySem.W.kxs_mw, yes, if_true]
  refine PySem.W.KFB.if_so (by decide) (wpAny_bind (PySem.W.check_bound_init PySem.F.excBase_ValueError.toExcCallFacts (I.kIn _ _ hC) ho rfl (wpAny_bind (wpAny_pure (wpAny_pure ⟨PySem.plainId_quiet PySem.F.excBase_ValueError.init.plain _, codeAny_builtin PySem.F.excBase_ValueError.initEntry ?_⟩)))))
  refine PySem.W.exc_init_tree (cls := .ref C) (t0 := t1) (dv := none) (c2 := .none) (c3 := .none) (b4 := .bool false) ho hl fun h2 k hx _ => ?_
  have J := I.write (t' := tk) (x := a) (e := a) (o := exo a C none) (by rw [e]; exact True.intro) (.inl rfl) k ⟨_, hx⟩ (exo_ok hx)
  have same : upd H a (exo a C none) = H := funext fun b => by
    by_cases z : b = a
    · subst z; exact upd_same.trans e.symm
    · exact upd_ne z
  exact h _ (same ▸ J)
end
/-- what the class at C must have, its __init__ at f with its cell cc and its code at cda -/
structure ExI (P : Program) (K : PySem.W.Frag) (C f cc cda : Addr) (qual : Str) (ps : List Str) (params : Arguments) (body : List Stmt) (scope : Scope) (fd : FuncData) : Prop where
  o : OexC K C
  lk : ∃ doc pm ctv oc od osl, fd = PySem.W.fnX "__init__" qual params body scope [("__class__", cc)] .none .none doc pm none (.ref cda) ctv ∧ K.lookup f = some ⟨oc, od, .func fd, osl⟩
  cd : PySem.W.codeIn K (.ref cda) qual = true
  sc : NScope (ps ++ [("__class__" : Str)]) ps ["__class__"] scope
  file : ∃ (ccl : Value) (cdd : Option Addr) (vs : Array Value) (ccs : Array (Option Value)) (file : Str) (tf : Tok), K.lookup cda = some ⟨ccl, cdd, .fields vs, ccs⟩ ∧ vs[2]? = some (.str file tf) ∧ ((P.main.file : Str) == file) = true
  cell : ∃ (cl : Value) (cld : Option Addr) (csl : Array (Option Value)), K.lookup cc = some ⟨cl, cld, .cell (some (.ref C)), csl⟩
  cls : ∃ cd, PySem.W.clsIn K C = some cd
  sup : PySem.W.ks_superIn K C C "__init__" = some (some (.builtin "ValueError.__init__"))
  sub : PySem.W.subIn K (.ref C) (.type "ValueError") = some true
  self : PySem.W.mroIn K C (.ref C) = some true
  opq : PySem.W.nsIn K PySem.cStatics "thirdparty.any" = some none
  main : (P.main.scope.names.lookup ("super" : Str)).isSome = false
  sg : scope.names.lookup ("super" : Str) = some .globalImplicit
def spExI (C : Addr) (fld : Str) : Sp := fun vs H Q _ => ∃ a v, vs = [.ref a, v] ∧ H a = some (exo a C none) ∧ ∀ dx, H dx = none → dx ≠ a → Q .non (upd (upd H dx (exd dx [(fld, v)])) a (exo a C (some dx)))
section
variable {P : Program} {w : World} {K : PySem.W.Frag} {mg : Str → Option Value} {base : Heap} {C f cc cda : Addr} {fd : FuncData}
theorem ExI.ok {CX : CXT} {k : Nat} {qual y fld : Str} {params : Arguments} {scope : Scope} {p0 p1 p2 p3 p4 p5 q0 q1 q2 q3 : Pos} {ar : Arg}
    (T : ExI P K C f cc cda qual ["self", y] params [.Expr (.Call (.Attribute (.Call (.Name "super" p0) [] [] p1) "__init__" p2) [.Name y p3] [] p4) p5, .Assign [.Attribute (.Name "self" q0) fld q1] (.Name y q2) q3] scope fd)
    (hp : (params.posonlyargs ++ params.args).head? = some ar) (har : ar.arg = "self") (hms : mg "super" = none) (hno : PySem.W.findIn K (.ref C) fld = some none) (hyd : (y == ("__debug__" : Str)) = false) (hyc : (y == ("__classdict__" : Str)) = false) (hb : Binds K fd ["self", y] [])
    (he : ∀ L : Addr, ∃ pl : Sem Bool, eval (.Call (.Attribute (.Call (.Name "super" p0) [] [] p1) "__init__" p2) [.Name y p3] [] p4) (PySem.W.envX qual scope L f (.ref cda) [("__class__", cc)]) = (do
      let r ← attributeBase (.Call (.Name "super" p0) [] [] p1) "__init__" (PySem.W.envX qual scope L f (.ref cda) [("__class__", cc)]) (eval (.Call (.Name "super" p0) [] [] p1) (PySem.W.envX qual scope L f (.ref cda) [("__class__", cc)]))
      standAt p2.atName
      let (g, l) ← holding [r] (getMethod r "__init__" pl)
      callWith p4 g l (backTo p4 (starEach [.Name y p3] (PySem.W.envX qual scope L f (.ref cda) [("__class__", cc)]))) []))
    (hsw : ∀ L : Addr, swapsWith (.Call (.Attribute (.Call (.Name "super" p0) [] [] p1) "__init__" p2) [.Name y p3] [] p4) none p5.line (PySem.W.envX qual scope L f (.ref cda) [("__class__", cc)]) = pure false)
    (hsw2 : ∀ L : Addr, swapsWith (.Name y q2) (some (.Attribute (.Name "self" q0) fld q1)) q3.line (PySem.W.envX qual scope L f (.ref cda) [("__class__", cc)]) = pure false)
    (hba : ∀ L : Addr, attributeBase (.Name "self" q0) fld (PySem.W.envX qual scope L f (.ref cda) [("__class__", cc)]) (eval (.Name "self" q0) (PySem.W.envX qual scope L f (.ref cda) [("__class__", cc)])) = eval (.Name "self" q0) (PySem.W.envX qual scope L f (.ref cda) [("__class__", cc)])) :
    FnOk P w K mg base CX (k + 1) f fd ["self", y] (spExI C fld) := by
  obtain ⟨doc, pm, ctv, oc, od, osl, hfd, lk⟩ := T.lk
  obtain ⟨ccl, cdd, vs, ccs, file, tf, hcode, hvs, hfile⟩ := T.file
  obtain ⟨cl, cld, csl, hcell⟩ := T.cell
  obtain ⟨cdC, hcls⟩ := T.cls
  subst hfd
  refine ⟨fun vs H Q E ⟨a, v, e, _⟩ => by rw [e]; rfl, fun A outer s H args us vs' Q E hr e0 hbd hv ⟨a, v, ev, ea, hq⟩ => ?_⟩
  subst ev
  have KX : K.In s.heap := e0.mod.kin.keeps fun b o e => (e0.bs b o e).1
  have lim : s.heap.NoLimit := e0.mod.nolimit.keeps fun b o e => (e0.bs b o e).1
  obtain ⟨u1, u2, rfl, hu1, hu2⟩ : ∃ u1 u2, us = [u1, u2] ∧ RelV (.ref a) u1 ∧ RelV v u2 := by
    cases hv with
    | cons r t => cases t with
      | cons r2 t2 => cases t2; exact ⟨_, _, rfl, r, r2⟩
  have hu1 : u1 = Value.ref a := hu1
  subst hu1
  let F : NF := ⟨"__init__", qual, params, [.Expr (.Call (.Attribute (.Call (.Name "super" p0) [] [] p1) "__init__" p2) [.Name y p3] [] p4) p5, .Assign [.Attribute (.Name "self" q0) fld q1] (.Name y q2) q3], scope, [("__class__", cc)], cda⟩
  have lkc : ∀ (z : Str) (c : Addr), F.cl.lookup z = some c → z = "__class__" ∧ c = cc := fun z c h => by
    have h : List.lookup z [(("__class__" : Str), cc)] = some c := h
    rw [List.lookup_cons] at h
    cases q : (z == ("__class__" : Str)) with
    | true => rw [q] at h; cases h; exact ⟨eq_of_beq q, rfl⟩
    | false => rw [q] at h; cases h
  have CA : CellsAt F.cl ["__class__"] [none] s.heap H := ⟨rfl, fun z c h => by
      obtain ⟨_, rfl⟩ := lkc z c h
      obtain ⟨h1, h2⟩ := e0.bs _ _ (e0.mod.kin _ _ hcell)
      exact ⟨h2, _, _, h1, rfl⟩, fun z z2 c h h2 => (lkc z c h).1.trans (lkc z2 c h2).1.symm, fun i z h => by
      cases i with
      | zero => cases h; exact ⟨cc, rfl, fun v h => by cases h⟩
      | succ i => simp at h⟩
  refine PySem.ks_codeAny_call_defAt (fd := F.fd doc pm ctv) (body := F.body) (binds := (["self", y] : List Str).zip [Value.ref a, u2]) hr.depth (KX _ _ lk) rfl lim (PySem.W.codeRec_of KX T.cd) rfl hbd T.sc.nocell (fun z hz => T.sc.par z.1 (List.of_mem_zip (show (z.1, z.2) ∈ _ from hz)).1) (fun h1 hns kp => ?_) T.sc.co T.sc.gen T.sc.kind
  let XC : Cx := ncx CX P w K mg base ([("self" : Str), y] ++ [("__class__" : Str)]) F f A outer s H E
  have I0 : Inv XC [] (startF ([("self" : Str), y] ++ [("__class__" : Str)]) [.ref a, v] [none]) H { s with heap := h1, toks := s.toks + ((["self", y] : List Str).zip [Value.ref a, u2]).length } := inv_startN T.sc hr.hd e0 rfl hv CA hns kp
  have K1 : K.In h1 := I0.kIn
  obtain ⟨t1, hx⟩ := exo_at I0.hok ea
  obtain ⟨oD, hD1, hD2⟩ : ∃ oD, h1.get? C = some oD ∧ oD.data = .cls cdC := by
    unfold PySem.W.clsIn at hcls
    split at hcls
    · rename_i c d cd' sl ho
      cases hcls
      exact ⟨_, K1 _ _ ho, rfl⟩
    · cases hcls
  show PySem.wpAt (model P w) XC.A (.func F.body XC.env) (execs F.body XC.env) _ _ _
  refine PySem.ks_wpAt_execs_cons (PySem.ks_wpAt_Expr_any (hi := I0.quiet) (hs := hsw _) (PySem.ks_wpAt_MethodCall (pl := (he _).choose) (he := (he _).choose_spec) (PySem.ks_wpAt_super_base (env := XC.env) T.sg (T.sc.frk _ (by simp)) (by decide) rfl (kp _ _ (KX _ _ lk)) rfl hp rfl (K1 _ _ hcode) rfl hvs hfile T.main ?_)))
  obtain ⟨mb, hmb1, hmb2⟩ := I0.mod.blt
  refine PySem.W.ks_loadName_global (env := XC.env) I0.ok.kind T.sg (Calls.loadGlobal_builtin (by rw [I0.ok.glob]; exact I0.mod.glob.keeps I0.bk) hms (by rw [I0.ok.blt]; exact hmb1.keeps I0.bk) ((hmb2 "super" (by decide)).trans (by rfl)) ⟨rfl, ?_⟩)
  refine wpAny_loadName_free I0.ok.kind (T.sc.frk _ (by simp)) rfl ⟨_, K1 _ _ hcell, rfl⟩ ?_
  have ndp : (["self", y] : List Str).Nodup := by
    have := T.sc.nd
    exact (List.nodup_append.mp this).1
  rw [har]
  refine wpAny_loadName_local I0.ok.kind (T.sc.par "self" (by simp)) hns (zip_look (i := 0) ndp rfl rfl) ?_
  refine PySem.ks_wpAny_isType_cls hD1 hD2 ⟨rfl, ?_⟩
  refine PySem.ks_wpAny_call_super hD1 hD2 hx rfl (fun c e => by cases e) (PySem.W.looks_mroIn K1 T.self) fun h2 e2 k2 => ?_
  have I1 := I0.kept (t' := s.toks + ((["self", y] : List Str).zip [Value.ref a, u2]).length) k2
  have K2 : K.In h2 := I1.kIn
  obtain ⟨t2, hx2⟩ := exo_at I1.hok ea
  have inst : PySem.W.InstAt h2 a ({ cls := .ref C, dict := none, data := .fields #[.ref t2, .none, .none, .none, .bool false, .none] } : Obj) C none := ⟨hx2, rfl, rfl, True.intro⟩
  have hI : PySem.W.Looks (model P w) h2 (isInstance (.ref a) (.type "ValueError")) true := inst.type.andThen (PySem.W.looks_subIn K2 T.sub)
  have hsup : PySem.W.alongIn K "__init__" ((cdC.mro.dropWhile (· != .ref C)).drop 1) = some (some (.builtin "ValueError.__init__")) := by
    have e := T.sup
    unfold PySem.W.ks_superIn at e
    rw [hcls] at e
    exact e
  refine PySem.W.kxs_getMethod PySem.W.kxs_ValueError e2 (PySem.W.looks_opaque K2 T.opq) (l₀ := cdC.mro) (fun A Q E s k q => wpAny_bind ((PySem.W.looks_clsIn K2 hcls) A _ E s k (wpAny_pure q))) rfl K2 hsup hI (PySem.W.ks_ne K2 inst hcls) (by decide) ?_
  have up : ∀ b o, h2.get? b = some o → (h2.push (PySem.W.kxs_mw "ValueError.__init__" a)).get? b = some o := fun b o e => Heap.get?_push_of_some _ e
  have hu : (h2.push (PySem.W.kxs_mw "ValueError.__init__" a)).get? h2.objs.size = some (PySem.W.kxs_mw "ValueError.__init__" a) := Heap.get?_push_at rfl rfl
  have I2 := (I1.kept (t' := s.toks + ((["self", y] : List Str).zip [Value.ref a, u2]).length + 1) up).pins_of (pins' := [(h2.objs.size, PySem.W.kxs_mw "ValueError.__init__" a)]) (fun q hq => by
    rw [List.mem_singleton.mp hq]
    exact ⟨hu, I1.hok.fresh (Nat.le_refl _), Nat.ne_of_gt I1.lt, I1.nofs (Nat.le_refl _), fun v e => by cases e⟩)
  have nv : ∀ (i : Nat) (z : Str) (pos : Pos), ([("self" : Str), y] ++ [("__class__" : Str)])[i]? = some z → z ∈ (["self", y] : List Str) → (z == ("__debug__" : Str)) = false → (z == ("__classdict__" : Str)) = false → PE XC (.Name z pos) (tVar i) := fun i z pos h1 h2 h3 h4 => pe_var h1 (.inl (T.sc.par z h2)) h3 h4
  have pa : PA XC [.Name y p3] (tCons (tVar 1) tNil) := pa_cons (nv 1 y p3 rfl (by simp) hyd hyc) pa_nil
  refine PySem.W.kxs_callWith (i := "ValueError.__init__") (x := a) (by rfl) (Calls.evalArgs_plain ?_)
  refine wpAny_mono (pa.run p4 _ _ _ H (fun vs H' => vs = [v] ∧ H' = H) I2 ⟨v, rfl, rfl, rfl⟩) (fun us2 s3 hh => ?_) (fun _ _ z => z)
  obtain ⟨vs3, H3, I3, r3, rfl, eH⟩ := hh
  subst eH
  have hu3 := (I3.pin (h2.objs.size, PySem.W.kxs_mw "ValueError.__init__" a) (List.mem_append_right _ List.mem_cons_self)).1
  have l3 : us2.length ≤ sizeLine := by rw [← Paired.length r3, sizeLine_eq]; simp
  refine ⟨hu3, mw_call T.o I3 ea hu3 l3 fun s4 I4 => ?_⟩
  have J : Inv XC [] (startF ([("self" : Str), y] ++ [("__class__" : Str)]) [.ref a, v] [none]) H3 s4 := I4.pins_of (pins' := []) (fun q hq => by cases hq)
  have st : PS XC (.Assign [.Attribute (.Name "self" q0) fld q1] (.Name y q2) q3) (tOst XC.K fld (tVar 0) (tVar 1)) := ps_ost (nv 0 "self" q0 rfl (by simp) (by decide) (by decide)) (nv 1 y q2 rfl (by simp) hyd hyc) (hs := hsw2 _)
  refine PySem.wpAt_of_wpAny (wpAny_mono ((pss_cons st pss_nil).run [] s4 _ H3 { nx := fun _ H' => Q .non H', rt := Q } J ?_) (fun fl s5 hs => ?_) fun e s5 hs => hs)
  · refine ⟨v, rfl, .ref a, rfl, a, C, rfl, T.o, hno, .inl ⟨ea, fun dx h1 h2 => hq dx h1 h2⟩⟩
  · have fin : ∀ {σ5 : L2.St} {H5 : Hp} {v5 : V} {u5 : Value}, Inv XC [] σ5 H5 s5 → L2.RelV v5 u5 → Q v5 H5 → CE outer P w H3 s Q u5 s5 := fun J5 rv q => ⟨_, _, J5.os, J5.bare, J5.base, J5.hok, rv, q⟩
    cases fl with
    | next => obtain ⟨_, _, J5, q5⟩ := hs; exact fin (v5 := .non) (u5 := .none) J5 rfl q5
    | ret u5 => obtain ⟨_, _, _, J5, rv, q5⟩ := hs; exact fin J5 rv q5
    | brk => exact hs.choose_spec.choose_spec.2.elim
    | cont => exact hs.choose_spec.choose_spec.2.elim
end
end DL

/-! DLJ: raise X(e), X keeping e; except X as e; several clauses, each with a name or without; e.f. -/
namespace DL
open PySem PySem.Spec L2

/-- a class of exceptions that keeps one thing -/
structure ExcF (P : Program) (w : World) (K : PySem.W.Frag) (mg : Str → Option Value) (base : Heap) (k : Nat) (x : Str) (C : Addr) (fld : Str) : Prop where
  ex : ∃ fI fd y, OexC K C ∧ PySem.W.findIn K (.ref C) "__init__" = some (some (.ref fI)) ∧ PySem.W.typeIn K (.ref fI) = some (.type "function") ∧ Binds K fd ["self", y] [] ∧ FnOk P w K mg base CX0 k fI fd ["self", y] (spExI C fld) ∧ mg x = some (.ref C)
theorem ExcF.mono {P : Program} {w : World} {K : PySem.W.Frag} {mg : Str → Option Value} {base : Heap} {j k : Nat} {x : Str} {C : Addr} {fld : Str} (c : ExcF P w K mg base j x C fld) (h : j ≤ k) : ExcF P w K mg base k x C fld :=
  let ⟨fI, fd, y, a1, a2, a3, a4, a5, a6⟩ := c.ex; ⟨fI, fd, y, a1, a2, a3, a4, a5.mono h, a6⟩
section
variable {X : Cx} {W : WX} {k : Nat} {x : Str} {p pos pos2 : Pos} {e : Expr} {te : DE}
/-- raise X(e) -/
def wRaise1 (C : Addr) (fld : Str) (te : DE) : DS := fun D σ G => te σ G fun y G1 => D.ex σ C [(fld, y)] G1
theorem ds_raise1 {C : Addr} {fld : Str} (T : ExcF X.prog X.w X.K X.mg X.base k x C fld) (hr : Room (k + 1) X.A) (hc : X.calm = true) (tk : Takes X W) (hg : Gl X x) (he : PE X e (lift X.K te)) (hdb : (x == ("__debug__" : Str)) = false := by decide)
    (hs : starEach [e] X.env = (false, eval e X.env) :: starEach [] X.env := by rfl) (hpl : (backTo pos (starEach [] X.env)).any (·.1) = false := by rfl) :
    PS X (.Raise (some (.Call (.Name x p) [e] [] pos)) none pos2) (liftS X.K W (wRaise1 C fld te)) := by
  obtain ⟨fI, fd, y, o, h1, h2, hb, F, hm⟩ := T.ex
  have hx : Passes CX0 X (fun _ _ _ => False) := pass0
  refine PS.weak (ps_raise hc tk (pmk_oex (ds := []) (dvs := []) o h1 h2 F hr hb .nil hx hg hm (pa_cons he pa_nil hs) hdb hs hpl)) fun D σ H ⟨F0, σd, G, Dd, hs, hg, h, kk⟩ => ?_
  refine lift_bind hs hg h fun F1 d G1 v H1 s1 hs1 r1 g1 q1 => ⟨by simp, fun a ha => ⟨a, v, rfl, upd_same, fun dx hdx hne => ⟨rfl, dx, [(fld, v)], upd_same, ?_, ?_, ?_⟩⟩⟩
  · rw [upd_ne hne, upd_same]
  · rw [upd_ne hne] at hdx; exact hdx
  · have hd1 : H1 dx = none := by rw [upd_ne hne] at hdx; exact hdx
    have e : upd (del (upd (upd (upd H1 a (exo a C none)) dx (exd dx [(fld, v)])) a (exo a C (some dx))) a) dx (.xd [(fld, v)]) = upd H1 dx (.xd [(fld, v)]) := by
      funext b
      by_cases z : b = dx
      · subst z; rw [upd_same, upd_same]
      · rw [upd_ne z, upd_ne z]
        by_cases z2 : b = a
        · subst z2; rw [del_same]; exact ha.symm
        · rw [del_ne z2, upd_ne z2, upd_ne z, upd_ne z2]
    show W (.ref C) (some dx) σ _
    rw [e]
    obtain ⟨nf, s2, g2⟩ := g1.tupled (o := .xd [(fld, v)]) hd1
    have s3 : Stay X.K H1 F1 (upd H1 dx (.xd [(fld, v)])) (F1.add dx) := s2.trans Stay.froze
    have g3 := g2.froze (g1.gnone hd1) upd_same fun z => nf (.inr z)
    exact kk.ex (F1.add dx) σd C [(fld, d)] G1 σ _ (some dx) (s1.trans s3) (hs1.stay s3) g3 (.inr ⟨dx, [(fld, v)], rfl, .inr rfl, upd_same, .cons (r1.stay s3) .nil⟩) q1
end
/-! ### clauses -/
/-- what the clauses wish; i: the slot of the clause's name -/
abbrev Cl := Option Nat × Value × (Addr → Value → Option Addr → TS)
def Ends.off (D : Ends) (i : Nat) : Ends := { nx := fun σ H => D.nx (σ.set i none) H, rt := D.rt, bk := fun σ H => D.bk (σ.set i none) H, ct := fun σ H => D.ct (σ.set i none) H }
def wMix (K : PySem.W.Frag) (Wout : WX) (D : Ends) : List Cl → WX
  | [] => Wout
  | (o, c, ts) :: r => fun cls d σ H => ∃ b, PySem.W.exmOne K cls c = some b ∧ (b = true → ∀ a, H a = none → (match o with | none => ts a cls d D σ H | some i => ts a cls d (Ends.off D i) (σ.set i (some (.ref a))) H)) ∧ (b = false → wMix K Wout D r cls d σ H)
inductive MixOk (X : Cx) : List ExceptHandler → List Cl → Prop
  | nil : MixOk X [] []
  | no {x : Str} {c : Value} {ts : Addr → Value → Option Addr → TS} {b₀ : Stmt} {suite : List Stmt} {np pos' : Pos} {hds : List ExceptHandler} {l : List Cl} (hc : Names X x c)
      (hsu : ∀ (a : Addr) (oe : Obj) (cls : Value) (d : Option Addr) (pn : List (Addr × Obj)), Zc cls d oe → (∃ vs, oe.data = .fields vs) → PSs (X.suite a ((a, oe) :: pn)) (b₀ :: suite) (ts a cls d)) (r : MixOk X hds l) :
      MixOk X (.ExceptHandler (some (.Name x np)) none (b₀ :: suite) pos' :: hds) ((none, c, ts) :: l)
  | as_ {x n : Str} {i : Nat} {c : Value} {ts : Addr → Value → Option Addr → TS} {b₀ : Stmt} {suite : List Stmt} {np pos' : Pos} {hds : List ExceptHandler} {l : List Cl} (hc : Names X x c) (hi : X.N[i]? = some n) (hln : X.env.kindOf n = some .local)
      (hsu : ∀ (a : Addr) (oe : Obj) (cls : Value) (d : Option Addr) (pn : List (Addr × Obj)), Zc cls d oe → (∃ vs, oe.data = .fields vs) → PSs (X.suite a ((a, oe) :: pn)) (b₀ :: suite) (ts a cls d)) (r : MixOk X hds l) :
      MixOk X (.ExceptHandler (some (.Name x np)) (some n) (b₀ :: suite) pos' :: hds) ((some i, c, ts) :: l)
section
variable {X : Cx} {body : List Stmt} {h₀ : ExceptHandler} {hds : List ExceptHandler} {l : List Cl} {pos : Pos} {tb : WX → TS} {Wout : WX}
theorem ps_try_mix (hN : X.N.Nodup) (hs : X.stack = X.env :: X.outer) (hf : X.env.frame = some X.env.locals) (tk : Takes X Wout)
    (hb : ∀ (W : WX) (pn : List (Addr × Obj)) (xe : Value → Shared → Prop), Takes (X.tr pn xe) W → PassesOwn (model X.prog X.w) X.A X.env xe → PSs (X.tr pn xe) body (tb W))
    (hh : MixOk X (h₀ :: hds) l) : PS X (.Try body (h₀ :: hds) [] [] pos) (fun D σ H => tb (wMix X.K Wout D l) D σ H) := by
  refine ⟨fun pins s σ H D I h => wpAny_Try_except ?_⟩
  have ok := I.ok
  have hst : X.A.frames = some (X.env :: X.outer) := by rw [ok.frames, hs]
  have back : ∀ f s1, SP (X.tr (X.pn ++ pins) (fun e s₁ => wpAny (model X.prog X.w) X.A (noteFrame e X.env) (fun _ s₂ => wpAny (model X.prog X.w) X.A (setFlight e none) (fun _ s₃ => wpAny (model X.prog X.w) X.A (handleBy e X.env (h₀ :: hds)) (SP X pins D) X.xe s₃) X.xe s₂) X.xe s₁)) [] D f s1 → SP X pins D f s1 := fun f s1 q => by
    cases f with
    | next => obtain ⟨σ1, H1, J, q⟩ := q; exact ⟨σ1, H1, J.ofTry ok, q⟩
    | brk => obtain ⟨σ1, H1, J, q⟩ := q; exact ⟨σ1, H1, J.ofTry ok, q⟩
    | cont => obtain ⟨σ1, H1, J, q⟩ := q; exact ⟨σ1, H1, J.ofTry ok, q⟩
    | ret u => obtain ⟨v, σ1, H1, J, r, q⟩ := q; exact ⟨v, σ1, H1, J.ofTry ok, r, q⟩
  refine wpAny_mono ((hb (wMix X.K Wout D l) (X.pn ++ pins) _ (fun u s1 xx => ?_) PassesOwn.looking).run [] s σ H D (I.toTry _) h) (fun f s1 q => ?_) (fun e s1 z => z)
  · obtain ⟨a, B, sI, pins', σ1, H1, cls, d, rfl, J0, nb, up, sky, na, os, ag, w⟩ := xx
    have J := J0.ofTry ok
    show wpAny (model X.prog X.w) X.A (noteFrame (.ref a) X.env) _ _ _
    refine Sky.land Zc.steady hst hf (hs ▸ sky) fun h3 fl up3 => ?_
    have JL : ∀ {h4 : Heap}, B.StaysIn h4 → s1.heap.UpToSlots h4 → Inv X pins σ1 H1 { s1 with heap := h4 } := fun st u4 => J.landed nb st (up.trans u4) os ag
    obtain ⟨oe, vs, he, hz, hd⟩ := fl.there
    have out : a ∉ frs (X.env :: X.outer) := fun hm => by
      obtain ⟨_, o2, e2, hnf⟩ := fl.2.2.1.mem hm
      rw [he] at e2
      cases e2
      exact hnf _ hd
    have nL : a ≠ X.env.locals := fun z => out (List.mem_filterMap.mpr ⟨X.env, List.mem_cons_self, by rw [hf, z]⟩)
    have nF : a ∉ X.fs := fun hm => by
      obtain ⟨q, hq, e⟩ := List.mem_filterMap.mp hm
      exact out (List.mem_filterMap.mpr ⟨q, List.mem_cons_of_mem _ hq, e⟩)
    have S3 := (JL fl.1 up3).suite he hd na nL nF
    have LT : PySem.W.Looks (model X.prog X.w) h3 (typeOf (.ref a)) cls := fun A Q E s k q => wpAny_typeOf_ref (k _ _ he) (by rw [hz.1]; exact q)
    have look : ∀ {x : Str} {c : Value} {np : Pos} {Q : Value → Shared → Prop} {E : Value → Shared → Prop}, Names X x c → Q c { s1 with heap := h3 } → wpAny (model X.prog X.w) (X.A.mark (some (.ref a))) (eval (.Name x np) X.env) Q E { s1 with heap := h3 } := fun hc q => by
      obtain ⟨g1, g2, g3 | ⟨g3, g4, g5⟩⟩ := hc
      · exact ld_glob (X := X.suite a ((a, oe) :: (X.pn ++ pins))) S3 g1 g3 q g2
      · exact ld_blt (X := X.suite a ((a, oe) :: (X.pn ++ pins))) S3 g1 g3 g4 q g5 g2
    have goOn : ∀ {hds' : List ExceptHandler} {l' : List Cl}, MixOk X hds' l' → wMix X.K Wout D l' cls d σ1 H1 → wpAny (model X.prog X.w) X.A (handleBy (.ref a) X.env hds') (SP X pins D) X.xe { s1 with heap := h3 } := by
      intro hds' l' hk
      induction hk with
      | nil =>
        intro w
        obtain ⟨_, _, _, oe5, vs5, T5, _, _, he5, _, hd5, h5, _⟩ := id fl
        have last : wpAny (model X.prog X.w) X.A (setFlight (.ref a) X.env.frame) (fun _ s4 => wpAny (model X.prog X.w) X.A (throw (.ref a) : Sem Flow) (SP X pins D) X.xe s4) X.xe { s1 with heap := h3 } := by
          rw [hf]
          exact HandSPX.setFlight_upZ fl fun h4 hh4 up4 => wpAny_throw (tk _ _ ⟨a, B, sI, pins, σ1, H1, cls, d, rfl, J, nb, (up.trans up3).trans up4, .inr (.inr (by rw [hs]; exact hh4)), na, os, ag, w⟩)
        refine wpAny_handleBy_nil ?_
        unfold PySem.passOn
        refine wpAny_bind (wpAny_field he5 hd5 h5 ?_)
        rw [if_neg (show ¬ ((Value.ref T5 == Value.none) = true) from by simp)]
        first | exact wpAny_bind (wpAny_pure (wpAny_bind last)) | exact wpAny_bind last
      | @no x c ts b0 suite np pos' hds2 l2 hc hsu r ih =>
        rintro ⟨b, hb1, yes, no⟩
        refine wpAny_handleBy_cons (codeAny_handlers_test (look hc ((PySem.W.exm_one (M := model X.prog X.w) (JL fl.1 up3).kIn LT hb1).here ?_))) (by intro q; cases q)
        cases b with
        | false => exact ih (no rfl)
        | true =>
          refine codeAny_handlers_suite (HandSPX.lands_againZ fl fun h4 fl4 up4 => ?_)
          obtain ⟨oe4, vs4, he4, hz4, hd4⟩ := fl4.there
          refine wpAny_mono ((hsu a oe4 cls d (X.pn ++ pins) hz4 ⟨_, hd4⟩).run [] _ _ H1 _ ((JL fl4.1 (up3.trans up4)).suite he4 hd4 na nL nF) (yes rfl a na)) (fun f s6 q => ?_) (fun _ _ z => False.elim z)
          cases f with
          | next => obtain ⟨σ6, H6, S6, q⟩ := q; exact ⟨_, _, S6.unsuite ok, q⟩
          | brk => obtain ⟨σ6, H6, S6, q⟩ := q; exact ⟨_, _, S6.unsuite ok, q⟩
          | cont => obtain ⟨σ6, H6, S6, q⟩ := q; exact ⟨_, _, S6.unsuite ok, q⟩
          | ret u => obtain ⟨v6, σ6, H6, S6, r6, q⟩ := q; exact ⟨_, _, _, S6.unsuite ok, r6, q⟩
      | @as_ x n i c ts b0 suite np pos' hds2 l2 hc hi hln hsu r ih =>
        rintro ⟨b, hb1, yes, no⟩
        refine wpAny_handleBy_cons (codeAny_handlers_test (look hc ((PySem.W.exm_one (M := model X.prog X.w) (JL fl.1 up3).kIn LT hb1).here ?_))) (by intro q; cases q)
        cases b with
        | false => exact ih (no rfl)
        | true =>
          refine codeAny_handlers_suite_as (HandSPX.lands_againZ fl fun h4 fl4 up4 => ?_)
          obtain ⟨oe4, vs4, he4, hz4, hd4⟩ := fl4.there
          refine store_ok (X := X.suite a ((a, oe4) :: (X.pn ++ pins))) (v := .ref a) ((JL fl4.1 (up3.trans up4)).suite he4 hd4 na nL nF) hN hi (.inl hln) rfl (fun s5 S5 => ?_) (.inr hln)
          refine wpAny_mono ((hsu a oe4 cls d (X.pn ++ pins) hz4 ⟨_, hd4⟩).run [] s5 _ H1 _ S5 (yes rfl a na)) (fun f s6 q => ?_) (fun _ _ z => False.elim z)
          have gone : ∀ {σ6 : L2.St} {H6 : Hp} {Q : Shared → Prop}, Inv (X.suite a ((a, oe4) :: (X.pn ++ pins))) [] σ6 H6 s6 → (∀ s7, Inv X pins (σ6.set i none) H6 s7 → Q s7) → wpAny (model X.prog X.w) X.A (do bindName X.env n .none; unbindBehindTheSuite X.env n pos') (fun _ s7 => Q s7) X.xe s6 := fun S6 hq => gone_ok (S6.unsuite ok) hN hi hln hq
          cases f with
          | next => obtain ⟨σ6, H6, S6, q⟩ := q; exact gone S6 fun s7 J7 => ⟨_, _, J7, q⟩
          | brk => obtain ⟨σ6, H6, S6, q⟩ := q; exact gone S6 fun s7 J7 => ⟨_, _, J7, q⟩
          | cont => obtain ⟨σ6, H6, S6, q⟩ := q; exact gone S6 fun s7 J7 => ⟨_, _, J7, q⟩
          | ret u => obtain ⟨v6, σ6, H6, S6, r6, q⟩ := q; exact gone S6 fun s7 J7 => ⟨_, _, _, J7, r6, q⟩
    exact goOn hh w
  · have q' := back f s1 q
    cases f with
    | next => exact wpAny_execs_nil q'
    | brk => exact q'
    | cont => exact q'
    | ret u => exact q'
end
end DL

/-! DLK: try with clauses, over data. -/
namespace DL
open PySem PySem.Spec L2

abbrev ClD := Option Nat × (Addr → Option Bool) × (Addr → Value → Option Addr → DS)
def DEnds.off (D : DEnds) (i : Nat) : DEnds := { nx := fun σ G => D.nx (σ.set i none) G, rt := D.rt, bk := fun σ G => D.bk (σ.set i none) G, ct := fun σ G => D.ct (σ.set i none) G }
def wMixX (D : DEnds) : List ClD → DXs
  | [] => D.ex
  | (o, ans, ws) :: r => fun σ A fs G => ∃ b, ans A = some b ∧ (if b = true then (match o with
      | none => ∀ a od, ws a (.ref A) od D σ G
      | some i => ∀ a od, (od = none → fs = []) → ws a (.ref A) od (D.off i) (σ.set i (some (.exc a A od fs))) G) else wMixX D r σ A fs G)
/-- try: body, then the clauses -/
def wTryM (wb : DS) (l : List ClD) : DS := fun D σ G => wb { D with ex := wMixX D l } σ G
inductive MixD (X : Cx) (W : WX) : List ExceptHandler → List ClD → Prop
  | nil : MixD X W [] []
  | no {x : Str} {c : Value} {ans : Addr → Option Bool} {ws : Addr → Value → Option Addr → DS} {b₀ : Stmt} {suite : List Stmt} {np pos' : Pos} {hds : List ExceptHandler} {l : List ClD} (hc : Names X x c) (hans : ∀ A b, ans A = some b → PySem.W.exmOne X.K (.ref A) c = some b)
      (hsu : ∀ (a : Addr) (oe : Obj) (cls : Value) (d : Option Addr) (pn : List (Addr × Obj)), Zc cls d oe → (∃ vs, oe.data = .fields vs) → PSs (X.suite a ((a, oe) :: pn)) (b₀ :: suite) (liftS X.K W (ws a cls d))) (r : MixD X W hds l) :
      MixD X W (.ExceptHandler (some (.Name x np)) none (b₀ :: suite) pos' :: hds) ((none, ans, ws) :: l)
  | as_ {x n : Str} {i : Nat} {c : Value} {ans : Addr → Option Bool} {ws : Addr → Value → Option Addr → DS} {b₀ : Stmt} {suite : List Stmt} {np pos' : Pos} {hds : List ExceptHandler} {l : List ClD} (hc : Names X x c) (hi : X.N[i]? = some n) (hln : X.env.kindOf n = some .local)
      (hans : ∀ A b, ans A = some b → PySem.W.exmOne X.K (.ref A) c = some b)
      (hsu : ∀ (a : Addr) (oe : Obj) (cls : Value) (d : Option Addr) (pn : List (Addr × Obj)), Zc cls d oe → (∃ vs, oe.data = .fields vs) → PSs (X.suite a ((a, oe) :: pn)) (b₀ :: suite) (liftS X.K W (ws a cls d))) (r : MixD X W hds l) :
      MixD X W (.ExceptHandler (some (.Name x np)) (some n) (b₀ :: suite) pos' :: hds) ((some i, ans, ws) :: l)
section
variable {X : Cx} {W : WX} {D : Ends} {Dd : DEnds} {H : Hp} {F : FP} {body : List Stmt} {h₀ : ExceptHandler} {hds : List ExceptHandler} {l : List ClD} {pos : Pos} {wb : DS}
theorem KEnds.off (k : KEnds X.K W H F Dd D) (i : Nat) : KEnds X.K W H F (Dd.off i) (Ends.off D i) :=
  ⟨fun F1 σd G1 σ1 H1 s r g q => k.nx F1 _ G1 _ H1 s (r.clear i none) g q, k.rt, fun F1 σd G1 σ1 H1 s r g q => k.bk F1 _ G1 _ H1 s (r.clear i none) g q, fun F1 σd G1 σ1 H1 s r g q => k.ct F1 _ G1 _ H1 s (r.clear i none) g q, fun _ _ _ _ _ _ _ _ _ _ _ _ z => z.elim⟩
theorem MixD.ok (h : MixD X W hds l) : ∃ lc, MixOk X hds lc ∧ ∀ (D : Ends) (Dd : DEnds) (F : FP) (H : Hp), KEnds X.K W H F Dd D → ∀ F' σd A fs G σ H' od, Stay X.K H F H' F' → RelSt X.K H' F' σd σ → RelG X.K H' F' G → ExR X.K H' F' fs od → wMixX Dd l σd A fs G → wMix X.K W D lc (.ref A) od σ H' := by
  induction h with
  | nil => exact ⟨[], .nil, fun D Dd F H k F' σd A fs G σ H' od s r g x q => k.ex F' σd A fs G σ H' od s r g x q⟩
  | @no x c ans ws b0 suite np pos' hds l hc hans hsu r ih =>
    obtain ⟨lc, h1, h2⟩ := ih
    refine ⟨_, .no hc (fun a oe cls d pn hz hf => hsu a oe cls d pn hz hf) h1, fun D Dd F H k F' σd A fs G σ H' od s r g x ⟨b, e, q⟩ => ⟨b, hans A b e, fun eb a ha => ?_, fun eb => ?_⟩⟩
    · rw [if_pos eb] at q
      exact ⟨F', σd, G, Dd, r, g, q a od, k.go s⟩
    · rw [if_neg (by rw [eb]; exact Bool.false_ne_true)] at q
      exact h2 D Dd F H k F' σd A fs G σ H' od s r g x q
  | @as_ x n i c ans ws b0 suite np pos' hds l hc hi hln hans hsu r ih =>
    obtain ⟨lc, h1, h2⟩ := ih
    refine ⟨_, .as_ hc hi hln (fun a oe cls d pn hz hf => hsu a oe cls d pn hz hf) h1, fun D Dd F H k F' σd A fs G σ H' od s r g x ⟨b, e, q⟩ => ⟨b, hans A b e, fun eb a ha => ?_, fun eb => ?_⟩⟩
    · rw [if_pos eb] at q
      have q := q a od
      rcases x with ⟨rfl, rfl⟩ | ⟨dx, vs, rfl, f, hd, rf⟩
      · exact ⟨F', _, G, _, r.set .exc0 i, g, q fun _ => rfl, (k.go s).off i⟩
      · exact ⟨F', _, G, _, r.set (.exc f hd rf) i, g, q fun z => (by cases z), (k.go s).off i⟩
    · rw [if_neg (by rw [eb]; exact Bool.false_ne_true)] at q
      exact h2 D Dd F H k F' σd A fs G σ H' od s r g x q
theorem ds_tryM (hN : X.N.Nodup) (hs : X.stack = X.env :: X.outer) (hf : X.env.frame = some X.env.locals) (tk : Takes X W)
    (hb : ∀ (W' : WX) (pn : List (Addr × Obj)) (xe : Value → Shared → Prop), Takes (X.tr pn xe) W' → PassesOwn (model X.prog X.w) X.A X.env xe → PSs (X.tr pn xe) body (liftS X.K W' wb))
    (hh : MixD X W (h₀ :: hds) l) : PS X (.Try body (h₀ :: hds) [] [] pos) (liftS X.K W (wTryM wb l)) := by
  obtain ⟨lc, h1, h2⟩ := hh.ok
  exact PS.weak (ps_try_mix hN hs hf tk (fun W' pn xe tk' p' => hb W' pn xe tk' p') h1) fun D σ H ⟨F, σd, G, Dd, r, g, h, k⟩ =>
    ⟨F, σd, G, _, r, g, h, ⟨k.nx, k.rt, k.bk, k.ct, fun F' σ2 A fs G' σ2' H' od s r g x q => h2 D Dd F H k F' σ2 A fs G' σ2' H' od s r g x q⟩⟩
end
/-- e.f in a clause that names e -/
def wXf (a : Addr) (cls : Value) (d : Option Addr) (C : Addr) (f : Str) (te : DE) : DE := fun σ G Q => te σ G fun x G1 => match x with
  | .exc a' A od fs => a' = a ∧ cls = .ref C ∧ od = d ∧ (match fs.lookup f with | some v => Q v G1 | none => False)
  | _ => False
theorem de_xf {X : Cx} {a C : Addr} {oe : Obj} {cls : Value} {d : Option Addr} {pn : List (Addr × Obj)} {e : Expr} {te : DE} {pos : Pos} {n : Str} (T : XfC X.K C) (hno : NoAttr X.K C n)
    (hz : Zc cls d oe) (hf : ∃ vs, oe.data = .fields vs) (he : PE (X.suite a ((a, oe) :: pn)) e (lift X.K te)) (hb : attributeBase e n X.env (eval e X.env) = eval e X.env := by rfl) :
    PE (X.suite a ((a, oe) :: pn)) (.Attribute e n pos) (lift X.K (wXf a cls d C n te)) :=
  PE.weak (pe_xf T hno hz hf he hb) fun σ H Q ⟨F, σd, G, Qd, hs, hg, h, k⟩ => lift_bind hs hg h fun F1 x G1 v H1 s1 hs1 r1 g1 q1 => by
    cases r1 with
    | exc0 => exact q1.2.2.2.elim
    | @exc a' A dx vs fs f hd rf =>
      obtain ⟨rfl, rfl, rfl, q⟩ := q1
      split at q
      · rename_i y e
        obtain ⟨w, l, r⟩ := (rf.lookup n).1 y e
        exact ⟨rfl, rfl, dx, vs, w, rfl, hd, l, (k.go s1).here r g1 q⟩
      · exact q.elim
    | _ => exact (show False from q1).elim
end DL

/-! DLM: a class whose __init__ may raise: C(a, ..) as a statement, returned, stored. -/
namespace DL
open PySem PySem.Spec L2
section
variable {X : Cx} {CX : CXT} {k : Nat} {f C : Addr} {fd : FuncData} {ps : List Str} {sp : Sp} {E : L2.St → XK} {x : Str} {p pos : Pos} {e : Expr} {es : List Expr} {t : TA}
theorem run_makeS {pins : List (Addr × Obj)} {σ : L2.St} {H : Hp} {s : Shared} {Q : VK} {us : List Value} {vs : List V} (M : Mk X.K C f) (F : FnOk X.prog X.w X.K X.mg X.base CX k f fd ps sp) (hr : Room (k + 1) X.A) (hb : Binds X.K fd ps [])
    (hx : PassesAt CX X σ (E σ)) (I : Inv X pins σ H s) (r : Vals vs us)
    (h : ∀ a dx, H a = none → H dx = none → dx ≠ a → sp (.ref a :: vs) (upd (upd H dx (.own a)) a (.ins C dx [])) (fun v H2 => v = .non ∧ Q (.ref a) H2) (E σ)) : wpAny (model X.prog X.w) X.A (call (.ref C) us) (EP X pins σ Q) X.xe s := by
  have q := h (s.heap.objs.size + 1) s.heap.objs.size (I.hok.fresh (Nat.le_succ _)) (I.hok.fresh (Nat.le_refl _)) (Nat.ne_of_lt (Nat.lt_succ_self _))
  have J := Inv.made (C := C) I
  have r2 : Vals (V.ref (s.heap.objs.size + 1) :: vs) (Value.ref (s.heap.objs.size + 1) :: us) := .cons rfl r
  have hl : (Value.ref (s.heap.objs.size + 1) :: us).length = ps.length := by rw [← r2.length]; exact F.len _ _ _ _ q
  have b := hb _ (Value.ref (s.heap.objs.size + 1) :: us) J.kIn (by rw [List.append_nil]; exact hl)
  rw [List.append_nil] at b
  refine wpAny_call (make_map (f := f) I.kIn M.makes M.init (beq_iff_eq.mp M.fn) (codeAny_mono (F.run _ X.stack _ _ ⟨Value.ref (s.heap.objs.size + 1) :: us, []⟩ _ _ _ (E σ) (hr.make C us []) (J.env0.make C us []) b r2 q) fun r s' z => ?_))
  match r, z with
  | .error er, z => exact hx pins _ _ er s' J z
  | .ok (.ret u), z =>
    obtain ⟨v, H', J2, rv, ev, q3⟩ := J.after z
    subst ev
    exact ⟨rv, .ref (s.heap.objs.size + 1), H', J2, rfl, q3⟩
  | .ok .next, z => exact False.elim z
  | .ok .brk, z => exact False.elim z
  | .ok .cont, z => exact False.elim z
def tMakeS (C : Addr) (sp : Sp) (E : L2.St → XK) (t : TA) : TE := fun σ H Q => t σ H fun vs H1 => ∀ a dx, H1 a = none → H1 dx = none → dx ≠ a → sp (.ref a :: vs) (upd (upd H1 dx (.own a)) a (.ins C dx [])) (fun v H2 => v = .non ∧ Q (.ref a) H2) (E σ)
theorem pe_makeS (M : Mk X.K C f) (F : FnOk X.prog X.w X.K X.mg X.base CX k f fd ps sp) (hr : Room (k + 1) X.A) (hg : Gl X x) (hm : X.mg x = some (.ref C)) (hb : Binds X.K fd ps []) (hx : ∀ σ, PassesAt CX X σ (E σ)) (ha : PA X (e :: es) t)
    (hdb : (x == ("__debug__" : Str)) = false := by decide) (he : starEach (e :: es) X.env = (false, eval e X.env) :: starEach es X.env := by rfl) (hpl : (backTo pos (starEach es X.env)).any (·.1) = false := by rfl) :
    PE X (.Call (.Name x p) (e :: es) [] pos) (tMakeS C sp E t) :=
  ⟨fun pins s σ H Q I h => wpAny_Call_Name_kw (ld_glob I hg hm (PySem.W.callWith_K (h₀ := X.base) I.ok.mod.kin M.kp (thn (ha.run pos pins s σ H _ I h) fun _ _ ⟨_, _, I1, r, q⟩ => ⟨I1.kIn, run_makeS M F hr hb (hx σ) I1 r q⟩) he hpl) hdb)⟩
end
/-- C(a, ..) as a call: a new object, then __init__ -/
def mkSp (K : PySem.W.Frag) (C : Addr) (sp : DSp) : DSp := fun ds G Q E => ∀ p, G p = none → sp (.ref p :: ds) (gup G p (.ins C [])) (fun d G2 => d = .non ∧ ∃ d0 G0, Vs K (.ref p) G2 d0 G0 ∧ Q d0 G0) E
structure CalMX (P : Program) (w : World) (K : PySem.W.Frag) (mg : Str → Option Value) (base : Heap) (k : Nat) (x : Str) (C : Addr) (ps : List Str) (sp : DSp) : Prop where
  ex : ∃ f fd, mg x = some (.ref C) ∧ Mk K C f ∧ Binds K fd ps [] ∧ FnOk P w K mg base (L2.CX P w) k f fd ps (liftSp K sp)
theorem CalMX.mono {P : Program} {w : World} {K : PySem.W.Frag} {mg : Str → Option Value} {base : Heap} {j k : Nat} {x : Str} {C : Addr} {ps : List Str} {sp : DSp} (c : CalMX P w K mg base j x C ps sp) (h : j ≤ k) : CalMX P w K mg base k x C ps sp :=
  let ⟨f, fd, a1, a2, a3, a4⟩ := c.ex; ⟨f, fd, a1, a2, a3, a4.mono h⟩
section
variable {X : Cx} {W : WX} {k : Nat} {C : Addr} {ps : List Str} {sp : DSp} {x : Str} {p pos pos2 : Pos} {e : Expr} {es : List Expr} {t : DA}
theorem makeX_lift {D : Ends} {Dd : DEnds} {σ : L2.St} {H : Hp} {Q : VK} {F : FP} {σd : DSt} {G : Gh} {Qd : DQ} (hs : RelSt X.K H F σd σ) (hg : RelG X.K H F G) (h : t σd G fun ds G1 => mkSp X.K C sp ds G1 Qd fun A fs G2 => Dd.ex σd A fs G2)
    (kq : Kt X.K (Rep X.K) H F Qd Q) (k : KEnds X.K W H F Dd D) : tMakeS C (liftSp X.K sp) (WE W) (liftA X.K t) σ H Q :=
  lift_bind hs hg h fun F1 ds G1 vs H1 s1 hs1 r1 g1 q1 a dx ha hdx hne => by
    obtain ⟨_, s2, g2⟩ := g1.tupled (o := .own a) hdx
    have ha2 : upd H1 dx (.own a) a = none := by rw [upd_ne (Ne.symm hne)]; exact ha
    obtain ⟨_, s3, _⟩ := g2.tupled (o := .ins C dx []) ha2
    have g4 := g2.made (u := .ins C []) (o := .ins C dx []) ha2 ⟨dx, [], upd_same, .nil⟩
    have s4 := (s1.trans s2).trans s3
    refine ⟨F1, .ref a :: ds, _, _, _, .cons (.ref a) ((r1.stay s2).stay s3), g4, q1 a (g1.gnone ha), ?_, fun F' A fs G' H' od s g z q => k.ex F' σd A fs G' σ H' od (s4.trans s) (hs.stay (s4.trans s)) g z q⟩
    rintro F5 d G5 v H5 s5 r5 g5 ⟨rfl, d0, G0, vs, q5⟩
    cases r5
    obtain ⟨F6, s6, r6, g6⟩ := vs H5 F5 (.ref a) (.ref a) g5
    exact ⟨rfl, kq F6 d0 G0 _ H5 ((s4.trans s5).trans s6) r6 g6 q5⟩
theorem ds_makeX (tk : Takes X W) (c : CalMX X.prog X.w X.K X.mg X.base k x C ps sp) (hr : Room (k + 1) X.A) (hg : Gl X x) (ha : PA X (e :: es) (liftA X.K t)) (hdb : (x == ("__debug__" : Str)) = false := by decide)
    (he : starEach (e :: es) X.env = (false, eval e X.env) :: starEach es X.env := by rfl) (hpl : (backTo pos (starEach es X.env)).any (·.1) = false := by rfl) (hs : swapsWith (.Call (.Name x p) (e :: es) [] pos) none pos2.line X.env = pure false := by rfl) :
    PS X (.Expr (.Call (.Name x p) (e :: es) [] pos) pos2) (liftS X.K W (wCallSt (mkSp X.K C sp) t)) := by
  obtain ⟨f, fd, hm, M, hb, F⟩ := c.ex
  exact PS.weak (ps_expr (pe_makeS M F hr hg hm hb (fun σ => passAt tk σ) ha hdb he hpl) hs) fun D σ H ⟨F, σd, G, Dd, hs, hg, h, k⟩ =>
    makeX_lift hs hg h (fun F1 d G1 v H1 s1 r1 g1 q1 => (k.go s1).nx.here (hs.stay s1) g1 q1) k
theorem ds_retMakeX (tk : Takes X W) (c : CalMX X.prog X.w X.K X.mg X.base k x C ps sp) (hr : Room (k + 1) X.A) (hg : Gl X x) (ha : PA X (e :: es) (liftA X.K t)) (hdb : (x == ("__debug__" : Str)) = false := by decide)
    (he : starEach (e :: es) X.env = (false, eval e X.env) :: starEach es X.env := by rfl) (hpl : (backTo pos (starEach es X.env)).any (·.1) = false := by rfl) :
    PS X (.Return (some (.Call (.Name x p) (e :: es) [] pos)) pos2) (liftS X.K W (wRetX (mkSp X.K C sp) t)) := by
  obtain ⟨f, fd, hm, M, hb, F⟩ := c.ex
  exact PS.weak (ps_ret (pe_makeS M F hr hg hm hb (fun σ => passAt tk σ) ha hdb he hpl)) fun D σ H ⟨F, σd, G, Dd, hs, hg, h, k⟩ => makeX_lift hs hg h k.rt k
theorem ds_setMakeX (i : Nat) {y : Str} {pos' : Pos} (hN : X.N.Nodup) (tk : Takes X W) (c : CalMX X.prog X.w X.K X.mg X.base k x C ps sp) (hr : Room (k + 1) X.A) (hg : Gl X x) (ha : PA X (e :: es) (liftA X.K t)) (hdb : (x == ("__debug__" : Str)) = false := by decide)
    (he : starEach (e :: es) X.env = (false, eval e X.env) :: starEach es X.env := by rfl) (hpl : (backTo pos (starEach es X.env)).any (·.1) = false := by rfl) (hi : X.N[i]? = some y := by rfl) (hx : Loc X.env.scope y := by first | exact Or.inl rfl | exact Or.inr rfl)
    (hs : swapsWith (.Call (.Name x p) (e :: es) [] pos) (some (.Name y pos')) pos2.line X.env = pure false := by rfl) (hf : X.fn y = true ∨ X.env.scope.names.lookup y = some .local := by first | exact .inl rfl | exact .inr rfl) :
    PS X (.Assign [.Name y pos'] (.Call (.Name x p) (e :: es) [] pos) pos2) (liftS X.K W (wSetX i (mkSp X.K C sp) t)) := by
  obtain ⟨f, fd, hm, M, hb, F⟩ := c.ex
  exact PS.weak (ps_set hN hi hx (pe_makeS M F hr hg hm hb (fun σ => passAt tk σ) ha hdb he hpl) hs hf) fun D σ H ⟨F, σd, G, Dd, hs, hg, h, k⟩ =>
    makeX_lift hs hg h (fun F1 d G1 v H1 s1 r1 g1 q1 => (k.go s1).nx.here ((hs.stay s1).set r1 i) g1 q1) k
end
end DL

/-! DLU: further operators. -/
namespace DL
open PySem PySem.Spec L2
/-- a tuple, so often -/
def repD (ds : List D) (n : Nat) : List D := (List.replicate n ds).flatten
def rMulA : DR2 := fun x y G Q => match x, y with
  | .int i, .int j => CMul i j ∧ Q (.int (i * j)) G
  | .tup ds, .int k => ds ≠ [] ∧ 2 ≤ k ∧ k ≤ 1000 ∧ ds.length ≤ 1000 ∧ Q (.tup (repD ds k.toNat)) G
  | _, _ => False
theorem rep_reps {K : PySem.W.Frag} {H : Hp} {F : FP} {ds : List D} {vs : List V} (r : Reps K H F ds vs) : ∀ n, Reps K H F (List.replicate n ds).flatten (List.replicate n vs).flatten
  | 0 => .nil
  | n + 1 => by rw [List.replicate_succ, List.replicate_succ, List.flatten_cons, List.flatten_cons]; exact r.append (rep_reps r n)
theorem repD_length (ds : List D) (n : Nat) : (repD ds n).length = n * ds.length := by
  unfold repD
  induction n with
  | zero => simp
  | succ n ih => rw [List.replicate_succ, List.flatten_cons, List.length_append, ih, Nat.succ_mul, Nat.add_comm]
theorem repD_mem {ds : List D} {n : Nat} {x : D} (h : x ∈ repD ds n) : x ∈ ds := by
  unfold repD at h
  obtain ⟨l, h1, h2⟩ := List.mem_flatten.mp h
  rw [List.mem_replicate] at h1
  rw [← h1.2]; exact h2
abbrev rMulL (K : PySem.W.Frag) : R2 := fun x y H Q => rI CMul (fun i j => .int (i * j)) x y H Q ∨ rRepT K x y H Q
theorem op_mulA {X : Cx} : OpR X (binaryOp .Mult) (rMulL X.K) := op_mul.or op_repT
theorem od_mulA {K : PySem.W.Frag} : OpD K (rMulL K) rMulA := by
  intro F H G x y v w Qd Q rx ry hg h k
  cases rx with
  | int i =>
    cases ry with
    | int j => exact .inl ⟨i, j, rfl, rfl, h.1, k.here (.int _) hg h.2⟩
    | _ => exact (show False from h).elim
  | @tup a vs ds h1 hl r =>
    cases ry with
    | int j =>
      obtain ⟨h0, h2, h3, h4, q⟩ := h
      have hlen : (repD ds j.toNat).length ≤ sizeLine := by
        rw [repD_length, sizeLine_eq]
        have : j.toNat ≤ 1000 := by omega
        exact Nat.le_trans (Nat.mul_le_mul this h4) (by decide)
      refine .inr ⟨a, j, vs, rfl, rfl, h1, fun z => h0 ?_, h2, h3, by rw [← r.length]; exact h4, k.tup hg hlen (rep_reps r _) q⟩
      subst z; cases r; rfl
    | _ => exact (show False from h).elim
  | _ => cases ry <;> exact (show False from h).elim
/-- int(b) -/
def rIntA : DC := fun ds G Q => match ds with | [.int i] => Q (.int i) G | [.bl b] => Q (.int (if b then 1 else 0)) G | _ => False
theorem cd_intA {K : PySem.W.Frag} : CallD K (fun xs H Q => (∃ i, xs = [.int i] ∧ Q (.int i) H) ∨ ∃ k, xs = [.bl k] ∧ Q (.int (if k then 1 else 0)) H) rIntA := by
  intro F H G ds vs Qd Q r hg h k
  unfold rIntA at h
  split at h
  · cases r with | cons r t => cases t; cases r; exact .inl ⟨_, rfl, k.here (.int _) hg h⟩
  · cases r with | cons r t => cases t; cases r; exact .inr ⟨_, rfl, k.here (.int _) hg h⟩
  · exact h.elim
end DL

/-! DLW: while, own methods, C(), pop, texts. -/
namespace DL
open PySem PySem.Spec L2

/-! ### while -/
section
variable {X : Cx} {W : WX} {pos : Pos}
def wWhile (tc : DT) (tb : DS) : DS := fun D σ G => ∃ R : Nat → DSt → Gh → Prop, (∃ m, R m σ G) ∧ ∀ m σ G, R m σ G →
  tc σ G fun b G1 => if b = true then ∃ N : DSt → Gh → Prop, (∀ σ' G', N σ' G' → ∃ m', m' < m ∧ R m' σ' G') ∧ tb { D with nx := N, ct := N, bk := D.nx } σ G1 else D.nx σ G1
theorem ds_while {c : Expr} {body : List Stmt} {tc : DT} {tb : DS} (hp : PassesOwn (model X.prog X.w) X.A X.env X.xe) (hc : PT X c (liftT X.K tc)) (hb : PSs X body (liftS X.K W tb)) : PS X (.While c body [] pos) (liftS X.K W (wWhile tc tb)) := by
  refine PS.weak (ps_while hp hc hb) fun D σ H ⟨F, σd, G, Dd, hs, hg, h, k⟩ => ?_
  obtain ⟨R, ⟨m0, r0⟩, turn⟩ := h
  refine ⟨fun m σ' H' => ∃ F2 σd2 G2, Stay X.K H F H' F2 ∧ RelSt X.K H' F2 σd2 σ' ∧ RelG X.K H' F2 G2 ∧ R m σd2 G2, ⟨m0, F, σd, G, .refl, hs, hg, r0⟩, ?_⟩
  rintro m σ2 H2 ⟨F2, σd2, G2, s2, rs2, g2, r2⟩
  refine lift_bind rs2 g2 (turn m σd2 G2 r2) fun F3 x G3 v H3 s3 rs3 e3 g3 q3 => ?_
  subst e3
  cases x with
  | true =>
    rw [if_pos rfl] at q3
    obtain ⟨N, hN, q3⟩ := q3
    refine iteT ⟨fun σ' H' => ∃ F4 σd4 G4, Stay X.K H F H' F4 ∧ RelSt X.K H' F4 σd4 σ' ∧ RelG X.K H' F4 G4 ∧ N σd4 G4, ?_, ?_⟩
    · rintro σ' H' ⟨F4, σd4, G4, s4, rs4, g4, n4⟩
      obtain ⟨m', hm, r'⟩ := hN σd4 G4 n4
      exact ⟨m', hm, F4, σd4, G4, s4, rs4, g4, r'⟩
    · have s5 := s2.trans s3
      have k5 := k.go s5
      refine ⟨F3, σd2, G3, _, rs3, g3, q3, ⟨?_, k5.rt, k5.nx, ?_, k5.ex⟩⟩
      · exact fun F6 σ6 G6 σ6' H6 s6 rs6 g6 q6 => ⟨F6, σ6, G6, s5.trans s6, rs6, g6, q6⟩
      · exact fun F6 σ6 G6 σ6' H6 s6 rs6 g6 q6 => ⟨F6, σ6, G6, s5.trans s6, rs6, g6, q6⟩
  | false =>
    rw [if_neg Bool.false_ne_true] at q3
    exact iteF ((k.go (s2.trans s3)).nx.here rs3 g3 q3)
end

/-! ### own methods -/
section
variable {P : Program} {w : World} {K : PySem.W.Frag} {mg : Str → Option Value} {base : Heap}
structure CalMe (P : Program) (w : World) (K : PySem.W.Frag) (mg : Str → Option Value) (base : Heap) (k : Nat) (C : Addr) (m : Str) (ps : List Str) (sp : DSp) : Prop where
  ex : ∃ f fd, Cls K C ∧ Meth K C m f ∧ Binds K fd ps [] ∧ FnOk P w K mg base CX0 k f fd ps (liftSp K sp)
theorem CalMe.mono {j k : Nat} {C : Addr} {m : Str} {ps : List Str} {sp : DSp} (c : CalMe P w K mg base j C m ps sp) (h : j ≤ k) : CalMe P w K mg base k C m ps sp :=
  let ⟨f, fd, a1, a2, a3, a4⟩ := c.ex; ⟨f, fd, a1, a2, a3, a4.mono h⟩
end
section
variable {X : Cx} {W : WX} {k : Nat} {C : Addr} {ps : List Str} {sp : DSp} {x m : Str} {p pos apos : Pos} {o e a b : Expr} {es : List Expr} {t : DA} {ta tb : DE}
/-- o.m(e, ..), no exception leaves it -/
def wMeth (C : Addr) (m : Str) (sp : DSp) (ta : DE) (t : DA) : DE := fun σ G Q => ta σ G fun x G1 => ∃ fs, objOf G1 x = some (C, fs) ∧ fs.lookup m = none ∧ t σ G1 fun vs G2 => sp (x :: vs) G2 Q noX
theorem tMeth_lift {K : PySem.W.Frag} {σ H Q} (h : lift K (wMeth C m sp ta t) σ H Q) : tMeth C m (liftSp K sp) [] E0 (lift K ta) (liftA K t) σ H Q := by
  obtain ⟨F, σd, G, Qd, hs, hg, h, k⟩ := h
  refine lift_bind hs hg h fun F1 x G1 v H1 s1 hs1 r1 g1 q1 => ?_
  obtain ⟨fs, e1, e2, q1⟩ := q1
  obtain ⟨a, dx, vs, rfl, h1, h2⟩ := obj_rep r1 g1 e1
  refine ⟨a, dx, vs, rfl, h1, (h2.lookup m).2 e2, ?_⟩
  refine lift_bind hs1 g1 q1 fun F2 ds G2 us H2 s2 hs2 r2 g2 q2 => ?_
  exact ⟨F2, x :: ds, G2, Qd, noX, .cons (r1.stay s2) (by rw [List.append_nil]; exact r2), g2, q2, k.go (s1.trans s2), .no⟩
theorem de_meth {pl : Sem Bool} (c : CalMe X.prog X.w X.K X.mg X.base k C m ps sp) (hr : Room k X.A) (ho : PE X o (lift X.K ta)) (ha : PA X (e :: es) (liftA X.K t))
    (hst : starEach (e :: es) X.env = (false, eval e X.env) :: starEach es X.env := by rfl) (hpl : (backTo pos (starEach es X.env)).any (·.1) = false := by rfl)
    (ht : eval (.Call (.Attribute o m apos) (e :: es) [] pos) X.env = (do
      let ov ← eval o X.env
      standAt apos.atName
      let (f, first) ← holding [ov] (getMethod ov m pl)
      callWith pos f first (backTo pos (starEach (e :: es) X.env)) (backToKw pos (keywordEach [] X.env))) := by rfl) :
    PE X (.Call (.Attribute o m apos) (e :: es) [] pos) (lift X.K (wMeth C m sp ta t)) := by
  obtain ⟨f, fd, hc, hm, hb, F⟩ := c.ex
  exact PE.weak (pe_meth ho hc hm F hr hb .nil pass0 ha hst hpl ht) fun _ _ _ => tMeth_lift
theorem tNil_lift {K : PySem.W.Frag} {σ : L2.St} {H : Hp} {Q : List V → Hp → Prop} (h : liftA K wNil σ H Q) : tNil σ H Q := by
  obtain ⟨F, σd, G, Qd, hs, hg, h, k⟩ := h
  exact k.here .nil hg h
theorem de_meth0 {pl : Sem Bool} (c : CalMe X.prog X.w X.K X.mg X.base k C m ps sp) (hr : Room k X.A) (ho : PE X o (lift X.K ta))
    (ht : eval (.Call (.Attribute o m apos) [] [] pos) X.env = (do
      let ov ← eval o X.env
      standAt apos.atName
      let (f, first) ← holding [ov] (getMethod ov m pl)
      callWith pos f first (backTo pos (starEach [] X.env)) (backToKw pos (keywordEach [] X.env))) := by rfl) :
    PE X (.Call (.Attribute o m apos) [] [] pos) (lift X.K (wMeth C m sp ta wNil)) := by
  obtain ⟨f, fd, hc, hm, hb, F⟩ := c.ex
  refine PE.weak (pe_meth0 ho hc hm F hr hb .nil pass0 ht) fun σ H Q h => ?_
  obtain ⟨F, σd, G, Qd, hs, hg, h, k⟩ := h
  refine lift_bind hs hg h fun F1 x G1 v H1 s1 hs1 r1 g1 q1 => ?_
  obtain ⟨fs, e1, e2, q1⟩ := q1
  obtain ⟨a, dx, vs, rfl, h1, h2⟩ := obj_rep r1 g1 e1
  refine ⟨a, dx, vs, rfl, h1, (h2.lookup m).2 e2, ?_⟩
  exact ⟨F1, [x], G1, Qd, noX, .cons r1 .nil, g1, q1, k.go s1, .no⟩
/-- C() -/
theorem de_make0 {C : Addr} (c : CalM X.prog X.w X.K X.mg X.base k x C ps sp) (hr : Room (k + 1) X.A) (hg : Gl X x) (hdb : (x == ("__debug__" : Str)) = false := by decide) :
    PE X (.Call (.Name x p) [] [] pos) (lift X.K (wMake X.K C sp wNil)) := by
  obtain ⟨f, fd, hm, M, hb, F⟩ := c.ex
  refine PE.weak (pe_make0 M F hr hg hm hb .nil pass0 hdb) fun σ H Q ⟨F, σd, G, Qd, hs, hg, h, k⟩ => ?_
  intro p dx hp hdx hne
  obtain ⟨nf, s2, g2⟩ := hg.tupled (o := .own p) hdx
  have hp2 : upd H dx (.own p) p = none := by rw [upd_ne (Ne.symm hne)]; exact hp
  obtain ⟨nf3, s3, g3⟩ := g2.tupled (o := .ins C dx []) hp2
  have g4 := g2.made (u := .ins C []) (o := .ins C dx []) hp2 ⟨dx, [], upd_same, .nil⟩
  refine ⟨F, [.ref p], _, _, noX, .cons (.ref p) .nil, g4, h p (hg.gnone hp), ?_, .no⟩
  rintro F5 d G5 v H5 s5 r5 g5 ⟨rfl, d0, G0, vs, q5⟩
  cases r5
  obtain ⟨F6, s6, r6, g6⟩ := vs H5 F5 (.ref p) (.ref p) g5
  exact ⟨rfl, k F6 d0 G0 _ H5 (((s2.trans s3).trans s5).trans s6) r6 g6 q5⟩

/-! ### found.pop() -/
def wPop (ta : DE) : DE := fun σ G Q => ta σ G fun x G1 => match x with
  | .ref q => ∃ l y, G1 q = some (.lst (l ++ [y])) ∧ Q y (gup G1 q (.lst l))
  | _ => False
theorem de_pop {apos cpos : Pos} (ho : PE X a (lift X.K ta)) (hbase : attributeBase a "pop" X.env (eval a X.env) = eval a X.env := by rfl) (hline : (apos.endLine == cpos.line) = true := by rfl) :
    PE X (.Call (.Attribute a "pop" apos) [] [] cpos) (lift X.K (wPop ta)) := by
  refine PE.weak (pe_bm0 PySem.F.plainAttrs_list PySem.F.slot_list_pop PySem.F.type_list_pop mt_pop ho hbase hline) fun σ H Q ⟨F, σd, G, Qd, hs, hg, h, k⟩ => ?_
  refine lift_bind hs hg h fun F1 x G1 v H1 s1 hs1 r1 g1 q1 => ?_
  cases r1 with
  | ref q =>
    obtain ⟨l, y, e, q1⟩ := q1
    obtain ⟨nf, hl, vs, hq, r⟩ := g1.g q _ e
    have hlen := r.length
    rw [List.length_append, List.length_singleton] at hlen
    obtain ⟨u, e2, r2⟩ := r.get (i := l.length) (d := y) (by simp)
    have e3 : vs.length - 1 = l.length := by omega
    have rl : Reps X.K H1 F1 l vs.dropLast := by
      have := r.take l.length
      rw [List.take_left] at this
      rw [List.dropLast_eq_take, e3]; exact this
    refine ⟨.inl ⟨rfl, _, SqL.of hq⟩, q, vs, u, rfl, rfl, hq, by rw [e3]; exact e2, ?_⟩
    have s3 : Stay X.K H1 F1 (upd H1 q (.lst vs.dropLast)) F1 := g1.wr e
    exact k _ _ _ _ _ (s1.trans s3) (r2.stay s3) (g1.write (o' := .lst l) e ⟨by rw [List.length_append] at hl; omega, _, upd_same, rl.stay s3⟩) q1
  | _ => exact (show False from q1).elim

/-! ### texts -/
def wTx1 (r : Str → D → Gh → DQ → Prop) (ta tb : DE) : DE := fun σ G Q => ta σ G fun x G1 => match x with
  | .str a => tb σ G1 fun y G2 => r a y G2 Q
  | _ => False
def onStr (y : D) (P : Str → Prop) : Prop := match y with | .str b => P b | _ => False
def rSplit (a : Str) (y : D) (G : Gh) (Q : DQ) : Prop := onStr y fun b => (b.length == 0) = false ∧ a.length + 2 ≤ sizeLine ∧ (Txt.split a b).length ≤ sizeLine ∧ (∀ z ∈ Txt.split a b, z.length ≤ sizeLine) ∧ Q (.lst ((Txt.split a b).map D.str)) G
def rPartition (a : Str) (y : D) (G : Gh) (Q : DQ) : Prop := onStr y fun b => (b.length == 0) = false ∧ (Txt.partition a b).1.length ≤ sizeLine ∧ (Txt.partition a b).2.1.length ≤ sizeLine ∧ (Txt.partition a b).2.2.length ≤ sizeLine ∧ Q (.tup [.str (Txt.partition a b).1, .str (Txt.partition a b).2.1, .str (Txt.partition a b).2.2]) G
def rJoin (a : Str) (y : D) (G : Gh) (Q : DQ) : Prop := ∃ xs ys, itemsOf G y = some xs ∧ strsOf xs = some ys ∧ (ys.map (·.length)).sum + ys.length * a.length ≤ 16777216 ∧ (Txt.join a ys).length ≤ sizeLine ∧ Q (.str (Txt.join a ys)) G
abbrev wSplit := wTx1 rSplit
abbrev wPartition := wTx1 rPartition
abbrev wJoin := wTx1 rJoin
theorem tM1_lift {K : PySem.W.Frag} {R : V → List V → Hp → VK → Prop} {r : Str → D → Gh → DQ → Prop} (hr : ∀ F H G z y u Qd Q, z.length ≤ sizeLine → Rep K H F y u → RelG K H F G → r z y G Qd → Kt K (Rep K) H F Qd Q → R (.str z) [u] H Q)
    {σ H Q} (h : lift K (wTx1 r ta tb) σ H Q) : tM1 R (lift K ta) (lift K tb) σ H Q := by
  obtain ⟨F, σd, G, Qd, hs, hg, h, k⟩ := h
  refine lift_bind hs hg h fun F1 x G1 v H1 s1 hs1 r1 g1 q1 => ?_
  cases r1 with
  | str z hz => exact ⟨⟨z, rfl⟩, lift_bind hs1 g1 q1 fun F2 y G2 u H2 s2 hs2 r2 g2 q2 => hr F2 H2 G2 z y u Qd Q hz r2 g2 q2 (k.go (s1.trans s2))⟩
  | _ => exact (show False from q1).elim
theorem Reps.strs {K : PySem.W.Frag} {H : Hp} {F : FP} : ∀ {l : List Str}, (∀ z ∈ l, z.length ≤ sizeLine) → Reps K H F (l.map D.str) (l.map V.str)
  | [], _ => .nil
  | x :: l, h => .cons (.str x (h x List.mem_cons_self)) (Reps.strs fun z hz => h z (List.mem_cons_of_mem _ hz))
theorem de_split {apos pos : Pos} (ho : PE X a (lift X.K ta)) (he : PE X b (lift X.K tb)) (hs : starEach [b] X.env = [(false, eval b X.env)] := by rfl) (hbase : attributeBase a "split" X.env (eval a X.env) = eval a X.env := by rfl) (hline : (apos.endLine == pos.line) = true := by rfl) :
    PE X (.Call (.Attribute a "split" apos) [b] [] pos) (lift X.K (wSplit ta tb)) :=
  PE.weak (pe_split ho he hs hbase hline) fun σ H Q => tM1_lift fun F H G z y u Qd Q hz r g q k => by
    cases r with
    | str y hy =>
      obtain ⟨h1, h2, h3, h4, q⟩ := q
      exact ⟨z, y, rfl, rfl, h1, h2, k.lst g (by rw [List.length_map]; exact h3) (Reps.strs h4) q⟩
    | _ => exact (show False from q).elim
theorem de_partition {apos pos : Pos} (ho : PE X a (lift X.K ta)) (he : PE X b (lift X.K tb)) (hs : starEach [b] X.env = [(false, eval b X.env)] := by rfl) (hbase : attributeBase a "partition" X.env (eval a X.env) = eval a X.env := by rfl) (hline : (apos.endLine == pos.line) = true := by rfl) :
    PE X (.Call (.Attribute a "partition" apos) [b] [] pos) (lift X.K (wPartition ta tb)) :=
  PE.weak (pe_partition ho he hs hbase hline) fun σ H Q => tM1_lift fun F H G z y u Qd Q hz r g q k => by
    cases r with
    | str y hy =>
      obtain ⟨h1, h2, h3, h4, q⟩ := q
      exact ⟨z, y, rfl, rfl, h1, hz, k.tup g (by show 3 ≤ sizeLine; decide) (.cons (.str _ h2) (.cons (.str _ h3) (.cons (.str _ h4) .nil))) q⟩
    | _ => exact (show False from q).elim
theorem de_join {apos pos : Pos} (ho : PE X a (lift X.K ta)) (he : PE X b (lift X.K tb)) (hs : starEach [b] X.env = [(false, eval b X.env)] := by rfl) (hbase : attributeBase a "join" X.env (eval a X.env) = eval a X.env := by rfl) (hline : (apos.endLine == pos.line) = true := by rfl) :
    PE X (.Call (.Attribute a "join" apos) [b] [] pos) (lift X.K (wJoin ta tb)) :=
  PE.weak (pe_join ho he hs hbase hline) fun σ H Q => tM1_lift fun F H G z y u Qd Q hz r g q k => by
    obtain ⟨xs, ys, e1, e2, h1, h2, q⟩ := q
    obtain ⟨hl, p, vs, rfl, hq, r2⟩ := items_rep r g e1
    obtain ⟨rfl, _⟩ := strsOf_rep r2 e2
    exact ⟨z, p, ys, rfl, rfl, hq, h1, k.here (.str _ h2) g q⟩
end

/-! ### int(text), str(x), text * int -/
section
variable {X : Cx} {K : PySem.W.Frag}
def rIntS : DC := fun ds G Q => match ds with | [.str a] => ∃ n, PySem.intText? a = some n ∧ a.length ≤ 640 ∧ Q (.int n) G | _ => False
theorem cd_intS : CallD K (fun xs H Q => ∃ a n, xs = [.str a] ∧ PySem.intText? a = some n ∧ a.length ≤ 640 ∧ Q (.int n) H) rIntS := by
  intro F H G ds vs Qd Q r hg h k
  unfold rIntS at h
  split at h
  · cases r with
    | cons r t => cases t; cases r; obtain ⟨n, h1, h2, q⟩ := h; exact ⟨_, n, rfl, h1, h2, k.here (.int _) hg q⟩
  · exact h.elim
def rStr : DC := fun ds G Q => match ds with
  | [.int i] => i.natAbs.log2 < 1920 ∧ (Str.ofString (toString i)).length ≤ sizeLine ∧ Q (.str (Str.ofString (toString i))) G
  | [.str z] => Q (.str z) G
  | _ => False
theorem call_strA : CallR X (.type "str") (fun xs H Q => (∃ i : Int, xs = [.int i] ∧ i.natAbs.log2 < 1920 ∧ Q (.str (toString i)) H) ∨ ∃ a, xs = [.str a] ∧ Q (.str a) H) := CallR.or call_str_int SkE.call_str_str
theorem cd_strA : CallD K (fun xs H Q => (∃ i : Int, xs = [.int i] ∧ i.natAbs.log2 < 1920 ∧ Q (.str (toString i)) H) ∨ ∃ a, xs = [.str a] ∧ Q (.str a) H) rStr := by
  intro F H G ds vs Qd Q r hg h k
  unfold rStr at h
  split at h
  · cases r with
    | cons r t => cases t; cases r; obtain ⟨h1, h2, q⟩ := h; exact .inl ⟨_, rfl, h1, k.here (.str _ h2) hg q⟩
  · cases r with
    | cons r t => cases t; cases r with | str z hz => exact .inr ⟨_, rfl, k.here (.str _ hz) hg h⟩
  · exact h.elim
def rRepS : R2 := fun x y H Q => ∃ z n, x = .str z ∧ y = .int n ∧ n < 1000 ∧ 0 ≤ n ∧ z.length ≤ 1000 ∧ Q (.str (Txt.mul z n)) H
theorem op_repS : OpR X (binaryOp .Mult) rRepS := by
  intro pins s σ H x y v u Q I rx ry h
  obtain ⟨z, n, rfl, rfl, h1, h2, h3, q⟩ := h
  obtain ⟨t, rfl⟩ := rx
  obtain ⟨t', rfl⟩ := ry
  refine SB.mul ⟨?_, fun a b => ?_, fun a b => ?_⟩ fun t2 k2 => ⟨.str _, H, I.tok _, ⟨_, rfl⟩, q⟩
  · rw [decide_eq_false (by omega), decide_eq_false (by omega)]; rfl
  · have : (1000 : Int) ≤ (2 ^ 63 - 1) / n := by
      rw [Int.le_ediv_iff_mul_le (by omega)]
      omega
    omega
  · have : z.length * n.toNat ≤ 1000 * 1000 := Nat.mul_le_mul h3 (by omega)
    unfold Builtin.Str.tooLong
    simp only [decide_eq_false_iff_not, gt_iff_lt]
    have e : sizeLine = _ := sizeLine_eq
    rw [e]
    omega
def rMulS : DR2 := fun x y G Q => match x, y with
  | .str z, .int n => n < 1000 ∧ 0 ≤ n ∧ z.length ≤ 1000 ∧ (Txt.mul z n).length ≤ sizeLine ∧ Q (.str (Txt.mul z n)) G
  | _, _ => False
theorem od_mulS : OpD K rRepS rMulS := by
  intro F H G x y v u Qd Q rx ry hg h k
  cases rx with
  | str z hz => cases ry with
    | int n => obtain ⟨h1, h2, h3, h4, q⟩ := h; exact ⟨_, _, rfl, rfl, h1, h2, h3, k.here (.str _ h4) hg q⟩
    | _ => exact (show False from h).elim
  | _ => exact (show False from h).elim
end

/-! ### enumerate(a list) -/
section
variable {X : Cx} {tg e : Expr} {t : DE} {p pos : Pos}
def wIEnumL (te : DE) : DI := fun σ G Q => te σ G fun x G1 => match x with | .lst ds => Q (pairsFrom 0 ds) (fun _ => True) G1 | _ => False
theorem di_enumL {elts : List Expr} {kk : Nat} {tpos : Pos} (hg : Gl X "enumerate") (hm : X.mg "enumerate" = none) (ha : PE X e (lift X.K t)) (hs : starEach [e] X.env = [(false, eval e X.env)] := by rfl) :
    PI X (.Tuple elts kk tpos) (.Call (.Name "enumerate" p) [e] [] pos) (liftI X.K (wIEnumL t)) :=
  PI.weak (pi_enum hg hm (pa_cons ha pa_nil (by rw [hs]; rfl)) hs) fun σ H R ⟨F, σd, G, Qd, hs, hg, h, k⟩ => lift_bind hs hg h fun F1 x G1 v H1 s1 hs1 r1 g1 q1 => by
    cases r1 with
    | @lst a vs ds f hq hl r =>
      refine ⟨a, vs, rfl, SqL.of hq, k F1 _ _ G1 _ H1 s1 ⟨fun F2 H2 G2 s2 g2 c2 => ?_, fun i d F2 H2 G2 e2 s2 g2 c2 => ?_⟩ g1 q1⟩
      · exact ⟨vs, SqL.of ((s2.at_ _ f).trans hq), by rw [pairs_length, r.length]; exact Nat.le_refl _⟩
      · rw [pairs_get, Nat.zero_add] at e2
        cases e3 : ds[i]? with
        | none => rw [e3] at e2; cases e2
        | some y =>
          rw [e3] at e2
          cases e2
          obtain ⟨u, e4, r4⟩ := r.get e3
          have sq : SqL X.K H2 a vs := SqL.of ((s2.at_ _ f).trans hq)
          refine ⟨⟨vs, u, sq, e4⟩, fun x H3 yl => ?_⟩
          obtain ⟨T, z, rfl, hT, rfl, same⟩ := yl
          have q := same vs sq
          rw [e4] at q
          cases q
          obtain ⟨nf, s3, g3⟩ := g2.tupled (o := .tup [.int (i : Nat), u]) hT
          exact ⟨s3, .newTup s3 (by show 2 ≤ sizeLine; decide) (.cons (.int _) (.cons (r4.stay s2) .nil)), g3⟩
    | _ => exact (show False from q1).elim
end
end DL

/-! DLV: own methods that may raise; more of texts; x = (c, f(a).g). -/
namespace DL
open PySem PySem.Spec L2

section
variable {X : Cx} {CX : CXT} {k : Nat} {f C : Addr} {fd : FuncData} {ps : List Str} {sp : Sp} {E : L2.St → XK} {x m : Str} {p pos apos : Pos} {e o : Expr} {es : List Expr} {ta : TE} {t : TA}
def tMethS (C : Addr) (m : Str) (sp : Sp) (E : L2.St → XK) (ta : TE) (t : TA) : TE := fun σ H Q => ta σ H fun x H1 => ∃ a dx fs, x = .ref a ∧ H1 a = some (.ins C dx fs) ∧ fs.lookup m = none ∧ t σ H1 fun vs H2 => sp (x :: vs) H2 Q (E σ)
theorem pe_methS {pl : Sem Bool} (he : PE X o ta) (c : Cls X.K C) (hm : Meth X.K C m f) (F : FnOk X.prog X.w X.K X.mg X.base CX k f fd ps sp) (hr : Room k X.A) (hb : Binds X.K fd ps []) (hx : ∀ σ, PassesAt CX X σ (E σ)) (ha : PA X (e :: es) t)
    (hst : starEach (e :: es) X.env = (false, eval e X.env) :: starEach es X.env := by rfl) (hpl : (backTo pos (starEach es X.env)).any (·.1) = false := by rfl)
    (ht : eval (.Call (.Attribute o m apos) (e :: es) [] pos) X.env = (do
      let ov ← eval o X.env
      standAt apos.atName
      let (f, first) ← holding [ov] (getMethod ov m pl)
      callWith pos f first (backTo pos (starEach (e :: es) X.env)) (backToKw pos (keywordEach [] X.env))) := by rfl) :
    PE X (.Call (.Attribute o m apos) (e :: es) [] pos) (tMethS C m sp E ta t) := by
  refine ⟨fun pins s σ H Q I h => ?_⟩
  refine PySem.W.methodCall_KW (pl := pl) (thn (he.run pins s σ H _ I h) fun u s1 ⟨x, H1, I1, rx, a, dx, fs, ex, ea, l, q⟩ => ?_) ht
  subst ex
  obtain rfl : u = Value.ref a := rx
  refine getmeth_ok I1 ea c hm l ?_
  refine PySem.W.callWith_K (first := [.ref a]) (h₀ := X.base) I1.ok.mod.kin hm.kp (thn (ha.run pos pins s1 σ H1 _ I1 q) fun us s2 ⟨vs, H2, I2, r, q2⟩ => ⟨I2.kIn, ?_⟩) hst hpl
  exact run_fnS (us := .ref a :: us) (vs := .ref a :: vs) F hr hb (hx σ) I2 (.cons rfl r) q2
end
section
variable {P : Program} {w : World} {K : PySem.W.Frag} {mg : Str → Option Value} {base : Heap}
structure CalMeX (P : Program) (w : World) (K : PySem.W.Frag) (mg : Str → Option Value) (base : Heap) (k : Nat) (C : Addr) (m : Str) (ps : List Str) (sp : DSp) : Prop where
  ex : ∃ f fd, Cls K C ∧ Meth K C m f ∧ Binds K fd ps [] ∧ FnOk P w K mg base (L2.CX P w) k f fd ps (liftSp K sp)
theorem CalMeX.mono {j k : Nat} {C : Addr} {m : Str} {ps : List Str} {sp : DSp} (c : CalMeX P w K mg base j C m ps sp) (h : j ≤ k) : CalMeX P w K mg base k C m ps sp :=
  let ⟨f, fd, a1, a2, a3, a4⟩ := c.ex; ⟨f, fd, a1, a2, a3, a4.mono h⟩
end
section
variable {X : Cx} {W : WX} {k : Nat} {C : Addr} {ps : List Str} {sp : DSp} {x m : Str} {p pos pos2 apos : Pos} {o e a b : Expr} {es : List Expr} {t : DA} {ta tb : DE}
/-- o.m(e, ..) as a statement -/
def wMethSt (C : Addr) (m : Str) (sp : DSp) (ta : DE) (t : DA) : DS := fun D σ G => ta σ G fun x G1 => ∃ fs, objOf G1 x = some (C, fs) ∧ fs.lookup m = none ∧ t σ G1 fun vs G2 => sp (x :: vs) G2 (fun _ G3 => D.nx σ G3) fun A gs G3 => D.ex σ A gs G3
theorem ds_methX {pl : Sem Bool} (tk : Takes X W) (c : CalMeX X.prog X.w X.K X.mg X.base k C m ps sp) (hr : Room k X.A) (ho : PE X o (lift X.K ta)) (ha : PA X (e :: es) (liftA X.K t))
    (hst : starEach (e :: es) X.env = (false, eval e X.env) :: starEach es X.env := by rfl) (hpl : (backTo pos (starEach es X.env)).any (·.1) = false := by rfl)
    (ht : eval (.Call (.Attribute o m apos) (e :: es) [] pos) X.env = (do
      let ov ← eval o X.env
      standAt apos.atName
      let (f, first) ← holding [ov] (getMethod ov m pl)
      callWith pos f first (backTo pos (starEach (e :: es) X.env)) (backToKw pos (keywordEach [] X.env))) := by rfl)
    (hs : swapsWith (.Call (.Attribute o m apos) (e :: es) [] pos) none pos2.line X.env = pure false := by rfl) :
    PS X (.Expr (.Call (.Attribute o m apos) (e :: es) [] pos) pos2) (liftS X.K W (wMethSt C m sp ta t)) := by
  obtain ⟨f, fd, hc, hm, hb, F⟩ := c.ex
  refine PS.weak (ps_expr (pe_methS ho hc hm F hr hb (fun σ => passAt tk σ) ha hst hpl ht) hs) fun D σ H ⟨F, σd, G, Dd, hs, hg, h, k⟩ => ?_
  refine lift_bind hs hg h fun F1 x G1 v H1 s1 hs1 r1 g1 q1 => ?_
  obtain ⟨fs, e1, e2, q1⟩ := q1
  obtain ⟨a, dx, vs, rfl, h1, h2⟩ := obj_rep r1 g1 e1
  refine ⟨a, dx, vs, rfl, h1, (h2.lookup m).2 e2, ?_⟩
  have k1 := k.go s1
  refine lift_bind hs1 g1 q1 fun F2 ds G2 us H2 s2 hs2 r2 g2 q2 => ?_
  exact ⟨F2, x :: ds, G2, fun _ G3 => Dd.nx σd G3, _, .cons (r1.stay s2) r2, g2, q2, fun F' a G' b H' s r g q => k1.nx F' σd G' σ H' (s2.trans s) (hs2.stay s) g q,
    fun F' A gs G' H' od s g x e => k1.ex F' σd A gs G' σ H' od (s2.trans s) (hs2.stay s) g x e⟩

/-- x = (c, f(a).g), f may raise -/
def wSetTag (i : Nat) (c : D) (C : Addr) (fl : Str) (sp : DSp) (t : DA) : DS := fun D σ G => t σ G fun ds G1 => sp ds G1 (fun d G2 => match objOf G2 d with
  | some (C', fs) => C' = C ∧ (match fs.lookup fl with | some y => D.nx (σ.set i (some (.tup [c, y]))) G2 | none => False)
  | none => False) fun A gs G2 => D.ex σ A gs G2
theorem ds_setTag (i : Nat) {c : Str} {fl y : Str} {pos' posc posa post : Pos} {kc kt} (hc : c.length ≤ sizeLine) (hN : X.N.Nodup) (tk : Takes X W) (cl : Cls X.K C) (na : NoAttr X.K C fl) (cx : CalX X.prog X.w X.K X.mg X.base k x ps sp) (hr : Room k X.A) (hg : Gl X x) (ha : PA X (e :: es) (liftA X.K t))
    (hi : X.N[i]? = some y := by rfl) (hx : Loc X.env.scope y := by first | exact Or.inl rfl | exact Or.inr rfl)
    (hs : swapsWith (.Tuple [.Constant (.str c) kc posc, .Attribute (.Call (.Name x p) (e :: es) [] pos) fl posa] kt post) (some (.Name y pos')) pos2.line X.env = pure false := by rfl) (hf : X.fn y = true ∨ X.env.scope.names.lookup y = some .local := by first | exact .inl rfl | exact .inr rfl | assumption)
    (hdb : (x == ("__debug__" : Str)) = false := by decide) (he : starEach (e :: es) X.env = (false, eval e X.env) :: starEach es X.env := by rfl) (hpl : (backTo pos (starEach es X.env)).any (·.1) = false := by rfl)
    (hab : attributeBase (.Call (.Name x p) (e :: es) [] pos) fl X.env (eval (.Call (.Name x p) (e :: es) [] pos) X.env) = eval (.Call (.Name x p) (e :: es) [] pos) X.env := by rfl)
    (h1 : starEach [.Constant (.str c) kc posc, .Attribute (.Call (.Name x p) (e :: es) [] pos) fl posa] X.env = (false, eval (.Constant (.str c) kc posc) X.env) :: starEach [.Attribute (.Call (.Name x p) (e :: es) [] pos) fl posa] X.env := by rfl)
    (h2 : starEach [.Attribute (.Call (.Name x p) (e :: es) [] pos) fl posa] X.env = (false, eval (.Attribute (.Call (.Name x p) (e :: es) [] pos) fl posa) X.env) :: starEach [] X.env := by rfl) :
    PS X (.Assign [.Name y pos'] (.Tuple [.Constant (.str c) kc posc, .Attribute (.Call (.Name x p) (e :: es) [] pos) fl posa] kt post) pos2) (liftS X.K W (wSetTag i (.str c) C fl sp t)) := by
  obtain ⟨f, fd, hm, hk, hb, F⟩ := cx.ex
  refine PS.weak (ps_set hN hi hx (pe_tup (pa_cons pe_str (pa_cons (pe_fld (pe_callS F hr hg hm hk hb (fun σ => passAt tk σ) ha hdb he hpl) hab) pa_nil))) hs hf) fun D σ H ⟨F, σd, G, Dd, hs, hg, h, kk⟩ => ?_
  refine lift_bind hs hg h fun F1 ds G1 us H1 s1 hs1 r1 g1 q1 => ?_
  have k1 := kk.go s1
  refine ⟨F1, ds, G1, _, _, r1, g1, q1, ?_, fun F' A gs G' H' od s g x e => k1.ex F' σd A gs G' σ H' od s (hs1.stay s) g x e⟩
  intro F2 d G2 v H2 s2 r2 g2 q2
  split at q2
  · rename_i C' fs e1
    obtain ⟨rfl, q2⟩ := q2
    obtain ⟨a', dx, vs, rfl, h1, h2⟩ := obj_rep r2 g2 e1
    split at q2
    · rename_i z e2
      obtain ⟨v, e3, r⟩ := (h2.lookup fl).1 z e2
      refine ⟨a', C', dx, vs, v, rfl, h1, cl, na, e3, by show (2 : Nat) ≤ sizeLine; decide, fun p hp => ?_⟩
      obtain ⟨nf, s3, g3⟩ := g2.tupled (o := .tup [.str c, v]) hp
      exact (k1.go (s2.trans s3)).nx.here (((hs1.stay s2).stay s3).set (.newTup s3 (by show (2 : Nat) ≤ sizeLine; decide) (.cons (.str c hc) (.cons r .nil))) i) g3 q2
    · exact q2.elim
  · exact q2.elim
end

/-! ### texts: index, lstrip, in -/
section
variable {X : Cx} {K : PySem.W.Frag} {a b : Expr} {ta tb : DE}
def rIndexS (z : Str) (y : D) (G : Gh) (Q : DQ) : Prop := onStr y fun u => ∃ i rest, Builtin.Str.occurrences z u 0 z.length 1 = i :: rest ∧ Q (.int ((i : Nat) : Int)) G
def rLstripC (z : Str) (y : D) (G : Gh) (Q : DQ) : Prop := onStr y fun u => (Txt.lstripChars z u).length ≤ sizeLine ∧ Q (.str (Txt.lstripChars z u)) G
abbrev wIndexS := wTx1 rIndexS
abbrev wLstripC := wTx1 rLstripC
theorem de_indexS {apos pos : Pos} (ho : PE X a (lift X.K ta)) (he : PE X b (lift X.K tb)) (hs : starEach [b] X.env = [(false, eval b X.env)] := by rfl) (hbase : attributeBase a "index" X.env (eval a X.env) = eval a X.env := by rfl) (hline : (apos.endLine == pos.line) = true := by rfl) :
    PE X (.Call (.Attribute a "index" apos) [b] [] pos) (lift X.K (wIndexS ta tb)) :=
  PE.weak (pe_m1 PySem.F.slot_str_index PySem.F.type_str_index mt_sindex ho he hs hbase hline) fun σ H Q => tM1_lift fun F H G z y u Qd Q hz r g q k => by
    cases r with
    | str y hy =>
      obtain ⟨i, rest, h1, q⟩ := q
      exact ⟨z, y, i, rest, rfl, rfl, h1, k.here (.int _) g q⟩
    | _ => exact (show False from q).elim
theorem de_lstripC {apos pos : Pos} (ho : PE X a (lift X.K ta)) (he : PE X b (lift X.K tb)) (hs : starEach [b] X.env = [(false, eval b X.env)] := by rfl) (hbase : attributeBase a "lstrip" X.env (eval a X.env) = eval a X.env := by rfl) (hline : (apos.endLine == pos.line) = true := by rfl) :
    PE X (.Call (.Attribute a "lstrip" apos) [b] [] pos) (lift X.K (wLstripC ta tb)) :=
  PE.weak (pe_m1 PySem.F.slot_str_lstrip PySem.F.type_str_lstrip mt_lstripChars ho he hs hbase hline) fun σ H Q => tM1_lift fun F H G z y u Qd Q hz r g q k => by
    cases r with
    | str y hy =>
      obtain ⟨h1, q⟩ := q
      exact ⟨z, y, rfl, rfl, hz, k.here (.str _ h1) g q⟩
    | _ => exact (show False from q).elim
/-- whether u stands in z -/
def hasS (u z : Str) : Bool := !(Builtin.Str.occurrences z u 0 z.length 1).isEmpty
def rInStr (neg : Bool) : DR2 := fun x y G Q => match x, y with | .str u, .str z => Q (.bl (neg ^^ hasS u z)) G | _, _ => False
theorem od_inStr : OpD K (fun x y H Q => ∃ i j, x = .str i ∧ y = .str j ∧ Q (.bl (!(Builtin.Str.occurrences j i 0 j.length 1).isEmpty)) H) (rInStr false) := by
  intro F H G x y v w Qd Q rx ry hg h k
  cases rx with
  | str i hi => cases ry with
    | str j hj => exact ⟨_, _, rfl, rfl, k.here (.bl _) hg (by simpa [rInStr, hasS] using h)⟩
    | _ => exact (show False from h).elim
  | _ => exact (show False from h).elim
theorem od_notInStr : OpD K (fun x y H Q => ∃ i j, x = .str i ∧ y = .str j ∧ Q (.bl (!(!(Builtin.Str.occurrences j i 0 j.length 1).isEmpty))) H) (rInStr true) := by
  intro F H G x y v w Qd Q rx ry hg h k
  cases rx with
  | str i hi => cases ry with
    | str j hj => exact ⟨_, _, rfl, rfl, k.here (.bl _) hg (by simpa [rInStr, hasS] using h)⟩
    | _ => exact (show False from h).elim
  | _ => exact (show False from h).elim
end
end DL

/-! DLY: xs[::-1] of a list. -/
namespace DL
open PySem PySem.Spec L2
section
variable {X : Cx}
def wRevL (te : DE) : DE := fun σ G Q => te σ G fun x G1 => match listOf G1 x with | some ds => Q (.lst ds.reverse) G1 | none => False
theorem de_revL {e : Expr} {t : DE} {k : Nat} {p1 p2 p3 pos : Pos} (he : PE X e (lift X.K t)) : PE X (.Subscript e (.Slice none none (some (.UnaryOp .USub (.Constant (.int 1) k p1) p2)) p3) pos) (lift X.K (wRevL t)) :=
  PE.weak (pe_revL he) fun σ H Q ⟨F, σd, G, Qd, hs, hg, h, k⟩ => lift_bind hs hg h fun F1 x G1 v H1 s1 hs1 r1 g1 q1 => by
    split at q1
    · rename_i ds e
      obtain ⟨hl, a, vs, rfl, hq, r⟩ := list_rep r1 g1 e
      exact ⟨a, vs, rfl, SqL.of hq, (k.go s1).lst g1 (by rw [List.length_reverse]; exact hl) r.reverse q1⟩
    · exact q1.elim
end
end DL

/-! DLT: dicts whose keys are tuples of any depth. -/
namespace DL
open PySem PySem.Spec L2 PyProof.Rows

def valT (kvs : List (D × D)) (key : NestedKey) : Option D := (kvs.find? fun kv => decide (nkD kv.1 = some key)).map (·.2)
def putT (kvs : List (D × D)) (y : D) (key : NestedKey) (v : D) : List (D × D) := if (valT kvs key).isSome = true then kvs.map fun kv => if nkD kv.1 = some key then (kv.1, v) else kv else kvs ++ [(y, v)]
inductive EntX (K : PySem.W.Frag) (H : Hp) (F : FP) : List (D × D) → List (NestedKey × Addr × Value) → Prop
  | nil : EntX K H F [] []
  | cons {kd vd : D} {key : NestedKey} {b : Addr} {v : V} {u : Value} {kvs : List (D × D)} {xs : List (NestedKey × Addr × Value)} (rk : Rep K H F kd (.ref b)) (hk : nkD kd = some key) (hd : key.depth ≤ 8) (rv : Rep K H F vd v) (hv : RelV v u) (t : EntX K H F kvs xs) : EntX K H F ((kd, vd) :: kvs) ((key, b, u) :: xs)
section
variable {K : PySem.W.Frag} {H : Hp} {F : FP} {hf : NestedKey → Int} {kvs : List (D × D)}
def entH (hf : NestedKey → Int) (x : NestedKey × Addr × Value) : DictEntry := ⟨hf x.1, .ref x.2.1, x.2.2⟩
theorem EntRs.x {es : List DictEntry} (h : EntRs K H F hf kvs es) : ∃ xs, EntX K H F kvs xs ∧ es = xs.map (entH hf) := by
  induction h with
  | nil => exact ⟨[], .nil, rfl⟩
  | @cons kd vd key b v u kvs es rk hk hd rv hv _ ih =>
    obtain ⟨xs, a, e⟩ := ih
    exact ⟨(key, b, u) :: xs, .cons rk hk hd rv hv a, by rw [e]; rfl⟩
theorem EntX.rs {xs : List (NestedKey × Addr × Value)} (h : EntX K H F kvs xs) : EntRs K H F hf kvs (xs.map (entH hf)) := by
  induction h with
  | nil => exact .nil
  | cons rk hk hd rv hv _ ih => exact .cons rk hk hd rv hv ih
theorem EntX.length {xs : List (NestedKey × Addr × Value)} (h : EntX K H F kvs xs) : kvs.length = xs.length := by
  induction h with
  | nil => rfl
  | cons _ _ _ _ _ _ ih => simp [ih]
theorem EntX.keys {xs : List (NestedKey × Addr × Value)} (h : EntX K H F kvs xs) : kvs.map (fun kv => nkD kv.1) = xs.map fun x => some x.1 := by
  induction h with
  | nil => rfl
  | cons _ hk _ _ _ _ ih => simp [hk, ih]
theorem EntX.at_ {xs : List (NestedKey × Addr × Value)} (h : EntX K H F kvs xs) (key : NestedKey) : (∀ d, valT kvs key = some d → ∃ b v u, atKey xs key = some (b, u) ∧ Rep K H F d v ∧ RelV v u) ∧ (valT kvs key = none → atKey xs key = none) := by
  induction h with
  | nil => exact ⟨fun d e => (by cases e), fun _ => rfl⟩
  | @cons kd vd k b v u kvs xs rk hk hd rv hv _ ih =>
    by_cases e : k = key
    · subst e
      have e1 : valT ((kd, vd) :: kvs) k = some vd := by simp [valT, hk]
      have e2 : atKey ((k, b, u) :: xs) k = some (b, u) := by simp [atKey]
      rw [e1, e2]
      exact ⟨fun d q => by cases q; exact ⟨b, v, u, rfl, rv, hv⟩, fun q => by cases q⟩
    · have e0 : ¬ nkD kd = some key := fun q => by rw [hk] at q; exact e (Option.some.inj q)
      have e1 : valT ((kd, vd) :: kvs) key = valT kvs key := by unfold valT; rw [List.find?_cons_of_neg (by simpa using e0)]
      have e2 : atKey ((k, b, u) :: xs) key = atKey xs key := by unfold atKey; rw [List.find?_cons_of_neg (by simpa using e)]
      rw [e1, e2]
      exact ih
theorem EntX.isSome {xs : List (NestedKey × Addr × Value)} (h : EntX K H F kvs xs) (key : NestedKey) : (atKey xs key).isSome = (valT kvs key).isSome := by
  obtain ⟨a, b⟩ := h.at_ key
  cases e : valT kvs key with
  | none => rw [b e]; rfl
  | some d => obtain ⟨_, _, _, q, _⟩ := a d e; rw [q]; rfl
theorem EntX.app {a c : List (D × D)} {b d : List (NestedKey × Addr × Value)} (h : EntX K H F a b) (k : EntX K H F c d) : EntX K H F (a ++ c) (b ++ d) := by
  induction h with
  | nil => exact k
  | cons rk hk hd rv hv _ ih => exact .cons rk hk hd rv hv ih
theorem EntX.repl {xs : List (NestedKey × Addr × Value)} (h : EntX K H F kvs xs) {key : NestedKey} {d : D} {v : V} {u : Value} (rv : Rep K H F d v) (hv : RelV v u) : EntX K H F (kvs.map fun kv => if nkD kv.1 = some key then (kv.1, d) else kv) (xs.map (putAt key u)) := by
  induction h with
  | nil => exact .nil
  | @cons kd vd k b v' u' kvs xs rk hk hd rv' hv' _ ih =>
    rw [List.map_cons, List.map_cons]
    by_cases e : k = key
    · subst e
      rw [if_pos hk, putAt, if_pos rfl]
      exact .cons rk hk hd rv hv ih
    · rw [if_neg (fun q => by rw [hk] at q; exact e (Option.some.inj q)), putAt, if_neg e]
      exact .cons rk hk hd rv' hv' ih
theorem EntX.put {xs : List (NestedKey × Addr × Value)} (h : EntX K H F kvs xs) {y : D} {key : NestedKey} {b : Addr} {d : D} {v : V} {u : Value} (rk : Rep K H F y (.ref b)) (hk : nkD y = some key) (hd : key.depth ≤ 8) (rv : Rep K H F d v) (hv : RelV v u) : EntX K H F (putT kvs y key d) (storedH xs key b u) := by
  unfold putT storedH
  rw [h.isSome]
  split
  · exact h.repl rv hv
  · exact h.app (.cons rk hk hd rv hv .nil)
theorem putT_length (kvs : List (D × D)) (y : D) (key : NestedKey) (v : D) : (putT kvs y key v).length ≤ kvs.length + 1 := by
  unfold putT
  split
  · rw [List.length_map]; omega
  · simp
theorem putT_nodup {y : D} {key : NestedKey} {v : D} (hk : nkD y = some key) (h : (kvs.map fun kv => nkD kv.1).Nodup) : ((putT kvs y key v).map fun kv => nkD kv.1).Nodup := by
  unfold putT
  split
  · rw [List.map_map]
    have e : ((fun kv : D × D => nkD kv.1) ∘ fun kv => if nkD kv.1 = some key then (kv.1, v) else kv) = fun kv => nkD kv.1 := by
      funext kv
      show nkD (if nkD kv.1 = some key then (kv.1, v) else kv).1 = nkD kv.1
      split <;> rfl
    rw [e]; exact h
  · rename_i hn
    rw [List.map_append, List.map_cons, List.map_nil, List.nodup_append]
    refine ⟨h, by simp, fun a ha b hb e => hn ?_⟩
    rw [List.mem_singleton.mp hb, hk] at e
    obtain ⟨kv, hm, hq⟩ := List.mem_map.mp ha
    unfold valT
    rw [Option.isSome_map, List.find?_isSome]
    exact ⟨kv, hm, by simp [hq, e]⟩
end
section
variable {X : Cx} {pins : List (Addr × Obj)} {σ : L2.St} {H : Hp} {s : Shared}
mutual
/-- what a thing is as a key, in the heap -/
theorem nk_is (I : L2.Inv X pins σ H s) {F : FP} : ∀ {d : D} {v : V} {key : NestedKey} {u : Value}, Rep X.K H F d v → nkD d = some key → RelV v u → NestedIs s.heap key u
  | _, _, _, _, .non, e, r => by simp only [nkD] at e; cases e; cases r; exact .none
  | _, _, _, _, .bl b, e, _ => by simp only [nkD] at e; cases e
  | _, _, _, _, .int i, e, r => by simp only [nkD] at e; cases e; obtain ⟨t, rfl⟩ := r; exact .int i t
  | _, _, _, _, .str x h, e, r => by simp only [nkD] at e; cases e; obtain ⟨t, rfl⟩ := r; exact .text x t
  | _, _, _, _, .ref a, e, _ => by simp only [nkD] at e; cases e
  | _, _, _, _, .ty n, e, _ => by simp only [nkD] at e; cases e
  | _, _, _, _, .scr _, e, _ => by simp only [nkD] at e; cases e
  | _, _, _, _, .lst _ _ _ _, e, _ => by simp only [nkD] at e; cases e
  | _, _, _, _, .dic _ _ _ _, e, _ => by simp only [nkD] at e; cases e
  | _, _, _, _, .obj _ _ _, e, _ => by simp only [nkD] at e; cases e
  | _, _, _, _, .exc0, e, _ => by simp only [nkD] at e; cases e
  | _, _, _, _, .exc _ _ _, e, _ => by simp only [nkD] at e; cases e
  | _, _, _, _, .xo0 _ _, e, _ => by simp only [nkD] at e; cases e
  | _, _, _, _, .xo _ _ _ _ _, e, _ => by simp only [nkD] at e; cases e
  | _, _, _, _, .same _, e, _ => by simp only [nkD] at e; cases e
  | _, _, _, _, .tup (ds := ds) h hl rs, e, r => by
    simp only [nkD] at e
    cases q : nkDs ds with
    | none => rw [q] at e; cases e
    | some ks =>
      rw [q] at e; cases e
      cases r
      obtain ⟨its, rv, ⟨o, h1, h2, n, h3⟩, _⟩ := I.tuple h
      exact .tup h1 h2 h3 (nks_is I rs q rv)
theorem nks_is (I : L2.Inv X pins σ H s) {F : FP} : ∀ {ds : List D} {vs : List V} {ks : List NestedKey} {us : List Value}, Reps X.K H F ds vs → nkDs ds = some ks → Vals vs us → NestedAll s.heap ks us
  | _, _, _, _, .nil, e, r => by simp only [nkDs] at e; cases e; cases r; exact .nil
  | _, _, _, _, .cons (d := d) (ds := ds) r t, e, rv => by
    simp only [nkDs] at e
    cases q : nkD d with
    | none => rw [q] at e; cases e
    | some k =>
      rw [q] at e
      cases q2 : nkDs ds with
      | none => rw [q2] at e; cases e
      | some ks =>
        rw [q2] at e; cases e
        cases rv with
        | cons a b => exact .cons (nk_is I r q a) (nks_is I t q2 b)
end
/-- the dict in the heap -/
theorem nd_of (I : L2.Inv X pins σ H s) {F : FP} {hf : NestedKey → Int} {kvs : List (D × D)} {p : Addr} (hh : hf = fun k => k.hash X.w) (g : GOk X.K H F p (.dit hf kvs)) : ∃ xs, EntX X.K H F kvs xs ∧ s.heap.DictOfH (nestedKind X.prog X.w) p xs ∧ (p == sysModules) = false ∧ kvs.length ≤ sizeLine ∧ Mut (H p) := by
  subst hh
  obtain ⟨hl, hs, hn, es, hp, hr⟩ := g
  obtain ⟨xs, hx, e⟩ := hr.x
  obtain ⟨⟨o, ep, h1, h2, h3⟩, _, _⟩ := I.hok p _ hp
  refine ⟨xs, hx, ⟨o, es, ep, h1, h2, h3, e, ?_, ?_⟩, hs, hl, by rw [hp]; exact True.intro⟩
  · clear e hn hl hr h1 h2 h3 hp
    induction hx with
    | nil => intro x hx; cases hx
    | cons rk hk hd rv hv _ ih =>
      intro x hx
      rcases List.mem_cons.mp hx with rfl | hx
      · exact ⟨nk_is I rk hk rfl, hd⟩
      · exact ih x hx
  · have := hx.keys
    rw [this] at hn
    have e2 : xs.map (fun x => some x.1) = (xs.map (·.1)).map some := by rw [List.map_map]; rfl
    rw [e2] at hn
    exact (List.pairwise_map.mp hn).imp fun h e => h (by rw [e])
end
theorem room8 {A : Around} (h : A.units + 9 < cLine) : (nestedKind P w).room A.in1 := by
  show A.units + 1 + 8 < cLine
  omega
/-! ### d[k], k in d -/
section
variable {X : Cx} {a b : Expr} {ta tb : DE} {pos : Pos}
def rIxT (K : PySem.W.Frag) (w : World) : R2 := fun x y H Q => ∃ (F : FP) (kvs : List (D × D)) (key : NestedKey) (kd d : D) (p b : Addr), x = .ref p ∧ y = .ref b ∧ GOk K H F p (.dit (fun k => k.hash w) kvs) ∧ Rep K H F kd (.ref b) ∧ nkD kd = some key ∧ key.depth ≤ 8 ∧ valT kvs key = some d ∧ ∀ v, Rep K H F d v → Q v H
theorem ix_nd (hu : X.A.units + 9 < cLine) : IxR X (rIxT X.K X.w) := by
  intro value slice pins s σ H x y v u Q I rx ry h hs
  obtain ⟨F, kvs, key, kd, d, p, b, rfl, rfl, g, rk, hk, hd, hv, q⟩ := h
  cases rx
  cases ry
  obtain ⟨xs, hx, dd, _, _, _⟩ := nd_of I rfl g
  obtain ⟨b', v', u', e, rv, hv'⟩ := (hx.at_ key).1 d hv
  refine tail_any dd.typeIs slot_dict_getitem.lookup ?_ hs
  refine wpAny_getItem_heap (room8 hu) ⟨nk_is I rk hk rfl, hd⟩ dd e ?_
  exact ⟨v', H, I.tok _, hv', q v' rv⟩
def ditAt (hf : NestedKey → Int) (G : Gh) (x : D) (P : Addr → List (D × D) → Prop) : Prop := match x with
  | .ref p => ∃ kvs, G p = some (.dit hf kvs) ∧ P p kvs
  | _ => False
/-- y is a key -/
def keyAt (y : D) (P : NestedKey → Prop) : Prop := match y with
  | .tup ds => ∃ ks, nkDs ds = some ks ∧ (NestedKey.tup ks).depth ≤ 8 ∧ P (.tup ks)
  | _ => False
theorem keyAt_rep {K : PySem.W.Frag} {H : Hp} {F : FP} {y : D} {v : V} {P : NestedKey → Prop} (h : keyAt y P) (r : Rep K H F y v) : ∃ key b, nkD y = some key ∧ key.depth ≤ 8 ∧ v = .ref b ∧ P key := by
  cases r with
  | tup h1 hl r =>
    obtain ⟨ks, e, hd, p⟩ := h
    exact ⟨.tup ks, _, by simp only [nkD, e], hd, rfl, p⟩
  | _ => exact (show False from h).elim
def rDTGet (hf : NestedKey → Int) : DR2 := fun x y G Q => ditAt hf G x fun p kvs => keyAt y fun key => ∃ d, valT kvs key = some d ∧ Q d G
theorem od_ixT {K : PySem.W.Frag} {w : World} {hf : NestedKey → Int} (hh : hf = fun k => k.hash w) : OpD K (rIxT K w) (rDTGet hf) := by
  intro F H G x y v u Qd Q rx ry hg h k
  subst hh
  cases rx with
  | ref p =>
    obtain ⟨kvs, e, h⟩ := h
    obtain ⟨key, b, hk, hd, rfl, d, hv, q⟩ := keyAt_rep h ry
    exact ⟨F, kvs, key, y, d, p, b, rfl, rfl, (hg.g p _ e).2, ry, hk, hd, hv, fun v' r' => k.here r' hg q⟩
  | _ => exact (show False from h).elim
theorem de_dtget {hf : NestedKey → Int} (hh : hf = fun k => k.hash X.w) (hu : X.A.units + 9 < cLine) (ho : PE X a (lift X.K ta)) (hi : PE X b (lift X.K tb)) (hs : PlainIx b := by exact fun _ _ => rfl) : PE X (.Subscript a b pos) (lift X.K (wOp (rDTGet hf) ta tb)) := de_ix (ix_nd hu) (od_ixT hh) ho hi hs
def rInT (K : PySem.W.Frag) (w : World) (neg : Bool) : R2 := fun y x H Q => ∃ (F : FP) (kvs : List (D × D)) (key : NestedKey) (kd : D) (p b : Addr), x = .ref p ∧ y = .ref b ∧ GOk K H F p (.dit (fun k => k.hash w) kvs) ∧ Rep K H F kd (.ref b) ∧ nkD kd = some key ∧ key.depth ≤ 8 ∧ Q (.bl (neg ^^ (valT kvs key).isSome)) H
theorem op_inT (hu : X.A.units + 9 < cLine) : OpR X (compareOp .In) (rInT X.K X.w false) := by
  intro pins s σ H y x u v Q I ry rx h
  obtain ⟨F, kvs, key, kd, p, b, rfl, rfl, g, rk, hk, hd, q⟩ := h
  cases rx
  cases ry
  obtain ⟨xs, hx, dd, hs, _, _⟩ := nd_of I rfl g
  refine wpAny_in_heap (room8 hu) ⟨nk_is I rk hk rfl, hd⟩ hs dd ?_
  rw [hx.isSome]
  exact ⟨.bl _, H, I.tok _, rfl, by rw [Bool.false_xor] at q; exact q⟩
theorem op_notInT (hu : X.A.units + 9 < cLine) : OpR X (compareOp .NotIn) (rInT X.K X.w true) := by
  intro pins s σ H y x u v Q I ry rx h
  obtain ⟨F, kvs, key, kd, p, b, rfl, rfl, g, rk, hk, hd, q⟩ := h
  cases rx
  cases ry
  obtain ⟨xs, hx, dd, hs, _, _⟩ := nd_of I rfl g
  refine wpAny_notIn_heap (room8 hu) ⟨nk_is I rk hk rfl, hd⟩ hs dd ?_
  rw [hx.isSome]
  exact ⟨.bl _, H, I.tok _, rfl, by rw [Bool.true_xor] at q; exact q⟩
def rDTIn (hf : NestedKey → Int) (neg : Bool) : DR2 := fun y x G Q => ditAt hf G x fun p kvs => keyAt y fun key => Q (.bl (neg ^^ (valT kvs key).isSome)) G
theorem od_inT {K : PySem.W.Frag} {w : World} {hf : NestedKey → Int} {neg : Bool} (hh : hf = fun k => k.hash w) : OpD K (rInT K w neg) (rDTIn hf neg) := by
  intro F H G y x v u Qd Q ry rx hg h k
  subst hh
  cases rx with
  | ref p =>
    obtain ⟨kvs, e, h⟩ := h
    obtain ⟨key, b, hk, hd, rfl, q⟩ := keyAt_rep h ry
    exact ⟨F, kvs, key, y, p, b, rfl, rfl, (hg.g p _ e).2, ry, hk, hd, k.here (.bl _) hg q⟩
  | _ => exact (show False from h).elim
/-! ### d[k] = v -/
def wSetDT (hf : NestedKey → Int) (tv td ty : DE) : DS := fun D σ G => tv σ G fun v G1 => td σ G1 fun x G2 => ty σ G2 fun y G3 => ditAt hf G3 x fun p kvs => keyAt y fun key => kvs.length < sizeLine ∧ D.nx σ (gup G3 p (.dit hf (putT kvs y key v)))
def rSetT (K : PySem.W.Frag) (w : World) : TSet := fun o i v H Q => ∃ (F : FP) (kvs : List (D × D)) (key : NestedKey) (kd vd : D) (p b : Addr), o = .ref p ∧ i = .ref b ∧ GOk K H F p (.dit (fun k => k.hash w) kvs) ∧ Rep K H F kd (.ref b) ∧ nkD kd = some key ∧ key.depth ≤ 8 ∧ Rep K H F vd v ∧ kvs.length < sizeLine ∧
  ∀ es' xs', EntX K H F (putT kvs kd key vd) xs' → es'.toList = xs'.map (entH fun k => k.hash w) → Q (upd H p (.ext (RawF p es')))
theorem set_nd (hu : X.A.units + 9 < cLine) : PSet X (rSetT X.K X.w) := by
  intro pins s σ H o i v ov iv u Q I ro ri rv h
  obtain ⟨F, kvs, key, kd, vd, p, b, rfl, rfl, g, rk, hk, hd, rvd, hl, q⟩ := h
  cases ro
  cases ri
  obtain ⟨xs, hx, dd, hs, _, mu⟩ := nd_of I rfl g
  refine wpAny_setItem_heap (hsz := by rw [← hx.length]; omega) (room8 hu) ⟨nk_is I rk hk rfl, hd⟩ dd fun h' dd' hsb => ?_
  obtain ⟨ob, es', ep', h1, h2, h3, h4, _, _⟩ := dd'
  refine ⟨_, d_write (ob := .ext (RawF p es')) I mu hsb ⟨ob, h1⟩ ⟨⟨ob, ep', h1, h2, h3⟩, ⟨ob, h1⟩, fun g1 g2 ⟨o', e', z1, z2, z3⟩ st => ⟨o', e', st _ z1, z2, z3⟩⟩, q es' _ (hx.put rk hk hd rvd rv) h4⟩
theorem ds_setDT {W : WX} {hf : NestedKey → Int} {o i v : Expr} {tv to ti : DE} {pos' : Pos} (hh : hf = fun k => k.hash X.w) (hu : X.A.units + 9 < cLine) (hv : PE X v (lift X.K tv)) (ho : PE X o (lift X.K to)) (hi : PE X i (lift X.K ti))
    (ha : ∀ v, assign (.Subscript o i pos') X.env v = (do
      let ov ← holding [v] (eval o X.env)
      let iv ← holding [v, ov] (eval i X.env)
      standAt pos'
      holding [v, ov, iv] (setItem ov iv v)
      release [v, ov, iv] []) := by intro _; rfl)
    (hs : swapsWithSole [.Subscript o i pos'] v pos.line X.env = pure false := by rfl) (hw : swappedStores [.Subscript o i pos'] v X.env = pure none := by rfl)
    (h1 : (assignEach [.Subscript o i pos'] X.env).map (·.2) = [assign (.Subscript o i pos') X.env] := by rfl) : PS X (.Assign [.Subscript o i pos'] v pos) (liftS X.K W (wSetDT hf tv to ti)) := by
  subst hh
  refine PS.weak (ps_asg hv (pg_sub ho hi (set_nd hu) ha) hs hw h1) fun D σ H ⟨F, σd, G, Dd, hs, hg, h, k⟩ => ?_
  refine lift_bind hs hg h fun F1 x G1 v H1 s1 hs1 r1 g1 q1 => lift_bind hs1 g1 q1 fun F2 y G2 w H2 s2 hs2 r2 g2 q2 => lift_bind hs2 g2 q2 fun F3 z G3 u H3 s3 hs3 r3 g3 q3 => ?_
  have r2' := r2.stay s3
  cases r2' with
  | ref p =>
    obtain ⟨kvs, e, q3⟩ := q3
    obtain ⟨key, b, hk, hd, rfl, hl, q3⟩ := keyAt_rep q3 r3
    obtain ⟨nf, g⟩ := g3.g p _ e
    refine ⟨F3, kvs, key, z, x, p, b, rfl, rfl, g, r3, hk, hd, (r1.stay s2).stay s3, hl, fun es' xs' hx he => ?_⟩
    obtain ⟨_, hsm, hn, _⟩ := g
    have s4 : Stay X.K H3 F3 (upd H3 p (.ext (RawF p es'))) F3 := g3.wr e
    exact (k.go (((s1.trans s2).trans s3).trans s4)).nx.here (hs3.stay s4) (g3.write (o' := .dit (fun k => k.hash X.w) (putT kvs z key x)) e ⟨Nat.le_trans (putT_length _ _ _ _) hl, hsm, putT_nodup hk hn, es', upd_same, by rw [he]; exact hx.rs.stay s4⟩) q3
  | _ => exact (show False from q3).elim
/-! ### {}, {k: v} -/
def wDict0T (hf : NestedKey → Int) : DE := fun _ G Q => ∀ p, G p = none → Q (.ref p) (gup G p (.dit hf []))
def tNewT : TE := fun _ H Q => ∀ p, H p = none → (p == sysModules) = false → Q (.ref p) (upd H p (.ext (RawF p #[])))
theorem pe_newT {X : Cx} {pos : Pos} : PE X (.Dict [] [] pos) tNewT := ⟨fun pins s σ H Q I h =>
  wpAny_Dict_empty ⟨.ref s.heap.objs.size, _, I.laid (a := s.heap.objs.size) (o := .ext (RawF s.heap.objs.size #[])) (t' := s.toks) (fun _ _ q => Heap.get?_push_of_some _ q) (Nat.le_refl _)
    ⟨⟨_, 0, Heap.get?_push_size _ rfl, ⟨rfl, rfl, rfl⟩, rfl⟩, ⟨_, Heap.get?_push_size _ rfl⟩, fun g1 g2 ⟨o', e', z1, z2, z3⟩ st => ⟨o', e', st _ z1, z2, z3⟩⟩, rfl, h _ (I.hok.fresh (Nat.le_refl _)) (beq_eq_false_iff_ne.mpr (Ne.symm (Nat.ne_of_lt I.big)))⟩⟩
theorem de_dict0T {X : Cx} {pos : Pos} {hf : NestedKey → Int} : PE X (.Dict [] [] pos) (lift X.K (wDict0T hf)) :=
  PE.weak pe_newT fun σ H Q ⟨F, σd, G, Qd, hs, hg, h, k⟩ p hp hsm => by
    obtain ⟨nf, s, g'⟩ := hg.tupled (o := .ext (RawF p #[])) hp
    exact k F (.ref p) _ _ _ s (.ref p) (hg.made (u := .dit hf []) hp ⟨Nat.zero_le _, hsm, List.nodup_nil, #[], upd_same, .nil⟩) (h p (hg.gnone hp))
end
end DL

/-! DLZ: sorted of a tuple of texts; <, of texts; bits; max of two; {key: v} with a tuple as key. -/
namespace HZ
open PySem PySem.Spec PyProof.Rows
section
variable {prog : Program} {w : World} {A : Around} {E : Value → Shared → Prop} {s : Shared}
theorem collect_tup {l : Addr} {vs : List Value} {Q : List Value → Shared → Prop} (hl : IsTup s.heap l vs.toArray)
    (h : Q vs { s with heap := (s.heap.push (seqObj "list" #[] 0)).update s.heap.objs.size (Obj.mapSeq (· ++ vs.toArray)) }) (hsz : vs.length ≤ sizeLine) :
    wpAny (model prog w) A (collect (.ref l)) Q E s := by
  obtain ⟨o, ho, hc, n, hd⟩ := id hl
  unfold collect
  refine wpAny_bind (wpAny_runValue (codeAny_builtin entry_proto_collect' ?_))
  show wpAny _ _ (do again (.builtin "list.__iadd__" ⟨[← newList [], .ref l], []⟩)) _ _ s
  refine wpAny_bind (wpAny_newList (wpAny_pure ⟨Code.quiet_builtin _ (by decide +kernel), codeAny_builtin entry_list_iadd' ?_⟩))
  show wpAny _ _ (Builtin.List.listExtendWith (.ref s.heap.objs.size) (.ref l) (.ref s.heap.objs.size)) _ _ { s with heap := s.heap.push (seqObj "list" #[] 0) }
  unfold Builtin.List.listExtendWith
  have ho' : (s.heap.push (seqObj "list" #[] 0)).get? l = some o := Heap.get?_push_of_some _ ho
  refine wpAny_bind (wpAny_typeOf (T := "tuple") ⟨o, ho', hc⟩ ?_)
  have ht : (Value.type "tuple" == Value.type "tuple") = true := by rfl
  rw [if_pos (by rw [ht]; simp)]
  refine wpAny_bind (listItems_at ho' hd ?_)
  refine wpAny_bind (listItems_at (xs := #[]) (n := 0) (Heap.get?_push_size _ rfl) rfl ?_)
  rw [if_neg (by simp)]
  refine wpAny_bind (listUpdate_at (xs := #[]) (n := 0) (Heap.get?_push_size _ rfl) rfl ?_ (Nat.zero_le _) (by show (#[] ++ vs.toArray).size ≤ sizeLine + 1; simp only [Array.size_append, List.size_toArray, List.length_nil]; omega))
  refine wpAny_pure ?_
  show wpAny (model prog w) A (do
      let o ← load s.heap.objs.size
      match o.data with
      | .seq xs _ => pure xs.toList
      | _ => unsupported "internal:collect") Q E { s with heap := (s.heap.push (seqObj "list" #[] 0)).update s.heap.objs.size (Obj.mapSeq (· ++ vs.toArray)) }
  refine wpAny_bind (wpAny_load (get?_update_seq (Heap.get?_push_size _ rfl) _) ?_)
  show wpAny _ _ (pure ((#[] : Array Value) ++ vs.toArray).toList) Q E _
  rw [show ((#[] : Array Value) ++ vs.toArray).toList = vs by simp]
  exact wpAny_pure h
theorem sortedT {κ : KeyKind} (hO : κ.OneLt) {l : Addr} {vs : List Value} {Q : Value → Shared → Prop} (hl : IsTup s.heap l vs.toArray) (h0 : KeysOf κ (pairsOf vs)) (hkk : ∀ v₁ v₂ rest, vs = v₁ :: v₂ :: rest → keyKind' (v₁ :: v₂ :: rest).toArray = pure oneType') (hL : vs.length ≤ sizeLine)
    (h : ∀ st' : SortSt, (arrOf st').Perm (pairsOf vs) → SortedToK κ (arrOf st') (pairsOf vs).size → Q (.ref (s.heap.objs.size + 1)) { s with heap := sortedAll s.heap vs ((arrOf st').map (·.2)) }) :
    wpAny (model prog w) A (call (.builtin "sorted") [.ref l]) Q E s := by
  refine Calls.call_function_entry kind_sorted plain_sorted entry_sorted (args_sorted1 _) ?_
  unfold Builtin.«sorted»
  refine wpAny_bind (m := checkCount "sorted" 1 1 _) (wpAny_pure ?_)
  refine wpAny_bind (collect_tup hl ?_ hL)
  refine wpAny_bind (wpAny_newList ?_)
  have hsz : ((s.heap.push (seqObj "list" #[] 0)).update s.heap.objs.size (Obj.mapSeq (· ++ vs.toArray))).objs.size = s.heap.objs.size + 1 := by
    rw [Heap.size_update, size_push']
  have hoL : (((s.heap.push (seqObj "list" #[] 0)).update s.heap.objs.size (Obj.mapSeq (· ++ vs.toArray))).push (seqObj "list" vs.toArray 0)).get? (s.heap.objs.size + 1) = some (seqObj "list" vs.toArray 0) := by
    rw [← hsz]; exact Heap.get?_push_size _ rfl
  show wpAny _ _ _ _ _ { s with heap := ((s.heap.push (seqObj "list" #[] 0)).update s.heap.objs.size (Obj.mapSeq (· ++ vs.toArray))).push (seqObj "list" vs.toArray 0) }
  rw [hsz]
  refine wpAny_bind (wpAny_holding (wpAny_call_entry slot_list_sort ⟨_, hoL, rfl⟩ entry_list_sort (list_sort_treeKAny hO hoL h0 hkk hL fun st' a1 a2 => ⟨_, rfl, ?_⟩) (args_list_sort _)))
  exact wpAny_pure ⟨_, rfl, h st' a1 a2⟩
end
end HZ
namespace DL
open PySem PySem.Spec L2 PyProof.Rows
section
variable {X : Cx}
def rSortT (K : PySem.W.Frag) : List V → Hp → VK → Prop := fun vs H Q => ∃ (a : Addr) (xs : List Str), vs = [V.ref a] ∧ SqT K H a (xs.map V.str) ∧
  ∀ (ys : List Str) (p : Addr), ys.Perm xs → sortedS ys = true → H p = none → Q (.ref p) (upd H p (.lst (ys.map V.str)))
theorem cr_sortT : CallR X (.builtin "sorted") (rSortT X.K) := by
  intro pins s σ H vs us Q I r h
  obtain ⟨a, xs, rfl, hs, q⟩ := h
  obtain ⟨its, rv, hl, hz⟩ := I.tuple hs
  rw [Vals.ref1 r]
  have hlen0 := rv.length
  rw [List.length_map] at hz hlen0
  refine HZ.sortedT strKind_oneLt hl rv.strs.keysOf (fun v₁ v₂ rest e => keyKind_strs (by rw [← e]; exact rv.strs)) (by omega) fun st' hp hsd => ?_
  obtain ⟨ys, h1, h2, h3⟩ := sorted_out_str rv.strs hp hsd
  obtain ⟨ep, he'⟩ := PyProof.Rows.sortedAll_at s.heap its ((arrOf st').map (·.2))
  have hlen : (ys.map V.str).length ≤ sizeLine := by rw [List.length_map, h2.length_eq]; exact hz
  exact ⟨.ref _, upd H (s.heap.objs.size + 1) (.lst (ys.map V.str)), I.laid (t' := s.toks) (fun _ _ => PyProof.Rows.sortedAll_old) (Nat.le_succ _) ⟨hlen, _, ep, vals_of_strs h1, he'⟩, rfl, q ys _ h2 h3 (I.hok.fresh (Nat.le_succ _))⟩
/-- sorted(t), t a tuple of texts -/
def rSortTx : DC := fun ds G Q => match ds with
  | [.tup xs] => ∃ ns, strsOf xs = some ns ∧ ∀ ys : List Str, ys.Perm ns → sortedS ys = true → Q (.lst (ys.map D.str)) G
  | _ => False
theorem cd_sortTx {K : PySem.W.Frag} : CallD K (rSortT K) rSortTx := by
  intro F H G ds vs Qd Q rs hg h k
  unfold rSortTx at h
  split at h
  · obtain ⟨ns, e, h⟩ := h
    cases rs with
    | cons r t =>
      cases t
      cases r with
      | tup h1 hl r =>
        obtain ⟨rfl, hb⟩ := strsOf_rep r e
        have hl2 := r.length
        refine ⟨_, ns, rfl, h1, fun ys p a1 a2 hp => ?_⟩
        rw [List.length_map] at hl2
        exact k.lst hg (by rw [List.length_map, a1.length_eq]; omega) (Reps.of_strs ys fun x hx => hb x (a1.mem_iff.mp hx)) (h ys a1 a2) p hp
  · exact h.elim
/-! ### texts, bits, max -/
def rLtS : DR2 := fun x y G Q => match x, y with | .str i, .str j => Q (.bl (decide (i.cps.toList < j.cps.toList))) G | _, _ => False
theorem od_ltS {K : PySem.W.Frag} : OpD K (fun x y H Q => ∃ i j, x = .str i ∧ y = .str j ∧ Q (.bl (decide (i.cps.toList < j.cps.toList))) H) rLtS := by
  intro F H G x y v w Qd Q rx ry hg h k
  cases rx <;> cases ry <;> first | exact (show False from h).elim | exact ⟨_, _, rfl, rfl, k.here (.bl _) hg h⟩
def rAndI : DR2 := fun x y G Q => match x, y with | .int i, .int j => Q (.int (Builtin.bitAnd i j)) G | _, _ => False
theorem od_andI {K : PySem.W.Frag} : OpD K (rI0 fun i j => .int (Builtin.bitAnd i j)) rAndI := by
  intro F H G x y v w Qd Q rx ry hg h k
  cases rx <;> cases ry <;> first | exact (show False from h).elim | exact ⟨_, _, rfl, rfl, k.here (.int _) hg h⟩
def rShr : DR2 := rI2 (fun _ j => 0 ≤ j) fun i j => .int (i / 2 ^ j.toNat)
def rShl1 : DR2 := fun x y G Q => x = .int 1 ∧ match y with | .int j => 0 ≤ j ∧ j ≤ 1000 ∧ Q (.int (2 ^ j.toNat)) G | _ => False
theorem od_shl1 {K : PySem.W.Frag} : OpD K (fun x y H Q => ∃ k : Nat, x = .int 1 ∧ y = .int (k : Int) ∧ k ≤ 134217727 ∧ Q (.int (2 ^ k)) H) rShl1 := by
  intro F H G x y v w Qd Q rx ry hg h k
  obtain ⟨rfl, h⟩ := h
  cases rx
  cases ry with
  | int j =>
    obtain ⟨h0, h1, h⟩ := h
    exact ⟨j.toNat, rfl, by rw [Int.toNat_of_nonneg h0], by omega, k.here (.int _) hg h⟩
  | _ => exact h.elim
def rMax2 : DC := fun ds G Q => match ds with | [.int i, .int j] => Q (.int (if j > i then j else i)) G | _ => False
theorem cd_max2 {K : PySem.W.Frag} : CallD K (fun xs H Q => ∃ i j, xs = [.int i, .int j] ∧ Q (.int (if j > i then j else i)) H) rMax2 := by
  intro F H G ds vs Qd Q rs hg h k
  unfold rMax2 at h
  split at h
  · cases rs with | cons r t => cases t with | cons r2 t => cases t; cases r; cases r2; exact ⟨_, _, rfl, k.here (.int _) hg h⟩
  · exact h.elim
end
/-! ### {key: v} -/
def tDispT (K : PySem.W.Frag) (w : World) (trs : List (TE × TE)) : TE := fun σ H Q => ∀ p, H p = none → (p == sysModules) = false → tPairs trs σ (upd H p (.ext (RawF p #[]))) fun ps H2 => H2 p = some (.ext (RawF p #[])) ∧
  ∃ (F : FP) (kd : D) (key : NestedKey) (b : Addr) (v : V), ps = [(.ref b, v)] ∧ Rep K H2 F kd (.ref b) ∧ nkD kd = some key ∧ key.depth ≤ 8 ∧
    ∀ (es' : Array DictEntry) u, RelV v u → es'.toList = [⟨key.hash w, .ref b, u⟩] → Q (.ref p) (upd H2 p (.ext (RawF p es')))
theorem dispT_end {X : Cx} {pins : List (Addr × Obj)} {σ : L2.St} {H2 : Hp} {s2 : Shared} {p : Addr} {key : NestedKey} {b : Addr} {v : V} {w2 : Value} {Q : VK} (I2 : L2.Inv X pins σ H2 s2) (e : H2 p = some (.ext (RawF p #[]))) (hd : key.depth ≤ 8) (hk : NestedIs s2.heap key (.ref b)) (r2 : RelV v w2)
    (q2 : ∀ (es' : Array DictEntry) u, RelV v u → es'.toList = [⟨key.hash X.w, .ref b, u⟩] → Q (.ref p) (upd H2 p (.ext (RawF p es')))) :
    ∃ ps, CarriesH (nestedKind X.prog X.w) s2.heap [(.ref b, w2)] ps ∧ s2.heap.DictOfH (nestedKind X.prog X.w) p [] ∧
      ∀ h' tk, h'.DictOfH (nestedKind X.prog X.w) p (storedAllH [] ps) → Heap.SameBut p s2.heap h' → EP X pins σ Q (.ref p) { s2 with heap := h', toks := tk } := by
  obtain ⟨⟨o, ep, h1, h2, h3⟩, _, _⟩ := I2.hok _ _ e
  refine ⟨[(key, b, w2)], ⟨rfl, rfl, ⟨hk, hd⟩, True.intro⟩, ⟨o, #[], ep, h1, h2, h3, rfl, (fun x hx => by cases hx), List.nodup_nil⟩, fun h' tk dd' hs => ?_⟩
  obtain ⟨ob, es', ep', g1, g2, g3, g4, _, _⟩ := dd'
  have g5 : es'.toList = [⟨key.hash X.w, .ref b, w2⟩] := g4
  have ho : ObjOk X.prog X.w (upd H2 p (.ext (RawF p es'))) h' p (.ext (RawF p es')) := ⟨⟨ob, ep', g1, g2, g3⟩, ⟨ob, g1⟩, fun g1 g2 ⟨o', e', z1, z2, z3⟩ st => ⟨o', e', st _ z1, z2, z3⟩⟩
  exact ⟨.ref p, _, d_write (ob := .ext (RawF p es')) I2 (by rw [e]; exact True.intro) hs ⟨ob, g1⟩ ho, rfl, q2 es' w2 r2 g5⟩
theorem vv1 {b : Addr} {v : V} {ws : List (Value × Value)} (h : VV [(.ref b, v)] ws) : ∃ w2, ws = [(.ref b, w2)] ∧ RelV v w2 := by
  cases h with
  | cons r t =>
    cases t
    rename_i wv
    exact ⟨wv.2, by rw [show wv = (wv.1, wv.2) from rfl, show wv.1 = Value.ref b from r.1], r.2⟩
theorem dispT_end2 {X : Cx} {pins : List (Addr × Obj)} {σ : L2.St} {s2 : Shared} {p : Addr} {vs : List (Value × Value)} {Q : VK}
    (h : ∃ ps, CarriesH (nestedKind X.prog X.w) s2.heap vs ps ∧ s2.heap.DictOfH (nestedKind X.prog X.w) p [] ∧
      ∀ h' tk, h'.DictOfH (nestedKind X.prog X.w) p (storedAllH [] ps) → Heap.SameBut p s2.heap h' → EP X pins σ Q (.ref p) { s2 with heap := h', toks := tk }) :
    ∃ ps, CarriesH (nestedKind X.prog X.w) s2.heap vs ps ∧ s2.heap.DictOfH (nestedKind X.prog X.w) p [] ∧
      ∀ h' tk, h'.DictOfH (nestedKind X.prog X.w) p (storedAllH [] ps) → Heap.SameBut p s2.heap h' → wpAny (model X.prog X.w) X.A (pure (Value.ref p)) (EP X pins σ Q) X.xe { s2 with heap := h', toks := tk } := by
  obtain ⟨ps, a1, a2, a3⟩ := h
  exact ⟨ps, a1, a2, fun h' tk d1 d2 => wpAny_pure (a3 h' tk d1 d2)⟩
theorem pe_dispT {X : Cx} {pos : Pos} {keys : List (Option Expr)} {values : List Expr} {trs : List (TE × TE)} (hu : X.A.units + 9 < cLine) (h : PPs X pos keys values trs) (hall : keys.all (·.isSome) = true) (hl : keys.length = values.length) (h0 : keys ≠ [])
    (h15 : keys.length ≤ 15) : PE X (.Dict keys values pos) (tDispT X.K X.w trs) := by
  refine ⟨fun pins s σ H Q I q => ?_⟩
  have hn := I.hok.fresh (Nat.le_refl s.heap.objs.size)
  have hsm : (s.heap.objs.size == sysModules) = false := beq_eq_false_iff_ne.mpr (Ne.symm (Nat.ne_of_lt I.big))
  have I1 := I.laid (a := s.heap.objs.size) (o := .ext (RawF s.heap.objs.size #[])) (h' := s.heap.push { cls := .type "dict", data := .dict #[] }) (t' := s.toks) (fun _ _ q => Heap.get?_push_of_some _ q) (Nat.le_refl _)
    ⟨⟨_, 0, Heap.get?_push_size _ rfl, ⟨rfl, rfl, rfl⟩, rfl⟩, ⟨_, Heap.get?_push_size _ rfl⟩, fun g1 g2 ⟨o', e', z1, z2, z3⟩ st => ⟨o', e', st _ z1, z2, z3⟩⟩
  have hlen := pairTrees_length keys values X.env pos hall hl
  have hne : pairTrees keys values X.env pos ≠ [] := by
    intro he
    rw [he] at hlen
    exact h0 (List.length_eq_zero_iff.mp hlen.symm)
  rw [arm_eval_Dict, zip_pairTrees keys values X.env pos hall hl, dictDisplay_pairs _ hne (by rw [hlen]; omega)]
  refine wpAny_bind (wpAny_standAt (wpAny_bind (wpAny_subDictH (knd := nestedKind X.prog X.w) (by show X.A.units + 8 < cLine; omega) (by rw [hlen]; exact h15)
    (thn (h.run pins _ σ _ _ I1 (q _ hn hsm)) fun ws s2 ⟨ps, H2, I2, rel, e, F, kd, key, b, v, eps, rk, hk, hd, q2⟩ => ?_))))
  subst eps
  obtain ⟨w2, rfl, r2⟩ := vv1 rel
  exact dispT_end2 (dispT_end I2 e hd (nk_is I2 rk hk rfl) r2 q2)
def wDictT (hf : NestedKey → Int) (t : DP) : DE := fun σ G Q => wPairs t σ G fun ps G1 => match ps with
  | [(kd, v)] => keyAt kd fun _ => ∀ p, G1 p = none → Q (.ref p) (gup G1 p (.dit hf [(kd, v)]))
  | _ => False
theorem de_dictT {X : Cx} {pos : Pos} {hf : NestedKey → Int} {keys : List (Option Expr)} {values : List Expr} {trs : DP} (hh : hf = fun k => k.hash X.w) (hu : X.A.units + 9 < cLine) (h : PPs X pos keys values (liftP X.K trs)) (hall : keys.all (·.isSome) = true := by rfl) (hl : keys.length = values.length := by rfl) (h0 : keys ≠ [] := by intro z; cases z)
    (h15 : keys.length ≤ 15 := by decide) : PE X (.Dict keys values pos) (lift X.K (wDictT hf trs)) := by
  refine PE.weak (pe_dispT hu h hall hl h0 h15) fun σ H Q ⟨F, σd, G, Qd, hs, hg, h, k⟩ p hp hsm => ?_
  obtain ⟨nf, s1, g1⟩ := hg.tupled (o := .ext (RawF p #[])) hp
  have gg : RelG X.K (upd H p (.ext (RawF p #[]))) (F.guard p) G := by
    refine g1.keep ⟨fun _ _ h => h, fun _ h => h, fun _ _ => rfl⟩ (fun a q => ?_) (fun a q r => r.elim (g1.dj a q) fun e => nf (.inl (e ▸ q))) fun a o e => ⟨rfl, fun q => ?_⟩
    · rcases q with q | q | q
      · exact g1.fo a (.inl q)
      · exact g1.fo a (.inr q)
      · exact ⟨_, by rw [q]; exact upd_same⟩
    · rcases q with q | q | q
      · exact (g1.g a o e).1 (.inl q)
      · exact (g1.g a o e).1 (.inr q)
      · rw [q, hg.gnone hp] at e; cases e
  have hsg : RelSt X.K (upd H p (.ext (RawF p #[]))) (F.guard p) σd σ := RelSt.stayF (F := F) (F' := F.guard p) ⟨fun _ _ h => h, fun _ h => h, fun _ _ => rfl⟩ (hs.stay s1)
  refine pairs_lift hsg gg h fun F2 ps G2 vs H2 s2 r2 g2 q2 => ?_
  match ps, r2, q2 with
  | [(kd, vd)], .cons (v := kv) (w := v) rk rv .nil, q2 =>
    obtain ⟨key, b, hk, hd, rfl, q2⟩ := keyAt_rep q2 rk
    obtain ⟨pp, hpp⟩ := s2.pr p (.inr rfl)
    have h2 : H2 p = some (.ext (RawF p #[])) := hpp.trans upd_same
    refine ⟨h2, F2, kd, key, b, v, rfl, rk, hk, hd, fun es' u ru he => ?_⟩
    have nz : ¬ F2.fz p := fun z => g2.dj p z pp
    have t3 : StayF X.K H2 F2 (upd H2 p (.ext (RawF p es'))) (F2.free p) := by
      refine ⟨fun a vs z => ?_, fun _ h => h, fun a z => upd_ne fun e => nz (e ▸ z)⟩
      rcases z with (z | ⟨ob, z⟩) | z
      · exact .inl (.inl (by rw [upd_ne (fun e => by rw [e, h2] at z; cases z)]; exact z))
      · exact .inl (.inr ⟨ob, by rw [upd_ne (fun e => by rw [e, h2] at z; cases z)]; exact z⟩)
      · exact .inr z
    have gn : G2 p = none := by
      cases e : G2 p with
      | none => rfl
      | some o => exact ((g2.g p o e).1 (.inr pp)).elim
    have g3 : RelG X.K (upd H2 p (.ext (RawF p es'))) (F2.free p) G2 := by
      refine g2.keep t3 (fun a z => ?_) (fun a z w => g2.dj a z w.1) fun a o e => ?_
      · by_cases e : a = p
        · subst e; exact ⟨_, upd_same⟩
        · rw [upd_ne e]; exact g2.fo a (z.imp id fun w => w.1)
      · have ne : a ≠ p := fun z => (g2.g a o e).1 (.inr (z ▸ pp))
        exact ⟨upd_ne ne, fun z => (g2.g a o e).1 (z.imp id fun w => w.1)⟩
    have nD : ∀ a, F.has a → a ≠ p := fun a h e => nf (e ▸ h)
    have whole : Stay X.K H F (upd H2 p (.ext (RawF p es'))) (F2.free p) := by
      refine ⟨⟨fun a xs h => t3.tup a xs (s2.tup a xs (s1.tup a xs h)), fun a h => s2.fz a h, fun a h => ?_⟩, fun a h => ⟨⟨(s2.pr a (.inl h)).1, nD a (.inr h)⟩, ?_⟩⟩
      · rw [upd_ne (nD a (.inl h)), s2.at_ a h]; exact upd_ne (nD a (.inl h))
      · rw [upd_ne (nD a (.inr h)), (s2.pr a (.inl h)).2]; exact upd_ne (nD a (.inr h))
    refine k (F2.free p) (.ref p) _ _ _ whole (.ref p) ⟨g3.fo, g3.dj, fun a o e => ?_⟩ (q2 p gn)
    by_cases z : a = p
    · subst z; rw [gup_same] at e; cases e
      refine ⟨fun z => z.elim nz fun w => w.2 rfl, (by show 1 ≤ sizeLine; rw [sizeLine_eq]; omega), hsm, by simp, es', upd_same, ?_⟩
      rw [he, hh]
      exact .cons (rk.stayF t3) hk hd (rv.stayF t3) ru .nil
    · rw [gup_ne z] at e; exact g3.g a o e
end DL
namespace DL
theorem hu9 {k : Nat} {A : PySem.Around} (r : L2.Room k A) : A.units + 9 < PySem.cLine := by have := r.un; omega
end DL
namespace DL
open PySem PySem.Spec L2 PyProof.Rows
def wPar3 (i j l : Nat) (ta : DA) : DS := fun D σ G => ta σ G fun vs G1 => match vs with | [u, v, w] => D.nx (((σ.set i (some u)).set j (some v)).set l (some w)) G1 | _ => False
theorem ds_par3 {X : Cx} {W : WX} {pos : Pos} (i j l : Nat) {x y z : Str} {a b c : Expr} {ta : DA} {px py pz pt : Pos} {kt k2 pt2} (hc : X.calm = true) (hN : X.N.Nodup) (ha : PA X [a, b, c] (liftA X.K ta)) (hi : X.N[i]? = some x := by rfl) (hj : X.N[j]? = some y := by rfl) (hl : X.N[l]? = some z := by rfl) (hij : i ≠ j := by decide) (hil : i ≠ l := by decide) (hjl : j ≠ l := by decide)
    (hx : X.env.scope.names.lookup x = some .local := by rfl) (hy : X.env.scope.names.lookup y = some .local := by rfl) (hz : X.env.scope.names.lookup z = some .local := by rfl)
    (hw : swappedStores [.Tuple [.Name x px, .Name y py, .Name z pz] kt pt] (.Tuple [a, b, c] k2 pt2) X.env = pure (some [x, y, z]) := by rfl)
    (hs : swapsWithSole [.Tuple [.Name x px, .Name y py, .Name z pz] kt pt] (.Tuple [a, b, c] k2 pt2) pos.line X.env = pure false := by rfl) :
    PS X (.Assign [.Tuple [.Name x px, .Name y py, .Name z pz] kt pt] (.Tuple [a, b, c] k2 pt2) pos) (liftS X.K W (wPar3 i j l ta)) :=
  PS.weak (ps_par3 hc hN hi hj hl hij hil hjl hx hy hz ha hw hs) fun D σ H ⟨F, σd, G, Dd, hs, hg, h, k⟩ => lift_bind hs hg h fun F1 xs G1 vs H1 s1 hs1 r1 g1 q1 => by
    split at q1
    · cases r1 with
      | cons r1 t => cases t with
        | cons r2 t => cases t with
          | cons r3 t => cases t; exact ⟨_, _, _, rfl, (k.go s1).nx.here (((hs1.set r1 i).set r2 j).set r3 l) g1 q1⟩
    · exact q1.elim
end DL
namespace DL
open PySem PySem.Spec L2 PyProof.Rows
/-! ### == of a list and [] -/
def rEqL0 (K : PySem.W.Frag) : R2 := fun x y H Q => ∃ a b xs, x = .ref a ∧ y = .ref b ∧ SqL K H a xs ∧ SqL K H b [] ∧ Q (.bl xs.isEmpty) H
theorem op_eqL0 {X : Cx} (hu : X.A.units < cLine) : OpR X (compareOp .Eq) (rEqL0 X.K) := by
  intro pins s σ H x y v u Q I rx ry h
  obtain ⟨a, b, xs, rfl, rfl, ha, hb, q⟩ := h
  cases rx
  cases ry
  obtain ⟨its, r1, p1, _⟩ := I.list ha
  obtain ⟨its2, r2, p2, _⟩ := I.list hb
  cases r2
  cases r1 with
  | nil => exact SeqAt.eq_listAt (e := fun _ => true) p1.isList p2.isList rfl hu (fun j _ h2 => absurd h2 (by simp)) ⟨.bl _, H, I, rfl, q⟩
  | cons _ _ => exact SeqAt.eq_list_lengthsAt p1.isList p2.isList (by simp) hu ⟨.bl _, H, I, rfl, q⟩
/-- x == [], x a list of anything -/
def rEqN : DR2 := fun x y G Q => match listOf G x with | some xs => (match y with | .lst [] => Q (.bl xs.isEmpty) G | _ => False) | none => False
theorem od_eqN {K : PySem.W.Frag} : OpD K (rEqL0 K) rEqN := by
  intro F H G x y v w Qd Q rx ry hg h k
  unfold rEqN at h
  split at h
  · rename_i xs e
    obtain ⟨_, a, vs, rfl, h1, r1⟩ := list_rep rx hg e
    cases ry with
    | @lst b ws es f h2 hl2 r2 =>
      cases r2 with
      | nil =>
        refine ⟨a, b, vs, rfl, rfl, SqL.of h1, SqL.of h2, k.here (.bl _) hg ?_⟩
        have : vs.isEmpty = xs.isEmpty := by cases r1 <;> rfl
        rw [this]; exact h
      | cons _ _ => exact (show False from h).elim
    | _ => exact (show False from h).elim
  · exact h.elim
end DL

/-! DLA: pop(0), reverse(), list + list that may change. -/
namespace DL
open PySem PySem.Spec L2
section
variable {X : Cx} {a b : Expr} {ta tb : DE}
/-- found.pop(0) -/
def wPop0 (to ti : DE) : DE := fun σ G Q => to σ G fun x G1 => match x with
  | .ref q => (goL (G1 q)).isSome = true ∧ ti σ G1 fun i G2 => i = .int 0 ∧ ∃ y l, G2 q = some (.lst (y :: l)) ∧ Q y (gup G2 q (.lst l))
  | _ => False
theorem de_pop0 {apos cpos : Pos} (ho : PE X a (lift X.K ta)) (hb : PE X b (lift X.K tb))
    (hbase : attributeBase a "pop" X.env (eval a X.env) = eval a X.env := by rfl)
    (hfew : ((backTo cpos (starEach [b] X.env)).all (fun x => !x.1) && (backToKw cpos (keywordEach [] X.env)).all (fun x => x.1.isSome)
      && decide ([b].length + ([] : List Keyword).length + (if ([] : List Keyword).isEmpty then 0 else 1) < 30)) = true := by rfl)
    (hline : (apos.endLine == cpos.line) = true := by rfl) (hs : starEach [b] X.env = (false, eval b X.env) :: starEach [] X.env := by rfl) (hplain : (backTo cpos (starEach [] X.env)).any (·.1) = false := by rfl) :
    PE X (.Call (.Attribute a "pop" apos) [b] [] cpos) (lift X.K (wPop0 ta tb)) := by
  refine PE.weak (pe_bm PySem.F.plainAttrs_list PySem.F.slot_list_pop PySem.F.type_list_pop mt_popAt ho (pa_cons hb pa_nil hs) hbase hfew hline hs hplain) fun σ H Q ⟨F, σd, G, Qd, hs, hg, h, k⟩ => ?_
  refine lift_bind hs hg h fun F1 x G1 v H1 s1 hs1 r1 g1 q1 => ?_
  cases r1 with
  | ref q =>
    obtain ⟨e, q1⟩ := q1
    obtain ⟨ds, e⟩ := Option.isSome_iff_exists.mp e
    obtain ⟨nf, hl, vs, hq, r⟩ := g1.g q _ (goL_some e)
    refine ⟨.inl ⟨rfl, _, SqL.of hq⟩, ?_⟩
    refine lift_bind hs1 g1 q1 fun F2 y G2 w H2 s2 hs2 r2 g2 q2 => ?_
    obtain ⟨rfl, y, l, e2, q2⟩ := q2
    cases r2
    obtain ⟨nf2, hl2, vs2, hq2, r3⟩ := g2.g q _ e2
    cases r3 with
    | @cons _ v0 _ vs' ry rt =>
      refine ⟨q, v0 :: vs', 0, 0, v0, rfl, rfl, hq2, by decide, by decide, by simp [seqIndex?], rfl, ?_⟩
      have s3 : Stay X.K H2 F2 (upd H2 q (.lst vs')) F2 := g2.wr e2
      exact k _ _ _ _ _ ((s1.trans s2).trans s3) (ry.stay s3) (g2.write (o' := .lst l) e2 ⟨by rw [List.length_cons] at hl2; omega, _, upd_same, rt.stay s3⟩) q2
  | _ => exact (show False from q1).elim
/-- found.reverse() -/
def wReverse (ta : DE) : DE := fun σ G Q => ta σ G fun x G1 => match x with
  | .ref q => ∃ l, G1 q = some (.lst l) ∧ Q .non (gup G1 q (.lst l.reverse))
  | _ => False
theorem de_reverse {apos cpos : Pos} (ho : PE X a (lift X.K ta)) (hbase : attributeBase a "reverse" X.env (eval a X.env) = eval a X.env := by rfl) (hline : (apos.endLine == cpos.line) = true := by rfl) :
    PE X (.Call (.Attribute a "reverse" apos) [] [] cpos) (lift X.K (wReverse ta)) := by
  refine PE.weak (pe_bm0 PySem.F.plainAttrs_list PySem.F.slot_list_reverse PySem.F.type_list_reverse mt_reverse ho hbase hline) fun σ H Q ⟨F, σd, G, Qd, hs, hg, h, k⟩ => ?_
  refine lift_bind hs hg h fun F1 x G1 v H1 s1 hs1 r1 g1 q1 => ?_
  cases r1 with
  | ref q =>
    obtain ⟨l, e, q1⟩ := q1
    obtain ⟨nf, hl, vs, hq, r⟩ := g1.g q _ e
    refine ⟨.inl ⟨rfl, _, SqL.of hq⟩, q, vs, rfl, rfl, hq, ?_⟩
    have s3 : Stay X.K H1 F1 (upd H1 q (.lst vs.reverse)) F1 := g1.wr e
    exact k _ _ _ _ _ (s1.trans s3) .non (g1.write (o' := .lst l.reverse) e ⟨by rw [List.length_reverse]; exact hl, _, upd_same, r.reverse.stay s3⟩) q1
  | _ => exact (show False from q1).elim
/-- xs + ys, a new list that may change -/
def rAddM : DR2 := fun x y G Q => lst2 (listOf G x) (listOf G y) fun xs ys => xs.length + ys.length ≤ sizeLine ∧ ∀ p, G p = none → Q (.ref p) (gup G p (.lst (xs ++ ys)))
theorem od_addM {K : PySem.W.Frag} : OpD K (rAddV K) rAddM := by
  intro F H G x y v w Qd Q rx ry hg h k
  unfold rAddM lst2 at h
  split at h
  · rename_i xs ys e1 e2
    obtain ⟨l1, a, vs, rfl, h1, r1⟩ := list_rep rx hg e1
    obtain ⟨l2, b, ws, rfl, h2, r2⟩ := list_rep ry hg e2
    refine .inr (.inr (.inr ⟨a, b, vs, ws, rfl, rfl, h1, h2, by rw [← r1.length, ← r2.length]; exact h.1, fun p hp => ?_⟩))
    obtain ⟨nf, s, g⟩ := hg.tupled (o := .lst (vs ++ ws)) hp
    exact k _ _ _ _ _ s (.ref p) (hg.made (u := .lst (xs ++ ys)) hp ⟨by rw [List.length_append]; exact h.1, _, upd_same, (r1.append r2).stay s⟩) (h.2 p (hg.gnone hp))
  · exact h.elim
/-- x in xs, x not in xs: a list of things that may be compared -/
def rInDp (neg : Bool) : DR2 := fun x y G Q => ∃ ds p ps, listOf G y = some ds ∧ toP x = some p ∧ toPs ds = some ps ∧ SeqAt.shaped p = true ∧ SeqAt.shaped (.list ps) = true ∧ Q (.bl (neg ^^ ps.any fun z => PyData.eqv z p)) G
theorem hu65 {k : Nat} {A : Around} (r : Room k A) : A.units + 65 < cLine := by have := r.un; omega
theorem od_inDp {K : PySem.W.Frag} : OpD K (rInD K) (rInDp false) := by
  intro F H G x y v w Qd Q rx ry hg h k
  obtain ⟨ds, p, ps, e, e1, e2, s1, s2, q⟩ := h
  obtain ⟨hl, a, vs, rfl, hs, r⟩ := list_rep ry hg e
  exact ⟨p, ps, toP_rep rx e1, .lst (SqL.of hs) (toPs_rep r e2), s1, s2, k.here (.bl _) hg (by simpa using q)⟩
theorem od_notInDp {K : PySem.W.Frag} : OpD K (rNotInD K) (rInDp true) := by
  intro F H G x y v w Qd Q rx ry hg h k
  obtain ⟨ds, p, ps, e, e1, e2, s1, s2, q⟩ := h
  obtain ⟨hl, a, vs, rfl, hs, r⟩ := list_rep ry hg e
  exact ⟨p, ps, toP_rep rx e1, .lst (SqL.of hs) (toPs_rep r e2), s1, s2, k.here (.bl _) hg (by simpa using q)⟩
end
end DL

/-! DLB: exceptions as values; a thing and itself; count of flags. -/
namespace PySem.W
open PySem PySem.Spec PySem.Calls PyProof.Rows
section
variable {prog : Program} {w : World} {A : Around} {E : Value → Shared → Prop} {s : Shared} {K : Frag} {x D : Addr} {ox : Obj} {od : Option Obj}
/-- e.__class__, e an exception of an own class, with a dict or without -/
theorem cls_of_exc {Q : Option Value → Shared → Prop} (g1 : findIn K (.ref D) "__getattribute__" = some (some (.builtin "BaseException.__getattribute__"))) (g2 : findIn K (.ref D) "__getattr__" = some none) (g3 : subIn K (.ref D) (.type "BaseException") = some true)
    (g4 : findObj K D od "__class__" = some (.bind (.builtin "getset_descriptor.__get__") (.builtin "object.__class__"))) (g5 : mroIn K D (.type "object") = some true)
    (X : K.In s.heap) (I : InstAt s.heap x ox D od) (q : Q (some (.ref D)) { s with toks := s.toks + 1 }) : wpAny (model prog w) A (getAttr? (.ref x) "__class__") Q E s := by
  obtain ⟨hp, g, d, t, os⟩ := s
  have T0 := I.type (M := model prog w); have T1 := looks_findIn (M := model prog w) X g1; have T2 := looks_findIn (M := model prog w) X g2; have T3 := looks_find (M := model prog w) X I g4
  have isE : Looks (model prog w) hp (isInstance (.ref x) (.type "BaseException")) true := T0.andThen (looks_subIn X g3)
  have ne0 : (Value.builtin "BaseException.__getattribute__" == Value.builtin "object.__getattribute__") = false := by decide +kernel
  unfold getAttr? getAttrBy? getAttrBy
  refine wpAny_bind (wpAny_mkText (wpAny_bind (wpAny_attempt (wpAny_holding (wpAny_bind (T0.at (wpAny_bind (T1.at ?_))))))))
  refine (?_ : wpAny _ _ (if (onTheHeap (Value.ref D) && Value.builtin "BaseException.__getattribute__" == Value.builtin "object.__getattribute__") = true then _ else _) _ _ _)
  rw [if_neg (fun z => by have z : (onTheHeap (Value.ref D) && Value.builtin "BaseException.__getattribute__" == Value.builtin "object.__getattribute__") = true := z; rw [ne0, Bool.and_false] at z; cases z)]
  unfold getAttrByItsOwn hookBefore
  refine wpAny_bind ?_; rw [if_pos (show onTheHeap (Value.ref D) = true from rfl)]
  refine T2.at (wpAny_bind (wpAny_attempt (wpAny_holding ?_)))
  unfold callGetattribute
  rw [if_neg (fun z => by have z : (false && onTheHeap (Value.builtin "BaseException.__getattribute__")) = true := z; cases z)]
  unfold boundAndCalled; rw [PySem.F.excAttr_ValueError.ga.bind (.ref x)]
  refine wpAny_bind (wpAny_pure (?_ : wpAny _ _ (call (.builtin "BaseException.__getattribute__") [.ref x, .str "__class__" t]) _ _ _))
  refine wpAny_call (codeAny_call_builtin PySem.F.excAttr_ValueError.ga.plain PySem.F.entry_bexc_ga (@check_slot (model prog w) _ _ ⟨hp, g, d, t + 1, os⟩ "BaseException.__getattribute__" "BaseException" "__getattribute__" (.ref x) [.str "__class__" t] [] _ (by decide +kernel) (by decide +kernel) isE (PySem.F.args_bexc_ga (.ref x) (.str "__class__" t)) ?_))
  unfold Builtin.«object.__getattribute__»
  refine wpAny_bind (wpAny_of_eq (a := ((Value.ref x : Value), [Value.str "__class__" t])) (by first | rfl | (simp only [slotArgs]; rfl)) (wpAny_bind (wpAny_pure (wpAny_bind (T0.at (wpAny_bind (T3.at ?_)))))))
  refine (?_ : wpAny _ _ (holding [Value.builtin "object.__class__"] (call (.builtin "getset_descriptor.__get__") [.builtin "object.__class__", .ref x, .ref D]) >>= ret) _ _ _)
  refine wpAny_bind (wpAny_holding (wpAny_call (class_get (s := ⟨hp, g, d, t + 1, os⟩) (ox := ox) (od := od) X I g5 (wpAny_pure ?_))))
  refine (?_ : wpAny _ _ (handedOut (.ref D)) _ _ _)
  rw [handedOut_of (v := .ref D) rfl]
  first
    | exact wpAny_pure (wpAny_pure q)
    | exact wpAny_pure q
    | exact wpAny_pure (wpAny_bind (wpAny_pure (wpAny_pure q)))
theorem kitx_ofexc (g1 : findIn K (.ref D) "__getattribute__" = some (some (.builtin "BaseException.__getattribute__"))) (g2 : findIn K (.ref D) "__getattr__" = some none) (g3 : subIn K (.ref D) (.type "BaseException") = some true)
    (g4 : findObj K D od "__class__" = some (.bind (.builtin "getset_descriptor.__get__") (.builtin "object.__class__"))) (g5 : mroIn K D (.type "object") = some true) (g6 : hasDictIn K D = true) : KitX K (.ref x) (.ref D) (fun h => InstAt h x ox D od) where
  ty := fun _ _ _ I => I.type
  it := fun _ _ X _ => by
    obtain ⟨cd, hc, _⟩ := any_some g6
    unfold clsIn at hc
    split at hc
    · rename_i ho
      intro A' Q' E' s' k q
      unfold isType loadHead
      exact wpAny_bind (wpAny_loadPart (k _ _ (X _ _ ho)) (wpAny_pure q))
    · cases hc
  ne := fun h tp dd its n sl X htp => by
    obtain ⟨cd, hc, _⟩ := any_some g6
    refine Bool.eq_false_iff.mpr fun q => ?_
    obtain rfl : D = tp := Value.ref.inj (beq_iff_eq.mp q)
    unfold clsIn at hc
    split at hc
    · rename_i ho
      have z := (X _ _ ho).symm.trans htp; cases z
    · cases hc
  ca := fun X I k => cls_of_exc g1 g2 g3 g4 g5 X I k
end
end PySem.W
namespace DL
open PySem PySem.Spec L2 PyProof.Rows
section
variable {X : Cx}
/-! ### X(), X(e) as values -/
theorem pe_new0 {C : Addr} {bmB : List Value} {B newId initId : String} {x : Str} {p pos : Pos} (F : ExcBaseFacts B newId initId bmB) (q : PySem.W.excIn X.K C bmB newId = true) (gC : X.mg x = some (.ref C)) (kC : PySem.W.keepIn X.K (.ref C) = true) (hg : Gl X x) (hdb : (x == ("__debug__" : Str)) = false := by decide) :
    PE X (.Call (.Name x p) [] [] pos) (fun _ H Q => ∀ a, H a = none → Q (.ref a) (upd H a (exo a C none))) := by
  refine ⟨fun pins s σ H Q I h => ?_⟩
  refine wpAny_Call_Name_kw (ld_glob I hg gC ?_ hdb)
  refine PySem.W.callWith_K0 I.kIn kC ?_
  show wpAny _ _ (call (.ref C) []) _ _ _
  obtain ⟨bm, N, nm, qn, bs, hdct, sn, sub, ab, col, dd, k0, k1, k2, k3, k5, mN, hC, hN, hni, T⟩ := exc_obj I.kIn q
  refine wpAny_call_exc_subT F T hC hN hni (fun h' a hm => ?_) (Nat.zero_le _)
  have hn := I.hok.gone hm.new
  obtain ⟨t, ht, _, _⟩ := hm.there
  exact ⟨.ref a, upd H a (exo a C none), I.laidN hm.keeps hm.new hn (exo_ok ht), rfl, h a hn⟩
def tMkV (C : Addr) (sp : Sp) (ta : TA) : TE := fun σ H Q => ta σ H fun vs H1 => vs.length ≤ 1000 ∧ ∀ a, H1 a = none → sp (.ref a :: vs) (upd H1 a (exo a C none)) (fun v H2 => v = .non ∧ Q (.ref a) H2) (fun _ _ _ => False)
theorem pe_new1 {CX : CXT} {x : Str} {C fI : Addr} {k : Nat} {fd : FuncData} {ps : List Str} {sp : Sp} {ta : TA} {e : Expr} {es : List Expr} {p pos : Pos} (T : OexC X.K C) (iC : PySem.W.findIn X.K (.ref C) "__init__" = some (some (.ref fI))) (tI : PySem.W.typeIn X.K (.ref fI) = some (.type "function"))
    (F1 : FnOk X.prog X.w X.K X.mg X.base CX k fI fd ps sp) (hr : Room (k + 1) X.A) (hb : Binds X.K fd ps []) (hx : Passes CX X (fun _ _ _ => False)) (hg : Gl X x) (hm : X.mg x = some (.ref C)) (ha : PA X (e :: es) ta)
    (hdb : (x == ("__debug__" : Str)) = false := by decide) (he : starEach (e :: es) X.env = (false, eval e X.env) :: starEach es X.env := by rfl) (hpl : (backTo pos (starEach es X.env)).any (·.1) = false := by rfl) :
    PE X (.Call (.Name x p) (e :: es) [] pos) (tMkV C sp ta) := by
  refine ⟨fun pins s σ H Q I h => ?_⟩
  obtain ⟨nm, q, N, bs, bm, sn, sub, ab, col, dd, k0, k1, k2, k3, k5, hC, hbm⟩ := T.cls
  refine wpAny_Call_Name_kw (ld_glob I hg hm (PySem.W.callWith_K (h₀ := X.base) I.ok.mod.kin T.kC (thn (ha.run pos pins s σ H _ I h) fun us s1 ⟨vs, H1, I1, r1, hz, q1⟩ => ⟨I1.kIn, (?_ : wpAny _ _ (call (.ref C) us) _ _ _)⟩) he hpl) hdb)
  obtain ⟨hp, g, dr, tk, os⟩ := s1
  have hsz : hp.objs.size ≤ hp.objs.size + 1 := Nat.le_succ _
  have hn : H1 (hp.objs.size + 1) = none := I1.hok.fresh hsz
  have hq := q1 (hp.objs.size + 1) hn
  have kk : ∀ b o, hp.get? b = some o → ((hp.push (PySem.W.kdv_tup us)).push (PySem.HandSPX.excO C hp.objs.size)).get? b = some o := fun b o e => Heap.get?_push_of_some _ (Heap.get?_push_of_some _ e)
  have hget : ((hp.push (PySem.W.kdv_tup us)).push (PySem.HandSPX.excO C hp.objs.size)).get? (hp.objs.size + 1) = some (PySem.HandSPX.excO C hp.objs.size) := by heap_get
  have I2 : Inv X pins σ (upd H1 (hp.objs.size + 1) (exo (hp.objs.size + 1) C none)) ⟨(hp.push (PySem.W.kdv_tup us)).push (PySem.HandSPX.excO C hp.objs.size), g, dr, tk, os⟩ :=
    I1.laid (t' := tk) (a := hp.objs.size + 1) (o := exo (hp.objs.size + 1) C none) (h' := (hp.push (PySem.W.kdv_tup us)).push (PySem.HandSPX.excO C hp.objs.size)) kk hsz (exo_ok hget)
  have r2 : Vals (V.ref (hp.objs.size + 1) :: vs) (Value.ref (hp.objs.size + 1) :: us) := .cons rfl r1
  have hl : (Value.ref (hp.objs.size + 1) :: us).length = ps.length := by
    have e := r2.length
    rw [F1.len _ _ _ _ hq] at e
    exact e.symm
  have hus : us.length ≤ sizeLine := by rw [← Paired.length r1, sizeLine_eq]; omega
  refine wpAny_call (PySem.HandSPX.call_own F.excBase_ValueError (fun Y => PySem.HandSPX.refsVE_contains Y bm hbm) (I1.kIn _ _ hC) (PySem.W.looks_findIn I1.kIn iC) (fun self => PySem.W.bind_fn I1.kIn self tI) hus
    (codeAny_mono (F1.run _ X.stack _ _ ⟨Value.ref (hp.objs.size + 1) :: us, []⟩ (Value.ref (hp.objs.size + 1) :: us) _ _ (fun _ _ _ => False) (hr.make C us []) (I2.env0.make C us []) (by have := hb ⟨(hp.push (PySem.W.kdv_tup us)).push (PySem.HandSPX.excO C hp.objs.size), g, dr, tk, os⟩ (Value.ref (hp.objs.size + 1) :: us) I2.kIn (by rw [List.append_nil]; exact hl); rw [List.append_nil] at this; exact this) r2 hq) fun r s' hq' => ?_))
  cases r with
  | error er => exact hx pins σ _ _ er s' I2 hq'
  | ok fl =>
    cases fl with
    | ret u =>
      obtain ⟨v, H2, os2, bare2, un2, hok2, rv, ev, q2⟩ := hq'
      subst ev
      have J := I2.call' (ch := []) os2 un2 hok2 bare2 (fun b z => absurd z (by simp))
      exact ⟨rv, .ref _, H2, J, rfl, q2⟩
    | next => exact False.elim hq'
    | brk => exact False.elim hq'
    | cont => exact False.elim hq'
/-! ### e.f, isinstance(e, C) -/
structure XoC (K : PySem.W.Frag) (C : Addr) : Prop where
  f : XfC K C
  ha : PySem.W.findIn K (.ref C) "__class__" = some (some (.builtin "object.__class__"))
  hn : PySem.W.specialIn K (.builtin "object.__class__") "__get__" = some (some (.builtin "getset_descriptor.__get__"))
  ht : PySem.W.takesIn K (.builtin "object.__class__") = some true
  hm : PySem.W.mroIn K C (.type "object") = some true
theorem xo_inst {pins : List (Addr × Obj)} {σ : L2.St} {H : Hp} {s : Shared} {a C : Addr} {d : Option Addr} (I : Inv X pins σ H s) (h : H a = some (exo a C d)) (hd : ∀ dx, d = some dx → ∃ fs, H dx = some (exd dx fs)) : ∃ ox od, PySem.W.InstAt s.heap a ox C od := by
  obtain ⟨t1, ho⟩ := exo_at I.hok h
  cases d with
  | none => exact ⟨_, none, ho, rfl, rfl, trivial⟩
  | some dx =>
    obtain ⟨fs, e⟩ := hd dx rfl
    obtain ⟨mA, hns, _⟩ := exd_at I.hok e
    obtain ⟨od, ho2, _⟩ := lookIn_ns hns
    exact ⟨_, some od, ho, rfl, rfl, ho2⟩
theorem xo_find {K : PySem.W.Frag} {C : Addr} (T : XoC K C) (od : Option Obj) : PySem.W.findObj K C od "__class__" = some (.bind (.builtin "getset_descriptor.__get__") (.builtin "object.__class__")) := by
  have hc : (PySem.W.clsIn K C).isSome = true := by obtain ⟨cd, hc, _⟩ := PySem.W.any_some T.f.hdC; rw [hc]; rfl
  cases od with
  | none => exact PySem.W.findObj_dataN hc T.ha T.hn T.ht
  | some o => exact PySem.W.findObj_data hc T.ha T.hn T.ht
def rIsX (K : PySem.W.Frag) : List V → Hp → VK → Prop := fun xs H Q => ∃ (a C : Addr) (d : Option Addr) (c : V) (cv : Value) (b : Bool), xs = [.ref a, c] ∧ ClsV c cv ∧ H a = some (exo a C d) ∧ (∀ dx, d = some dx → ∃ fs, H dx = some (exd dx fs)) ∧ XoC K C ∧ PySem.W.kitOne K (.ref C) cv = some b ∧ Q (.bl b) H
theorem call_isX : CallR X (.builtin "isinstance") (rIsX X.K) := by
  intro pins s σ H xs us Q I r h
  obtain ⟨a, C, d, c, cv, b, rfl, k, ea, ed, T, e, q⟩ := h
  cases r with
  | cons rx rr =>
    cases rr with
    | cons rt rr =>
      cases rr
      cases rx
      have e2 := k.eq rt
      subst e2
      obtain ⟨ox, od, J⟩ := xo_inst I ea ed
      exact PySem.W.kia_one (PySem.W.kitx_ofexc T.f.ga T.f.gg T.f.exC (xo_find T od) T.hm T.f.hdC) I.kIn J e (fun z => nomatch z) fun tk => ⟨.bl b, H, I.tok tk, rfl, q⟩
def tXoF (K : PySem.W.Frag) (C : Addr) (f : Str) (te : TE) : TE := fun σ H Q => te σ H fun x H1 => ∃ (a dx : Addr) (fs : List (Str × V)) (v : V), x = .ref a ∧ H1 a = some (exo a C (some dx)) ∧ H1 dx = some (exd dx fs) ∧ fs.lookup f = some v ∧ Q v H1
theorem pe_xof {C : Addr} {e : Expr} {te : TE} {pos : Pos} {n : Str} (T : XfC X.K C) (hno : PySem.W.findIn X.K (.ref C) n = some none) (he : PE X e te) (hb : attributeBase e n X.env (eval e X.env) = eval e X.env := by rfl) : PE X (.Attribute e n pos) (tXoF X.K C n te) := by
  refine ⟨fun pins s σ H Q I h => ?_⟩
  refine attr_of hb (thn (he.run pins s σ H _ I h) fun u s1 ⟨x, H1, I1, rx, a, dx, fs, v, ex, ea, ed, l, q⟩ => ?_)
  subst ex
  obtain rfl : u = Value.ref a := rx
  obtain ⟨t1, ho⟩ := exo_at I1.hok ea
  obtain ⟨mA, hns, hr⟩ := exd_at I1.hok ed
  obtain ⟨od, ho2, hl⟩ := lookIn_ns hns
  obtain ⟨u, hu, ru⟩ := RelO.some_of (v := v) (o := mA n) (by rw [← l]; exact hr n)
  have J : PySem.W.InstAt s1.heap a ({ cls := .ref C, dict := some dx, data := .fields #[.ref t1, .none, .none, .none, .bool false, .none] } : Obj) C (some od) := ⟨ho, rfl, rfl, ho2⟩
  exact PySem.HandSPX.exc_get I1.kIn J T.ga T.gg T.exC (PySem.W.findObj_own T.hdC hno rfl (by rw [hl, hu])) (handed_of ru) ⟨v, H1, I1.tok _, ru, q⟩
end
end DL

/-! DLC: exceptions as values, over data. -/
namespace DL
open PySem PySem.Spec L2 PyProof.Rows
section
variable {X : Cx} {e a c : Expr} {te ta : DE} {p pos : Pos} {x : Str} {k : Nat}
def wNewX0 (C : Addr) : DE := fun _ G Q => Q (.xo C []) G
theorem de_newX0 {C : Addr} {bmB : List Value} {B newId initId : String} (F : ExcBaseFacts B newId initId bmB) (T : ExcT X.K X.mg x C bmB newId) (hg : Gl X x) (hdb : (x == ("__debug__" : Str)) = false := by decide) : PE X (.Call (.Name x p) [] [] pos) (lift X.K (wNewX0 C)) :=
  PE.weak (pe_new0 F T.inK T.g T.kp hg hdb) fun σ H Q ⟨F, σd, G, Qd, hs, hg, h, k⟩ a ha => by
    obtain ⟨nf, s, g⟩ := hg.tupled (o := exo a C none) ha
    exact k (F.add a) (.xo C []) G (.ref a) _ (s.trans (Stay.froze (p := a))) (.xo0 (.inr rfl) upd_same) (g.froze (hg.gnone ha) upd_same fun z => nf (.inr z)) h
def wNewX1 (C : Addr) (fld : Str) (te : DE) : DE := fun σ G Q => te σ G fun y G1 => Q (.xo C [(fld, y)]) G1
theorem de_newX1 {C : Addr} {fld : Str} (T : ExcF X.prog X.w X.K X.mg X.base k x C fld) (hr : Room (k + 1) X.A) (hg : Gl X x) (he : PE X e (lift X.K te)) (hdb : (x == ("__debug__" : Str)) = false := by decide)
    (hs : starEach [e] X.env = (false, eval e X.env) :: starEach [] X.env := by rfl) (hpl : (backTo pos (starEach [] X.env)).any (·.1) = false := by rfl) : PE X (.Call (.Name x p) [e] [] pos) (lift X.K (wNewX1 C fld te)) := by
  obtain ⟨fI, fd, y, o, h1, h2, hb, F, hm⟩ := T.ex
  refine PE.weak (pe_new1 o h1 h2 F hr hb pass0 hg hm (pa_cons he pa_nil hs) hdb hs hpl) fun σ H Q ⟨F0, σd, G, Qd, hs, hg, h, kk⟩ => ?_
  refine lift_bind hs hg h fun F1 d G1 v H1 s1 hs1 r1 g1 q1 => ⟨by simp, fun a ha => ⟨a, v, rfl, upd_same, fun dx hdx hne => ⟨rfl, ?_⟩⟩⟩
  have hd1 : H1 dx = none := by rw [upd_ne hne] at hdx; exact hdx
  obtain ⟨nf, s2, g2⟩ := g1.tupled (o := exd dx [(fld, v)]) hd1
  have ha2 : upd H1 dx (exd dx [(fld, v)]) a = none := by rw [upd_ne (Ne.symm hne)]; exact ha
  obtain ⟨nf3, s3, g3⟩ := g2.tupled (o := exo a C (some dx)) ha2
  have eH : upd (upd (upd H1 a (exo a C none)) dx (exd dx [(fld, v)])) a (exo a C (some dx)) = upd (upd H1 dx (exd dx [(fld, v)])) a (exo a C (some dx)) := by
    funext b
    by_cases z : b = a
    · subst z; rw [upd_same, upd_same]
    · rw [upd_ne z, upd_ne z]
      by_cases z2 : b = dx
      · subst z2; rw [upd_same, upd_same]
      · rw [upd_ne z2, upd_ne z2, upd_ne z]
  rw [eH]
  have s4 := (s2.trans s3).trans ((Stay.froze (p := a)).trans (Stay.froze (p := dx)))
  have g4 := g3.froze (p := a) (g2.gnone ha2) upd_same fun z => nf3 (.inr z)
  have edx : upd (upd H1 dx (exd dx [(fld, v)])) a (exo a C (some dx)) dx = some (exd dx [(fld, v)]) := by rw [upd_ne hne, upd_same]
  have g5 := g4.froze (p := dx) (g1.gnone hd1) edx fun z => nf (.inr z)
  exact kk ((F1.add a).add dx) (.xo C [(fld, d)]) G1 (.ref a) _ (s1.trans s4) (.xo (.inl (.inr rfl)) upd_same (.inr rfl) edx (.cons (r1.stay s4) .nil)) g5 q1
def wXoF (C : Addr) (f : Str) (te : DE) : DE := fun σ G Q => te σ G fun x G1 => match x with
  | .xo C' fs => C' = C ∧ (match fs.lookup f with | some d => Q d G1 | none => False)
  | _ => False
theorem de_xoF {C : Addr} {n : Str} (T : XfC X.K C) (hno : NoAttr X.K C n) (he : PE X e (lift X.K te)) (hb : attributeBase e n X.env (eval e X.env) = eval e X.env := by rfl) : PE X (.Attribute e n pos) (lift X.K (wXoF C n te)) :=
  PE.weak (pe_xof T hno he hb) fun σ H Q ⟨F, σd, G, Qd, hs, hg, h, k⟩ => lift_bind hs hg h fun F1 x G1 v H1 s1 hs1 r1 g1 q1 => by
    cases r1 with
    | xo0 _ _ => exact q1.2.elim
    | @xo a C' dx vs fs f h1 g h2 r =>
      obtain ⟨rfl, q⟩ := q1
      split at q
      · rename_i d e
        obtain ⟨w, l, rw_⟩ := (r.lookup n).1 d e
        exact ⟨a, dx, vs, w, rfl, h1, h2, l, (k.go s1).here rw_ g1 q⟩
      · exact q.elim
    | _ => exact (show False from q1).elim
/-- isinstance(e, c), e an exception -/
structure IsX (K : PySem.W.Frag) (c : V) (ans : Addr → Option Bool) : Prop where
  ok : ∃ cv, ClsV c cv ∧ ∀ C b, ans C = some b → PySem.W.kitOne K (.ref C) cv = some b ∧ XoC K C
def wIsX (ans : Addr → Option Bool) (te : DE) : DE := fun σ G Q => te σ G fun x G1 => match x with | .xo C _ => isK (ans C) fun b => Q (.bl b) G1 | _ => False
theorem de_isX {ans : Addr → Option Bool} {cv : V} (A : IsX X.K cv ans) (hg : Gl X "isinstance") (hm : X.mg "isinstance" = none) (ha : PE X a (lift X.K ta)) (hc : PE X c (tC cv))
    (h1 : starEach [a, c] X.env = (false, eval a X.env) :: starEach [c] X.env := by rfl) (h2 : starEach [c] X.env = (false, eval c X.env) :: starEach [] X.env := by rfl) (hpl : (backTo pos (starEach [c] X.env)).any (·.1) = false := by rfl) :
    PE X (.Call (.Name "isinstance" p) [a, c] [] pos) (lift X.K (wIsX ans ta)) := by
  refine PE.weak (pe_callB call_isX hg hm PyProof.Rows.boot_isinstance (pa_cons ha (pa_cons hc pa_nil h2) h1) (by decide) (by decide) h1 hpl) fun σ H Q ⟨F, σd, G, Qd, hs, hg, h, k⟩ => ?_
  refine lift_bind hs hg h fun F1 x G1 v H1 s1 hs1 r1 g1 q1 => ?_
  obtain ⟨cw, hcv, A⟩ := A.ok
  have fin : ∀ (q : Addr) (C : Addr) (d : Option Addr), v = .ref q → H1 q = some (exo q C d) → (∀ dx, d = some dx → ∃ fs, H1 dx = some (exd dx fs)) → (isK (ans C) fun b => Qd (.bl b) G1) → rIsX X.K [v, cv] H1 Q := by
    intro q C d ev e1 e2 q1
    cases ea : ans C with
    | none => rw [ea] at q1; exact q1.elim
    | some b =>
      rw [ea] at q1
      obtain ⟨z1, z2⟩ := A C b ea
      exact ⟨q, C, d, cv, cw, b, by rw [ev], hcv, e1, e2, z2, z1, (k.go s1).here (.bl b) g1 q1⟩
  cases r1 with
  | xo0 f h => exact fin _ _ _ rfl h (fun dx e => by cases e) q1
  | xo f h g h2 r => exact fin _ _ _ rfl h (fun dx e => by cases e; exact ⟨_, h2⟩) q1
  | _ => exact (show False from q1).elim
/-! ### the very thing -/
def wPin (te : DE) : DE := fun σ G Q => te σ G fun d G1 => ∀ v, Q (.same v d) G1
theorem de_pin (he : PE X e (lift X.K te)) : PE X e (lift X.K (wPin te)) :=
  PE.weak he fun σ H Q ⟨F, σd, G, Qd, hs, hg, h, k⟩ => lift_bind hs hg h fun F1 d G1 v H1 s1 hs1 r1 g1 q1 => (k.go s1).here (.same r1) g1 (q1 v)
theorem eqAt_self {A : Around} {s : Shared} (v : Value) : SeqAt.EqAt A s v v true := fun prog w E Q hq => by
  unfold eqBool
  refine wpAny_holding ?_
  rw [if_pos (beq_self_eq_true v)]
  exact wpAny_bind (wpAny_rule (wpAny_pure hq))
theorem hits_self {κ : Type} [DecidableEq κ] {A : Around} {s : Shared} {kb : List (κ × Value)} (nd : (kb.map (·.1)).Nodup) : ∀ l : List (κ × Value), (∀ p ∈ l, p ∈ kb) → PySem.W.KeqHits A s kb l true
  | [], _ => .nil
  | (k, v) :: l, h => by
    have ih := hits_self (A := A) (s := s) nd l fun p hp => h p (List.mem_cons_of_mem _ hp)
    have hv : valueAt kb k = some v := by
      have hm := h (k, v) List.mem_cons_self
      clear ih h
      induction kb with
      | nil => cases hm
      | cons q kb ih =>
        obtain ⟨n1, n2⟩ := List.nodup_cons.mp nd
        unfold valueAt at ih ⊢
        by_cases e : q.1 = k
        · rw [List.find?_cons_of_pos (by simpa using e)]
          rcases List.mem_cons.mp hm with hm | hm
          · rw [← hm]; rfl
          · exact (n1 (by show q.1 ∈ _; rw [e]; exact List.mem_map.mpr ⟨(k, v), hm, rfl⟩)).elim
        · rw [List.find?_cons_of_neg (by simpa using e)]
          exact ih n2 ((List.mem_cons.mp hm).resolve_left fun z => e (by rw [← z]))
    exact PySem.W.KeqHits.hit (e := true) (b := true) hv (eqAt_self v) ih
def rNeS (K : PySem.W.Frag) : R2 := fun x y H Q => x = y ∧ ((scal x x = true) ∨ (∃ a xs, x = .ref a ∧ (SqL K H a xs ∨ SqT K H a xs)) ∨ ∃ a ks, x = .ref a ∧ H a = some (.dK ks)) ∧ Q (.bl false) H
theorem all_true (n : Nat) : ((List.range n).all fun _ => true) = true := by simp
theorem op_neS (hu : X.A.units < cLine) : OpR X (compareOp .NotEq) (rNeS X.K) := by
  intro pins s σ H x y v u Q I rx ry h
  obtain ⟨rfl, hk, q⟩ := h
  rcases hk with hk | ⟨a, xs, rfl, hk⟩ | ⟨a, ks, rfl, hk⟩
  · exact op_ne pins s σ H x x v u Q I rx ry ⟨hk, by rw [decide_eq_true rfl]; exact q⟩
  · cases rx
    cases ry
    rcases hk with hk | hk
    · obtain ⟨its, r, pl, hz⟩ := I.list hk
      exact SeqAt.RcNeAt.lists (e := fun _ => true) pl.isList pl.isList rfl hu (fun j _ _ => eqAt_self _) X.prog X.w _ _ ⟨.bl false, H, I, by rw [all_true]; rfl, q⟩
    · obtain ⟨its, r, pl, hz⟩ := I.tuple hk
      exact SeqAt.RcNeAt.tuples (e := fun _ => true) pl pl hu (fun j _ _ => eqAt_self _) X.prog X.w _ _ ⟨.bl false, H, I, by rw [all_true]; simp; rfl, q⟩
  · cases rx
    cases ry
    obtain ⟨_, ya, va, ra, da⟩ := (show ObjOk X.prog X.w H s.heap a (.dK ks) from I.hok a _ hk)
    refine PySem.W.keq_ne (knd := mixKind X.prog X.w) (r := true) ya ya da da hu (fun _ => hits_self ?_ va fun p hp => hp) ⟨.bl false, H, I, by simp; rfl, q⟩
    obtain ⟨o, es, ep, z1, z2, z3, z4, z5, z6⟩ := da
    exact z6
def rNeSame : DR2 := fun x y G Q => match x with
  | .same v d => (match y with | .same w _ => v = w ∧ (dataTag d).isSome = true ∧ Q (.bl false) G | _ => False)
  | _ => False
theorem od_neS {K : PySem.W.Frag} : OpD K (rNeS K) rNeSame := by
  intro F H G x y v w Qd Q rx ry hg h k
  cases rx with
  | @same v d r =>
    cases ry with
    | @same w d' r' =>
      obtain ⟨rfl, hd, q⟩ := h
      refine ⟨rfl, ?_, k.here (.bl false) hg q⟩
      cases r with
      | non => exact .inl rfl
      | bl b => exact .inl rfl
      | int i => exact .inl rfl
      | str x h => exact .inl rfl
      | tup h _ _ => exact .inr (.inl ⟨_, _, rfl, .inr h⟩)
      | lst f h _ _ => exact .inr (.inl ⟨_, _, rfl, .inl (SqL.of h)⟩)
      | dic f h _ _ => exact .inr (.inr ⟨_, _, rfl, h⟩)
      | _ => cases hd
    | _ => exact (show False from h).elim
  | _ => exact (show False from h).elim
/-! ### flags.count(True) -/
def rCntB (K : PySem.W.Frag) : V → List V → Hp → VK → Prop := fun x xs H Q => ∃ (p : Addr) (bs : List Bool), x = .ref p ∧ xs = [.bl true] ∧ SqL K H p (bs.map V.bl) ∧ Q (.int (bs.count true : Nat)) H
theorem cnt_eqU : ∀ {bs : List Bool} {us : List Value}, Vals (bs.map V.bl) us → us.countP (eqU (.bl true)) = bs.count true
  | [], _, .nil => rfl
  | b :: bs, u :: us, .cons r t => by
    have ih := cnt_eqU (bs := bs) t
    rw [List.countP_cons, List.count_cons, ih, eqU_of r (show flatV (.bl b) = true from rfl)]
    cases b <;> rfl
theorem mt_countB : MtR X "list.count" (rCntB X.K) := by
  intro pins s σ H x xs v us Q I rx rxs h
  obtain ⟨p, bs, rfl, rfl, hs, q⟩ := h
  cases rx
  obtain ⟨u, rfl, ru⟩ := rxs.one
  cases ru
  obtain ⟨its, rv, ⟨⟨cls, dd, data, sl⟩, n, ho, hc, hdn, hd⟩, hlen⟩ := I.list hs
  simp only at hc hd
  subst hc hd
  have fl : (bs.map V.bl).all flatV = true := by rw [List.all_map]; exact List.all_eq_true.mpr fun _ _ => rfl
  refine call_meets PySem.F.slot_list_count ⟨_, ho, rfl⟩ PySem.F.entry_list_count (PySem.F.args_list_count_2 _ _)
    (SeqAt.list_countAt p its.toArray n dd sl (.bool true) (eqU (.bl true))) ⟨ho, fun y hy => mem_eqAt (x := .bl true) rfl rfl rv fl y (by simpa using hy), ?_⟩
  refine ⟨.int (bs.count true : Nat), H, I.tok _, ⟨s.toks, ?_⟩, q⟩
  show Value.int ((its.toArray.toList.countP (eqU (.bl true)) : Nat) : Int) s.toks = Value.int ((bs.count true : Nat) : Int) s.toks
  rw [show its.toArray.toList = its by simp, cnt_eqU rv]
def wCountT (to ta : DE) : DE := fun σ G Q => to σ G fun x G1 => match listOf G1 x with
  | some ds => ∃ bs, blsOf ds = some bs ∧ ta σ G1 fun y G2 => y = .bl true ∧ G2 = G1 ∧ Q (.int (bs.count true : Nat)) G1
  | none => False
theorem de_countT {b : Expr} {tb : DE} {apos cpos : Pos} (ho : PE X a (lift X.K ta)) (hb : PE X b (lift X.K tb))
    (hbase : attributeBase a "count" X.env (eval a X.env) = eval a X.env := by rfl)
    (hfew : ((backTo cpos (starEach [b] X.env)).all (fun x => !x.1) && (backToKw cpos (keywordEach [] X.env)).all (fun x => x.1.isSome)
      && decide ([b].length + ([] : List Keyword).length + (if ([] : List Keyword).isEmpty then 0 else 1) < 30)) = true := by rfl)
    (hline : (apos.endLine == cpos.line) = true := by rfl) (hs : starEach [b] X.env = (false, eval b X.env) :: starEach [] X.env := by rfl) (hplain : (backTo cpos (starEach [] X.env)).any (·.1) = false := by rfl) :
    PE X (.Call (.Attribute a "count" apos) [b] [] cpos) (lift X.K (wCountT ta tb)) := by
  refine PE.weak (pe_bm PySem.F.plainAttrs_list PySem.F.slot_list_count PySem.F.type_list_count mt_countB ho (pa_cons hb pa_nil hs) hbase hfew hline hs hplain) fun σ H Q ⟨F, σd, G, Qd, hs, hg, h, k⟩ => ?_
  refine lift_bind hs hg h fun F1 x G1 v H1 s1 hs1 r1 g1 q1 => ?_
  split at q1
  · rename_i ds e
    obtain ⟨bs, eb, q1⟩ := q1
    obtain ⟨hl, q, vs, rfl, hq, r⟩ := list_rep r1 g1 e
    refine ⟨.inl ⟨rfl, _, SqL.of hq⟩, ?_⟩
    refine lift_bind hs1 g1 q1 fun F2 y G2 w H2 s2 hs2 r2 g2 q2 => ?_
    obtain ⟨rfl, rfl, q2⟩ := q2
    cases r2
    obtain ⟨hl2, q', vs2, eq', hq2, r2⟩ := list_rep (r1.stay s2) g2 e
    cases eq'
    have ev := blsOf_rep r2 eb
    subst ev
    exact ⟨q, bs, rfl, rfl, SqL.of hq2, (k.go (s1.trans s2)).here (.int _) g2 q2⟩
  · exact q1.elim
end
end DL

/-! DV: what a VC needs. -/
namespace DL
open PySem PySem.Spec L2
theorem rt_here {K : PySem.W.Frag} {Q : DQ} {d : D} {G : Gh} (h : Q d G) : (endsOf K Q).rt d G := ⟨d, G, .refl, h⟩
theorem nx_here {K : PySem.W.Frag} {Q : DQ} {σ : DSt} {G : Gh} (h : Q .non G) : (endsOf K Q).nx σ G := ⟨.non, G, .refl, h⟩
/-- things whose type is known of itself -/
def okT (OC : Addr → Bool) : D → Bool
  | .ref _ => false
  | .ty _ => false
  | .scr _ => false
  | .obj C _ => OC C
  | .exc _ _ _ _ => false
  | .xo _ _ => false
  | .same _ _ => false
  | _ => true
def isT (T : Tg) : D → Bool
  | .non => isB .non T | .bl _ => isB .bl T | .int _ => isB .int T | .str _ => isB .str T
  | .tup _ => isB .tup T | .lst _ => isB .lst T | .dic _ => isB .dic T
  | _ => false
theorem isK_ok {OC : Addr → Bool} {G : Gh} {d : D} {T : Tg} {P : Bool → Prop} (h : okT OC d = true) (p : P (isT T d)) : isK ((tagOf G d).bind (ansB T OC)) P := by
  cases d with
  | obj C fs =>
    have h : OC C = true := h
    show isK (if OC C then some false else none) P
    rw [if_pos h]; exact p
  | ref _ => cases h
  | ty _ => cases h
  | scr _ => cases h
  | exc _ _ _ _ => cases h
  | xo _ _ => cases h
  | same _ _ => cases h
  | _ => exact p
theorem slot_def (σ : DSt) (i : Nat) : slot σ i = (σ[i]?).join := rfl
/-- a list of what a test tells -/
theorem blsOf_map' {α : Type} (f : α → Bool) (l : List α) : blsOf (l.map fun x => D.bl (f x)) = some (l.map f) := by
  rw [show (l.map fun x => D.bl (f x)) = (l.map f).map D.bl by rw [List.map_map]; rfl]
  exact blsOf_map _
theorem intsOf_map' {α : Type} (f : α → Int) (l : List α) : intsOf (l.map fun x => D.int (f x)) = some (l.map f) := by
  rw [show (l.map fun x => D.int (f x)) = (l.map f).map D.int by rw [List.map_map]; rfl]
  exact intsOf_map _
theorem all_id_map {α : Type} (f : α → Bool) (l : List α) : (l.map f).all id = l.all f := by
  rw [List.all_map]; rfl
/-- a comprehension over items, each of which gives a value and leaves the rest -/
theorem comp_map {chk : Gh → Prop} {g : DG} {te : DE} {σ : DSt} {f : D → D} {G : Gh} {Q : List D → Gh → Prop} : ∀ (ds acc : List D), chk G → acc.length + ds.length ≤ sizeLine →
    (∀ d ∈ ds, ∀ Q', Q' (f d) G → g d σ G fun σ1 G1 => te σ1 G1 Q') → Q (acc ++ ds.map f) G → wComp chk g wYes te σ ds acc G Q
  | [], acc, hc, hl, h, q => ⟨hc, by simpa using q⟩
  | d :: ds, acc, hc, hl, h, q => by
    rw [List.length_cons] at hl
    have k := h d List.mem_cons_self (fun y G3 => acc.length < sizeLine ∧ wComp chk g wYes te σ ds (acc ++ [y]) G3 Q)
      ⟨by omega, comp_map ds (acc ++ [f d]) hc (by rw [List.length_append]; simp only [List.length_cons, List.length_nil]; omega) (fun x hx => h x (List.mem_cons_of_mem _ hx)) (by rw [List.append_assoc]; exact q)⟩
    refine ⟨hc, ?_⟩
    exact k
/-- a loop: I holds of what is left -/
theorem loop_rule {chk : Gh → Prop} {g : DG} {tb : DS} {D0 : DEnds} (I : List D → DSt → Gh → Prop) (hnil : ∀ σ G, I [] σ G → chk G ∧ D0.nx σ G)
    (hcons : ∀ d ds (N : DSt → Gh → Prop) σ G, (∀ σ G, I ds σ G → N σ G) → I (d :: ds) σ G → chk G ∧ g d σ G fun σ1 G1 => tb { D0 with nx := N, ct := N, bk := D0.nx } σ1 G1) :
    ∀ items σ G, I items σ G → wLoop chk g tb items D0 σ G
  | [], σ, G, h => hnil σ G h
  | d :: ds, σ, G, h => hcons d ds _ σ G (loop_rule I hnil hcons ds) h
theorem comp_rule {chk : Gh → Prop} {g : DG} {tt : DT} {te : DE} {σ : DSt} {Q : List D → Gh → Prop} (I : List D → List D → Gh → Prop) (hnil : ∀ acc G, I [] acc G → chk G ∧ Q acc G)
    (hcons : ∀ d ds (N : List D → Gh → Prop) acc G, (∀ acc G, I ds acc G → N acc G) → I (d :: ds) acc G → chk G ∧ g d σ G fun σ1 G1 => tt σ1 G1 fun b G2 => if b = true then te σ1 G2 fun y G3 => acc.length < sizeLine ∧ N (acc ++ [y]) G3 else N acc G2) :
    ∀ items acc G, I items acc G → wComp chk g tt te σ items acc G Q
  | [], acc, G, h => hnil acc G h
  | d :: ds, acc, G, h => hcons d ds _ acc G (comp_rule I hnil hcons ds) h
theorem Sub.set {G0 G : Gh} {p : Addr} {x y : GO} (h : Sub (gup G0 p x) G) : Sub (gup G0 p y) (gup G p y) := fun a o e => by
  by_cases z : a = p
  · subst z; rw [gup_same] at e ⊢; exact e
  · rw [gup_ne z] at e ⊢; exact h a o (by rw [gup_ne z]; exact e)
theorem wIf_val {tc : DT} {ta tb : DE} {σ : DSt} {G : Gh} {Q : DQ} {b : Bool} {va vb : D} (hc : ∀ P : Bool → Gh → Prop, P b G → tc σ G P) (ha : b = true → ∀ Q : DQ, Q va G → ta σ G Q) (hb : b = false → ∀ Q : DQ, Q vb G → tb σ G Q)
    (q : Q (if b then va else vb) G) : wIf tc ta tb σ G Q := by
  refine hc _ ?_
  cases b with
  | true => exact ha rfl _ q
  | false => exact hb rfl _ q
theorem seq_rule {A T : DS} {D0 : DEnds} {σ : DSt} {G : Gh} (I : DSt → Gh → Prop) (hA : ∀ N : DSt → Gh → Prop, (∀ σ' G', I σ' G' → N σ' G') → A { D0 with nx := N } σ G) (hT : ∀ σ' G', I σ' G' → T D0 σ' G') : wSeq A T D0 σ G := hA _ hT
abbrev recSp := @recSpB
end DL

/-! V3f: facts of words. -/
namespace P3
open PySem PySem.Spec L2 DL
abbrev TB : List (Str × D) := [("either", .int 2), ("again", .int 1)]
section
variable {α : Type} {a b c d : α} {l : List α}
theorem ixN_in {n j : Nat} (h : j < n) : ixN n (j : Int) = some j := by
  unfold ixN
  rw [if_pos (by omega), if_pos (by omega), Int.toNat_natCast]
theorem atI_in {l : List α} {j : Nat} (h : j < l.length) : atI l (j : Int) = l[j]? := by
  unfold atI
  rw [ixN_in h]; rfl
theorem at0 : atI (a :: l) 0 = some a := by
  rw [show (0 : Int) = ((0 : Nat) : Int) from rfl, atI_in (by simp)]; rfl
theorem at1 : atI (a :: b :: l) 1 = some b := by
  rw [show (1 : Int) = ((1 : Nat) : Int) from rfl, atI_in (by simp)]; rfl
theorem at2 : atI (a :: b :: c :: l) 2 = some c := by
  rw [show (2 : Int) = ((2 : Nat) : Int) from rfl, atI_in (by simp)]; rfl
theorem at3 : atI (a :: b :: c :: d :: l) 3 = some d := by
  rw [show (3 : Int) = ((3 : Nat) : Int) from rfl, atI_in (by simp)]; rfl
theorem at4 {e : α} : atI (a :: b :: c :: d :: e :: l) 4 = some e := by
  rw [show (4 : Int) = ((4 : Nat) : Int) from rfl, atI_in (by simp)]; rfl
theorem atm : atI (l ++ [a]) (-1) = some a := by
  unfold atI ixN
  rw [if_neg (by decide), if_pos (by simp; omega)]
  show (l ++ [a])[(-1 + (((l ++ [a]).length : Nat) : Int)).toNat]? = some a
  rw [show (-1 + (((l ++ [a]).length : Nat) : Int)).toNat = l.length by rw [List.length_append]; simp only [List.length_cons, List.length_nil]; omega]
  simp
end
theorem cut1 {a : D} {l : List D} : cutD (a :: l) (some 1) none = l := by
  unfold cutD HT.sIx
  simp
theorem cutAll {l : List D} : cutD l none none = l := by
  unfold cutD HT.sIx
  simp
theorem x51 : ixN 5 1 = some 1 := by decide
theorem x52 : ixN 5 2 = some 2 := by decide
theorem x53 : ixN 5 3 = some 3 := by decide
theorem x54 : ixN 5 4 = some 4 := by decide
theorem rn2 : rng 0 (Int.toNat 2) = [.int 0, .int 1] := rfl
theorem lkb {d : D} : List.lookup ("block" : Str) [("block", d)] = some d := by rfl
theorem flstr {x : Str} : flatD (.str x) = true := rfl
theorem flint {x : Int} : flatD (.int x) = true := rfl
theorem flnon : flatD .non = true := rfl
theorem flbl {b : Bool} : flatD (.bl b) = true := rfl
theorem fl1 {l : List Int} : (l.map D.int).all flatD = true := by rw [List.all_map]; exact List.all_eq_true.mpr fun _ _ => rfl
theorem fl2 {l : List Str} : (l.map D.str).all flatD = true := by rw [List.all_map]; exact List.all_eq_true.mpr fun _ _ => rfl
theorem cz0 : ((0 : Nat) : Int) = 0 := rfl
theorem cz1 : ((1 : Nat) : Int) = 1 := rfl
theorem cz2 : ((2 : Nat) : Int) = 2 := rfl
theorem cz3 : ((3 : Nat) : Int) = 3 := rfl
theorem cz4 : ((4 : Nat) : Int) = 4 := rfl
theorem cz5 : ((5 : Nat) : Int) = 5 := rfl
theorem cz6 : ((6 : Nat) : Int) = 6 := rfl
theorem cz7 : ((7 : Nat) : Int) = 7 := rfl
theorem cz8 : ((8 : Nat) : Int) = 8 := rfl
theorem cz9 : ((9 : Nat) : Int) = 9 := rfl
theorem t_tup {ds : List D} : isT .tup (.tup ds) = true := rfl
theorem t_str {x : Str} : isT .str (.str x) = true := rfl
theorem t_int {x : Int} : isT .int (.int x) = true := rfl
theorem t_bl {x : Bool} : isT .bl (.bl x) = true := rfl
theorem lt0 : (0 < sizeLine) = True := eq_true (by rw [sizeLine_eq]; omega)
theorem lt1 : (1 < sizeLine) = True := eq_true (by rw [sizeLine_eq]; omega)
theorem lt2 : (2 < sizeLine) = True := eq_true (by rw [sizeLine_eq]; omega)
theorem lt3 : (3 < sizeLine) = True := eq_true (by rw [sizeLine_eq]; omega)
theorem lt4 : (4 < sizeLine) = True := eq_true (by rw [sizeLine_eq]; omega)
theorem lt5 : (5 < sizeLine) = True := eq_true (by rw [sizeLine_eq]; omega)
theorem lt6 : (6 < sizeLine) = True := eq_true (by rw [sizeLine_eq]; omega)
theorem zl0 : (0 ≤ sizeLine) = True := eq_true (Nat.zero_le _)
theorem zl1 : (1 ≤ sizeLine) = True := eq_true (by rw [sizeLine_eq]; omega)
theorem zl2 : (2 ≤ sizeLine) = True := eq_true (by rw [sizeLine_eq]; omega)
theorem zl3 : (3 ≤ sizeLine) = True := eq_true (by rw [sizeLine_eq]; omega)
theorem zl4 : (4 ≤ sizeLine) = True := eq_true (by rw [sizeLine_eq]; omega)
theorem zl5 : (5 ≤ sizeLine) = True := eq_true (by rw [sizeLine_eq]; omega)
theorem zl6 : (6 ≤ sizeLine) = True := eq_true (by rw [sizeLine_eq]; omega)
theorem zl9 : (9 ≤ sizeLine) = True := eq_true (by rw [sizeLine_eq]; omega)
theorem s_note_copy : decide (("note" : Str) = "copy") = false := by decide +kernel
theorem s_note_give : decide (("note" : Str) = "give") = false := by decide +kernel
theorem s_note_ask : decide (("note" : Str) = "ask") = false := by decide +kernel
theorem s_note_print : decide (("note" : Str) = "print") = false := by decide +kernel
theorem s_note_either : decide (("note" : Str) = "either") = false := by decide +kernel
theorem s_note_again : decide (("note" : Str) = "again") = false := by decide +kernel
theorem s_note_call : decide (("note" : Str) = "call") = false := by decide +kernel
theorem s_copy_note : decide (("copy" : Str) = "note") = false := by decide +kernel
theorem s_copy_give : decide (("copy" : Str) = "give") = false := by decide +kernel
theorem s_copy_ask : decide (("copy" : Str) = "ask") = false := by decide +kernel
theorem s_copy_print : decide (("copy" : Str) = "print") = false := by decide +kernel
theorem s_copy_either : decide (("copy" : Str) = "either") = false := by decide +kernel
theorem s_copy_again : decide (("copy" : Str) = "again") = false := by decide +kernel
theorem s_copy_call : decide (("copy" : Str) = "call") = false := by decide +kernel
theorem s_give_note : decide (("give" : Str) = "note") = false := by decide +kernel
theorem s_give_copy : decide (("give" : Str) = "copy") = false := by decide +kernel
theorem s_give_ask : decide (("give" : Str) = "ask") = false := by decide +kernel
theorem s_give_print : decide (("give" : Str) = "print") = false := by decide +kernel
theorem s_give_either : decide (("give" : Str) = "either") = false := by decide +kernel
theorem s_give_again : decide (("give" : Str) = "again") = false := by decide +kernel
theorem s_give_call : decide (("give" : Str) = "call") = false := by decide +kernel
theorem s_ask_note : decide (("ask" : Str) = "note") = false := by decide +kernel
theorem s_ask_copy : decide (("ask" : Str) = "copy") = false := by decide +kernel
theorem s_ask_give : decide (("ask" : Str) = "give") = false := by decide +kernel
theorem s_ask_print : decide (("ask" : Str) = "print") = false := by decide +kernel
theorem s_ask_either : decide (("ask" : Str) = "either") = false := by decide +kernel
theorem s_ask_again : decide (("ask" : Str) = "again") = false := by decide +kernel
theorem s_ask_call : decide (("ask" : Str) = "call") = false := by decide +kernel
theorem s_print_note : decide (("print" : Str) = "note") = false := by decide +kernel
theorem s_print_copy : decide (("print" : Str) = "copy") = false := by decide +kernel
theorem s_print_give : decide (("print" : Str) = "give") = false := by decide +kernel
theorem s_print_ask : decide (("print" : Str) = "ask") = false := by decide +kernel
theorem s_print_either : decide (("print" : Str) = "either") = false := by decide +kernel
theorem s_print_again : decide (("print" : Str) = "again") = false := by decide +kernel
theorem s_print_call : decide (("print" : Str) = "call") = false := by decide +kernel
theorem s_either_note : decide (("either" : Str) = "note") = false := by decide +kernel
theorem s_either_copy : decide (("either" : Str) = "copy") = false := by decide +kernel
theorem s_either_give : decide (("either" : Str) = "give") = false := by decide +kernel
theorem s_either_ask : decide (("either" : Str) = "ask") = false := by decide +kernel
theorem s_either_print : decide (("either" : Str) = "print") = false := by decide +kernel
theorem s_either_again : decide (("either" : Str) = "again") = false := by decide +kernel
theorem s_either_call : decide (("either" : Str) = "call") = false := by decide +kernel
theorem s_again_note : decide (("again" : Str) = "note") = false := by decide +kernel
theorem s_again_copy : decide (("again" : Str) = "copy") = false := by decide +kernel
theorem s_again_give : decide (("again" : Str) = "give") = false := by decide +kernel
theorem s_again_ask : decide (("again" : Str) = "ask") = false := by decide +kernel
theorem s_again_print : decide (("again" : Str) = "print") = false := by decide +kernel
theorem s_again_either : decide (("again" : Str) = "either") = false := by decide +kernel
theorem s_again_call : decide (("again" : Str) = "call") = false := by decide +kernel
theorem s_call_note : decide (("call" : Str) = "note") = false := by decide +kernel
theorem s_call_copy : decide (("call" : Str) = "copy") = false := by decide +kernel
theorem s_call_give : decide (("call" : Str) = "give") = false := by decide +kernel
theorem s_call_ask : decide (("call" : Str) = "ask") = false := by decide +kernel
theorem s_call_print : decide (("call" : Str) = "print") = false := by decide +kernel
theorem s_call_either : decide (("call" : Str) = "either") = false := by decide +kernel
theorem s_call_again : decide (("call" : Str) = "again") = false := by decide +kernel
theorem s_note : decide (("note" : Str) = "note") = true := by decide +kernel
theorem s_copy : decide (("copy" : Str) = "copy") = true := by decide +kernel
theorem s_give : decide (("give" : Str) = "give") = true := by decide +kernel
theorem s_ask : decide (("ask" : Str) = "ask") = true := by decide +kernel
theorem s_print : decide (("print" : Str) = "print") = true := by decide +kernel
theorem s_either : decide (("either" : Str) = "either") = true := by decide +kernel
theorem s_again : decide (("again" : Str) = "again") = true := by decide +kernel
theorem s_call : decide (("call" : Str) = "call") = true := by decide +kernel
theorem i_note : inF (.str "note") [.str "ask", .str "print"] = false := by decide +kernel
theorem j_note : inF (.str "note") [.str "either", .str "again"] = false := by decide +kernel
theorem l_note : List.lookup ("note" : Str) TB = none := by rfl
theorem i_copy : inF (.str "copy") [.str "ask", .str "print"] = false := by decide +kernel
theorem j_copy : inF (.str "copy") [.str "either", .str "again"] = false := by decide +kernel
theorem l_copy : List.lookup ("copy" : Str) TB = none := by rfl
theorem i_give : inF (.str "give") [.str "ask", .str "print"] = false := by decide +kernel
theorem j_give : inF (.str "give") [.str "either", .str "again"] = false := by decide +kernel
theorem l_give : List.lookup ("give" : Str) TB = none := by rfl
theorem i_ask : inF (.str "ask") [.str "ask", .str "print"] = true := by decide +kernel
theorem j_ask : inF (.str "ask") [.str "either", .str "again"] = false := by decide +kernel
theorem l_ask : List.lookup ("ask" : Str) TB = none := by rfl
theorem i_print : inF (.str "print") [.str "ask", .str "print"] = true := by decide +kernel
theorem j_print : inF (.str "print") [.str "either", .str "again"] = false := by decide +kernel
theorem l_print : List.lookup ("print" : Str) TB = none := by rfl
theorem i_either : inF (.str "either") [.str "ask", .str "print"] = false := by decide +kernel
theorem j_either : inF (.str "either") [.str "either", .str "again"] = true := by decide +kernel
theorem l_either : List.lookup ("either" : Str) TB = some (.int 2) := by rfl
theorem i_again : inF (.str "again") [.str "ask", .str "print"] = false := by decide +kernel
theorem j_again : inF (.str "again") [.str "either", .str "again"] = true := by decide +kernel
theorem l_again : List.lookup ("again" : Str) TB = some (.int 1) := by rfl
theorem i_call : inF (.str "call") [.str "ask", .str "print"] = false := by decide +kernel
theorem j_call : inF (.str "call") [.str "either", .str "again"] = false := by decide +kernel
theorem l_call : List.lookup ("call" : Str) TB = none := by rfl
end P3

namespace P3
open PySem PySem.Spec L2 DL
def top (i : Nat) : Stmt := PySem.Challenge.pw_putoffpiles_k00_errors_and_their_fields.main.body.getD i (.Pass ⟨0, 0, 0, 0⟩)

abbrev s_BadProgram_d__init_d_ : Stmt := inClass (top 2) 0
theorem x_BadProgram {P : Program} {w : World} {K : PySem.W.Frag} {mg : Str → Option Value} {base : Heap} {C f cc cda : Addr} {fd : FuncData} {CX : CXT} {k : Nat}
    (T : ExI P K C f cc cda "BadProgram.__init__" ["self", "place"] (defArgs s_BadProgram_d__init_d_) (defBody s_BadProgram_d__init_d_) (defScope s_BadProgram_d__init_d_) fd) (hms : mg "super" = none) (hno : PySem.W.findIn K (.ref C) "place" = some none) (hb : Binds K fd ["self", "place"] []) :
    FnOk P w K mg base CX (k + 1) f fd ["self", "place"] (spExI C "place") := by
  refine ExI.ok (y := "place") (fld := "place") T rfl rfl hms hno (by decide) (by decide) hb ?_ ?_ ?_ ?_
  · exact fun _ => ⟨_, rfl⟩
  · exact fun _ => rfl
  · exact fun _ => rfl
  · exact fun _ => rfl

abbrev s_BadText_d__init_d_ : Stmt := inClass (top 3) 0
theorem x_BadText {P : Program} {w : World} {K : PySem.W.Frag} {mg : Str → Option Value} {base : Heap} {C f cc cda : Addr} {fd : FuncData} {CX : CXT} {k : Nat}
    (T : ExI P K C f cc cda "BadText.__init__" ["self", "line"] (defArgs s_BadText_d__init_d_) (defBody s_BadText_d__init_d_) (defScope s_BadText_d__init_d_) fd) (hms : mg "super" = none) (hno : PySem.W.findIn K (.ref C) "line" = some none) (hb : Binds K fd ["self", "line"] []) :
    FnOk P w K mg base CX (k + 1) f fd ["self", "line"] (spExI C "line") := by
  refine ExI.ok (y := "line") (fld := "line") T rfl rfl hms hno (by decide) (by decide) hb ?_ ?_ ?_ ?_
  · exact fun _ => ⟨_, rfl⟩
  · exact fun _ => rfl
  · exact fun _ => rfl
  · exact fun _ => rfl

abbrev s_TooMany_d__init_d_ : Stmt := inClass (top 4) 0
theorem x_TooMany {P : Program} {w : World} {K : PySem.W.Frag} {mg : Str → Option Value} {base : Heap} {C f cc cda : Addr} {fd : FuncData} {CX : CXT} {k : Nat}
    (T : ExI P K C f cc cda "TooMany.__init__" ["self", "most"] (defArgs s_TooMany_d__init_d_) (defBody s_TooMany_d__init_d_) (defScope s_TooMany_d__init_d_) fd) (hms : mg "super" = none) (hno : PySem.W.findIn K (.ref C) "most" = some none) (hb : Binds K fd ["self", "most"] []) :
    FnOk P w K mg base CX (k + 1) f fd ["self", "most"] (spExI C "most") := by
  refine ExI.ok (y := "most") (fld := "most") T rfl rfl hms hno (by decide) (by decide) hb ?_ ?_ ?_ ?_
  · exact fun _ => ⟨_, rfl⟩
  · exact fun _ => rfl
  · exact fun _ => rfl
  · exact fun _ => rfl

abbrev s_Unknown_d__init_d_ : Stmt := inClass (top 5) 0
theorem x_Unknown {P : Program} {w : World} {K : PySem.W.Frag} {mg : Str → Option Value} {base : Heap} {C f cc cda : Addr} {fd : FuncData} {CX : CXT} {k : Nat}
    (T : ExI P K C f cc cda "Unknown.__init__" ["self", "name"] (defArgs s_Unknown_d__init_d_) (defBody s_Unknown_d__init_d_) (defScope s_Unknown_d__init_d_) fd) (hms : mg "super" = none) (hno : PySem.W.findIn K (.ref C) "name" = some none) (hb : Binds K fd ["self", "name"] []) :
    FnOk P w K mg base CX (k + 1) f fd ["self", "name"] (spExI C "name") := by
  refine ExI.ok (y := "name") (fld := "name") T rfl rfl hms hno (by decide) (by decide) hb ?_ ?_ ?_ ?_
  · exact fun _ => ⟨_, rfl⟩
  · exact fun _ => rfl
  · exact fun _ => rfl
  · exact fun _ => rfl

abbrev s_BadBook_d__init_d_ : Stmt := inClass (top 23) 0
theorem x_BadBook {P : Program} {w : World} {K : PySem.W.Frag} {mg : Str → Option Value} {base : Heap} {C f cc cda : Addr} {fd : FuncData} {CX : CXT} {k : Nat}
    (T : ExI P K C f cc cda "BadBook.__init__" ["self", "part"] (defArgs s_BadBook_d__init_d_) (defBody s_BadBook_d__init_d_) (defScope s_BadBook_d__init_d_) fd) (hms : mg "super" = none) (hno : PySem.W.findIn K (.ref C) "part" = some none) (hb : Binds K fd ["self", "part"] []) :
    FnOk P w K mg base CX (k + 1) f fd ["self", "part"] (spExI C "part") := by
  refine ExI.ok (y := "part") (fld := "part") T rfl rfl hms hno (by decide) (by decide) hb ?_ ?_ ?_ ?_
  · exact fun _ => ⟨_, rfl⟩
  · exact fun _ => rfl
  · exact fun _ => rfl
  · exact fun _ => rfl

abbrev s_BadWorker_d__init_d_ : Stmt := inClass (top 24) 0
theorem x_BadWorker {P : Program} {w : World} {K : PySem.W.Frag} {mg : Str → Option Value} {base : Heap} {C f cc cda : Addr} {fd : FuncData} {CX : CXT} {k : Nat}
    (T : ExI P K C f cc cda "BadWorker.__init__" ["self", "number"] (defArgs s_BadWorker_d__init_d_) (defBody s_BadWorker_d__init_d_) (defScope s_BadWorker_d__init_d_) fd) (hms : mg "super" = none) (hno : PySem.W.findIn K (.ref C) "number" = some none) (hb : Binds K fd ["self", "number"] []) :
    FnOk P w K mg base CX (k + 1) f fd ["self", "number"] (spExI C "number") := by
  refine ExI.ok (y := "number") (fld := "number") T rfl rfl hms hno (by decide) (by decide) hb ?_ ?_ ?_ ?_
  · exact fun _ => ⟨_, rfl⟩
  · exact fun _ => rfl
  · exact fun _ => rfl
  · exact fun _ => rfl

abbrev s__law_hand : Stmt := top 30
abbrev N__law_hand : List Str := ["_law_script", "_law_cells", "_law_cell"]
theorem sc__law_hand : FnScope N__law_hand ["_law_script"] (defScope s__law_hand) := ⟨rfl, rfl, rfl, by decide +kernel, rfl, by decide +kernel, by decide +kernel⟩
def W__law_hand : DS :=
  (wSeq (wAsg (wLcV (wISeq (wSl (wVar 0) wNoPart (wPart (wC (.int 63))))) (wName 2) wYes (wCall rAbs (wCons (wCall rInt (wCons (wVar 2) wNil)) wNil)) [2]) (wName 1))
  (wRet (wLst (wCons (wVar 1) (wCons (wC (.int 0)) (wCons (wC (.int 0)) (wCons (wOp rAdd (wC (.int 1)) (wCall rLenA (wCons (wVar 1) wNil))) (wCons (wC (.int 0)) wNil))))))))
theorem d__law_hand {P : Program} {w : World} {K : PySem.W.Frag} {mg : Str → Option Value} {base : Heap} {k : Nat} {W : WX} (B : Bi mg) {f : Addr} (cdv : Value) (A : Around) (outer : List Env) (s : Shared) (H : Hp) (E : XK)
    (hr : Room k (A.deeper (PyProof.Rows.envOfC "_law_hand" (defScope s__law_hand) s.heap.objs.size f cdv))) :
    PSs (cxOf CX0 P w K mg base N__law_hand "_law_hand" (defScope s__law_hand) f cdv A outer s H E).nox (defBody s__law_hand) (liftS K W (W__law_hand)) :=
  (dss_cons (ds_setLcV (own := [("_law_cell", 2)]) 1 (by rfl) sc__law_hand.nd (di_seq (de_slice (dv 0) do_none (do_some de_int))) (blkOk_by (own := [("_law_cell", 2)]) (N := N__law_hand) (sc := defScope s__law_hand) (by decide +kernel)) (fun _ _ _ _ _ => (dg_name (vs := [2]) 2 sc__law_hand.nd)) (fun _ _ _ _ _ => dts_nil) (fun _ _ _ _ _ => (de_callB call_abs cd_abs (by rfl) B.abs PyProof.Rows.boot_abs (da_cons (de_callTy call_int1 cd_int (by rfl) B.int PyProof.Rows.boot_int (da_cons (dv 2) da_nil)) da_nil))) (sw_true (by rfl) (by rfl) (by rfl) (by decide +kernel)))
  (dss_one (ds_ret (de_lst (da_cons (dv 1) (da_cons de_int (da_cons de_int (da_cons (de_op op_addV od_add de_int (de_callB call_lenA cd_lenA (by rfl) B.len PySem.boot_len (da_cons (dv 1) da_nil))) (da_cons de_int da_nil)))))))))

abbrev s__law_draw : Stmt := top 31
abbrev N__law_draw : List Str := ["_law_hand_here", "_law_many", "_law_cell", "_law_digit", "_law_number"]
theorem sc__law_draw : FnScope N__law_draw ["_law_hand_here", "_law_many"] (defScope s__law_draw) := ⟨rfl, rfl, rfl, by decide +kernel, rfl, by decide +kernel, by decide +kernel⟩
def W__law_draw : DS :=
  (wSeq (wIfS (wAnd (wB (wOp (rEqB false) (wOp rIx2 (wVar 0) (wC (.int 2))) (wC (.int 0)))) (wB (wOp (rCmpI fun i j => decide (i < j)) (wOp rIx2 (wVar 0) (wC (.int 1))) (wCall rLenA (wCons (wOp rIx2 (wVar 0) (wC (.int 0))) wNil)))))
  (wSeq (wAsg (wOp rIx2 (wOp rIx2 (wVar 0) (wC (.int 0))) (wOp rIx2 (wVar 0) (wC (.int 1)))) (wName 2))
  (wSeq (wSetL (wOp rAdd (wOp rIx2 (wVar 0) (wC (.int 1))) (wC (.int 1))) (wVar 0) (wC (.int 1)))
  (wSeq (wSetL (wOp rMod (wCall rInt (wCons (wOp rAdd (wOp rAdd (wOp rMul (wOp rIx2 (wVar 0) (wC (.int 3))) (wC (.int 69621))) (wVar 2)) (wC (.int 11))) wNil)) (wC (.int 2147483629))) (wVar 0) (wC (.int 3)))
  (wIfS (wB (wOp (rCmpI fun i j => decide (j ≤ i)) (wVar 2) (wOp rPow (wC (.int 10)) (wC (.int 18)))))
  (wSetL (wVar 2) (wVar 0) (wC (.int 2)))
  wNext))))
  wNext)
  (wSeq (wIfS (wB (wOp (rCmpI fun i j => decide (j < i)) (wOp rIx2 (wVar 0) (wC (.int 2))) (wC (.int 0))))
  (wSeq (wAsg (wOp rMod (wCall rInt (wCons (wOp rIx2 (wVar 0) (wC (.int 2))) wNil)) (wVar 1)) (wName 3))
  (wSeq (wSetL (wOp rDiv (wOp rIx2 (wVar 0) (wC (.int 2))) (wVar 1)) (wVar 0) (wC (.int 2)))
  (wRet (wVar 3))))
  wNext)
  (wSeq (wSetL (wOp rAdd (wOp rIx2 (wVar 0) (wC (.int 4))) (wC (.int 1))) (wVar 0) (wC (.int 4)))
  (wSeq (wAsg (wOp rMod (wCall rInt (wCons (wOp rMul (wCall rInt (wCons (wOp rAdd (wOp rIx2 (wVar 0) (wC (.int 3))) (wOp rMul (wC (.int 7919)) (wOp rIx2 (wVar 0) (wC (.int 4))))) wNil)) (wC (.int 48271))) wNil)) (wC (.int 2147483647))) (wName 4))
  (wSeq (wAsg (wOp rMod (wCall rInt (wCons (wOp rMul (wVar 4) (wOp rAdd (wOp rDiv (wVar 4) (wC (.int 1009))) (wC (.int 69621)))) wNil)) (wC (.int 2147483647))) (wName 4))
  (wSeq (wAsg (wOp rMod (wCall rInt (wCons (wOp rMul (wVar 4) (wOp rAdd (wOp rDiv (wVar 4) (wC (.int 2003))) (wC (.int 40692)))) wNil)) (wC (.int 2147483399))) (wName 4))
  (wRet (wOp rMod (wCall rInt (wCons (wOp rDiv (wVar 4) (wC (.int 16))) wNil)) (wVar 1)))))))))
theorem d__law_draw {P : Program} {w : World} {K : PySem.W.Frag} {mg : Str → Option Value} {base : Heap} {k : Nat} {W : WX} (B : Bi mg) {f : Addr} (cdv : Value) (A : Around) (outer : List Env) (s : Shared) (H : Hp) (E : XK)
    (hr : Room k (A.deeper (PyProof.Rows.envOfC "_law_draw" (defScope s__law_draw) s.heap.objs.size f cdv))) :
    PSs (cxOf CX0 P w K mg base N__law_draw "_law_draw" (defScope s__law_draw) f cdv A outer s H E).nox (defBody s__law_draw) (liftS K W (W__law_draw)) :=
  (dss_cons (ds_if (PW.pt (dw_and (dt_cmp (op_eqA hr.units) od_eq (de_ix ix_seq od_ix (dv 0) de_int) de_int (nomark _)) (dw_and1 (dt_cmp op_lt od_cmpI (de_ix ix_seq od_ix (dv 0) de_int) (de_callB call_lenA cd_lenA (by rfl) B.len PySem.boot_len (da_cons (de_ix ix_seq od_ix (dv 0) de_int) da_nil)) (nomark _)))))
  (dss_cons (ds_set 2 sc__law_draw.nd (de_ix ix_seq od_ix (de_ix ix_seq od_ix (dv 0) de_int) (de_ix ix_seq od_ix (dv 0) de_int)))
  (dss_cons (ds_setL (de_op op_addV od_add (de_ix ix_seq od_ix (dv 0) de_int) de_int) (dv 0) de_int)
  (dss_cons (ds_setL (de_op op_mod od_I2 (de_callTy call_int1 cd_int (by rfl) B.int PyProof.Rows.boot_int (da_cons (de_op op_addV od_add (de_op op_addV od_add (de_op op_mul od_I2 (de_ix ix_seq od_ix (dv 0) de_int) de_int) (dv 2)) de_int) da_nil)) de_int) (dv 0) de_int)
  (dss_one (ds_if (dt_cmp op_ge od_cmpI (dv 2) (de_op op_pow od_I2 de_int de_int) (nomark _))
  (dss_one (ds_setL (dv 2) (dv 0) de_int))
  dss_nil)))))
  dss_nil)
  (dss_cons (ds_if (dt_cmp op_gt od_cmpI (de_ix ix_seq od_ix (dv 0) de_int) de_int (nomark _))
  (dss_cons (ds_set 3 sc__law_draw.nd (de_op op_mod od_I2 (de_callTy call_int1 cd_int (by rfl) B.int PyProof.Rows.boot_int (da_cons (de_ix ix_seq od_ix (dv 0) de_int) da_nil)) (dv 1)))
  (dss_cons (ds_setL (de_op op_fdiv od_I2 (de_ix ix_seq od_ix (dv 0) de_int) (dv 1)) (dv 0) de_int)
  (dss_one (ds_ret (dv 3)))))
  dss_nil)
  (dss_cons (ds_setL (de_op op_addV od_add (de_ix ix_seq od_ix (dv 0) de_int) de_int) (dv 0) de_int)
  (dss_cons (ds_set 4 sc__law_draw.nd (de_op op_mod od_I2 (de_callTy call_int1 cd_int (by rfl) B.int PyProof.Rows.boot_int (da_cons (de_op op_mul od_I2 (de_callTy call_int1 cd_int (by rfl) B.int PyProof.Rows.boot_int (da_cons (de_op op_addV od_add (de_ix ix_seq od_ix (dv 0) de_int) (de_op op_mul od_I2 de_int (de_ix ix_seq od_ix (dv 0) de_int))) da_nil)) de_int) da_nil)) de_int))
  (dss_cons (ds_set 4 sc__law_draw.nd (de_op op_mod od_I2 (de_callTy call_int1 cd_int (by rfl) B.int PyProof.Rows.boot_int (da_cons (de_op op_mul od_I2 (dv 4) (de_op op_addV od_add (de_op op_fdiv od_I2 (dv 4) de_int) de_int)) da_nil)) de_int))
  (dss_cons (ds_set 4 sc__law_draw.nd (de_op op_mod od_I2 (de_callTy call_int1 cd_int (by rfl) B.int PyProof.Rows.boot_int (da_cons (de_op op_mul od_I2 (dv 4) (de_op op_addV od_add (de_op op_fdiv od_I2 (dv 4) de_int) de_int)) da_nil)) de_int))
  (dss_one (ds_ret (de_op op_mod od_I2 (de_callTy call_int1 cd_int (by rfl) B.int PyProof.Rows.boot_int (da_cons (de_op op_fdiv od_I2 (dv 4) de_int) da_nil)) (dv 1))))))))))

abbrev s__law_any : Stmt := top 32
abbrev N__law_any : List Str := ["_law_hand_here", "_law_things"]
theorem sc__law_any : FnScope N__law_any ["_law_hand_here", "_law_things"] (defScope s__law_any) := ⟨rfl, rfl, rfl, by decide +kernel, rfl, by decide +kernel, by decide +kernel⟩
def W__law_any (sp__law_draw : DSp) : DS :=
  (wRet (wOp rIx2 (wVar 1) (wCallF sp__law_draw (wCons (wVar 0) (wCons (wCall rLenA (wCons (wVar 1) wNil)) wNil)))))
theorem d__law_any {P : Program} {w : World} {K : PySem.W.Frag} {mg : Str → Option Value} {base : Heap} {k : Nat} {W : WX} {sp__law_draw : DSp} (B : Bi mg) (c__law_draw : Cal P w K mg base k "_law_draw" ["_law_hand_here", "_law_many"] sp__law_draw) {f : Addr} (cdv : Value) (A : Around) (outer : List Env) (s : Shared) (H : Hp) (E : XK)
    (hr : Room k (A.deeper (PyProof.Rows.envOfC "_law_any" (defScope s__law_any) s.heap.objs.size f cdv))) :
    PSs (cxOf CX0 P w K mg base N__law_any "_law_any" (defScope s__law_any) f cdv A outer s H E).nox (defBody s__law_any) (liftS K W (W__law_any sp__law_draw)) :=
  (dss_one (ds_ret (de_ix ix_seq od_ix (dv 1) (de_call c__law_draw hr (by rfl) (da_cons (dv 0) (da_cons (de_callB call_lenA cd_lenA (by rfl) B.len PySem.boot_len (da_cons (dv 1) da_nil)) da_nil))))))

abbrev s__law_deep : Stmt := top 33
abbrev N__law_deep : List Str := ["_law_hand_here", "_law_found", "_law_turn"]
theorem sc__law_deep : FnScope N__law_deep ["_law_hand_here"] (defScope s__law_deep) := ⟨rfl, rfl, rfl, by decide +kernel, rfl, by decide +kernel, by decide +kernel⟩
def W__law_deep (sp__law_draw : DSp) : DS :=
  (wSeq (wAsg (wOp rIx2 (wLstV (wCons (wC .non) (wCons (wTup wNil) (wCons (wC (.str "x")) wNil)))) (wCallF sp__law_draw (wCons (wVar 0) (wCons (wC (.int 3)) wNil)))) (wName 1))
  (wSeq (wFor (wIRng1 (wOp rAdd (wC (.int 14)) (wCallF sp__law_draw (wCons (wVar 0) (wCons (wC (.int 8)) wNil))))) (wName 2)
  (wAsg (wOp rIx2 (wLstV (wCons (wLstV (wCons (wVar 1) wNil)) (wCons (wTup (wCons (wVar 1) wNil)) (wCons (wDictV (wPCons (wC (.int 0)) (wVar 1) wPNil)) wNil)))) (wCallF sp__law_draw (wCons (wVar 0) (wCons (wC (.int 3)) wNil)))) (wName 1)))
  (wRet (wVar 1))))
theorem d__law_deep {P : Program} {w : World} {K : PySem.W.Frag} {mg : Str → Option Value} {base : Heap} {k : Nat} {W : WX} {sp__law_draw : DSp} (B : Bi mg) (c__law_draw : Cal P w K mg base k "_law_draw" ["_law_hand_here", "_law_many"] sp__law_draw) {f : Addr} (cdv : Value) (A : Around) (outer : List Env) (s : Shared) (H : Hp) (E : XK)
    (hr : Room k (A.deeper (PyProof.Rows.envOfC "_law_deep" (defScope s__law_deep) s.heap.objs.size f cdv))) :
    PSs (cxOf CX0 P w K mg base N__law_deep "_law_deep" (defScope s__law_deep) f cdv A outer s H E).nox (defBody s__law_deep) (liftS K W (W__law_deep sp__law_draw)) :=
  (dss_cons (ds_set 1 sc__law_deep.nd (de_ix ix_seq od_ix (de_lstV (da_cons de_non (da_cons (de_tup da_nil) (da_cons de_str da_nil)))) (de_call c__law_draw hr (by rfl) (da_cons (dv 0) (da_cons de_int da_nil)))))
  (dss_cons (ds_for PassesOwn.never (by rfl) (di_rng1 (by rfl) B.range (de_op op_addV od_add de_int (de_call c__law_draw hr (by rfl) (da_cons (dv 0) (da_cons de_int da_nil))))) (dg_name (vs := [2]) 2 sc__law_deep.nd)
  (dss_one (ds_set 1 sc__law_deep.nd (de_ix ix_seq od_ix (de_lstV (da_cons (de_lstV (da_cons (dv 1) da_nil)) (da_cons (de_tup (da_cons (dv 1) da_nil)) (da_cons (de_dictV (dp_cons de_int (dv 1) dp_nil)) da_nil)))) (de_call c__law_draw hr (by rfl) (da_cons (dv 0) (da_cons de_int da_nil)))))))
  (dss_one (ds_ret (dv 1)))))

abbrev s_law : Stmt := top 34
abbrev N_law : List Str := ["_law_script", "_law_hand_here", "_law_things", "_law_thing", "_law_made", "_law_kept", "_law_at", "_law_one", "_law_flags"]
theorem sc_law : FnScope N_law ["_law_script"] (defScope s_law) := ⟨rfl, rfl, rfl, by decide +kernel, rfl, by decide +kernel, by decide +kernel⟩
def W_law (C_BadBook : Addr) (C_BadProgram : Addr) (C_BadRow : Addr) (C_BadStep : Addr) (C_BadText : Addr) (C_BadWorker : Addr) (C_Endless : Addr) (C_IsOver : Addr) (C_Knotted : Addr) (C_NoFunctions : Addr) (C_NoHead : Addr) (C_NoLot : Addr) (C_NoMarks : Addr) (C_NoName : Addr) (C_NoNote : Addr) (C_NoNumber : Addr) (C_NoPlace : Addr) (C_NoRing : Addr) (C_NoRoom : Addr) (C_NoRow : Addr) (C_NoRows : Addr) (C_NoSteps : Addr) (C_NoText : Addr) (C_NoWay : Addr) (C_NothingDone : Addr) (C_TooMany : Addr) (C_Unknown : Addr) (OC : Addr → Bool) (ansx_BadBook : Addr → Option Bool) (ansx_BadProgram : Addr → Option Bool) (ansx_BadRow : Addr → Option Bool) (ansx_BadStep : Addr → Option Bool) (ansx_BadText : Addr → Option Bool) (ansx_BadWorker : Addr → Option Bool) (ansx_Endless : Addr → Option Bool) (ansx_IsOver : Addr → Option Bool) (ansx_Knotted : Addr → Option Bool) (ansx_NoFunctions : Addr → Option Bool) (ansx_NoHead : Addr → Option Bool) (ansx_NoLot : Addr → Option Bool) (ansx_NoMarks : Addr → Option Bool) (ansx_NoName : Addr → Option Bool) (ansx_NoNote : Addr → Option Bool) (ansx_NoNumber : Addr → Option Bool) (ansx_NoPlace : Addr → Option Bool) (ansx_NoRing : Addr → Option Bool) (ansx_NoRoom : Addr → Option Bool) (ansx_NoRow : Addr → Option Bool) (ansx_NoRows : Addr → Option Bool) (ansx_NoSteps : Addr → Option Bool) (ansx_NoText : Addr → Option Bool) (ansx_NoWay : Addr → Option Bool) (ansx_NothingDone : Addr → Option Bool) (ansx_PileError : Addr → Option Bool) (ansx_TooMany : Addr → Option Bool) (ansx_Unknown : Addr → Option Bool) (ansx_ValueError : Addr → Option Bool) (sp__law_any : DSp) (sp__law_deep : DSp) (sp__law_hand : DSp) : DS :=
  (wSeq (wAsg (wCallF sp__law_hand (wCons (wVar 0) wNil)) (wName 1))
  (wSeq (wAsg (wLstV (wCons (wC (.int 0)) (wCons (wNeg (wC (.int 1))) (wCons (wC (.bl true)) (wCons (wC .non) (wCons (wC (.str "x")) (wCons (wC (.str "")) (wCons (wTup (wCons (wC (.int 1)) (wCons (wC (.int 2)) wNil))) (wCons (wLstV (wCons (wC (.int 3)) wNil)) (wCons (wDictV (wPCons (wC (.str "a")) (wC (.int 4)) wPNil)) (wCons (wCallF sp__law_deep (wCons (wVar 1) wNil)) (wCons (wOp rPow (wC (.int 10)) (wC (.int 29))) wNil)))))))))))) (wName 2))
  (wSeq (wAsg (wPin (wCallF sp__law_any (wCons (wVar 1) (wCons (wVar 2) wNil)))) (wName 3))
  (wSeq (wAsg (wLstV (wCons (wNewX1 C_BadProgram "place" (wVar 3)) (wCons (wNewX1 C_BadText "line" (wVar 3)) (wCons (wNewX1 C_TooMany "most" (wVar 3)) (wCons (wNewX1 C_Unknown "name" (wVar 3)) (wCons (wNewX1 C_BadBook "part" (wVar 3)) (wCons (wNewX1 C_BadWorker "number" (wVar 3)) wNil))))))) (wName 4))
  (wSeq (wAsg (wLstV (wCons (wXoF C_BadProgram "place" (wOp rIx2 (wVar 4) (wC (.int 0)))) (wCons (wXoF C_BadText "line" (wOp rIx2 (wVar 4) (wC (.int 1)))) (wCons (wXoF C_TooMany "most" (wOp rIx2 (wVar 4) (wC (.int 2)))) (wCons (wXoF C_Unknown "name" (wOp rIx2 (wVar 4) (wC (.int 3)))) (wCons (wXoF C_BadBook "part" (wOp rIx2 (wVar 4) (wC (.int 4)))) (wCons (wXoF C_BadWorker "number" (wOp rIx2 (wVar 4) (wC (.int 5)))) wNil))))))) (wName 5))
  (wSeq (wIfS (wB (wCall rAny (wCons (wLcV (wISeq (wVar 5)) (wName 7) wYes (wOrV (wOp (rEqB true) (wIsi (ansB .bl OC) (wVar 7)) (wIsi (ansB .bl OC) (wVar 3))) (wOp rNeSame (wVar 7) (wVar 3))) [7]) wNil)))
  (wRet (wC (.bl false)))
  wNext)
  (wSeq (wAsg (wOp rAdd (wVar 4) (wLstV (wCons (wNewX0 C_NoPlace) (wCons (wNewX0 C_NoFunctions) (wCons (wNewX0 C_IsOver) (wCons (wNewX0 C_BadStep) (wCons (wNewX0 C_NoName) (wCons (wNewX0 C_NoNote) (wCons (wNewX0 C_NothingDone) (wCons (wNewX0 C_NoWay) (wCons (wNewX0 C_NoLot) wNil))))))))))) (wName 4))
  (wSeq (wAsg (wOp rAdd (wVar 4) (wLstV (wCons (wNewX0 C_NoRing) (wCons (wNewX0 C_NoNumber) (wCons (wNewX0 C_Endless) (wCons (wNewX0 C_NoRow) (wCons (wNewX0 C_NoMarks) (wCons (wNewX0 C_NoRoom) (wCons (wNewX0 C_BadRow) (wCons (wNewX0 C_NoText) (wCons (wNewX0 C_Knotted) wNil))))))))))) (wName 4))
  (wSeq (wAsg (wOp rAdd (wVar 4) (wLstV (wCons (wNewX0 C_NoSteps) (wCons (wNewX0 C_NoHead) (wCons (wNewX0 C_NoRows) wNil))))) (wName 4))
  (wSeq (wFor (wIRng1 (wC (.int 27))) (wName 6)
  (wSeq (wAsg (wOp rIx2 (wVar 4) (wVar 6)) (wName 7))
  (wSeq (wAsg (wLstV (wCons (wIsX ansx_BadProgram (wVar 7)) (wCons (wIsX ansx_BadText (wVar 7)) (wCons (wIsX ansx_TooMany (wVar 7)) wNil)))) (wName 8))
  (wSeq (wAsg (wOp rAdd (wVar 8) (wLstV (wCons (wIsX ansx_Unknown (wVar 7)) (wCons (wIsX ansx_BadBook (wVar 7)) wNil)))) (wName 8))
  (wSeq (wAsg (wOp rAdd (wVar 8) (wLstV (wCons (wIsX ansx_BadWorker (wVar 7)) (wCons (wIsX ansx_NoPlace (wVar 7)) wNil)))) (wName 8))
  (wSeq (wAsg (wOp rAdd (wVar 8) (wLstV (wCons (wIsX ansx_NoFunctions (wVar 7)) (wCons (wIsX ansx_IsOver (wVar 7)) (wCons (wIsX ansx_BadStep (wVar 7)) wNil))))) (wName 8))
  (wSeq (wAsg (wOp rAdd (wVar 8) (wLstV (wCons (wIsX ansx_NoName (wVar 7)) (wCons (wIsX ansx_NoNote (wVar 7)) (wCons (wIsX ansx_NothingDone (wVar 7)) wNil))))) (wName 8))
  (wSeq (wAsg (wOp rAdd (wVar 8) (wLstV (wCons (wIsX ansx_NoWay (wVar 7)) (wCons (wIsX ansx_NoLot (wVar 7)) (wCons (wIsX ansx_NoRing (wVar 7)) wNil))))) (wName 8))
  (wSeq (wAsg (wOp rAdd (wVar 8) (wLstV (wCons (wIsX ansx_NoNumber (wVar 7)) (wCons (wIsX ansx_Endless (wVar 7)) (wCons (wIsX ansx_NoRow (wVar 7)) wNil))))) (wName 8))
  (wSeq (wAsg (wOp rAdd (wVar 8) (wLstV (wCons (wIsX ansx_NoMarks (wVar 7)) (wCons (wIsX ansx_NoRoom (wVar 7)) (wCons (wIsX ansx_BadRow (wVar 7)) wNil))))) (wName 8))
  (wSeq (wAsg (wOp rAdd (wVar 8) (wLstV (wCons (wIsX ansx_NoText (wVar 7)) (wCons (wIsX ansx_Knotted (wVar 7)) (wCons (wIsX ansx_NoSteps (wVar 7)) wNil))))) (wName 8))
  (wSeq (wAsg (wOp rAdd (wVar 8) (wLstV (wCons (wIsX ansx_NoHead (wVar 7)) (wCons (wIsX ansx_NoRows (wVar 7)) wNil)))) (wName 8))
  (wIfS (wOr (wB (wOp (rEqB true) (wCountT (wVar 8) (wC (.bl true))) (wC (.int 1)))) (wOr (wNot (wB (wOp rIx2 (wVar 8) (wVar 6)))) (wOr (wNot (wB (wIsX ansx_PileError (wVar 7)))) (wNot (wB (wIsX ansx_ValueError (wVar 7)))))))
  (wRet (wC (.bl false)))
  wNext)))))))))))))
  (wRet (wC (.bl true)))))))))))))
theorem d_law {P : Program} {w : World} {K : PySem.W.Frag} {mg : Str → Option Value} {base : Heap} {k : Nat} {W : WX} {C_BadBook : Addr} {C_BadProgram : Addr} {C_BadRow : Addr} {C_BadStep : Addr} {C_BadText : Addr} {C_BadWorker : Addr} {C_Endless : Addr} {C_IsOver : Addr} {C_Knotted : Addr} {C_NoFunctions : Addr} {C_NoHead : Addr} {C_NoLot : Addr} {C_NoMarks : Addr} {C_NoName : Addr} {C_NoNote : Addr} {C_NoNumber : Addr} {C_NoPlace : Addr} {C_NoRing : Addr} {C_NoRoom : Addr} {C_NoRow : Addr} {C_NoRows : Addr} {C_NoSteps : Addr} {C_NoText : Addr} {C_NoWay : Addr} {C_NothingDone : Addr} {C_TooMany : Addr} {C_Unknown : Addr} {OC : Addr → Bool} {ansx_BadBook : Addr → Option Bool} {ansx_BadProgram : Addr → Option Bool} {ansx_BadRow : Addr → Option Bool} {ansx_BadStep : Addr → Option Bool} {ansx_BadText : Addr → Option Bool} {ansx_BadWorker : Addr → Option Bool} {ansx_Endless : Addr → Option Bool} {ansx_IsOver : Addr → Option Bool} {ansx_Knotted : Addr → Option Bool} {ansx_NoFunctions : Addr → Option Bool} {ansx_NoHead : Addr → Option Bool} {ansx_NoLot : Addr → Option Bool} {ansx_NoMarks : Addr → Option Bool} {ansx_NoName : Addr → Option Bool} {ansx_NoNote : Addr → Option Bool} {ansx_NoNumber : Addr → Option Bool} {ansx_NoPlace : Addr → Option Bool} {ansx_NoRing : Addr → Option Bool} {ansx_NoRoom : Addr → Option Bool} {ansx_NoRow : Addr → Option Bool} {ansx_NoRows : Addr → Option Bool} {ansx_NoSteps : Addr → Option Bool} {ansx_NoText : Addr → Option Bool} {ansx_NoWay : Addr → Option Bool} {ansx_NothingDone : Addr → Option Bool} {ansx_PileError : Addr → Option Bool} {ansx_TooMany : Addr → Option Bool} {ansx_Unknown : Addr → Option Bool} {ansx_ValueError : Addr → Option Bool} {sp__law_any : DSp} {sp__law_deep : DSp} {sp__law_hand : DSp} {a_BadBook : Addr} (g_BadBook : mg "BadBook" = some (.ref a_BadBook)) {a_BadProgram : Addr} (g_BadProgram : mg "BadProgram" = some (.ref a_BadProgram)) {a_BadRow : Addr} (g_BadRow : mg "BadRow" = some (.ref a_BadRow)) {a_BadStep : Addr} (g_BadStep : mg "BadStep" = some (.ref a_BadStep)) {a_BadText : Addr} (g_BadText : mg "BadText" = some (.ref a_BadText)) {a_BadWorker : Addr} (g_BadWorker : mg "BadWorker" = some (.ref a_BadWorker)) {a_Endless : Addr} (g_Endless : mg "Endless" = some (.ref a_Endless)) {a_IsOver : Addr} (g_IsOver : mg "IsOver" = some (.ref a_IsOver)) {a_Knotted : Addr} (g_Knotted : mg "Knotted" = some (.ref a_Knotted)) {a_NoFunctions : Addr} (g_NoFunctions : mg "NoFunctions" = some (.ref a_NoFunctions)) {a_NoHead : Addr} (g_NoHead : mg "NoHead" = some (.ref a_NoHead)) {a_NoLot : Addr} (g_NoLot : mg "NoLot" = some (.ref a_NoLot)) {a_NoMarks : Addr} (g_NoMarks : mg "NoMarks" = some (.ref a_NoMarks)) {a_NoName : Addr} (g_NoName : mg "NoName" = some (.ref a_NoName)) {a_NoNote : Addr} (g_NoNote : mg "NoNote" = some (.ref a_NoNote)) {a_NoNumber : Addr} (g_NoNumber : mg "NoNumber" = some (.ref a_NoNumber)) {a_NoPlace : Addr} (g_NoPlace : mg "NoPlace" = some (.ref a_NoPlace)) {a_NoRing : Addr} (g_NoRing : mg "NoRing" = some (.ref a_NoRing)) {a_NoRoom : Addr} (g_NoRoom : mg "NoRoom" = some (.ref a_NoRoom)) {a_NoRow : Addr} (g_NoRow : mg "NoRow" = some (.ref a_NoRow)) {a_NoRows : Addr} (g_NoRows : mg "NoRows" = some (.ref a_NoRows)) {a_NoSteps : Addr} (g_NoSteps : mg "NoSteps" = some (.ref a_NoSteps)) {a_NoText : Addr} (g_NoText : mg "NoText" = some (.ref a_NoText)) {a_NoWay : Addr} (g_NoWay : mg "NoWay" = some (.ref a_NoWay)) {a_NothingDone : Addr} (g_NothingDone : mg "NothingDone" = some (.ref a_NothingDone)) {a_PileError : Addr} (g_PileError : mg "PileError" = some (.ref a_PileError)) {a_TooMany : Addr} (g_TooMany : mg "TooMany" = some (.ref a_TooMany)) {a_Unknown : Addr} (g_Unknown : mg "Unknown" = some (.ref a_Unknown)) (B : Bi mg) (bx_ValueError : mg "ValueError" = none) (c__law_any : Cal P w K mg base k "_law_any" ["_law_hand_here", "_law_things"] sp__law_any) (c__law_deep : Cal P w K mg base k "_law_deep" ["_law_hand_here"] sp__law_deep) (c__law_hand : Cal P w K mg base k "_law_hand" ["_law_script"] sp__law_hand) (hOC : ∀ (n : Tg) (C : Addr), OC C = true → ObjC K C ∧ PySem.W.kitOne K (.ref C) (.type n.nm) = some false) (ix_BadBook : IsX K (.ref a_BadBook) ansx_BadBook) (ix_BadProgram : IsX K (.ref a_BadProgram) ansx_BadProgram) (ix_BadRow : IsX K (.ref a_BadRow) ansx_BadRow) (ix_BadStep : IsX K (.ref a_BadStep) ansx_BadStep) (ix_BadText : IsX K (.ref a_BadText) ansx_BadText) (ix_BadWorker : IsX K (.ref a_BadWorker) ansx_BadWorker) (ix_Endless : IsX K (.ref a_Endless) ansx_Endless) (ix_IsOver : IsX K (.ref a_IsOver) ansx_IsOver) (ix_Knotted : IsX K (.ref a_Knotted) ansx_Knotted) (ix_NoFunctions : IsX K (.ref a_NoFunctions) ansx_NoFunctions) (ix_NoHead : IsX K (.ref a_NoHead) ansx_NoHead) (ix_NoLot : IsX K (.ref a_NoLot) ansx_NoLot) (ix_NoMarks : IsX K (.ref a_NoMarks) ansx_NoMarks) (ix_NoName : IsX K (.ref a_NoName) ansx_NoName) (ix_NoNote : IsX K (.ref a_NoNote) ansx_NoNote) (ix_NoNumber : IsX K (.ref a_NoNumber) ansx_NoNumber) (ix_NoPlace : IsX K (.ref a_NoPlace) ansx_NoPlace) (ix_NoRing : IsX K (.ref a_NoRing) ansx_NoRing) (ix_NoRoom : IsX K (.ref a_NoRoom) ansx_NoRoom) (ix_NoRow : IsX K (.ref a_NoRow) ansx_NoRow) (ix_NoRows : IsX K (.ref a_NoRows) ansx_NoRows) (ix_NoSteps : IsX K (.ref a_NoSteps) ansx_NoSteps) (ix_NoText : IsX K (.ref a_NoText) ansx_NoText) (ix_NoWay : IsX K (.ref a_NoWay) ansx_NoWay) (ix_NothingDone : IsX K (.ref a_NothingDone) ansx_NothingDone) (ix_PileError : IsX K (.ref a_PileError) ansx_PileError) (ix_TooMany : IsX K (.ref a_TooMany) ansx_TooMany) (ix_Unknown : IsX K (.ref a_Unknown) ansx_Unknown) (ix_ValueError : IsX K (.ty "ValueError") ansx_ValueError) (n_BadBook_part : NoAttr K C_BadBook "part") (n_BadProgram_place : NoAttr K C_BadProgram "place") (n_BadText_line : NoAttr K C_BadText "line") (n_BadWorker_number : NoAttr K C_BadWorker "number") (n_TooMany_most : NoAttr K C_TooMany "most") (n_Unknown_name : NoAttr K C_Unknown "name") (x_BadRow : ExcT K mg "BadRow" C_BadRow veB "ValueError.__new__") (x_BadStep : ExcT K mg "BadStep" C_BadStep veB "ValueError.__new__") (x_Endless : ExcT K mg "Endless" C_Endless veB "ValueError.__new__") (x_IsOver : ExcT K mg "IsOver" C_IsOver veB "ValueError.__new__") (x_Knotted : ExcT K mg "Knotted" C_Knotted veB "ValueError.__new__") (x_NoFunctions : ExcT K mg "NoFunctions" C_NoFunctions veB "ValueError.__new__") (x_NoHead : ExcT K mg "NoHead" C_NoHead veB "ValueError.__new__") (x_NoLot : ExcT K mg "NoLot" C_NoLot veB "ValueError.__new__") (x_NoMarks : ExcT K mg "NoMarks" C_NoMarks veB "ValueError.__new__") (x_NoName : ExcT K mg "NoName" C_NoName veB "ValueError.__new__") (x_NoNote : ExcT K mg "NoNote" C_NoNote veB "ValueError.__new__") (x_NoNumber : ExcT K mg "NoNumber" C_NoNumber veB "ValueError.__new__") (x_NoPlace : ExcT K mg "NoPlace" C_NoPlace veB "ValueError.__new__") (x_NoRing : ExcT K mg "NoRing" C_NoRing veB "ValueError.__new__") (x_NoRoom : ExcT K mg "NoRoom" C_NoRoom veB "ValueError.__new__") (x_NoRow : ExcT K mg "NoRow" C_NoRow veB "ValueError.__new__") (x_NoRows : ExcT K mg "NoRows" C_NoRows veB "ValueError.__new__") (x_NoSteps : ExcT K mg "NoSteps" C_NoSteps veB "ValueError.__new__") (x_NoText : ExcT K mg "NoText" C_NoText veB "ValueError.__new__") (x_NoWay : ExcT K mg "NoWay" C_NoWay veB "ValueError.__new__") (x_NothingDone : ExcT K mg "NothingDone" C_NothingDone veB "ValueError.__new__") (xf_BadBook : XfC K C_BadBook) (xf_BadProgram : XfC K C_BadProgram) (xf_BadText : XfC K C_BadText) (xf_BadWorker : XfC K C_BadWorker) (xf_TooMany : XfC K C_TooMany) (xf_Unknown : XfC K C_Unknown) {kx_BadBook : Nat} (xr_BadBook : ExcF P w K mg base kx_BadBook "BadBook" C_BadBook "part") (hkx_BadBook : kx_BadBook + 1 ≤ k) {kx_BadProgram : Nat} (xr_BadProgram : ExcF P w K mg base kx_BadProgram "BadProgram" C_BadProgram "place") (hkx_BadProgram : kx_BadProgram + 1 ≤ k) {kx_BadText : Nat} (xr_BadText : ExcF P w K mg base kx_BadText "BadText" C_BadText "line") (hkx_BadText : kx_BadText + 1 ≤ k) {kx_BadWorker : Nat} (xr_BadWorker : ExcF P w K mg base kx_BadWorker "BadWorker" C_BadWorker "number") (hkx_BadWorker : kx_BadWorker + 1 ≤ k) {kx_TooMany : Nat} (xr_TooMany : ExcF P w K mg base kx_TooMany "TooMany" C_TooMany "most") (hkx_TooMany : kx_TooMany + 1 ≤ k) {kx_Unknown : Nat} (xr_Unknown : ExcF P w K mg base kx_Unknown "Unknown" C_Unknown "name") (hkx_Unknown : kx_Unknown + 1 ≤ k) {f : Addr} (cdv : Value) (A : Around) (outer : List Env) (s : Shared) (H : Hp) (E : XK)
    (hr : Room k (A.deeper (PyProof.Rows.envOfC "law" (defScope s_law) s.heap.objs.size f cdv))) :
    PSs (cxOf CX0 P w K mg base N_law "law" (defScope s_law) f cdv A outer s H E).nox (defBody s_law) (liftS K W (W_law C_BadBook C_BadProgram C_BadRow C_BadStep C_BadText C_BadWorker C_Endless C_IsOver C_Knotted C_NoFunctions C_NoHead C_NoLot C_NoMarks C_NoName C_NoNote C_NoNumber C_NoPlace C_NoRing C_NoRoom C_NoRow C_NoRows C_NoSteps C_NoText C_NoWay C_NothingDone C_TooMany C_Unknown OC ansx_BadBook ansx_BadProgram ansx_BadRow ansx_BadStep ansx_BadText ansx_BadWorker ansx_Endless ansx_IsOver ansx_Knotted ansx_NoFunctions ansx_NoHead ansx_NoLot ansx_NoMarks ansx_NoName ansx_NoNote ansx_NoNumber ansx_NoPlace ansx_NoRing ansx_NoRoom ansx_NoRow ansx_NoRows ansx_NoSteps ansx_NoText ansx_NoWay ansx_NothingDone ansx_PileError ansx_TooMany ansx_Unknown ansx_ValueError sp__law_any sp__law_deep sp__law_hand)) :=
  (dss_cons (ds_set 1 sc_law.nd (de_call c__law_hand hr (by rfl) (da_cons (dv 0) da_nil)))
  (dss_cons (ds_set 2 sc_law.nd (de_lstV (da_cons de_int (da_cons (de_neg de_int) (da_cons de_bl (da_cons de_non (da_cons de_str (da_cons de_str (da_cons (de_tup (da_cons de_int (da_cons de_int da_nil))) (da_cons (de_lstV (da_cons de_int da_nil)) (da_cons (de_dictV (dp_cons de_str de_int dp_nil)) (da_cons (de_call c__law_deep hr (by rfl) (da_cons (dv 1) da_nil)) (da_cons (de_op op_pow od_I2 de_int de_int) da_nil)))))))))))))
  (dss_cons (ds_set 3 sc_law.nd (de_pin (de_call c__law_any hr (by rfl) (da_cons (dv 1) (da_cons (dv 2) da_nil)))))
  (dss_cons (ds_set 4 sc_law.nd (de_lstV (da_cons (de_newX1 xr_BadProgram (hr.mono hkx_BadProgram) (by rfl) (dv 3)) (da_cons (de_newX1 xr_BadText (hr.mono hkx_BadText) (by rfl) (dv 3)) (da_cons (de_newX1 xr_TooMany (hr.mono hkx_TooMany) (by rfl) (dv 3)) (da_cons (de_newX1 xr_Unknown (hr.mono hkx_Unknown) (by rfl) (dv 3)) (da_cons (de_newX1 xr_BadBook (hr.mono hkx_BadBook) (by rfl) (dv 3)) (da_cons (de_newX1 xr_BadWorker (hr.mono hkx_BadWorker) (by rfl) (dv 3)) da_nil))))))))
  (dss_cons (ds_set 5 sc_law.nd (de_lstV (da_cons (de_xoF xf_BadProgram n_BadProgram_place (de_ix ix_seq od_ix (dv 4) de_int)) (da_cons (de_xoF xf_BadText n_BadText_line (de_ix ix_seq od_ix (dv 4) de_int)) (da_cons (de_xoF xf_TooMany n_TooMany_most (de_ix ix_seq od_ix (dv 4) de_int)) (da_cons (de_xoF xf_Unknown n_Unknown_name (de_ix ix_seq od_ix (dv 4) de_int)) (da_cons (de_xoF xf_BadBook n_BadBook_part (de_ix ix_seq od_ix (dv 4) de_int)) (da_cons (de_xoF xf_BadWorker n_BadWorker_number (de_ix ix_seq od_ix (dv 4) de_int)) da_nil))))))))
  (dss_cons (ds_if (dt_val (de_callB (cr_any (by rfl)) cd_any (by rfl) B.any PyProof.Rows.boot_any (da_cons (de_lcV (own := [("_law_one", 7)]) (by rfl) sc_law.nd (di_seq (dv 5)) (blkOk_by (own := [("_law_one", 7)]) (N := N_law) (sc := defScope s_law) (by decide +kernel)) (fun _ _ _ _ _ => (dg_name (vs := [7]) 7 sc_law.nd)) (fun _ _ _ _ _ => dts_nil) (fun _ _ _ _ _ => (de_or (de_cmp (op_neA hr.units) od_ne (de_isi (isA_B (n := .bl) (hOC .bl)) (by rfl) B.isinstance (dv 7) (pe_bltn (by rfl) B.bool boot_bool (by rfl))) (de_isi (isA_B (n := .bl) (hOC .bl)) (by rfl) B.isinstance (dv 3) (pe_bltn (by rfl) B.bool boot_bool (by rfl))) (nomark _)) (de_one (de_cmp (op_neS hr.units0) od_neS (dv 7) (dv 3) (nomark _)))))) da_nil)))
  (dss_one (ds_ret de_bl))
  dss_nil)
  (dss_cons (ds_set 4 sc_law.nd (de_op op_addV od_add (dv 4) (de_lstV (da_cons (de_newX0 PySem.F.excBase_ValueError x_NoPlace (by rfl)) (da_cons (de_newX0 PySem.F.excBase_ValueError x_NoFunctions (by rfl)) (da_cons (de_newX0 PySem.F.excBase_ValueError x_IsOver (by rfl)) (da_cons (de_newX0 PySem.F.excBase_ValueError x_BadStep (by rfl)) (da_cons (de_newX0 PySem.F.excBase_ValueError x_NoName (by rfl)) (da_cons (de_newX0 PySem.F.excBase_ValueError x_NoNote (by rfl)) (da_cons (de_newX0 PySem.F.excBase_ValueError x_NothingDone (by rfl)) (da_cons (de_newX0 PySem.F.excBase_ValueError x_NoWay (by rfl)) (da_cons (de_newX0 PySem.F.excBase_ValueError x_NoLot (by rfl)) da_nil))))))))))))
  (dss_cons (ds_set 4 sc_law.nd (de_op op_addV od_add (dv 4) (de_lstV (da_cons (de_newX0 PySem.F.excBase_ValueError x_NoRing (by rfl)) (da_cons (de_newX0 PySem.F.excBase_ValueError x_NoNumber (by rfl)) (da_cons (de_newX0 PySem.F.excBase_ValueError x_Endless (by rfl)) (da_cons (de_newX0 PySem.F.excBase_ValueError x_NoRow (by rfl)) (da_cons (de_newX0 PySem.F.excBase_ValueError x_NoMarks (by rfl)) (da_cons (de_newX0 PySem.F.excBase_ValueError x_NoRoom (by rfl)) (da_cons (de_newX0 PySem.F.excBase_ValueError x_BadRow (by rfl)) (da_cons (de_newX0 PySem.F.excBase_ValueError x_NoText (by rfl)) (da_cons (de_newX0 PySem.F.excBase_ValueError x_Knotted (by rfl)) da_nil))))))))))))
  (dss_cons (ds_set 4 sc_law.nd (de_op op_addV od_add (dv 4) (de_lstV (da_cons (de_newX0 PySem.F.excBase_ValueError x_NoSteps (by rfl)) (da_cons (de_newX0 PySem.F.excBase_ValueError x_NoHead (by rfl)) (da_cons (de_newX0 PySem.F.excBase_ValueError x_NoRows (by rfl)) da_nil))))))
  (dss_cons (ds_for PassesOwn.never (by rfl) (di_rng1 (by rfl) B.range de_int) (dg_name (vs := [6]) 6 sc_law.nd)
  (dss_cons (ds_set 7 sc_law.nd (de_ix ix_seq od_ix (dv 4) (dv 6)))
  (dss_cons (ds_set 8 sc_law.nd (de_lstV (da_cons (de_isX ix_BadProgram (by rfl) B.isinstance (dv 7) (pe_glob (v := .ref a_BadProgram) (by rfl) g_BadProgram (by rfl))) (da_cons (de_isX ix_BadText (by rfl) B.isinstance (dv 7) (pe_glob (v := .ref a_BadText) (by rfl) g_BadText (by rfl))) (da_cons (de_isX ix_TooMany (by rfl) B.isinstance (dv 7) (pe_glob (v := .ref a_TooMany) (by rfl) g_TooMany (by rfl))) da_nil)))))
  (dss_cons (ds_set 8 sc_law.nd (de_op op_addV od_add (dv 8) (de_lstV (da_cons (de_isX ix_Unknown (by rfl) B.isinstance (dv 7) (pe_glob (v := .ref a_Unknown) (by rfl) g_Unknown (by rfl))) (da_cons (de_isX ix_BadBook (by rfl) B.isinstance (dv 7) (pe_glob (v := .ref a_BadBook) (by rfl) g_BadBook (by rfl))) da_nil)))))
  (dss_cons (ds_set 8 sc_law.nd (de_op op_addV od_add (dv 8) (de_lstV (da_cons (de_isX ix_BadWorker (by rfl) B.isinstance (dv 7) (pe_glob (v := .ref a_BadWorker) (by rfl) g_BadWorker (by rfl))) (da_cons (de_isX ix_NoPlace (by rfl) B.isinstance (dv 7) (pe_glob (v := .ref a_NoPlace) (by rfl) g_NoPlace (by rfl))) da_nil)))))
  (dss_cons (ds_set 8 sc_law.nd (de_op op_addV od_add (dv 8) (de_lstV (da_cons (de_isX ix_NoFunctions (by rfl) B.isinstance (dv 7) (pe_glob (v := .ref a_NoFunctions) (by rfl) g_NoFunctions (by rfl))) (da_cons (de_isX ix_IsOver (by rfl) B.isinstance (dv 7) (pe_glob (v := .ref a_IsOver) (by rfl) g_IsOver (by rfl))) (da_cons (de_isX ix_BadStep (by rfl) B.isinstance (dv 7) (pe_glob (v := .ref a_BadStep) (by rfl) g_BadStep (by rfl))) da_nil))))))
  (dss_cons (ds_set 8 sc_law.nd (de_op op_addV od_add (dv 8) (de_lstV (da_cons (de_isX ix_NoName (by rfl) B.isinstance (dv 7) (pe_glob (v := .ref a_NoName) (by rfl) g_NoName (by rfl))) (da_cons (de_isX ix_NoNote (by rfl) B.isinstance (dv 7) (pe_glob (v := .ref a_NoNote) (by rfl) g_NoNote (by rfl))) (da_cons (de_isX ix_NothingDone (by rfl) B.isinstance (dv 7) (pe_glob (v := .ref a_NothingDone) (by rfl) g_NothingDone (by rfl))) da_nil))))))
  (dss_cons (ds_set 8 sc_law.nd (de_op op_addV od_add (dv 8) (de_lstV (da_cons (de_isX ix_NoWay (by rfl) B.isinstance (dv 7) (pe_glob (v := .ref a_NoWay) (by rfl) g_NoWay (by rfl))) (da_cons (de_isX ix_NoLot (by rfl) B.isinstance (dv 7) (pe_glob (v := .ref a_NoLot) (by rfl) g_NoLot (by rfl))) (da_cons (de_isX ix_NoRing (by rfl) B.isinstance (dv 7) (pe_glob (v := .ref a_NoRing) (by rfl) g_NoRing (by rfl))) da_nil))))))
  (dss_cons (ds_set 8 sc_law.nd (de_op op_addV od_add (dv 8) (de_lstV (da_cons (de_isX ix_NoNumber (by rfl) B.isinstance (dv 7) (pe_glob (v := .ref a_NoNumber) (by rfl) g_NoNumber (by rfl))) (da_cons (de_isX ix_Endless (by rfl) B.isinstance (dv 7) (pe_glob (v := .ref a_Endless) (by rfl) g_Endless (by rfl))) (da_cons (de_isX ix_NoRow (by rfl) B.isinstance (dv 7) (pe_glob (v := .ref a_NoRow) (by rfl) g_NoRow (by rfl))) da_nil))))))
  (dss_cons (ds_set 8 sc_law.nd (de_op op_addV od_add (dv 8) (de_lstV (da_cons (de_isX ix_NoMarks (by rfl) B.isinstance (dv 7) (pe_glob (v := .ref a_NoMarks) (by rfl) g_NoMarks (by rfl))) (da_cons (de_isX ix_NoRoom (by rfl) B.isinstance (dv 7) (pe_glob (v := .ref a_NoRoom) (by rfl) g_NoRoom (by rfl))) (da_cons (de_isX ix_BadRow (by rfl) B.isinstance (dv 7) (pe_glob (v := .ref a_BadRow) (by rfl) g_BadRow (by rfl))) da_nil))))))
  (dss_cons (ds_set 8 sc_law.nd (de_op op_addV od_add (dv 8) (de_lstV (da_cons (de_isX ix_NoText (by rfl) B.isinstance (dv 7) (pe_glob (v := .ref a_NoText) (by rfl) g_NoText (by rfl))) (da_cons (de_isX ix_Knotted (by rfl) B.isinstance (dv 7) (pe_glob (v := .ref a_Knotted) (by rfl) g_Knotted (by rfl))) (da_cons (de_isX ix_NoSteps (by rfl) B.isinstance (dv 7) (pe_glob (v := .ref a_NoSteps) (by rfl) g_NoSteps (by rfl))) da_nil))))))
  (dss_cons (ds_set 8 sc_law.nd (de_op op_addV od_add (dv 8) (de_lstV (da_cons (de_isX ix_NoHead (by rfl) B.isinstance (dv 7) (pe_glob (v := .ref a_NoHead) (by rfl) g_NoHead (by rfl))) (da_cons (de_isX ix_NoRows (by rfl) B.isinstance (dv 7) (pe_glob (v := .ref a_NoRows) (by rfl) g_NoRows (by rfl))) da_nil)))))
  (dss_one (ds_if (PW.pt (dw_or (dt_cmp (op_neA hr.units) od_ne (de_countT (dv 8) de_bl) de_int (nomark _)) (dw_or (dt_not (dt_val (de_ix ix_seq od_ix (dv 8) (dv 6)))) (dw_or (dt_not (dt_val (de_isX ix_PileError (by rfl) B.isinstance (dv 7) (pe_glob (v := .ref a_PileError) (by rfl) g_PileError (by rfl))))) (dw_or1 (dt_not (dt_val (de_isX ix_ValueError (by rfl) B.isinstance (dv 7) (pe_bltn (by rfl) bx_ValueError PyProof.Rows.Boot.«ValueError» (by rfl))))))))))
  (dss_one (ds_ret de_bl))
  dss_nil))))))))))))))
  (dss_one (ds_ret de_bl))))))))))))
end P3

/-! V0a: hand, draws, things. -/
namespace P3
open PySem PySem.Spec L2 DL
local macro_rules | `(tactic| trivial) => `(tactic| simp only [wIsX, wNewX0, wNewX1, wXoF, wPin, wCountT, rNeSame, wPop0, wReverse, rAddM, rInDp, wSeq, wNext, wRet, wIfS, wAsg, wName, wVar, wC, wDrop, wOp, wCall, wCons, wNil, wIf, wB, wNot, wAnd, wOr, wAndV, wOrV, wNotV, wTup, wLst, wLstV, wFor, wISeq, wIRng1, wIRng2, wIEnum, wIStr, wChain, wIsi, wSl, wPart, wNoPart, wCallF, wCallL, wAppend, wExtend, wSetL, wSetD, wPar, wAugI, wGTup, wGCons, wGNil, wDGet, wDIn, wDict, wDictV, wPairs, wLcV, wLc, wYes, wSetF, wFld, wRev, wRevL, wNeg, wNever, wLoop, wComp, wSortSet, wTry, wRaise, wCallSt, wRetX, wSetX, rEqO, rNeO, wMake, rIntA, rMulA, wTryM, wMixX, wRaise1, wXf, DEnds.off, wMeth, wPop, wTx1, onStr, wSplit, wPartition, wJoin, rSplit, rPartition, rJoin, rIntS, rStr, rMulS, wIEnumL, wMethSt, wSetTag, wIndexS, wLstripC, rIndexS, rLstripC, rInStr, wPar3, rLtS, rShr, rAndI, rShl1, rMax2, rEqN, rSortTx, DL.rAny, wDictT, rDTIn, rDTGet, wSetDT, ditAt, keyAt, nkDs, nkD,
  rNe0, DL.rAdd, DL.rSub, DL.rMul, DL.rDiv, DL.rMod, DL.rPow, DL.rI2, DL.rCmpI, DL.rEqB, DL.rIsN, DL.rInS, DL.rIx2, DL.ixSeq, DL.itemsOf, DL.listOf, DL.dictOf, DL.keyOf, DL.goL, DL.goK, DL.goI, DL.objOf, DL.rLenA, DL.rLen, DL.rSum, DL.rAll, DL.rTuple, DL.rList, DL.rAbs, DL.rInt, rKIn, rKGet, rIsBl, rEq0, lst2, gup_same, dwipe, slot_def, at0, at1, at2, at3, atm, cut1, cutAll,
  List.set_cons_zero, List.set_cons_succ, List.getElem?_cons_zero, List.getElem?_cons_succ, List.getElem?_nil, Option.join_some, Option.join_none, List.length_cons, List.length_nil, if_true, if_false, Bool.false_eq_true, reduceIte, Bool.not_true, Bool.not_false, Bool.true_xor, Bool.false_xor, Bool.xor_true, Bool.xor_false, true_and, and_true, reduceCtorEq, decide_true, decide_false, Option.isSome_some, Option.isSome_none, List.cons_append, List.nil_append,
  s_note_copy, s_note_give, s_note_ask, s_note_print, s_note_either, s_note_again, s_note_call, s_copy_note, s_copy_give, s_copy_ask, s_copy_print, s_copy_either, s_copy_again, s_copy_call, s_give_note, s_give_copy, s_give_ask, s_give_print, s_give_either, s_give_again, s_give_call, s_ask_note, s_ask_copy, s_ask_give, s_ask_print, s_ask_either, s_ask_again, s_ask_call, s_print_note, s_print_copy, s_print_give, s_print_ask, s_print_either, s_print_again, s_print_call, s_either_note, s_either_copy, s_either_give, s_either_ask, s_either_print, s_either_again, s_either_call, s_again_note, s_again_copy, s_again_give, s_again_ask, s_again_print, s_again_either, s_again_call, s_call_note, s_call_copy, s_call_give, s_call_ask, s_call_print, s_call_either, s_call_again, s_note, s_copy, s_give, s_ask, s_print, s_either, s_again, s_call, i_note, j_note, l_note, i_copy, j_copy, l_copy, i_give, j_give, l_give, i_ask, j_ask, l_ask, i_print, j_print, l_print, i_either, j_either, l_either, i_again, j_again, l_again, i_call, j_call, l_call,
  Nat.reduceAdd, Nat.zero_add, Int.reduceLT, Int.reduceLE, Int.reduceEq, Int.reduceAdd, Int.reduceNeg, Int.reduceSub, cz0, cz1, cz2, cz3, cz4, cz5, cz6, cz7, cz8, cz9, t_tup, t_str, t_int, t_bl, lt0, lt1, lt2, lt3, lt4, lt5, lt6, zl0, zl1, zl2, zl3, zl4, zl5, zl6, zl9, rn2, x51, x52, x53, x54, at4, lkb, fl1, fl2, flstr, flint, flnon, flbl, List.all_cons, List.all_nil, Bool.and_true])
local macro_rules | `(tactic| get_elem_tactic_trivial) => `(tactic| simp only [wIsX, wNewX0, wNewX1, wXoF, wPin, wCountT, rNeSame, wPop0, wReverse, rAddM, rInDp, wSeq, wNext, wRet, wIfS, wAsg, wName, wVar, wC, wDrop, wOp, wCall, wCons, wNil, wIf, wB, wNot, wAnd, wOr, wAndV, wOrV, wNotV, wTup, wLst, wLstV, wFor, wISeq, wIRng1, wIRng2, wIEnum, wIStr, wChain, wIsi, wSl, wPart, wNoPart, wCallF, wCallL, wAppend, wExtend, wSetL, wSetD, wPar, wAugI, wGTup, wGCons, wGNil, wDGet, wDIn, wDict, wDictV, wPairs, wLcV, wLc, wYes, wSetF, wFld, wRev, wRevL, wNeg, wNever, wSortSet, wTry, wRaise, wCallSt, wRetX, wSetX, rEqO, rNeO, wMake, rIntA, rMulA, wTryM, wMixX, wRaise1, wXf, DEnds.off, wMeth, wPop, wTx1, onStr, wSplit, wPartition, wJoin, rSplit, rPartition, rJoin, rIntS, rStr, rMulS, wIEnumL, wMethSt, wSetTag, wIndexS, wLstripC, rIndexS, rLstripC, rInStr, wPar3, rLtS, rShr, rAndI, rShl1, rMax2, rEqN, rSortTx, DL.rAny, wDictT, rDTIn, rDTGet, wSetDT, ditAt, keyAt, nkDs, nkD,
  rNe0, DL.rAdd, DL.rSub, DL.rMul, DL.rDiv, DL.rMod, DL.rPow, DL.rI2, DL.rCmpI, DL.rEqB, DL.rIsN, DL.rInS, DL.rIx2, DL.ixSeq, DL.itemsOf, DL.listOf, DL.dictOf, DL.keyOf, DL.goL, DL.goK, DL.goI, DL.objOf, DL.rLenA, DL.rLen, DL.rSum, DL.rAll, DL.rTuple, DL.rList, DL.rAbs, DL.rInt, rKIn, rKGet, rIsBl, rEq0, lst2, gup_same, dwipe, slot_def, at0, at1, at2, at3, atm, cut1, cutAll,
  List.set_cons_zero, List.set_cons_succ, List.getElem?_cons_zero, List.getElem?_cons_succ, List.getElem?_nil, Option.join_some, Option.join_none, List.length_cons, List.length_nil, if_true, if_false, Bool.false_eq_true, reduceIte, Bool.not_true, Bool.not_false, Bool.true_xor, Bool.false_xor, Bool.xor_true, Bool.xor_false, true_and, and_true, reduceCtorEq, decide_true, decide_false, Option.isSome_some, Option.isSome_none, List.cons_append, List.nil_append,
  s_note_copy, s_note_give, s_note_ask, s_note_print, s_note_either, s_note_again, s_note_call, s_copy_note, s_copy_give, s_copy_ask, s_copy_print, s_copy_either, s_copy_again, s_copy_call, s_give_note, s_give_copy, s_give_ask, s_give_print, s_give_either, s_give_again, s_give_call, s_ask_note, s_ask_copy, s_ask_give, s_ask_print, s_ask_either, s_ask_again, s_ask_call, s_print_note, s_print_copy, s_print_give, s_print_ask, s_print_either, s_print_again, s_print_call, s_either_note, s_either_copy, s_either_give, s_either_ask, s_either_print, s_either_again, s_either_call, s_again_note, s_again_copy, s_again_give, s_again_ask, s_again_print, s_again_either, s_again_call, s_call_note, s_call_copy, s_call_give, s_call_ask, s_call_print, s_call_either, s_call_again, s_note, s_copy, s_give, s_ask, s_print, s_either, s_again, s_call, i_note, j_note, l_note, i_copy, j_copy, l_copy, i_give, j_give, l_give, i_ask, j_ask, l_ask, i_print, j_print, l_print, i_either, j_either, l_either, i_again, j_again, l_again, i_call, j_call, l_call,
  Nat.reduceAdd, Nat.zero_add, Int.reduceLT, Int.reduceLE, Int.reduceEq, Int.reduceAdd, Int.reduceNeg, Int.reduceSub, cz0, cz1, cz2, cz3, cz4, cz5, cz6, cz7, cz8, cz9, t_tup, t_str, t_int, t_bl, lt0, lt1, lt2, lt3, lt4, lt5, lt6, zl0, zl1, zl2, zl3, zl4, zl5, zl6, zl9, rn2, x51, x52, x53, x54, at4, lkb, fl1, fl2, flstr, flint, flnon, flbl, List.all_cons, List.all_nil, Bool.and_true])
variable {K : PySem.W.Frag} {OC : Addr → Bool}

def intD : D → Int | .int i => i | _ => 0
/-! the hand: cells, place, what is left of a big cell, seed, count -/
structure Hd where
  cells : List Int
  at_ : Int
  big : Int
  seed : Int
  cnt : Int
def Hd.ok (h : Hd) : Prop := (∀ c ∈ h.cells, 0 ≤ c) ∧ h.cells.length ≤ 63 ∧ 0 ≤ h.at_ ∧ 0 ≤ h.big
def Hd.d (h : Hd) : List D := [.lst (h.cells.map .int), .int h.at_, .int h.big, .int h.seed, .int h.cnt]
/-- G' is G with some hand at p -/
def HdG (p : Addr) (G G' : Gh) : Prop := ∃ h : Hd, h.ok ∧ G' = gup G p (.lst h.d)
theorem HdG.trans {p : Addr} {G G' G'' : Gh} (a : HdG p G G') (b : HdG p G' G'') : HdG p G G'' := by
  obtain ⟨h, _, rfl⟩ := a
  obtain ⟨h', ok, rfl⟩ := b
  exact ⟨h', ok, gup_gup⟩
theorem HdG.self {p : Addr} {G G' : Gh} (a : HdG p G G') : HdG p G' G' := by
  obtain ⟨h, ok, rfl⟩ := a
  exact ⟨h, ok, by rw [gup_gup]⟩
theorem cm_ok (x y : Int) : CMul (x % 2147483647) y := .inl ⟨Int.lt_of_lt_of_le (by decide) (Int.emod_nonneg _ (by decide)), Int.lt_trans (Int.emod_lt_of_pos _ (by decide)) (by decide)⟩
def sp_draw : DSp := fun ds G Q _ => ∃ (p : Addr) (m : Int), ds = [.ref p, .int m] ∧ HdG p G G ∧ 1 ≤ m ∧ m ≤ 1000 ∧ ∀ G' r, HdG p G G' → 0 ≤ r → r < m → Q (.int r) G'
theorem v_draw {ds : List D} {G : Gh} {Q : DQ} {E : DXq} (h : sp_draw ds G Q E) : W__law_draw (endsOf K Q) (dstart N__law_draw ds) G := by
  obtain ⟨p, m, rfl, hG, m1, m2, q⟩ := h
  show W__law_draw (endsOf K Q) [some (.ref p), some (.int m), none, none, none] G
  obtain ⟨h, ⟨hc, hl, ha, hb⟩, e⟩ := hG
  have hp : G p = some (.lst h.d) := by rw [e]; exact gup_same
  unfold W__law_draw
  refine seq_rule (fun σ' G' => ∃ x2, σ' = [some (.ref p), some (.int m), x2, none, none] ∧ HdG p G G') (fun N hN => ?_) ?_
  · have stay : N [some (.ref p), some (.int m), none, none, none] G := hN _ _ ⟨none, rfl, h, ⟨hc, hl, ha, hb⟩, e⟩
    try trivial
    simp only [hp, Hd.d]
    try trivial
    split
    · split
      · rename_i hat
        have hat : h.at_ < ((h.cells.map D.int).length : Nat) := of_decide_eq_true hat
        rw [List.length_map] at hat
        obtain ⟨j, hj⟩ : ∃ j : Nat, h.at_ = j := ⟨h.at_.toNat, by omega⟩
        have hj2 : j < h.cells.length := by omega
        have ec : atI (h.cells.map D.int) h.at_ = some (.int h.cells[j]) := by
          rw [hj, atI_in (by rw [List.length_map]; exact hj2), List.getElem?_map, List.getElem?_eq_getElem hj2]; rfl
        have hcell := hc h.cells[j] (List.getElem_mem hj2)
        simp only [ec]
        refine ⟨.inr ⟨by decide, by decide⟩, ⟨by decide, by decide, by decide⟩, ?_⟩
        have fin : ∀ (x2 : Option D) (a b s c : Int), 0 ≤ a → 0 ≤ b → N [some (.ref p), some (.int m), x2, none, none] (gup G p (.lst [.lst (h.cells.map .int), .int a, .int b, .int s, .int c])) := fun x2 a b s c h1 h2 =>
          hN _ _ ⟨x2, rfl, ⟨h.cells, a, b, s, c⟩, ⟨hc, hl, h1, h2⟩, rfl⟩
        simp only [gup_gup]
        split
        · exact fin _ _ _ _ _ (by omega) hcell
        · exact fin _ _ _ _ _ (by omega) hb
      · exact stay
    · exact stay
  · rintro σ' G' ⟨x2, rfl, h', ⟨hc', hl', ha', hb'⟩, rfl⟩
    try trivial
    simp only [Hd.d]
    try trivial
    have ret : ∀ (h2 : Hd) (r : Int), h2.ok → 0 ≤ r → r < m → Q (.int r) (gup G p (.lst h2.d)) := fun h2 r ok r0 r1 => q _ r ⟨h2, ok, rfl⟩ r0 r1
    have m0 : 0 < m := by omega
    split
    · refine ⟨m0, ⟨m0, by omega⟩, ?_⟩
      simp only [gup_gup]
      exact rt_here (ret ⟨h'.cells, h'.at_, h'.big / m, h'.seed, h'.cnt⟩ _ ⟨hc', hl', ha', Int.ediv_nonneg hb' (by omega)⟩ (Int.emod_nonneg _ (by omega)) (Int.emod_lt_of_pos _ m0))
    · refine ⟨.inl ⟨by decide, by decide⟩, .inr ⟨by decide, by decide⟩, ⟨by decide, by decide⟩, cm_ok _ _, ⟨by decide, by decide⟩, cm_ok _ _, ⟨by decide, by decide⟩, m0, ?_⟩
      simp only [gup_gup]
      exact rt_here (ret ⟨h'.cells, h'.at_, h'.big, h'.seed, h'.cnt + 1⟩ _ ⟨hc', hl', ha', hb'⟩ (Int.emod_nonneg _ (by omega)) (Int.emod_lt_of_pos _ m0))

/-! one of things -/
def seqOf : D → Option (List D)
  | .tup ds => some ds
  | .lst ds => some ds
  | _ => none
def sp_any : DSp := fun ds G Q _ => ∃ (p : Addr) (x : D) (xs : List D), ds = [.ref p, x] ∧ seqOf x = some xs ∧ HdG p G G ∧ xs ≠ [] ∧ xs.length ≤ 1000 ∧ ∀ G' d, HdG p G G' → d ∈ xs → Q d G'
theorem v_any {ds : List D} {G : Gh} {Q : DQ} {E : DXq} (h : sp_any ds G Q E) : W__law_any sp_draw (endsOf K Q) (dstart N__law_any ds) G := by
  obtain ⟨p, x, xs, rfl, hx, hG, h0, hl, q⟩ := h
  show W__law_any sp_draw (endsOf K Q) [some (.ref p), some x] G
  unfold W__law_any
  have hpos : 0 < xs.length := List.length_pos_iff.mpr h0
  have step : ∀ r : Int, 0 ≤ r → r < xs.length → ∃ d, atI xs r = some d ∧ d ∈ xs := fun r r0 r1 => by
    obtain ⟨j, rfl⟩ : ∃ j : Nat, r = j := ⟨r.toNat, by omega⟩
    have hj : j < xs.length := by omega
    exact ⟨xs[j], by rw [atI_in hj, List.getElem?_eq_getElem hj], List.getElem_mem hj⟩
  cases x with
  | tup ds =>
    cases hx
    try trivial
    refine ⟨p, _, rfl, hG, by omega, by omega, fun G' r hG' r0 r1 => ?_⟩
    obtain ⟨d, e, hd⟩ := step r r0 r1
    try trivial
    simp only [e]
    exact rt_here (q G' d hG' hd)
  | lst ds =>
    cases hx
    try trivial
    refine ⟨p, _, rfl, hG, by omega, by omega, fun G' r hG' r0 r1 => ?_⟩
    obtain ⟨d, e, hd⟩ := step r r0 r1
    try trivial
    simp only [e]
    exact rt_here (q G' d hG' hd)
  | _ => cases hx
/-! the hand -/
def sp_hand : DSp := fun ds G Q _ => ∃ ns : List Int, ds = [.scr ns] ∧ ∀ (p : Addr) (h : Hd), G p = none → h.ok → Q (.ref p) (gup G p (.lst h.d))
theorem cut63 (ns : List Int) : cutD (ns.map D.int) none (some 63) = (ns.take 63).map D.int := by
  unfold cutD HT.sIx
  rw [List.length_map]
  simp only [List.drop_zero, Nat.sub_zero, ← List.map_take]
  congr 1
  have : (if (63 : Int) < 0 then ((63 : Int) + (ns.length : Int)).toNat else min (63 : Int).toNat ns.length) = min 63 ns.length := by rw [if_neg (by decide)]; rfl
  rw [this, List.take_eq_take_iff]
  omega
theorem v_hand {ds : List D} {G : Gh} {Q : DQ} {E : DXq} (h : sp_hand ds G Q E) : W__law_hand (endsOf K Q) (dstart N__law_hand ds) G := by
  obtain ⟨ns, rfl, q⟩ := h
  show W__law_hand (endsOf K Q) [some (.scr ns), none, none] G
  unfold W__law_hand
  try trivial
  rw [cut63]
  have hl : (ns.take 63).length ≤ 63 := by rw [List.length_take]; omega
  refine comp_map (f := fun d => .int (if intD d < 0 then -intD d else intD d)) _ _ (by first | exact True.intro | rfl) (by rw [List.length_map, sizeLine_eq]; simp only [List.length_nil]; omega) (fun d hd Q' hq => ?_) ?_
  · obtain ⟨i, _, rfl⟩ := List.mem_map.mp hd
    try trivial
    exact hq
  · try trivial
    intro p hp
    refine rt_here ?_
    have k := q p ⟨(ns.take 63).map fun i => if i < 0 then -i else i, 0, 0, 1 + (((ns.take 63).length : Nat) : Int), 0⟩ hp ⟨fun c hc => ?_, by rw [List.length_map]; exact hl, Int.le_refl _, Int.le_refl _⟩
    · unfold Hd.d at k
      dsimp only at k
      rw [List.map_map] at k
      simp only [List.length_map, List.map_map]
      exact k
    · obtain ⟨i, _, rfl⟩ := List.mem_map.mp hc
      split <;> omega

/-- a thing whose kind is known of itself -/
def okV (d : D) : Prop := (dataTag d).isSome = true
theorem okV_tag {d : D} (h : okV d) : ∃ t : Tg, dataTag d = some (.inl t) := by
  cases d with
  | non => exact ⟨_, rfl⟩
  | bl _ => exact ⟨_, rfl⟩
  | int _ => exact ⟨_, rfl⟩
  | str _ => exact ⟨_, rfl⟩
  | tup _ => exact ⟨_, rfl⟩
  | lst _ => exact ⟨_, rfl⟩
  | dic _ => exact ⟨_, rfl⟩
  | _ => cases h
def sp_deep : DSp := fun ds G Q _ => ∃ p : Addr, ds = [.ref p] ∧ HdG p G G ∧ ∀ G' d, HdG p G G' → okV d → Q d G'
theorem v_deep {ds : List D} {G : Gh} {Q : DQ} {E : DXq} (h : sp_deep ds G Q E) : W__law_deep sp_draw (endsOf K Q) (dstart N__law_deep ds) G := by
  obtain ⟨p, rfl, hG, q⟩ := h
  show W__law_deep sp_draw (endsOf K Q) [some (.ref p), none, none] G
  unfold W__law_deep
  refine seq_rule (fun σ' G' => ∃ d, σ' = [some (.ref p), some d, none] ∧ HdG p G G' ∧ okV d) (fun N hN => ?_) ?_
  · try trivial
    refine ⟨p, 3, rfl, hG, by decide, by decide, fun G1 r h1 r0 r1 => ?_⟩
    have hr : r = 0 ∨ r = 1 ∨ r = 2 := by omega
    rcases hr with rfl | rfl | rfl
    · try trivial
      exact hN _ _ ⟨_, rfl, h1, rfl⟩
    · try trivial
      exact hN _ _ ⟨_, rfl, h1, rfl⟩
    · try trivial
      exact hN _ _ ⟨_, rfl, h1, rfl⟩
  · rintro σ' G' ⟨d, rfl, h1, ok⟩
    try trivial
    refine ⟨p, 8, rfl, h1.self, by decide, by decide, fun G1 r h2 r0 r1 => ?_⟩
    have h2 := h1.trans h2
    try trivial
    refine ⟨by omega, by omega, ?_⟩
    refine loop_rule (fun items σ G' => ∃ (d : D) (x2 : Option D), σ = [some (.ref p), some d, x2] ∧ HdG p G G' ∧ okV d) ?_ ?_ _ _ _ ⟨d, none, rfl, h2, ok⟩
    · rintro σ G' ⟨d, x2, rfl, h3, ok⟩
      try trivial
      exact rt_here (q _ d h3 ok)
    · rintro e es N σ G' hN ⟨d, x2, rfl, h3, ok⟩
      try trivial
      refine ⟨_, rfl, (by show 1 ≤ 15; omega), ?_⟩
      refine ⟨p, 3, rfl, h3.self, by decide, by decide, fun G4 r h4 r0 r1 => ?_⟩
      have h4 := h3.trans h4
      have hr : r = 0 ∨ r = 1 ∨ r = 2 := by omega
      rcases hr with rfl | rfl | rfl
      · try trivial
        exact hN _ _ ⟨_, _, rfl, h4, rfl⟩
      · try trivial
        exact hN _ _ ⟨_, _, rfl, h4, rfl⟩
      · try trivial
        exact hN _ _ ⟨_, _, rfl, h4, rfl⟩
end P3

/-! V0b: the law. -/
namespace P3
open PySem PySem.Spec L2 DL
local macro_rules | `(tactic| trivial) => `(tactic| simp only [wIsX, wNewX0, wNewX1, wXoF, wPin, wCountT, rNeSame, wPop0, wReverse, rAddM, rInDp, wSeq, wNext, wRet, wIfS, wAsg, wName, wVar, wC, wDrop, wOp, wCall, wCons, wNil, wIf, wB, wNot, wAnd, wOr, wAndV, wOrV, wNotV, wTup, wLst, wLstV, wFor, wISeq, wIRng1, wIRng2, wIEnum, wIStr, wChain, wIsi, wSl, wPart, wNoPart, wCallF, wCallL, wAppend, wExtend, wSetL, wSetD, wPar, wAugI, wGTup, wGCons, wGNil, wDGet, wDIn, wDict, wDictV, wPairs, wLcV, wLc, wYes, wSetF, wFld, wRev, wRevL, wNeg, wNever, wLoop, wComp, wSortSet, wTry, wRaise, wCallSt, wRetX, wSetX, rEqO, rNeO, wMake, rIntA, rMulA, wTryM, wMixX, wRaise1, wXf, DEnds.off, wMeth, wPop, wTx1, onStr, wSplit, wPartition, wJoin, rSplit, rPartition, rJoin, rIntS, rStr, rMulS, wIEnumL, wMethSt, wSetTag, wIndexS, wLstripC, rIndexS, rLstripC, rInStr, wPar3, rLtS, rShr, rAndI, rShl1, rMax2, rEqN, rSortTx, DL.rAny, wDictT, rDTIn, rDTGet, wSetDT, ditAt, keyAt, nkDs, nkD,
  rNe0, DL.rAdd, DL.rSub, DL.rMul, DL.rDiv, DL.rMod, DL.rPow, DL.rI2, DL.rCmpI, DL.rEqB, DL.rIsN, DL.rInS, DL.rIx2, DL.ixSeq, DL.itemsOf, DL.listOf, DL.dictOf, DL.keyOf, DL.goL, DL.goK, DL.goI, DL.objOf, DL.rLenA, DL.rLen, DL.rSum, DL.rAll, DL.rTuple, DL.rList, DL.rAbs, DL.rInt, rKIn, rKGet, rIsBl, rEq0, lst2, gup_same, dwipe, slot_def, at0, at1, at2, at3, atm, cut1, cutAll,
  List.set_cons_zero, List.set_cons_succ, List.getElem?_cons_zero, List.getElem?_cons_succ, List.getElem?_nil, Option.join_some, Option.join_none, List.length_cons, List.length_nil, if_true, if_false, Bool.false_eq_true, reduceIte, Bool.not_true, Bool.not_false, Bool.true_xor, Bool.false_xor, Bool.xor_true, Bool.xor_false, true_and, and_true, reduceCtorEq, decide_true, decide_false, Option.isSome_some, Option.isSome_none, List.cons_append, List.nil_append,
  s_note_copy, s_note_give, s_note_ask, s_note_print, s_note_either, s_note_again, s_note_call, s_copy_note, s_copy_give, s_copy_ask, s_copy_print, s_copy_either, s_copy_again, s_copy_call, s_give_note, s_give_copy, s_give_ask, s_give_print, s_give_either, s_give_again, s_give_call, s_ask_note, s_ask_copy, s_ask_give, s_ask_print, s_ask_either, s_ask_again, s_ask_call, s_print_note, s_print_copy, s_print_give, s_print_ask, s_print_either, s_print_again, s_print_call, s_either_note, s_either_copy, s_either_give, s_either_ask, s_either_print, s_either_again, s_either_call, s_again_note, s_again_copy, s_again_give, s_again_ask, s_again_print, s_again_either, s_again_call, s_call_note, s_call_copy, s_call_give, s_call_ask, s_call_print, s_call_either, s_call_again, s_note, s_copy, s_give, s_ask, s_print, s_either, s_again, s_call, i_note, j_note, l_note, i_copy, j_copy, l_copy, i_give, j_give, l_give, i_ask, j_ask, l_ask, i_print, j_print, l_print, i_either, j_either, l_either, i_again, j_again, l_again, i_call, j_call, l_call,
  Nat.reduceAdd, Nat.zero_add, Int.reduceLT, Int.reduceLE, Int.reduceEq, Int.reduceAdd, Int.reduceNeg, Int.reduceSub, cz0, cz1, cz2, cz3, cz4, cz5, cz6, cz7, cz8, cz9, t_tup, t_str, t_int, t_bl, lt0, lt1, lt2, lt3, lt4, lt5, lt6, zl0, zl1, zl2, zl3, zl4, zl5, zl6, zl9, rn2, x51, x52, x53, x54, at4, lkb, fl1, fl2, flstr, flint, flnon, flbl, List.all_cons, List.all_nil, Bool.and_true])
local macro_rules | `(tactic| get_elem_tactic_trivial) => `(tactic| simp only [wIsX, wNewX0, wNewX1, wXoF, wPin, wCountT, rNeSame, wPop0, wReverse, rAddM, rInDp, wSeq, wNext, wRet, wIfS, wAsg, wName, wVar, wC, wDrop, wOp, wCall, wCons, wNil, wIf, wB, wNot, wAnd, wOr, wAndV, wOrV, wNotV, wTup, wLst, wLstV, wFor, wISeq, wIRng1, wIRng2, wIEnum, wIStr, wChain, wIsi, wSl, wPart, wNoPart, wCallF, wCallL, wAppend, wExtend, wSetL, wSetD, wPar, wAugI, wGTup, wGCons, wGNil, wDGet, wDIn, wDict, wDictV, wPairs, wLcV, wLc, wYes, wSetF, wFld, wRev, wRevL, wNeg, wNever, wSortSet, wTry, wRaise, wCallSt, wRetX, wSetX, rEqO, rNeO, wMake, rIntA, rMulA, wTryM, wMixX, wRaise1, wXf, DEnds.off, wMeth, wPop, wTx1, onStr, wSplit, wPartition, wJoin, rSplit, rPartition, rJoin, rIntS, rStr, rMulS, wIEnumL, wMethSt, wSetTag, wIndexS, wLstripC, rIndexS, rLstripC, rInStr, wPar3, rLtS, rShr, rAndI, rShl1, rMax2, rEqN, rSortTx, DL.rAny, wDictT, rDTIn, rDTGet, wSetDT, ditAt, keyAt, nkDs, nkD,
  rNe0, DL.rAdd, DL.rSub, DL.rMul, DL.rDiv, DL.rMod, DL.rPow, DL.rI2, DL.rCmpI, DL.rEqB, DL.rIsN, DL.rInS, DL.rIx2, DL.ixSeq, DL.itemsOf, DL.listOf, DL.dictOf, DL.keyOf, DL.goL, DL.goK, DL.goI, DL.objOf, DL.rLenA, DL.rLen, DL.rSum, DL.rAll, DL.rTuple, DL.rList, DL.rAbs, DL.rInt, rKIn, rKGet, rIsBl, rEq0, lst2, gup_same, dwipe, slot_def, at0, at1, at2, at3, atm, cut1, cutAll,
  List.set_cons_zero, List.set_cons_succ, List.getElem?_cons_zero, List.getElem?_cons_succ, List.getElem?_nil, Option.join_some, Option.join_none, List.length_cons, List.length_nil, if_true, if_false, Bool.false_eq_true, reduceIte, Bool.not_true, Bool.not_false, Bool.true_xor, Bool.false_xor, Bool.xor_true, Bool.xor_false, true_and, and_true, reduceCtorEq, decide_true, decide_false, Option.isSome_some, Option.isSome_none, List.cons_append, List.nil_append,
  s_note_copy, s_note_give, s_note_ask, s_note_print, s_note_either, s_note_again, s_note_call, s_copy_note, s_copy_give, s_copy_ask, s_copy_print, s_copy_either, s_copy_again, s_copy_call, s_give_note, s_give_copy, s_give_ask, s_give_print, s_give_either, s_give_again, s_give_call, s_ask_note, s_ask_copy, s_ask_give, s_ask_print, s_ask_either, s_ask_again, s_ask_call, s_print_note, s_print_copy, s_print_give, s_print_ask, s_print_either, s_print_again, s_print_call, s_either_note, s_either_copy, s_either_give, s_either_ask, s_either_print, s_either_again, s_either_call, s_again_note, s_again_copy, s_again_give, s_again_ask, s_again_print, s_again_either, s_again_call, s_call_note, s_call_copy, s_call_give, s_call_ask, s_call_print, s_call_either, s_call_again, s_note, s_copy, s_give, s_ask, s_print, s_either, s_again, s_call, i_note, j_note, l_note, i_copy, j_copy, l_copy, i_give, j_give, l_give, i_ask, j_ask, l_ask, i_print, j_print, l_print, i_either, j_either, l_either, i_again, j_again, l_again, i_call, j_call, l_call,
  Nat.reduceAdd, Nat.zero_add, Int.reduceLT, Int.reduceLE, Int.reduceEq, Int.reduceAdd, Int.reduceNeg, Int.reduceSub, cz0, cz1, cz2, cz3, cz4, cz5, cz6, cz7, cz8, cz9, t_tup, t_str, t_int, t_bl, lt0, lt1, lt2, lt3, lt4, lt5, lt6, zl0, zl1, zl2, zl3, zl4, zl5, zl6, zl9, rn2, x51, x52, x53, x54, at4, lkb, fl1, fl2, flstr, flint, flnon, flbl, List.all_cons, List.all_nil, Bool.and_true])
variable {K : PySem.W.Frag} {OC : Addr → Bool}
def ansX (L : List Addr) (C : Addr) : Addr → Option Bool := fun A => if A ∈ L then some (decide (A = C)) else none
def ansT (L : List Addr) : Addr → Option Bool := fun A => if A ∈ L then some true else none
theorem ansX_in {L : List Addr} {C A : Addr} (h : A ∈ L) : ansX L C A = some (decide (A = C)) := if_pos h
theorem ansT_in {L : List Addr} {A : Addr} (h : A ∈ L) : ansT L A = some true := if_pos h
theorem at5 {α : Type} {a b c d e f : α} {l : List α} : atI (a :: b :: c :: d :: e :: f :: l) 5 = some f := by
  rw [show (5 : Int) = ((5 : Nat) : Int) from rfl, atI_in (by simp)]; rfl
theorem seq_intro {A T : DS} {D0 : DEnds} {σ : DSt} {G : Gh} (h : ∀ R : DSt → Gh → Prop, (∀ σ' G', T D0 σ' G' → R σ' G') → A { D0 with nx := R } σ G) : wSeq A T D0 σ G := h _ fun _ _ k => k
theorem asg_isx {L : List Addr} {C A : Addr} {fs : List (Str × D)} {i : Nat} {σ : DSt} {G : Gh} {Q : DQ} (hi : slot σ i = some (.xo A fs)) (h : A ∈ L) (q : Q (.bl (decide (A = C))) G) : wIsX (ansX L C) (wVar i) σ G Q := by
  unfold wIsX wVar
  rw [hi]
  show isK (ansX L C A) _
  rw [ansX_in h]
  exact q
theorem nodup_count {A : Addr} : ∀ {L : List Addr}, L.Nodup → A ∈ L → (L.map fun C => decide (A = C)).count true = 1
  | [], _, h => by cases h
  | C :: L, nd, h => by
    obtain ⟨n1, n2⟩ := List.nodup_cons.mp nd
    rw [List.map_cons, List.count_cons]
    by_cases e : A = C
    · subst e
      have z : ∀ M : List Addr, A ∉ M → (M.map fun C => decide (A = C)).count true = 0 := fun M hM => List.count_eq_zero.mpr fun hm => by
        obtain ⟨x, hx, e⟩ := List.mem_map.mp hm
        rw [decide_eq_true_eq] at e
        exact hM (e ▸ hx)
      rw [z L n1]; simp
    · rw [nodup_count n2 ((List.mem_cons.mp h).resolve_left e), decide_eq_false e]; rfl
def flags (A : Addr) (L : List Addr) : List D := L.map fun C => .bl (decide (A = C))
theorem flags_bls (A : Addr) (L : List Addr) : blsOf (flags A L) = some (L.map fun C => decide (A = C)) := blsOf_map' _ _
theorem rng_rule {chk : Gh → Prop} {g : DG} {tb : DS} {D0 : DEnds} {lo : Int} {n : Nat} (I : Nat → DSt → Gh → Prop) (hnil : ∀ σ G, I n σ G → chk G ∧ D0.nx σ G)
    (hcons : ∀ k (N : DSt → Gh → Prop) σ G, k < n → (∀ σ G, I (k + 1) σ G → N σ G) → I k σ G → chk G ∧ g (.int (lo + (k : Nat))) σ G fun σ1 G1 => tb { D0 with nx := N, ct := N, bk := D0.nx } σ1 G1) :
    ∀ σ G, I 0 σ G → wLoop chk g tb (rng lo n) D0 σ G := by
  have : ∀ (m i : Nat), i + m = n → ∀ σ G, I i σ G → wLoop chk g tb ((List.range' i m).map fun i => D.int (lo + (i : Nat))) D0 σ G := by
    intro m
    induction m with
    | zero => intro i e σ G h; have : i = n := by omega
              subst this; exact hnil σ G h
    | succ m ih =>
      intro i e σ G h
      rw [List.range'_succ, List.map_cons]
      exact hcons i _ σ G (by omega) (ih (i + 1) (by omega)) h
  intro σ G h
  have k := this n 0 (by omega) σ G h
  unfold rng
  rw [List.range_eq_range']
  exact k
theorem isX_in {L : List Addr} {C A : Addr} (h : A ∈ L) {P : Bool → Prop} : isK (ansX L C A) P = P (decide (A = C)) := by rw [ansX_in h]; rfl
theorem isT_in {L : List Addr} {A : Addr} (h : A ∈ L) {P : Bool → Prop} : isK (ansT L A) P = P true := by rw [ansT_in h]; rfl
theorem lk1 {x : Str} {d : D} : List.lookup x [(x, d)] = some d := by simp [List.lookup]
def sp_law : DSp := fun ds G Q _ => ∃ ns : List Int, ds = [.scr ns] ∧ ∀ G', Q (.bl true) G'
/-- the things of which one is drawn -/
theorem kept_ok {v : V} {d : D} (ok : okV d) {G : Gh} : tagOf G (.same v d) = dataTag d := rfl
section
variable {Y0 Y1 Y2 Y3 Y4 Y5 Y6 Y7 Y8 Y9 Y10 Y11 Y12 Y13 Y14 Y15 Y16 Y17 Y18 Y19 Y20 Y21 Y22 Y23 Y24 Y25 Y26 : Addr}
/-- one turn of the last loop -/
theorem made_at {v : V} {d : D} (j : Nat) (hj : j < 27) : ∃ fs, ([.xo Y0 [("place", .same v d)], .xo Y1 [("line", .same v d)], .xo Y2 [("most", .same v d)], .xo Y3 [("name", .same v d)], .xo Y4 [("part", .same v d)], .xo Y5 [("number", .same v d)], .xo Y6 [], .xo Y7 [], .xo Y8 [], .xo Y9 [], .xo Y10 [], .xo Y11 [], .xo Y12 [], .xo Y13 [], .xo Y14 [], .xo Y15 [], .xo Y16 [], .xo Y17 [], .xo Y18 [], .xo Y19 [], .xo Y20 [], .xo Y21 [], .xo Y22 [], .xo Y23 [], .xo Y24 [], .xo Y25 [], .xo Y26 []] : List D)[j]? = some (.xo ([Y0, Y1, Y2, Y3, Y4, Y5, Y6, Y7, Y8, Y9, Y10, Y11, Y12, Y13, Y14, Y15, Y16, Y17, Y18, Y19, Y20, Y21, Y22, Y23, Y24, Y25, Y26][j]'hj) fs) := by
  match j, hj with
  | 0, _ => exact ⟨_, rfl⟩
  | 1, _ => exact ⟨_, rfl⟩
  | 2, _ => exact ⟨_, rfl⟩
  | 3, _ => exact ⟨_, rfl⟩
  | 4, _ => exact ⟨_, rfl⟩
  | 5, _ => exact ⟨_, rfl⟩
  | 6, _ => exact ⟨_, rfl⟩
  | 7, _ => exact ⟨_, rfl⟩
  | 8, _ => exact ⟨_, rfl⟩
  | 9, _ => exact ⟨_, rfl⟩
  | 10, _ => exact ⟨_, rfl⟩
  | 11, _ => exact ⟨_, rfl⟩
  | 12, _ => exact ⟨_, rfl⟩
  | 13, _ => exact ⟨_, rfl⟩
  | 14, _ => exact ⟨_, rfl⟩
  | 15, _ => exact ⟨_, rfl⟩
  | 16, _ => exact ⟨_, rfl⟩
  | 17, _ => exact ⟨_, rfl⟩
  | 18, _ => exact ⟨_, rfl⟩
  | 19, _ => exact ⟨_, rfl⟩
  | 20, _ => exact ⟨_, rfl⟩
  | 21, _ => exact ⟨_, rfl⟩
  | 22, _ => exact ⟨_, rfl⟩
  | 23, _ => exact ⟨_, rfl⟩
  | 24, _ => exact ⟨_, rfl⟩
  | 25, _ => exact ⟨_, rfl⟩
  | 26, _ => exact ⟨_, rfl⟩
  | j + 27, h => exact absurd h (by omega)
theorem v_law {L : List Addr} (hL : L = [Y0, Y1, Y2, Y3, Y4, Y5, Y6, Y7, Y8, Y9, Y10, Y11, Y12, Y13, Y14, Y15, Y16, Y17, Y18, Y19, Y20, Y21, Y22, Y23, Y24, Y25, Y26]) (nd : L.Nodup) {ds : List D} {G : Gh} {Q : DQ} {E : DXq} (h : sp_law ds G Q E) :
    W_law Y4 Y0 Y21 Y9 Y1 Y5 Y17 Y8 Y23 Y7 Y25 Y14 Y19 Y10 Y11 Y16 Y6 Y15 Y20 Y18 Y26 Y24 Y22 Y13 Y12 Y2 Y3 OC (ansX [Y0, Y1, Y2, Y3, Y4, Y5, Y6, Y7, Y8, Y9, Y10, Y11, Y12, Y13, Y14, Y15, Y16, Y17, Y18, Y19, Y20, Y21, Y22, Y23, Y24, Y25, Y26] Y4) (ansX [Y0, Y1, Y2, Y3, Y4, Y5, Y6, Y7, Y8, Y9, Y10, Y11, Y12, Y13, Y14, Y15, Y16, Y17, Y18, Y19, Y20, Y21, Y22, Y23, Y24, Y25, Y26] Y0) (ansX [Y0, Y1, Y2, Y3, Y4, Y5, Y6, Y7, Y8, Y9, Y10, Y11, Y12, Y13, Y14, Y15, Y16, Y17, Y18, Y19, Y20, Y21, Y22, Y23, Y24, Y25, Y26] Y21) (ansX [Y0, Y1, Y2, Y3, Y4, Y5, Y6, Y7, Y8, Y9, Y10, Y11, Y12, Y13, Y14, Y15, Y16, Y17, Y18, Y19, Y20, Y21, Y22, Y23, Y24, Y25, Y26] Y9) (ansX [Y0, Y1, Y2, Y3, Y4, Y5, Y6, Y7, Y8, Y9, Y10, Y11, Y12, Y13, Y14, Y15, Y16, Y17, Y18, Y19, Y20, Y21, Y22, Y23, Y24, Y25, Y26] Y1) (ansX [Y0, Y1, Y2, Y3, Y4, Y5, Y6, Y7, Y8, Y9, Y10, Y11, Y12, Y13, Y14, Y15, Y16, Y17, Y18, Y19, Y20, Y21, Y22, Y23, Y24, Y25, Y26] Y5) (ansX [Y0, Y1, Y2, Y3, Y4, Y5, Y6, Y7, Y8, Y9, Y10, Y11, Y12, Y13, Y14, Y15, Y16, Y17, Y18, Y19, Y20, Y21, Y22, Y23, Y24, Y25, Y26] Y17) (ansX [Y0, Y1, Y2, Y3, Y4, Y5, Y6, Y7, Y8, Y9, Y10, Y11, Y12, Y13, Y14, Y15, Y16, Y17, Y18, Y19, Y20, Y21, Y22, Y23, Y24, Y25, Y26] Y8) (ansX [Y0, Y1, Y2, Y3, Y4, Y5, Y6, Y7, Y8, Y9, Y10, Y11, Y12, Y13, Y14, Y15, Y16, Y17, Y18, Y19, Y20, Y21, Y22, Y23, Y24, Y25, Y26] Y23) (ansX [Y0, Y1, Y2, Y3, Y4, Y5, Y6, Y7, Y8, Y9, Y10, Y11, Y12, Y13, Y14, Y15, Y16, Y17, Y18, Y19, Y20, Y21, Y22, Y23, Y24, Y25, Y26] Y7) (ansX [Y0, Y1, Y2, Y3, Y4, Y5, Y6, Y7, Y8, Y9, Y10, Y11, Y12, Y13, Y14, Y15, Y16, Y17, Y18, Y19, Y20, Y21, Y22, Y23, Y24, Y25, Y26] Y25) (ansX [Y0, Y1, Y2, Y3, Y4, Y5, Y6, Y7, Y8, Y9, Y10, Y11, Y12, Y13, Y14, Y15, Y16, Y17, Y18, Y19, Y20, Y21, Y22, Y23, Y24, Y25, Y26] Y14) (ansX [Y0, Y1, Y2, Y3, Y4, Y5, Y6, Y7, Y8, Y9, Y10, Y11, Y12, Y13, Y14, Y15, Y16, Y17, Y18, Y19, Y20, Y21, Y22, Y23, Y24, Y25, Y26] Y19) (ansX [Y0, Y1, Y2, Y3, Y4, Y5, Y6, Y7, Y8, Y9, Y10, Y11, Y12, Y13, Y14, Y15, Y16, Y17, Y18, Y19, Y20, Y21, Y22, Y23, Y24, Y25, Y26] Y10) (ansX [Y0, Y1, Y2, Y3, Y4, Y5, Y6, Y7, Y8, Y9, Y10, Y11, Y12, Y13, Y14, Y15, Y16, Y17, Y18, Y19, Y20, Y21, Y22, Y23, Y24, Y25, Y26] Y11) (ansX [Y0, Y1, Y2, Y3, Y4, Y5, Y6, Y7, Y8, Y9, Y10, Y11, Y12, Y13, Y14, Y15, Y16, Y17, Y18, Y19, Y20, Y21, Y22, Y23, Y24, Y25, Y26] Y16) (ansX [Y0, Y1, Y2, Y3, Y4, Y5, Y6, Y7, Y8, Y9, Y10, Y11, Y12, Y13, Y14, Y15, Y16, Y17, Y18, Y19, Y20, Y21, Y22, Y23, Y24, Y25, Y26] Y6) (ansX [Y0, Y1, Y2, Y3, Y4, Y5, Y6, Y7, Y8, Y9, Y10, Y11, Y12, Y13, Y14, Y15, Y16, Y17, Y18, Y19, Y20, Y21, Y22, Y23, Y24, Y25, Y26] Y15) (ansX [Y0, Y1, Y2, Y3, Y4, Y5, Y6, Y7, Y8, Y9, Y10, Y11, Y12, Y13, Y14, Y15, Y16, Y17, Y18, Y19, Y20, Y21, Y22, Y23, Y24, Y25, Y26] Y20) (ansX [Y0, Y1, Y2, Y3, Y4, Y5, Y6, Y7, Y8, Y9, Y10, Y11, Y12, Y13, Y14, Y15, Y16, Y17, Y18, Y19, Y20, Y21, Y22, Y23, Y24, Y25, Y26] Y18) (ansX [Y0, Y1, Y2, Y3, Y4, Y5, Y6, Y7, Y8, Y9, Y10, Y11, Y12, Y13, Y14, Y15, Y16, Y17, Y18, Y19, Y20, Y21, Y22, Y23, Y24, Y25, Y26] Y26) (ansX [Y0, Y1, Y2, Y3, Y4, Y5, Y6, Y7, Y8, Y9, Y10, Y11, Y12, Y13, Y14, Y15, Y16, Y17, Y18, Y19, Y20, Y21, Y22, Y23, Y24, Y25, Y26] Y24) (ansX [Y0, Y1, Y2, Y3, Y4, Y5, Y6, Y7, Y8, Y9, Y10, Y11, Y12, Y13, Y14, Y15, Y16, Y17, Y18, Y19, Y20, Y21, Y22, Y23, Y24, Y25, Y26] Y22) (ansX [Y0, Y1, Y2, Y3, Y4, Y5, Y6, Y7, Y8, Y9, Y10, Y11, Y12, Y13, Y14, Y15, Y16, Y17, Y18, Y19, Y20, Y21, Y22, Y23, Y24, Y25, Y26] Y13) (ansX [Y0, Y1, Y2, Y3, Y4, Y5, Y6, Y7, Y8, Y9, Y10, Y11, Y12, Y13, Y14, Y15, Y16, Y17, Y18, Y19, Y20, Y21, Y22, Y23, Y24, Y25, Y26] Y12) (ansT [Y0, Y1, Y2, Y3, Y4, Y5, Y6, Y7, Y8, Y9, Y10, Y11, Y12, Y13, Y14, Y15, Y16, Y17, Y18, Y19, Y20, Y21, Y22, Y23, Y24, Y25, Y26]) (ansX [Y0, Y1, Y2, Y3, Y4, Y5, Y6, Y7, Y8, Y9, Y10, Y11, Y12, Y13, Y14, Y15, Y16, Y17, Y18, Y19, Y20, Y21, Y22, Y23, Y24, Y25, Y26] Y2) (ansX [Y0, Y1, Y2, Y3, Y4, Y5, Y6, Y7, Y8, Y9, Y10, Y11, Y12, Y13, Y14, Y15, Y16, Y17, Y18, Y19, Y20, Y21, Y22, Y23, Y24, Y25, Y26] Y3) (ansT [Y0, Y1, Y2, Y3, Y4, Y5, Y6, Y7, Y8, Y9, Y10, Y11, Y12, Y13, Y14, Y15, Y16, Y17, Y18, Y19, Y20, Y21, Y22, Y23, Y24, Y25, Y26]) sp_any sp_deep sp_hand (endsOf K Q) (dstart N_law ds) G := by
  obtain ⟨ns, rfl, q⟩ := h
  show W_law Y4 Y0 Y21 Y9 Y1 Y5 Y17 Y8 Y23 Y7 Y25 Y14 Y19 Y10 Y11 Y16 Y6 Y15 Y20 Y18 Y26 Y24 Y22 Y13 Y12 Y2 Y3 OC (ansX [Y0, Y1, Y2, Y3, Y4, Y5, Y6, Y7, Y8, Y9, Y10, Y11, Y12, Y13, Y14, Y15, Y16, Y17, Y18, Y19, Y20, Y21, Y22, Y23, Y24, Y25, Y26] Y4) (ansX [Y0, Y1, Y2, Y3, Y4, Y5, Y6, Y7, Y8, Y9, Y10, Y11, Y12, Y13, Y14, Y15, Y16, Y17, Y18, Y19, Y20, Y21, Y22, Y23, Y24, Y25, Y26] Y0) (ansX [Y0, Y1, Y2, Y3, Y4, Y5, Y6, Y7, Y8, Y9, Y10, Y11, Y12, Y13, Y14, Y15, Y16, Y17, Y18, Y19, Y20, Y21, Y22, Y23, Y24, Y25, Y26] Y21) (ansX [Y0, Y1, Y2, Y3, Y4, Y5, Y6, Y7, Y8, Y9, Y10, Y11, Y12, Y13, Y14, Y15, Y16, Y17, Y18, Y19, Y20, Y21, Y22, Y23, Y24, Y25, Y26] Y9) (ansX [Y0, Y1, Y2, Y3, Y4, Y5, Y6, Y7, Y8, Y9, Y10, Y11, Y12, Y13, Y14, Y15, Y16, Y17, Y18, Y19, Y20, Y21, Y22, Y23, Y24, Y25, Y26] Y1) (ansX [Y0, Y1, Y2, Y3, Y4, Y5, Y6, Y7, Y8, Y9, Y10, Y11, Y12, Y13, Y14, Y15, Y16, Y17, Y18, Y19, Y20, Y21, Y22, Y23, Y24, Y25, Y26] Y5) (ansX [Y0, Y1, Y2, Y3, Y4, Y5, Y6, Y7, Y8, Y9, Y10, Y11, Y12, Y13, Y14, Y15, Y16, Y17, Y18, Y19, Y20, Y21, Y22, Y23, Y24, Y25, Y26] Y17) (ansX [Y0, Y1, Y2, Y3, Y4, Y5, Y6, Y7, Y8, Y9, Y10, Y11, Y12, Y13, Y14, Y15, Y16, Y17, Y18, Y19, Y20, Y21, Y22, Y23, Y24, Y25, Y26] Y8) (ansX [Y0, Y1, Y2, Y3, Y4, Y5, Y6, Y7, Y8, Y9, Y10, Y11, Y12, Y13, Y14, Y15, Y16, Y17, Y18, Y19, Y20, Y21, Y22, Y23, Y24, Y25, Y26] Y23) (ansX [Y0, Y1, Y2, Y3, Y4, Y5, Y6, Y7, Y8, Y9, Y10, Y11, Y12, Y13, Y14, Y15, Y16, Y17, Y18, Y19, Y20, Y21, Y22, Y23, Y24, Y25, Y26] Y7) (ansX [Y0, Y1, Y2, Y3, Y4, Y5, Y6, Y7, Y8, Y9, Y10, Y11, Y12, Y13, Y14, Y15, Y16, Y17, Y18, Y19, Y20, Y21, Y22, Y23, Y24, Y25, Y26] Y25) (ansX [Y0, Y1, Y2, Y3, Y4, Y5, Y6, Y7, Y8, Y9, Y10, Y11, Y12, Y13, Y14, Y15, Y16, Y17, Y18, Y19, Y20, Y21, Y22, Y23, Y24, Y25, Y26] Y14) (ansX [Y0, Y1, Y2, Y3, Y4, Y5, Y6, Y7, Y8, Y9, Y10, Y11, Y12, Y13, Y14, Y15, Y16, Y17, Y18, Y19, Y20, Y21, Y22, Y23, Y24, Y25, Y26] Y19) (ansX [Y0, Y1, Y2, Y3, Y4, Y5, Y6, Y7, Y8, Y9, Y10, Y11, Y12, Y13, Y14, Y15, Y16, Y17, Y18, Y19, Y20, Y21, Y22, Y23, Y24, Y25, Y26] Y10) (ansX [Y0, Y1, Y2, Y3, Y4, Y5, Y6, Y7, Y8, Y9, Y10, Y11, Y12, Y13, Y14, Y15, Y16, Y17, Y18, Y19, Y20, Y21, Y22, Y23, Y24, Y25, Y26] Y11) (ansX [Y0, Y1, Y2, Y3, Y4, Y5, Y6, Y7, Y8, Y9, Y10, Y11, Y12, Y13, Y14, Y15, Y16, Y17, Y18, Y19, Y20, Y21, Y22, Y23, Y24, Y25, Y26] Y16) (ansX [Y0, Y1, Y2, Y3, Y4, Y5, Y6, Y7, Y8, Y9, Y10, Y11, Y12, Y13, Y14, Y15, Y16, Y17, Y18, Y19, Y20, Y21, Y22, Y23, Y24, Y25, Y26] Y6) (ansX [Y0, Y1, Y2, Y3, Y4, Y5, Y6, Y7, Y8, Y9, Y10, Y11, Y12, Y13, Y14, Y15, Y16, Y17, Y18, Y19, Y20, Y21, Y22, Y23, Y24, Y25, Y26] Y15) (ansX [Y0, Y1, Y2, Y3, Y4, Y5, Y6, Y7, Y8, Y9, Y10, Y11, Y12, Y13, Y14, Y15, Y16, Y17, Y18, Y19, Y20, Y21, Y22, Y23, Y24, Y25, Y26] Y20) (ansX [Y0, Y1, Y2, Y3, Y4, Y5, Y6, Y7, Y8, Y9, Y10, Y11, Y12, Y13, Y14, Y15, Y16, Y17, Y18, Y19, Y20, Y21, Y22, Y23, Y24, Y25, Y26] Y18) (ansX [Y0, Y1, Y2, Y3, Y4, Y5, Y6, Y7, Y8, Y9, Y10, Y11, Y12, Y13, Y14, Y15, Y16, Y17, Y18, Y19, Y20, Y21, Y22, Y23, Y24, Y25, Y26] Y26) (ansX [Y0, Y1, Y2, Y3, Y4, Y5, Y6, Y7, Y8, Y9, Y10, Y11, Y12, Y13, Y14, Y15, Y16, Y17, Y18, Y19, Y20, Y21, Y22, Y23, Y24, Y25, Y26] Y24) (ansX [Y0, Y1, Y2, Y3, Y4, Y5, Y6, Y7, Y8, Y9, Y10, Y11, Y12, Y13, Y14, Y15, Y16, Y17, Y18, Y19, Y20, Y21, Y22, Y23, Y24, Y25, Y26] Y22) (ansX [Y0, Y1, Y2, Y3, Y4, Y5, Y6, Y7, Y8, Y9, Y10, Y11, Y12, Y13, Y14, Y15, Y16, Y17, Y18, Y19, Y20, Y21, Y22, Y23, Y24, Y25, Y26] Y13) (ansX [Y0, Y1, Y2, Y3, Y4, Y5, Y6, Y7, Y8, Y9, Y10, Y11, Y12, Y13, Y14, Y15, Y16, Y17, Y18, Y19, Y20, Y21, Y22, Y23, Y24, Y25, Y26] Y12) (ansT [Y0, Y1, Y2, Y3, Y4, Y5, Y6, Y7, Y8, Y9, Y10, Y11, Y12, Y13, Y14, Y15, Y16, Y17, Y18, Y19, Y20, Y21, Y22, Y23, Y24, Y25, Y26]) (ansX [Y0, Y1, Y2, Y3, Y4, Y5, Y6, Y7, Y8, Y9, Y10, Y11, Y12, Y13, Y14, Y15, Y16, Y17, Y18, Y19, Y20, Y21, Y22, Y23, Y24, Y25, Y26] Y2) (ansX [Y0, Y1, Y2, Y3, Y4, Y5, Y6, Y7, Y8, Y9, Y10, Y11, Y12, Y13, Y14, Y15, Y16, Y17, Y18, Y19, Y20, Y21, Y22, Y23, Y24, Y25, Y26] Y3) (ansT [Y0, Y1, Y2, Y3, Y4, Y5, Y6, Y7, Y8, Y9, Y10, Y11, Y12, Y13, Y14, Y15, Y16, Y17, Y18, Y19, Y20, Y21, Y22, Y23, Y24, Y25, Y26]) sp_any sp_deep sp_hand (endsOf K Q) [some (.scr ns), none, none, none, none, none, none, none, none] G
  simp only [← hL]
  unfold W_law
  refine seq_rule (fun σ' G' => ∃ p, σ' = [some (.scr ns), some (.ref p), none, none, none, none, none, none, none] ∧ HdG p G' G') (fun N hN => ?_) ?_
  · try trivial
    exact ⟨ns, rfl, fun p h hp ok => hN _ _ ⟨p, rfl, h, ok, by rw [gup_gup]⟩⟩
  rintro σ' G1 ⟨p, rfl, hG1⟩
  refine seq_rule (fun σ' G' => ∃ xs, σ' = [some (.scr ns), some (.ref p), some (.lst xs), none, none, none, none, none, none] ∧ HdG p G' G' ∧ xs.length = 11 ∧ ∀ d ∈ xs, okV d) (fun N hN => ?_) ?_
  · try trivial
    refine ⟨_, rfl, by decide, p, rfl, hG1, fun G' d h1 hd => ⟨by first | decide | exact .inl ⟨by decide, by decide⟩ | simp [CPow], by rw [sizeLine_eq]; omega, hN _ _ ⟨_, rfl, h1.self, rfl, ?_⟩⟩⟩
    intro x hx
    simp only [List.mem_cons, List.not_mem_nil, or_false] at hx
    rcases hx with rfl | rfl | rfl | rfl | rfl | rfl | rfl | rfl | rfl | rfl | rfl <;> first | exact hd | rfl
  rintro σ' G2 ⟨xs, rfl, hG2, hx, hxs⟩
  refine seq_rule (fun σ' G' => ∃ (v : V) (d : D), σ' = [some (.scr ns), some (.ref p), some (.lst xs), some (.same v d), none, none, none, none, none] ∧ okV d) (fun N hN => ?_) ?_
  · try trivial
    refine ⟨p, _, xs, rfl, rfl, hG2, (fun e => by rw [e] at hx; cases hx), by omega, fun G' d h1 hd v => ?_⟩
    exact hN _ _ ⟨v, d, rfl, hxs d hd⟩
  rintro σ' G3 ⟨v, d, rfl, hd⟩
  obtain ⟨tg, htg⟩ := okV_tag hd
  refine seq_rule (fun σ' G' => σ' = [some (.scr ns), some (.ref p), some (.lst xs), some (.same v d), some (.lst [.xo Y0 [("place", .same v d)], .xo Y1 [("line", .same v d)], .xo Y2 [("most", .same v d)], .xo Y3 [("name", .same v d)], .xo Y4 [("part", .same v d)], .xo Y5 [("number", .same v d)]]), none, none, none, none]) (fun N hN => ?_) ?_
  · try trivial
    exact hN _ _ rfl
  rintro σ' G4 rfl
  refine seq_rule (fun σ' G' => σ' = [some (.scr ns), some (.ref p), some (.lst xs), some (.same v d), some (.lst [.xo Y0 [("place", .same v d)], .xo Y1 [("line", .same v d)], .xo Y2 [("most", .same v d)], .xo Y3 [("name", .same v d)], .xo Y4 [("part", .same v d)], .xo Y5 [("number", .same v d)]]), some (.lst (List.replicate 6 (.same v d))), none, none, none]) (fun N hN => ?_) ?_
  · try trivial
    simp only [at5, lk1]
    exact ⟨True.intro, hN _ _ rfl⟩
  rintro σ' G5 rfl
  refine seq_rule (fun σ' G' => σ' = [some (.scr ns), some (.ref p), some (.lst xs), some (.same v d), some (.lst [.xo Y0 [("place", .same v d)], .xo Y1 [("line", .same v d)], .xo Y2 [("most", .same v d)], .xo Y3 [("name", .same v d)], .xo Y4 [("part", .same v d)], .xo Y5 [("number", .same v d)]]), some (.lst (List.replicate 6 (.same v d))), none, none, none]) (fun N hN => ?_) ?_
  · try trivial
    refine comp_map (f := fun _ => .bl false) _ _ True.intro (by rw [List.length_replicate, sizeLine_eq]; simp) (fun x hx Q' hq => ?_) ?_
    · rw [List.eq_of_mem_replicate hx]
      try trivial
      simp only [tagOf, htg, Option.bind_some, ansB, isK]
      first | exact ⟨rfl, hq⟩ | (simp; exact hq)
    · exact ⟨_, List.replicate 6 false, rfl, rfl, hN _ _ rfl⟩
  rintro σ' G6 rfl
  refine seq_rule (fun σ' G' => ∃ mk, σ' = [some (.scr ns), some (.ref p), some (.lst xs), some (.same v d), some (.lst mk), some (.lst (List.replicate 6 (.same v d))), none, none, none] ∧ mk = [.xo Y0 [("place", .same v d)], .xo Y1 [("line", .same v d)], .xo Y2 [("most", .same v d)], .xo Y3 [("name", .same v d)], .xo Y4 [("part", .same v d)], .xo Y5 [("number", .same v d)]] ++ [.xo Y6 [], .xo Y7 [], .xo Y8 [], .xo Y9 [], .xo Y10 [], .xo Y11 [], .xo Y12 [], .xo Y13 [], .xo Y14 []]) (fun N hN => ?_) ?_
  · try trivial
    exact ⟨by rw [sizeLine_eq]; omega, hN _ _ ⟨_, rfl, rfl⟩⟩
  rintro σ' G7 ⟨mk, rfl, emk⟩
  refine seq_rule (fun σ' G' => ∃ mk, σ' = [some (.scr ns), some (.ref p), some (.lst xs), some (.same v d), some (.lst mk), some (.lst (List.replicate 6 (.same v d))), none, none, none] ∧ mk = [.xo Y0 [("place", .same v d)], .xo Y1 [("line", .same v d)], .xo Y2 [("most", .same v d)], .xo Y3 [("name", .same v d)], .xo Y4 [("part", .same v d)], .xo Y5 [("number", .same v d)]] ++ [.xo Y6 [], .xo Y7 [], .xo Y8 [], .xo Y9 [], .xo Y10 [], .xo Y11 [], .xo Y12 [], .xo Y13 [], .xo Y14 []] ++ [.xo Y15 [], .xo Y16 [], .xo Y17 [], .xo Y18 [], .xo Y19 [], .xo Y20 [], .xo Y21 [], .xo Y22 [], .xo Y23 []]) (fun N hN => ?_) ?_
  · try trivial
    subst emk
    exact ⟨by rw [sizeLine_eq]; simp, hN _ _ ⟨_, rfl, rfl⟩⟩
  rintro σ' G8 ⟨mk, rfl, emk⟩
  refine seq_rule (fun σ' G' => σ' = [some (.scr ns), some (.ref p), some (.lst xs), some (.same v d), some (.lst [.xo Y0 [("place", .same v d)], .xo Y1 [("line", .same v d)], .xo Y2 [("most", .same v d)], .xo Y3 [("name", .same v d)], .xo Y4 [("part", .same v d)], .xo Y5 [("number", .same v d)], .xo Y6 [], .xo Y7 [], .xo Y8 [], .xo Y9 [], .xo Y10 [], .xo Y11 [], .xo Y12 [], .xo Y13 [], .xo Y14 [], .xo Y15 [], .xo Y16 [], .xo Y17 [], .xo Y18 [], .xo Y19 [], .xo Y20 [], .xo Y21 [], .xo Y22 [], .xo Y23 [], .xo Y24 [], .xo Y25 [], .xo Y26 []]), some (.lst (List.replicate 6 (.same v d))), none, none, none]) (fun N hN => ?_) ?_
  · try trivial
    subst emk
    exact ⟨by rw [sizeLine_eq]; simp, hN _ _ rfl⟩
  rintro σ' G9 rfl
  refine seq_rule (fun _ _ => True) (fun N hN => ?_) (fun σ' G' _ => rt_here (q G'))
  show -(2 ^ 62) ≤ (27 : Int) ∧ (27 : Int) < 2 ^ 62 ∧ wLoop _ _ _ _ _ _ _
  refine ⟨by decide, by decide, ?_⟩
  have hlen : L.length = 27 := by rw [hL]; rfl
  obtain ⟨MK, hMK⟩ : ∃ m : List D, m = [.xo Y0 [("place", .same v d)], .xo Y1 [("line", .same v d)], .xo Y2 [("most", .same v d)], .xo Y3 [("name", .same v d)], .xo Y4 [("part", .same v d)], .xo Y5 [("number", .same v d)], .xo Y6 [], .xo Y7 [], .xo Y8 [], .xo Y9 [], .xo Y10 [], .xo Y11 [], .xo Y12 [], .xo Y13 [], .xo Y14 [], .xo Y15 [], .xo Y16 [], .xo Y17 [], .xo Y18 [], .xo Y19 [], .xo Y20 [], .xo Y21 [], .xo Y22 [], .xo Y23 [], .xo Y24 [], .xo Y25 [], .xo Y26 []] := ⟨_, rfl⟩
  have hML : MK.length = 27 := by rw [hMK]; rfl
  have hat : ∀ k, (h : k < 27) → ∃ fs, MK[k]? = some (.xo (L[k]'(by omega)) fs) := fun k h => by
    subst hMK
    subst hL
    exact made_at k h
  rw [← hMK]
  clear hMK
  show wLoop _ _ _ (rng 0 27) _ _ _
  refine rng_rule (fun k σ G' => ∃ (x6 x7 x8 : Option D), σ = [some (.scr ns), some (.ref p), some (.lst xs), some (.same v d), some (.lst MK), some (.lst (List.replicate 6 (.same v d))), x6, x7, x8]) ?_ ?_ _ _ ⟨_, _, _, rfl⟩
  · rintro σ G' ⟨x6, x7, x8, rfl⟩
    exact ⟨True.intro, hN _ _ True.intro⟩
  rintro k N2 σ G' hk hN2 ⟨x6, x7, x8, rfl⟩
  refine ⟨True.intro, ?_⟩
  obtain ⟨fs, hfs⟩ := hat k hk
  have hA : L[k] ∈ L := List.getElem_mem _
  obtain ⟨A, eA⟩ : ∃ A, A = L[k] := ⟨_, rfl⟩
  rw [← eA] at hfs hA
  have eM : atI MK (k : Int) = some (.xo A fs) := by rw [atI_in (by omega), hfs]
  refine seq_intro fun R hR => ?_
  try trivial
  simp only [Int.zero_add, eM]
  refine hR _ _ ?_
  clear hR
  refine seq_intro fun R hR => ?_
  try trivial
  simp only [isX_in hA]
  first | refine hR _ _ ?_ | refine ⟨by rw [sizeLine_eq]; omega, hR _ _ ?_⟩
  clear hR
  refine seq_intro fun R hR => ?_
  try trivial
  simp only [isX_in hA]
  first | refine hR _ _ ?_ | refine ⟨by rw [sizeLine_eq]; omega, hR _ _ ?_⟩
  clear hR
  refine seq_intro fun R hR => ?_
  try trivial
  simp only [isX_in hA]
  first | refine hR _ _ ?_ | refine ⟨by rw [sizeLine_eq]; omega, hR _ _ ?_⟩
  clear hR
  refine seq_intro fun R hR => ?_
  try trivial
  simp only [isX_in hA]
  first | refine hR _ _ ?_ | refine ⟨by rw [sizeLine_eq]; omega, hR _ _ ?_⟩
  clear hR
  refine seq_intro fun R hR => ?_
  try trivial
  simp only [isX_in hA]
  first | refine hR _ _ ?_ | refine ⟨by rw [sizeLine_eq]; omega, hR _ _ ?_⟩
  clear hR
  refine seq_intro fun R hR => ?_
  try trivial
  simp only [isX_in hA]
  first | refine hR _ _ ?_ | refine ⟨by rw [sizeLine_eq]; omega, hR _ _ ?_⟩
  clear hR
  refine seq_intro fun R hR => ?_
  try trivial
  simp only [isX_in hA]
  first | refine hR _ _ ?_ | refine ⟨by rw [sizeLine_eq]; omega, hR _ _ ?_⟩
  clear hR
  refine seq_intro fun R hR => ?_
  try trivial
  simp only [isX_in hA]
  first | refine hR _ _ ?_ | refine ⟨by rw [sizeLine_eq]; omega, hR _ _ ?_⟩
  clear hR
  refine seq_intro fun R hR => ?_
  try trivial
  simp only [isX_in hA]
  first | refine hR _ _ ?_ | refine ⟨by rw [sizeLine_eq]; omega, hR _ _ ?_⟩
  clear hR
  refine seq_intro fun R hR => ?_
  try trivial
  simp only [isX_in hA]
  first | refine hR _ _ ?_ | refine ⟨by rw [sizeLine_eq]; omega, hR _ _ ?_⟩
  clear hR
  have hf : ([.bl (decide (A = Y0)), .bl (decide (A = Y1)), .bl (decide (A = Y2)), .bl (decide (A = Y3)), .bl (decide (A = Y4)), .bl (decide (A = Y5)), .bl (decide (A = Y6)), .bl (decide (A = Y7)), .bl (decide (A = Y8)), .bl (decide (A = Y9)), .bl (decide (A = Y10)), .bl (decide (A = Y11)), .bl (decide (A = Y12)), .bl (decide (A = Y13)), .bl (decide (A = Y14)), .bl (decide (A = Y15)), .bl (decide (A = Y16)), .bl (decide (A = Y17)), .bl (decide (A = Y18)), .bl (decide (A = Y19)), .bl (decide (A = Y20)), .bl (decide (A = Y21)), .bl (decide (A = Y22)), .bl (decide (A = Y23)), .bl (decide (A = Y24)), .bl (decide (A = Y25)), .bl (decide (A = Y26))] : List D) = flags A L := by rw [hL]; rfl
  rw [hf]
  have hfl : (flags A L).length = 27 := by unfold flags; rw [List.length_map]; exact hlen
  have hfk : atI (flags A L) (k : Int) = some (.bl true) := by
    rw [atI_in (by omega)]
    unfold flags
    rw [List.getElem?_map, List.getElem?_eq_getElem (by omega), ← eA]
    simp
  try trivial
  refine ⟨_, flags_bls A L, ?_⟩
  rw [nodup_count nd hA, if_neg (by decide)]
  simp only [hfk, isT_in hA]
  exact hN2 _ _ ⟨_, _, _, rfl⟩
end
end P3

/-! V0c: what is known of the classes, as one flag. -/
namespace P3
open PySem PySem.Spec L2 DL
section
variable {K : PySem.W.Frag}
def xoB (K : PySem.W.Frag) (A : Addr) : Bool :=
  (PySem.W.findIn K (.ref A) "__getattribute__" == some (some (.builtin "BaseException.__getattribute__"))) && (PySem.W.findIn K (.ref A) "__getattr__" == some none) && (PySem.W.subIn K (.ref A) (.type "BaseException") == some true) && PySem.W.hasDictIn K A &&
  (PySem.W.findIn K (.ref A) "__class__" == some (some (.builtin "object.__class__"))) && (PySem.W.specialIn K (.builtin "object.__class__") "__get__" == some (some (.builtin "getset_descriptor.__get__"))) && (PySem.W.takesIn K (.builtin "object.__class__") == some true) && (PySem.W.mroIn K A (.type "object") == some true)
theorem xoB_ok {A : Addr} (h : xoB K A = true) : XoC K A := by
  unfold xoB at h
  simp only [Bool.and_eq_true, beq_iff_eq] at h
  obtain ⟨⟨⟨⟨⟨⟨⟨h1, h2⟩, h3⟩, h4⟩, h5⟩, h6⟩, h7⟩, h8⟩ := h
  exact ⟨⟨h1, h2, h3, h4⟩, h5, h6, h7, h8⟩
def oneB (K : PySem.W.Frag) (L : List Addr) (P A : Addr) : Bool :=
  xoB K A && (PySem.W.kitOne K (.ref A) (.ref P) == some true) && (PySem.W.kitOne K (.ref A) (.type "ValueError") == some true) && L.all fun C => PySem.W.kitOne K (.ref A) (.ref C) == some (decide (A = C))
def allB (K : PySem.W.Frag) (L : List Addr) (P : Addr) : Bool := decide L.Nodup && L.all (oneB K L P)
theorem allB_nd {L : List Addr} {P : Addr} (h : allB K L P = true) : L.Nodup := by
  unfold allB at h
  rw [Bool.and_eq_true] at h
  exact of_decide_eq_true h.1
theorem allB_one {L : List Addr} {P A : Addr} (h : allB K L P = true) (m : A ∈ L) : XoC K A ∧ PySem.W.kitOne K (.ref A) (.ref P) = some true ∧ PySem.W.kitOne K (.ref A) (.type "ValueError") = some true ∧ ∀ C ∈ L, PySem.W.kitOne K (.ref A) (.ref C) = some (decide (A = C)) := by
  unfold allB at h
  rw [Bool.and_eq_true, List.all_eq_true] at h
  have k := h.2 A m
  unfold oneB at k
  simp only [Bool.and_eq_true, beq_iff_eq, List.all_eq_true] at k
  obtain ⟨⟨⟨k1, k2⟩, k3⟩, k4⟩ := k
  exact ⟨xoB_ok k1, k2, k3, k4⟩
theorem ix_of {L : List Addr} {P C : Addr} (h : allB K L P = true) (m : C ∈ L) : IsX K (.ref C) (ansX L C) := ⟨_, .own _, fun A b e => by
  unfold ansX at e
  split at e
  · rename_i mA
    cases e
    obtain ⟨k1, _, _, k4⟩ := allB_one h mA
    exact ⟨k4 C m, k1⟩
  · cases e⟩
theorem ixP_of {L : List Addr} {P : Addr} (h : allB K L P = true) : IsX K (.ref P) (ansT L) := ⟨_, .own _, fun A b e => by
  unfold ansT at e
  split at e
  · rename_i mA
    cases e
    obtain ⟨k1, k2, _, _⟩ := allB_one h mA
    exact ⟨k2, k1⟩
  · cases e⟩
theorem ixV_of {L : List Addr} {P : Addr} (h : allB K L P = true) : IsX K (.ty "ValueError") (ansT L) := ⟨_, .ty _, fun A b e => by
  unfold ansT at e
  split at e
  · rename_i mA
    cases e
    obtain ⟨k1, _, k3, _⟩ := allB_one h mA
    exact ⟨k3, k1⟩
  · cases e⟩
def noOC : Addr → Bool := fun _ => false
theorem noOC_ok {K : PySem.W.Frag} (n : Tg) (C : Addr) (h : noOC C = true) : ObjC K C ∧ PySem.W.kitOne K (.ref C) (.type n.nm) = some false := absurd h Bool.false_ne_true
end
end P3

/-! V0p: each def keeps its promise. -/
namespace P3
open PySem PySem.Spec L2 DL
/-- a def that stands at f, by its name -/
structure Df (K : PySem.W.Frag) (mg : Str → Option Value) (x : Str) (st : Stmt) (ps : List Str) (f : Addr) (fd : FuncData) : Prop where
  F : Fun K x x st f fd
  g : mg x = some (.ref f)
  b : Binds K fd ps []
/-- what is known of the module's names and classes -/
structure Txt (w : World) (K : PySem.W.Frag) (mg : Str → Option Value) (Y0 Y1 Y2 Y3 Y4 Y5 Y6 Y7 Y8 Y9 Y10 Y11 Y12 Y13 Y14 Y15 Y16 Y17 Y18 Y19 Y20 Y21 Y22 Y23 Y24 Y25 Y26 YP : Addr) : Prop where
  bi : Bi mg
  ix_BadProgram : IsX K (.ref Y0) (ansX [Y0, Y1, Y2, Y3, Y4, Y5, Y6, Y7, Y8, Y9, Y10, Y11, Y12, Y13, Y14, Y15, Y16, Y17, Y18, Y19, Y20, Y21, Y22, Y23, Y24, Y25, Y26] Y0)
  ix_BadText : IsX K (.ref Y1) (ansX [Y0, Y1, Y2, Y3, Y4, Y5, Y6, Y7, Y8, Y9, Y10, Y11, Y12, Y13, Y14, Y15, Y16, Y17, Y18, Y19, Y20, Y21, Y22, Y23, Y24, Y25, Y26] Y1)
  ix_TooMany : IsX K (.ref Y2) (ansX [Y0, Y1, Y2, Y3, Y4, Y5, Y6, Y7, Y8, Y9, Y10, Y11, Y12, Y13, Y14, Y15, Y16, Y17, Y18, Y19, Y20, Y21, Y22, Y23, Y24, Y25, Y26] Y2)
  ix_Unknown : IsX K (.ref Y3) (ansX [Y0, Y1, Y2, Y3, Y4, Y5, Y6, Y7, Y8, Y9, Y10, Y11, Y12, Y13, Y14, Y15, Y16, Y17, Y18, Y19, Y20, Y21, Y22, Y23, Y24, Y25, Y26] Y3)
  ix_BadBook : IsX K (.ref Y4) (ansX [Y0, Y1, Y2, Y3, Y4, Y5, Y6, Y7, Y8, Y9, Y10, Y11, Y12, Y13, Y14, Y15, Y16, Y17, Y18, Y19, Y20, Y21, Y22, Y23, Y24, Y25, Y26] Y4)
  ix_BadWorker : IsX K (.ref Y5) (ansX [Y0, Y1, Y2, Y3, Y4, Y5, Y6, Y7, Y8, Y9, Y10, Y11, Y12, Y13, Y14, Y15, Y16, Y17, Y18, Y19, Y20, Y21, Y22, Y23, Y24, Y25, Y26] Y5)
  ix_NoPlace : IsX K (.ref Y6) (ansX [Y0, Y1, Y2, Y3, Y4, Y5, Y6, Y7, Y8, Y9, Y10, Y11, Y12, Y13, Y14, Y15, Y16, Y17, Y18, Y19, Y20, Y21, Y22, Y23, Y24, Y25, Y26] Y6)
  ix_NoFunctions : IsX K (.ref Y7) (ansX [Y0, Y1, Y2, Y3, Y4, Y5, Y6, Y7, Y8, Y9, Y10, Y11, Y12, Y13, Y14, Y15, Y16, Y17, Y18, Y19, Y20, Y21, Y22, Y23, Y24, Y25, Y26] Y7)
  ix_IsOver : IsX K (.ref Y8) (ansX [Y0, Y1, Y2, Y3, Y4, Y5, Y6, Y7, Y8, Y9, Y10, Y11, Y12, Y13, Y14, Y15, Y16, Y17, Y18, Y19, Y20, Y21, Y22, Y23, Y24, Y25, Y26] Y8)
  ix_BadStep : IsX K (.ref Y9) (ansX [Y0, Y1, Y2, Y3, Y4, Y5, Y6, Y7, Y8, Y9, Y10, Y11, Y12, Y13, Y14, Y15, Y16, Y17, Y18, Y19, Y20, Y21, Y22, Y23, Y24, Y25, Y26] Y9)
  ix_NoName : IsX K (.ref Y10) (ansX [Y0, Y1, Y2, Y3, Y4, Y5, Y6, Y7, Y8, Y9, Y10, Y11, Y12, Y13, Y14, Y15, Y16, Y17, Y18, Y19, Y20, Y21, Y22, Y23, Y24, Y25, Y26] Y10)
  ix_NoNote : IsX K (.ref Y11) (ansX [Y0, Y1, Y2, Y3, Y4, Y5, Y6, Y7, Y8, Y9, Y10, Y11, Y12, Y13, Y14, Y15, Y16, Y17, Y18, Y19, Y20, Y21, Y22, Y23, Y24, Y25, Y26] Y11)
  ix_NothingDone : IsX K (.ref Y12) (ansX [Y0, Y1, Y2, Y3, Y4, Y5, Y6, Y7, Y8, Y9, Y10, Y11, Y12, Y13, Y14, Y15, Y16, Y17, Y18, Y19, Y20, Y21, Y22, Y23, Y24, Y25, Y26] Y12)
  ix_NoWay : IsX K (.ref Y13) (ansX [Y0, Y1, Y2, Y3, Y4, Y5, Y6, Y7, Y8, Y9, Y10, Y11, Y12, Y13, Y14, Y15, Y16, Y17, Y18, Y19, Y20, Y21, Y22, Y23, Y24, Y25, Y26] Y13)
  ix_NoLot : IsX K (.ref Y14) (ansX [Y0, Y1, Y2, Y3, Y4, Y5, Y6, Y7, Y8, Y9, Y10, Y11, Y12, Y13, Y14, Y15, Y16, Y17, Y18, Y19, Y20, Y21, Y22, Y23, Y24, Y25, Y26] Y14)
  ix_NoRing : IsX K (.ref Y15) (ansX [Y0, Y1, Y2, Y3, Y4, Y5, Y6, Y7, Y8, Y9, Y10, Y11, Y12, Y13, Y14, Y15, Y16, Y17, Y18, Y19, Y20, Y21, Y22, Y23, Y24, Y25, Y26] Y15)
  ix_NoNumber : IsX K (.ref Y16) (ansX [Y0, Y1, Y2, Y3, Y4, Y5, Y6, Y7, Y8, Y9, Y10, Y11, Y12, Y13, Y14, Y15, Y16, Y17, Y18, Y19, Y20, Y21, Y22, Y23, Y24, Y25, Y26] Y16)
  ix_Endless : IsX K (.ref Y17) (ansX [Y0, Y1, Y2, Y3, Y4, Y5, Y6, Y7, Y8, Y9, Y10, Y11, Y12, Y13, Y14, Y15, Y16, Y17, Y18, Y19, Y20, Y21, Y22, Y23, Y24, Y25, Y26] Y17)
  ix_NoRow : IsX K (.ref Y18) (ansX [Y0, Y1, Y2, Y3, Y4, Y5, Y6, Y7, Y8, Y9, Y10, Y11, Y12, Y13, Y14, Y15, Y16, Y17, Y18, Y19, Y20, Y21, Y22, Y23, Y24, Y25, Y26] Y18)
  ix_NoMarks : IsX K (.ref Y19) (ansX [Y0, Y1, Y2, Y3, Y4, Y5, Y6, Y7, Y8, Y9, Y10, Y11, Y12, Y13, Y14, Y15, Y16, Y17, Y18, Y19, Y20, Y21, Y22, Y23, Y24, Y25, Y26] Y19)
  ix_NoRoom : IsX K (.ref Y20) (ansX [Y0, Y1, Y2, Y3, Y4, Y5, Y6, Y7, Y8, Y9, Y10, Y11, Y12, Y13, Y14, Y15, Y16, Y17, Y18, Y19, Y20, Y21, Y22, Y23, Y24, Y25, Y26] Y20)
  ix_BadRow : IsX K (.ref Y21) (ansX [Y0, Y1, Y2, Y3, Y4, Y5, Y6, Y7, Y8, Y9, Y10, Y11, Y12, Y13, Y14, Y15, Y16, Y17, Y18, Y19, Y20, Y21, Y22, Y23, Y24, Y25, Y26] Y21)
  ix_NoText : IsX K (.ref Y22) (ansX [Y0, Y1, Y2, Y3, Y4, Y5, Y6, Y7, Y8, Y9, Y10, Y11, Y12, Y13, Y14, Y15, Y16, Y17, Y18, Y19, Y20, Y21, Y22, Y23, Y24, Y25, Y26] Y22)
  ix_Knotted : IsX K (.ref Y23) (ansX [Y0, Y1, Y2, Y3, Y4, Y5, Y6, Y7, Y8, Y9, Y10, Y11, Y12, Y13, Y14, Y15, Y16, Y17, Y18, Y19, Y20, Y21, Y22, Y23, Y24, Y25, Y26] Y23)
  ix_NoSteps : IsX K (.ref Y24) (ansX [Y0, Y1, Y2, Y3, Y4, Y5, Y6, Y7, Y8, Y9, Y10, Y11, Y12, Y13, Y14, Y15, Y16, Y17, Y18, Y19, Y20, Y21, Y22, Y23, Y24, Y25, Y26] Y24)
  ix_NoHead : IsX K (.ref Y25) (ansX [Y0, Y1, Y2, Y3, Y4, Y5, Y6, Y7, Y8, Y9, Y10, Y11, Y12, Y13, Y14, Y15, Y16, Y17, Y18, Y19, Y20, Y21, Y22, Y23, Y24, Y25, Y26] Y25)
  ix_NoRows : IsX K (.ref Y26) (ansX [Y0, Y1, Y2, Y3, Y4, Y5, Y6, Y7, Y8, Y9, Y10, Y11, Y12, Y13, Y14, Y15, Y16, Y17, Y18, Y19, Y20, Y21, Y22, Y23, Y24, Y25, Y26] Y26)
  ix_PileError : IsX K (.ref YP) (ansT [Y0, Y1, Y2, Y3, Y4, Y5, Y6, Y7, Y8, Y9, Y10, Y11, Y12, Y13, Y14, Y15, Y16, Y17, Y18, Y19, Y20, Y21, Y22, Y23, Y24, Y25, Y26])
  ix_ValueError : IsX K (.ty "ValueError") (ansT [Y0, Y1, Y2, Y3, Y4, Y5, Y6, Y7, Y8, Y9, Y10, Y11, Y12, Y13, Y14, Y15, Y16, Y17, Y18, Y19, Y20, Y21, Y22, Y23, Y24, Y25, Y26])
  bx_ValueError : mg "ValueError" = none
  nd : List.Nodup [Y0, Y1, Y2, Y3, Y4, Y5, Y6, Y7, Y8, Y9, Y10, Y11, Y12, Y13, Y14, Y15, Y16, Y17, Y18, Y19, Y20, Y21, Y22, Y23, Y24, Y25, Y26]
  xf_BadWorker : XfC K Y5
  n_BadWorker_number : NoAttr K Y5 "number"
  xf_BadBook : XfC K Y4
  n_BadBook_part : NoAttr K Y4 "part"
  xf_Unknown : XfC K Y3
  n_Unknown_name : NoAttr K Y3 "name"
  xf_TooMany : XfC K Y2
  n_TooMany_most : NoAttr K Y2 "most"
  xf_BadText : XfC K Y1
  n_BadText_line : NoAttr K Y1 "line"
  xf_BadProgram : XfC K Y0
  n_BadProgram_place : NoAttr K Y0 "place"
  x_NoLot : ExcT K mg "NoLot" Y14 veB "ValueError.__new__"
  x_NoWay : ExcT K mg "NoWay" Y13 veB "ValueError.__new__"
  x_NothingDone : ExcT K mg "NothingDone" Y12 veB "ValueError.__new__"
  x_NoNote : ExcT K mg "NoNote" Y11 veB "ValueError.__new__"
  x_NoName : ExcT K mg "NoName" Y10 veB "ValueError.__new__"
  x_BadStep : ExcT K mg "BadStep" Y9 veB "ValueError.__new__"
  x_IsOver : ExcT K mg "IsOver" Y8 veB "ValueError.__new__"
  x_NoFunctions : ExcT K mg "NoFunctions" Y7 veB "ValueError.__new__"
  x_NoPlace : ExcT K mg "NoPlace" Y6 veB "ValueError.__new__"
  x_Knotted : ExcT K mg "Knotted" Y23 veB "ValueError.__new__"
  x_NoText : ExcT K mg "NoText" Y22 veB "ValueError.__new__"
  x_BadRow : ExcT K mg "BadRow" Y21 veB "ValueError.__new__"
  x_NoRoom : ExcT K mg "NoRoom" Y20 veB "ValueError.__new__"
  x_NoMarks : ExcT K mg "NoMarks" Y19 veB "ValueError.__new__"
  x_NoRow : ExcT K mg "NoRow" Y18 veB "ValueError.__new__"
  x_Endless : ExcT K mg "Endless" Y17 veB "ValueError.__new__"
  x_NoNumber : ExcT K mg "NoNumber" Y16 veB "ValueError.__new__"
  x_NoRing : ExcT K mg "NoRing" Y15 veB "ValueError.__new__"
  x_NoRows : ExcT K mg "NoRows" Y26 veB "ValueError.__new__"
  x_NoHead : ExcT K mg "NoHead" Y25 veB "ValueError.__new__"
  x_NoSteps : ExcT K mg "NoSteps" Y24 veB "ValueError.__new__"
  g_TooMany : mg "TooMany" = some (.ref Y2)
  g_BadText : mg "BadText" = some (.ref Y1)
  g_BadProgram : mg "BadProgram" = some (.ref Y0)
  g_BadBook : mg "BadBook" = some (.ref Y4)
  g_Unknown : mg "Unknown" = some (.ref Y3)
  g_NoPlace : mg "NoPlace" = some (.ref Y6)
  g_BadWorker : mg "BadWorker" = some (.ref Y5)
  g_BadStep : mg "BadStep" = some (.ref Y9)
  g_IsOver : mg "IsOver" = some (.ref Y8)
  g_NoFunctions : mg "NoFunctions" = some (.ref Y7)
  g_NothingDone : mg "NothingDone" = some (.ref Y12)
  g_NoNote : mg "NoNote" = some (.ref Y11)
  g_NoName : mg "NoName" = some (.ref Y10)
  g_NoRing : mg "NoRing" = some (.ref Y15)
  g_NoLot : mg "NoLot" = some (.ref Y14)
  g_NoWay : mg "NoWay" = some (.ref Y13)
  g_NoRow : mg "NoRow" = some (.ref Y18)
  g_Endless : mg "Endless" = some (.ref Y17)
  g_NoNumber : mg "NoNumber" = some (.ref Y16)
  g_BadRow : mg "BadRow" = some (.ref Y21)
  g_NoRoom : mg "NoRoom" = some (.ref Y20)
  g_NoMarks : mg "NoMarks" = some (.ref Y19)
  g_NoSteps : mg "NoSteps" = some (.ref Y24)
  g_Knotted : mg "Knotted" = some (.ref Y23)
  g_NoText : mg "NoText" = some (.ref Y22)
  g_NoRows : mg "NoRows" = some (.ref Y26)
  g_NoHead : mg "NoHead" = some (.ref Y25)
  g_PileError : mg "PileError" = some (.ref YP)
section
variable {P : Program} {w : World} {K : PySem.W.Frag} {mg : Str → Option Value} {base : Heap}
theorem Df.cal {x : Str} {st : Stmt} {ps : List Str} {f : Addr} {fd : FuncData} {k : Nat} {sp : DSp} (d : Df K mg x st ps f fd) (ok : FnOk P w K mg base CX0 k f fd ps (liftSp K sp)) : Cal P w K mg base k x ps sp := ⟨f, fd, d.g, d.F.kp, d.b, ok⟩
theorem Df.calx {x : Str} {st : Stmt} {ps : List Str} {f : Addr} {fd : FuncData} {k : Nat} {sp : DSp} (d : Df K mg x st ps f fd) (ok : FnOk P w K mg base (L2.CX P w) k f fd ps (liftSp K sp)) : CalX P w K mg base k x ps sp := ⟨f, fd, d.g, d.F.kp, d.b, ok⟩
end
section
variable {P : Program} {w : World} {K : PySem.W.Frag} {mg : Str → Option Value} {base : Heap}
theorem ok__law_hand {Y0 Y1 Y2 Y3 Y4 Y5 Y6 Y7 Y8 Y9 Y10 Y11 Y12 Y13 Y14 Y15 Y16 Y17 Y18 Y19 Y20 Y21 Y22 Y23 Y24 Y25 Y26 YP : Addr} (T : Txt w K mg Y0 Y1 Y2 Y3 Y4 Y5 Y6 Y7 Y8 Y9 Y10 Y11 Y12 Y13 Y14 Y15 Y16 Y17 Y18 Y19 Y20 Y21 Y22 Y23 Y24 Y25 Y26 YP)  {f : Addr} {fd : FuncData} (d : Df K mg "_law_hand" s__law_hand ["_law_script"] f fd) : FnOk P w K mg base CX0 1 f fd ["_law_script"] (liftSp K sp_hand) :=
  DL.Fun.okD (W := fun _ _ _ _ => False) d.F sc__law_hand (fun ds G Q E h => by obtain ⟨ns, rfl, _⟩ := h; rfl) (fun cdv A outer s H E hr => d__law_hand (B := T.bi) cdv A outer s H E hr) (fun ds G Q E h => v_hand h)
theorem ok__law_draw {Y0 Y1 Y2 Y3 Y4 Y5 Y6 Y7 Y8 Y9 Y10 Y11 Y12 Y13 Y14 Y15 Y16 Y17 Y18 Y19 Y20 Y21 Y22 Y23 Y24 Y25 Y26 YP : Addr} (T : Txt w K mg Y0 Y1 Y2 Y3 Y4 Y5 Y6 Y7 Y8 Y9 Y10 Y11 Y12 Y13 Y14 Y15 Y16 Y17 Y18 Y19 Y20 Y21 Y22 Y23 Y24 Y25 Y26 YP)  {f : Addr} {fd : FuncData} (d : Df K mg "_law_draw" s__law_draw ["_law_hand_here", "_law_many"] f fd) : FnOk P w K mg base CX0 1 f fd ["_law_hand_here", "_law_many"] (liftSp K sp_draw) :=
  DL.Fun.okD (W := fun _ _ _ _ => False) d.F sc__law_draw (fun ds G Q E h => by obtain ⟨p, m, rfl, _⟩ := h; rfl) (fun cdv A outer s H E hr => d__law_draw (B := T.bi) cdv A outer s H E hr) (fun ds G Q E h => v_draw h)
theorem ok__law_any {Y0 Y1 Y2 Y3 Y4 Y5 Y6 Y7 Y8 Y9 Y10 Y11 Y12 Y13 Y14 Y15 Y16 Y17 Y18 Y19 Y20 Y21 Y22 Y23 Y24 Y25 Y26 YP : Addr} (T : Txt w K mg Y0 Y1 Y2 Y3 Y4 Y5 Y6 Y7 Y8 Y9 Y10 Y11 Y12 Y13 Y14 Y15 Y16 Y17 Y18 Y19 Y20 Y21 Y22 Y23 Y24 Y25 Y26 YP) (c__law_draw : Cal P w K mg base 1 "_law_draw" ["_law_hand_here", "_law_many"] sp_draw) {f : Addr} {fd : FuncData} (d : Df K mg "_law_any" s__law_any ["_law_hand_here", "_law_things"] f fd) : FnOk P w K mg base CX0 2 f fd ["_law_hand_here", "_law_things"] (liftSp K sp_any) :=
  DL.Fun.okD (W := fun _ _ _ _ => False) d.F sc__law_any (fun ds G Q E h => by obtain ⟨p, x, xs, rfl, _⟩ := h; rfl) (fun cdv A outer s H E hr => d__law_any (B := T.bi) (c__law_draw := c__law_draw) cdv A outer s H E hr) (fun ds G Q E h => v_any h)
theorem ok__law_deep {Y0 Y1 Y2 Y3 Y4 Y5 Y6 Y7 Y8 Y9 Y10 Y11 Y12 Y13 Y14 Y15 Y16 Y17 Y18 Y19 Y20 Y21 Y22 Y23 Y24 Y25 Y26 YP : Addr} (T : Txt w K mg Y0 Y1 Y2 Y3 Y4 Y5 Y6 Y7 Y8 Y9 Y10 Y11 Y12 Y13 Y14 Y15 Y16 Y17 Y18 Y19 Y20 Y21 Y22 Y23 Y24 Y25 Y26 YP) (c__law_draw : Cal P w K mg base 1 "_law_draw" ["_law_hand_here", "_law_many"] sp_draw) {f : Addr} {fd : FuncData} (d : Df K mg "_law_deep" s__law_deep ["_law_hand_here"] f fd) : FnOk P w K mg base CX0 2 f fd ["_law_hand_here"] (liftSp K sp_deep) :=
  DL.Fun.okD (W := fun _ _ _ _ => False) d.F sc__law_deep (fun ds G Q E h => by obtain ⟨p, rfl, _⟩ := h; rfl) (fun cdv A outer s H E hr => d__law_deep (c__law_draw := c__law_draw) (B := T.bi) cdv A outer s H E hr) (fun ds G Q E h => v_deep h)
theorem ok_law {Y0 Y1 Y2 Y3 Y4 Y5 Y6 Y7 Y8 Y9 Y10 Y11 Y12 Y13 Y14 Y15 Y16 Y17 Y18 Y19 Y20 Y21 Y22 Y23 Y24 Y25 Y26 YP : Addr} (T : Txt w K mg Y0 Y1 Y2 Y3 Y4 Y5 Y6 Y7 Y8 Y9 Y10 Y11 Y12 Y13 Y14 Y15 Y16 Y17 Y18 Y19 Y20 Y21 Y22 Y23 Y24 Y25 Y26 YP) (c__law_hand : Cal P w K mg base 2 "_law_hand" ["_law_script"] sp_hand) (c__law_deep : Cal P w K mg base 2 "_law_deep" ["_law_hand_here"] sp_deep) (c__law_any : Cal P w K mg base 2 "_law_any" ["_law_hand_here", "_law_things"] sp_any) (xr_BadWorker : ExcF P w K mg base 1 "BadWorker" Y5 "number") (xr_BadBook : ExcF P w K mg base 1 "BadBook" Y4 "part") (xr_Unknown : ExcF P w K mg base 1 "Unknown" Y3 "name") (xr_TooMany : ExcF P w K mg base 1 "TooMany" Y2 "most") (xr_BadText : ExcF P w K mg base 1 "BadText" Y1 "line") (xr_BadProgram : ExcF P w K mg base 1 "BadProgram" Y0 "place") {f : Addr} {fd : FuncData} (d : Df K mg "law" s_law ["_law_script"] f fd) : FnOk P w K mg base CX0 3 f fd ["_law_script"] (liftSp K sp_law) :=
  DL.Fun.okD (W := fun _ _ _ _ => False) d.F sc_law (fun ds G Q E h => by obtain ⟨ns, rfl, _⟩ := h; rfl) (fun cdv A outer s H E hr => d_law (c__law_hand := c__law_hand) (c__law_deep := c__law_deep) (c__law_any := c__law_any) (xr_BadWorker := xr_BadWorker) (hkx_BadWorker := by decide) (xr_BadBook := xr_BadBook) (hkx_BadBook := by decide) (xr_Unknown := xr_Unknown) (hkx_Unknown := by decide) (xr_TooMany := xr_TooMany) (hkx_TooMany := by decide) (xr_BadText := xr_BadText) (hkx_BadText := by decide) (xr_BadProgram := xr_BadProgram) (hkx_BadProgram := by decide) (xf_BadWorker := T.xf_BadWorker) (n_BadWorker_number := T.n_BadWorker_number) (xf_BadBook := T.xf_BadBook) (n_BadBook_part := T.n_BadBook_part) (xf_Unknown := T.xf_Unknown) (n_Unknown_name := T.n_Unknown_name) (xf_TooMany := T.xf_TooMany) (n_TooMany_most := T.n_TooMany_most) (xf_BadText := T.xf_BadText) (n_BadText_line := T.n_BadText_line) (xf_BadProgram := T.xf_BadProgram) (n_BadProgram_place := T.n_BadProgram_place) (hOC := noOC_ok) (B := T.bi) (x_NoLot := T.x_NoLot) (x_NoWay := T.x_NoWay) (x_NothingDone := T.x_NothingDone) (x_NoNote := T.x_NoNote) (x_NoName := T.x_NoName) (x_BadStep := T.x_BadStep) (x_IsOver := T.x_IsOver) (x_NoFunctions := T.x_NoFunctions) (x_NoPlace := T.x_NoPlace) (x_Knotted := T.x_Knotted) (x_NoText := T.x_NoText) (x_BadRow := T.x_BadRow) (x_NoRoom := T.x_NoRoom) (x_NoMarks := T.x_NoMarks) (x_NoRow := T.x_NoRow) (x_Endless := T.x_Endless) (x_NoNumber := T.x_NoNumber) (x_NoRing := T.x_NoRing) (x_NoRows := T.x_NoRows) (x_NoHead := T.x_NoHead) (x_NoSteps := T.x_NoSteps) (g_TooMany := T.g_TooMany) (ix_TooMany := T.ix_TooMany) (g_BadText := T.g_BadText) (ix_BadText := T.ix_BadText) (g_BadProgram := T.g_BadProgram) (ix_BadProgram := T.ix_BadProgram) (g_BadBook := T.g_BadBook) (ix_BadBook := T.ix_BadBook) (g_Unknown := T.g_Unknown) (ix_Unknown := T.ix_Unknown) (g_NoPlace := T.g_NoPlace) (ix_NoPlace := T.ix_NoPlace) (g_BadWorker := T.g_BadWorker) (ix_BadWorker := T.ix_BadWorker) (g_BadStep := T.g_BadStep) (ix_BadStep := T.ix_BadStep) (g_IsOver := T.g_IsOver) (ix_IsOver := T.ix_IsOver) (g_NoFunctions := T.g_NoFunctions) (ix_NoFunctions := T.ix_NoFunctions) (g_NothingDone := T.g_NothingDone) (ix_NothingDone := T.ix_NothingDone) (g_NoNote := T.g_NoNote) (ix_NoNote := T.ix_NoNote) (g_NoName := T.g_NoName) (ix_NoName := T.ix_NoName) (g_NoRing := T.g_NoRing) (ix_NoRing := T.ix_NoRing) (g_NoLot := T.g_NoLot) (ix_NoLot := T.ix_NoLot) (g_NoWay := T.g_NoWay) (ix_NoWay := T.ix_NoWay) (g_NoRow := T.g_NoRow) (ix_NoRow := T.ix_NoRow) (g_Endless := T.g_Endless) (ix_Endless := T.ix_Endless) (g_NoNumber := T.g_NoNumber) (ix_NoNumber := T.ix_NoNumber) (g_BadRow := T.g_BadRow) (ix_BadRow := T.ix_BadRow) (g_NoRoom := T.g_NoRoom) (ix_NoRoom := T.ix_NoRoom) (g_NoMarks := T.g_NoMarks) (ix_NoMarks := T.ix_NoMarks) (g_NoSteps := T.g_NoSteps) (ix_NoSteps := T.ix_NoSteps) (g_Knotted := T.g_Knotted) (ix_Knotted := T.ix_Knotted) (g_NoText := T.g_NoText) (ix_NoText := T.ix_NoText) (g_NoRows := T.g_NoRows) (ix_NoRows := T.ix_NoRows) (g_NoHead := T.g_NoHead) (ix_NoHead := T.ix_NoHead) (g_PileError := T.g_PileError) (ix_PileError := T.ix_PileError) (bx_ValueError := T.bx_ValueError) (ix_ValueError := T.ix_ValueError) cdv A outer s H E hr) (fun ds G Q E h => v_law (OC := noOC) rfl T.nd h)
end
end P3

/-! V0q: what the top has written. -/
namespace P3
open PySem PySem.Spec L2 DL
theorem all_mk {l : PySem.W.OpenLaw} {w : World} {K : PySem.W.Frag} {h : Heap} {mg : Str → Option Value} {fa : Addr} (X : K.In h) (G : h.Ns mainGlobals mg) (hfa : mg "law" = some (.ref fa))
    {f1 : Addr} {od1 an1 : Option Addr} {sl1 : Array (Option Value)} {oc1 kV1 dc1 pm1 cd1 ct1 : Value}
    {f2 : Addr} {od2 an2 : Option Addr} {sl2 : Array (Option Value)} {oc2 kV2 dc2 pm2 cd2 ct2 : Value}
    {f3 : Addr} {od3 an3 : Option Addr} {sl3 : Array (Option Value)} {oc3 kV3 dc3 pm3 cd3 ct3 : Value}
    {f4 : Addr} {od4 an4 : Option Addr} {sl4 : Array (Option Value)} {oc4 kV4 dc4 pm4 cd4 ct4 : Value}
    {f5 : Addr} {od5 an5 : Option Addr} {sl5 : Array (Option Value)} {oc5 kV5 dc5 pm5 cd5 ct5 : Value}
    {f90 cc90 cda90 : Addr} {od90 cdd90 cld90 ddX90 : Option Addr} {sl90 ccs90 csl90 : Array (Option Value)} {vs90 : Array Value} {oc90 doc90 pm90 ct90 ccl90 cl90 : Value} {file90 nmX90 qX90 : Str} {tf90 : Tok} {cdd290 : ClassData} {NX90 : Addr} {bsX90 bmX90 subX90 : List Value} {snX90 : List Str} {abX90 : Bool} {colX90 : Option Bool} {k090 k190 k290 k390 k590 : Option Value}
    {f91 cc91 cda91 : Addr} {od91 cdd91 cld91 ddX91 : Option Addr} {sl91 ccs91 csl91 : Array (Option Value)} {vs91 : Array Value} {oc91 doc91 pm91 ct91 ccl91 cl91 : Value} {file91 nmX91 qX91 : Str} {tf91 : Tok} {cdd291 : ClassData} {NX91 : Addr} {bsX91 bmX91 subX91 : List Value} {snX91 : List Str} {abX91 : Bool} {colX91 : Option Bool} {k091 k191 k291 k391 k591 : Option Value}
    {f92 cc92 cda92 : Addr} {od92 cdd92 cld92 ddX92 : Option Addr} {sl92 ccs92 csl92 : Array (Option Value)} {vs92 : Array Value} {oc92 doc92 pm92 ct92 ccl92 cl92 : Value} {file92 nmX92 qX92 : Str} {tf92 : Tok} {cdd292 : ClassData} {NX92 : Addr} {bsX92 bmX92 subX92 : List Value} {snX92 : List Str} {abX92 : Bool} {colX92 : Option Bool} {k092 k192 k292 k392 k592 : Option Value}
    {f93 cc93 cda93 : Addr} {od93 cdd93 cld93 ddX93 : Option Addr} {sl93 ccs93 csl93 : Array (Option Value)} {vs93 : Array Value} {oc93 doc93 pm93 ct93 ccl93 cl93 : Value} {file93 nmX93 qX93 : Str} {tf93 : Tok} {cdd293 : ClassData} {NX93 : Addr} {bsX93 bmX93 subX93 : List Value} {snX93 : List Str} {abX93 : Bool} {colX93 : Option Bool} {k093 k193 k293 k393 k593 : Option Value}
    {f94 cc94 cda94 : Addr} {od94 cdd94 cld94 ddX94 : Option Addr} {sl94 ccs94 csl94 : Array (Option Value)} {vs94 : Array Value} {oc94 doc94 pm94 ct94 ccl94 cl94 : Value} {file94 nmX94 qX94 : Str} {tf94 : Tok} {cdd294 : ClassData} {NX94 : Addr} {bsX94 bmX94 subX94 : List Value} {snX94 : List Str} {abX94 : Bool} {colX94 : Option Bool} {k094 k194 k294 k394 k594 : Option Value}
    {f95 cc95 cda95 : Addr} {od95 cdd95 cld95 ddX95 : Option Addr} {sl95 ccs95 csl95 : Array (Option Value)} {vs95 : Array Value} {oc95 doc95 pm95 ct95 ccl95 cl95 : Value} {file95 nmX95 qX95 : Str} {tf95 : Tok} {cdd295 : ClassData} {NX95 : Addr} {bsX95 bmX95 subX95 : List Value} {snX95 : List Str} {abX95 : Bool} {colX95 : Option Bool} {k095 k195 k295 k395 k595 : Option Value}
    {Y0 Y1 Y2 Y3 Y4 Y5 Y6 Y7 Y8 Y9 Y10 Y11 Y12 Y13 Y14 Y15 Y16 Y17 Y18 Y19 Y20 Y21 Y22 Y23 Y24 Y25 Y26 YP : Addr}
    (a1 : PySem.W.nsIn K mainGlobals "_law_hand" = some (some (.ref f1)))
    (l1 : K.lookup f1 = some ⟨oc1, od1, .func (PySem.W.fnOf "_law_hand" "_law_hand" (defArgs s__law_hand) (defBody s__law_hand) (defScope s__law_hand) .none kV1 dc1 pm1 an1 cd1 ct1), sl1⟩)
    (c1 : PySem.W.codeIn K cd1 "_law_hand" = true)
    (k1 : PySem.W.keepIn K (.ref f1) = true)
    (a2 : PySem.W.nsIn K mainGlobals "_law_draw" = some (some (.ref f2)))
    (l2 : K.lookup f2 = some ⟨oc2, od2, .func (PySem.W.fnOf "_law_draw" "_law_draw" (defArgs s__law_draw) (defBody s__law_draw) (defScope s__law_draw) .none kV2 dc2 pm2 an2 cd2 ct2), sl2⟩)
    (c2 : PySem.W.codeIn K cd2 "_law_draw" = true)
    (k2 : PySem.W.keepIn K (.ref f2) = true)
    (a3 : PySem.W.nsIn K mainGlobals "_law_any" = some (some (.ref f3)))
    (l3 : K.lookup f3 = some ⟨oc3, od3, .func (PySem.W.fnOf "_law_any" "_law_any" (defArgs s__law_any) (defBody s__law_any) (defScope s__law_any) .none kV3 dc3 pm3 an3 cd3 ct3), sl3⟩)
    (c3 : PySem.W.codeIn K cd3 "_law_any" = true)
    (k3 : PySem.W.keepIn K (.ref f3) = true)
    (a4 : PySem.W.nsIn K mainGlobals "_law_deep" = some (some (.ref f4)))
    (l4 : K.lookup f4 = some ⟨oc4, od4, .func (PySem.W.fnOf "_law_deep" "_law_deep" (defArgs s__law_deep) (defBody s__law_deep) (defScope s__law_deep) .none kV4 dc4 pm4 an4 cd4 ct4), sl4⟩)
    (c4 : PySem.W.codeIn K cd4 "_law_deep" = true)
    (k4 : PySem.W.keepIn K (.ref f4) = true)
    (a5 : PySem.W.nsIn K mainGlobals "law" = some (some (.ref f5)))
    (l5 : K.lookup f5 = some ⟨oc5, od5, .func (PySem.W.fnOf "law" "law" (defArgs s_law) (defBody s_law) (defScope s_law) .none kV5 dc5 pm5 an5 cd5 ct5), sl5⟩)
    (c5 : PySem.W.codeIn K cd5 "law" = true)
    (k5 : PySem.W.keepIn K (.ref f5) = true)
    (eC90 : PySem.W.nsIn K mainGlobals "BadProgram" = some (some (.ref Y0)))
    (eL90 : K.lookup Y0 = some (excClassObj nmX90 qX90 Y0 NX90 bsX90 bmX90 true snX90 subX90 abX90 colX90 ddX90 k090 k190 k290 k390 k590 "ValueError.__new__"))
    (eR90 : PySem.HandSPX.refsVE bmX90 = true)
    (eS90 : PySem.W.findIn K (.ref Y0) "__setattr__" = some (some (.builtin "object.__setattr__")))
    (eB90 : PySem.W.subIn K (.ref Y0) (.type "BaseException") = some true)
    (eT90 : PySem.W.typeIn K (.ref Y0) = some (.type "type"))
    (eK90 : PySem.W.keepIn K (.ref Y0) = true)
    (eI90 : PySem.W.findIn K (.ref Y0) "__init__" = some (some (.ref f90)))
    (eF90 : PySem.W.typeIn K (.ref f90) = some (.type "function"))
    (el90 : K.lookup f90 = some ⟨oc90, od90, .func (PySem.W.fnX "__init__" "BadProgram.__init__" (defArgs s_BadProgram_d__init_d_) (defBody s_BadProgram_d__init_d_) (defScope s_BadProgram_d__init_d_) [("__class__", cc90)] .none .none doc90 pm90 none (.ref cda90) ct90), sl90⟩)
    (ec90 : PySem.W.codeIn K (.ref cda90) "BadProgram.__init__" = true)
    (ed90 : K.lookup cda90 = some ⟨ccl90, cdd90, .fields vs90, ccs90⟩)
    (ev90 : vs90[2]? = some (.str file90 tf90))
    (ef90 : ((l.prog.main.file : Str) == file90) = true)
    (ee90 : K.lookup cc90 = some ⟨cl90, cld90, .cell (some (.ref Y0)), csl90⟩)
    (eX90 : PySem.W.clsIn K Y0 = some cdd290)
    (eU90 : PySem.W.ks_superIn K Y0 Y0 "__init__" = some (some (.builtin "ValueError.__init__")))
    (eV90 : PySem.W.subIn K (.ref Y0) (.type "ValueError") = some true)
    (eM90 : PySem.W.mroIn K Y0 (.ref Y0) = some true)
    (eO90 : PySem.W.nsIn K PySem.cStatics "thirdparty.any" = some none)
    (eP90 : (l.prog.main.scope.names.lookup ("super" : Str)).isSome = false)
    (eN90 : PySem.W.findIn K (.ref Y0) "place" = some none)
    (eG90 : PySem.W.findIn K (.ref Y0) "__getattribute__" = some (some (.builtin "BaseException.__getattribute__")))
    (eg90 : PySem.W.findIn K (.ref Y0) "__getattr__" = some none)
    (eD90 : PySem.W.hasDictIn K Y0 = true)
    (eC91 : PySem.W.nsIn K mainGlobals "BadText" = some (some (.ref Y1)))
    (eL91 : K.lookup Y1 = some (excClassObj nmX91 qX91 Y1 NX91 bsX91 bmX91 true snX91 subX91 abX91 colX91 ddX91 k091 k191 k291 k391 k591 "ValueError.__new__"))
    (eR91 : PySem.HandSPX.refsVE bmX91 = true)
    (eS91 : PySem.W.findIn K (.ref Y1) "__setattr__" = some (some (.builtin "object.__setattr__")))
    (eB91 : PySem.W.subIn K (.ref Y1) (.type "BaseException") = some true)
    (eT91 : PySem.W.typeIn K (.ref Y1) = some (.type "type"))
    (eK91 : PySem.W.keepIn K (.ref Y1) = true)
    (eI91 : PySem.W.findIn K (.ref Y1) "__init__" = some (some (.ref f91)))
    (eF91 : PySem.W.typeIn K (.ref f91) = some (.type "function"))
    (el91 : K.lookup f91 = some ⟨oc91, od91, .func (PySem.W.fnX "__init__" "BadText.__init__" (defArgs s_BadText_d__init_d_) (defBody s_BadText_d__init_d_) (defScope s_BadText_d__init_d_) [("__class__", cc91)] .none .none doc91 pm91 none (.ref cda91) ct91), sl91⟩)
    (ec91 : PySem.W.codeIn K (.ref cda91) "BadText.__init__" = true)
    (ed91 : K.lookup cda91 = some ⟨ccl91, cdd91, .fields vs91, ccs91⟩)
    (ev91 : vs91[2]? = some (.str file91 tf91))
    (ef91 : ((l.prog.main.file : Str) == file91) = true)
    (ee91 : K.lookup cc91 = some ⟨cl91, cld91, .cell (some (.ref Y1)), csl91⟩)
    (eX91 : PySem.W.clsIn K Y1 = some cdd291)
    (eU91 : PySem.W.ks_superIn K Y1 Y1 "__init__" = some (some (.builtin "ValueError.__init__")))
    (eV91 : PySem.W.subIn K (.ref Y1) (.type "ValueError") = some true)
    (eM91 : PySem.W.mroIn K Y1 (.ref Y1) = some true)
    (eO91 : PySem.W.nsIn K PySem.cStatics "thirdparty.any" = some none)
    (eP91 : (l.prog.main.scope.names.lookup ("super" : Str)).isSome = false)
    (eN91 : PySem.W.findIn K (.ref Y1) "line" = some none)
    (eG91 : PySem.W.findIn K (.ref Y1) "__getattribute__" = some (some (.builtin "BaseException.__getattribute__")))
    (eg91 : PySem.W.findIn K (.ref Y1) "__getattr__" = some none)
    (eD91 : PySem.W.hasDictIn K Y1 = true)
    (eC92 : PySem.W.nsIn K mainGlobals "TooMany" = some (some (.ref Y2)))
    (eL92 : K.lookup Y2 = some (excClassObj nmX92 qX92 Y2 NX92 bsX92 bmX92 true snX92 subX92 abX92 colX92 ddX92 k092 k192 k292 k392 k592 "ValueError.__new__"))
    (eR92 : PySem.HandSPX.refsVE bmX92 = true)
    (eS92 : PySem.W.findIn K (.ref Y2) "__setattr__" = some (some (.builtin "object.__setattr__")))
    (eB92 : PySem.W.subIn K (.ref Y2) (.type "BaseException") = some true)
    (eT92 : PySem.W.typeIn K (.ref Y2) = some (.type "type"))
    (eK92 : PySem.W.keepIn K (.ref Y2) = true)
    (eI92 : PySem.W.findIn K (.ref Y2) "__init__" = some (some (.ref f92)))
    (eF92 : PySem.W.typeIn K (.ref f92) = some (.type "function"))
    (el92 : K.lookup f92 = some ⟨oc92, od92, .func (PySem.W.fnX "__init__" "TooMany.__init__" (defArgs s_TooMany_d__init_d_) (defBody s_TooMany_d__init_d_) (defScope s_TooMany_d__init_d_) [("__class__", cc92)] .none .none doc92 pm92 none (.ref cda92) ct92), sl92⟩)
    (ec92 : PySem.W.codeIn K (.ref cda92) "TooMany.__init__" = true)
    (ed92 : K.lookup cda92 = some ⟨ccl92, cdd92, .fields vs92, ccs92⟩)
    (ev92 : vs92[2]? = some (.str file92 tf92))
    (ef92 : ((l.prog.main.file : Str) == file92) = true)
    (ee92 : K.lookup cc92 = some ⟨cl92, cld92, .cell (some (.ref Y2)), csl92⟩)
    (eX92 : PySem.W.clsIn K Y2 = some cdd292)
    (eU92 : PySem.W.ks_superIn K Y2 Y2 "__init__" = some (some (.builtin "ValueError.__init__")))
    (eV92 : PySem.W.subIn K (.ref Y2) (.type "ValueError") = some true)
    (eM92 : PySem.W.mroIn K Y2 (.ref Y2) = some true)
    (eO92 : PySem.W.nsIn K PySem.cStatics "thirdparty.any" = some none)
    (eP92 : (l.prog.main.scope.names.lookup ("super" : Str)).isSome = false)
    (eN92 : PySem.W.findIn K (.ref Y2) "most" = some none)
    (eG92 : PySem.W.findIn K (.ref Y2) "__getattribute__" = some (some (.builtin "BaseException.__getattribute__")))
    (eg92 : PySem.W.findIn K (.ref Y2) "__getattr__" = some none)
    (eD92 : PySem.W.hasDictIn K Y2 = true)
    (eC93 : PySem.W.nsIn K mainGlobals "Unknown" = some (some (.ref Y3)))
    (eL93 : K.lookup Y3 = some (excClassObj nmX93 qX93 Y3 NX93 bsX93 bmX93 true snX93 subX93 abX93 colX93 ddX93 k093 k193 k293 k393 k593 "ValueError.__new__"))
    (eR93 : PySem.HandSPX.refsVE bmX93 = true)
    (eS93 : PySem.W.findIn K (.ref Y3) "__setattr__" = some (some (.builtin "object.__setattr__")))
    (eB93 : PySem.W.subIn K (.ref Y3) (.type "BaseException") = some true)
    (eT93 : PySem.W.typeIn K (.ref Y3) = some (.type "type"))
    (eK93 : PySem.W.keepIn K (.ref Y3) = true)
    (eI93 : PySem.W.findIn K (.ref Y3) "__init__" = some (some (.ref f93)))
    (eF93 : PySem.W.typeIn K (.ref f93) = some (.type "function"))
    (el93 : K.lookup f93 = some ⟨oc93, od93, .func (PySem.W.fnX "__init__" "Unknown.__init__" (defArgs s_Unknown_d__init_d_) (defBody s_Unknown_d__init_d_) (defScope s_Unknown_d__init_d_) [("__class__", cc93)] .none .none doc93 pm93 none (.ref cda93) ct93), sl93⟩)
    (ec93 : PySem.W.codeIn K (.ref cda93) "Unknown.__init__" = true)
    (ed93 : K.lookup cda93 = some ⟨ccl93, cdd93, .fields vs93, ccs93⟩)
    (ev93 : vs93[2]? = some (.str file93 tf93))
    (ef93 : ((l.prog.main.file : Str) == file93) = true)
    (ee93 : K.lookup cc93 = some ⟨cl93, cld93, .cell (some (.ref Y3)), csl93⟩)
    (eX93 : PySem.W.clsIn K Y3 = some cdd293)
    (eU93 : PySem.W.ks_superIn K Y3 Y3 "__init__" = some (some (.builtin "ValueError.__init__")))
    (eV93 : PySem.W.subIn K (.ref Y3) (.type "ValueError") = some true)
    (eM93 : PySem.W.mroIn K Y3 (.ref Y3) = some true)
    (eO93 : PySem.W.nsIn K PySem.cStatics "thirdparty.any" = some none)
    (eP93 : (l.prog.main.scope.names.lookup ("super" : Str)).isSome = false)
    (eN93 : PySem.W.findIn K (.ref Y3) "name" = some none)
    (eG93 : PySem.W.findIn K (.ref Y3) "__getattribute__" = some (some (.builtin "BaseException.__getattribute__")))
    (eg93 : PySem.W.findIn K (.ref Y3) "__getattr__" = some none)
    (eD93 : PySem.W.hasDictIn K Y3 = true)
    (eC94 : PySem.W.nsIn K mainGlobals "BadBook" = some (some (.ref Y4)))
    (eL94 : K.lookup Y4 = some (excClassObj nmX94 qX94 Y4 NX94 bsX94 bmX94 true snX94 subX94 abX94 colX94 ddX94 k094 k194 k294 k394 k594 "ValueError.__new__"))
    (eR94 : PySem.HandSPX.refsVE bmX94 = true)
    (eS94 : PySem.W.findIn K (.ref Y4) "__setattr__" = some (some (.builtin "object.__setattr__")))
    (eB94 : PySem.W.subIn K (.ref Y4) (.type "BaseException") = some true)
    (eT94 : PySem.W.typeIn K (.ref Y4) = some (.type "type"))
    (eK94 : PySem.W.keepIn K (.ref Y4) = true)
    (eI94 : PySem.W.findIn K (.ref Y4) "__init__" = some (some (.ref f94)))
    (eF94 : PySem.W.typeIn K (.ref f94) = some (.type "function"))
    (el94 : K.lookup f94 = some ⟨oc94, od94, .func (PySem.W.fnX "__init__" "BadBook.__init__" (defArgs s_BadBook_d__init_d_) (defBody s_BadBook_d__init_d_) (defScope s_BadBook_d__init_d_) [("__class__", cc94)] .none .none doc94 pm94 none (.ref cda94) ct94), sl94⟩)
    (ec94 : PySem.W.codeIn K (.ref cda94) "BadBook.__init__" = true)
    (ed94 : K.lookup cda94 = some ⟨ccl94, cdd94, .fields vs94, ccs94⟩)
    (ev94 : vs94[2]? = some (.str file94 tf94))
    (ef94 : ((l.prog.main.file : Str) == file94) = true)
    (ee94 : K.lookup cc94 = some ⟨cl94, cld94, .cell (some (.ref Y4)), csl94⟩)
    (eX94 : PySem.W.clsIn K Y4 = some cdd294)
    (eU94 : PySem.W.ks_superIn K Y4 Y4 "__init__" = some (some (.builtin "ValueError.__init__")))
    (eV94 : PySem.W.subIn K (.ref Y4) (.type "ValueError") = some true)
    (eM94 : PySem.W.mroIn K Y4 (.ref Y4) = some true)
    (eO94 : PySem.W.nsIn K PySem.cStatics "thirdparty.any" = some none)
    (eP94 : (l.prog.main.scope.names.lookup ("super" : Str)).isSome = false)
    (eN94 : PySem.W.findIn K (.ref Y4) "part" = some none)
    (eG94 : PySem.W.findIn K (.ref Y4) "__getattribute__" = some (some (.builtin "BaseException.__getattribute__")))
    (eg94 : PySem.W.findIn K (.ref Y4) "__getattr__" = some none)
    (eD94 : PySem.W.hasDictIn K Y4 = true)
    (eC95 : PySem.W.nsIn K mainGlobals "BadWorker" = some (some (.ref Y5)))
    (eL95 : K.lookup Y5 = some (excClassObj nmX95 qX95 Y5 NX95 bsX95 bmX95 true snX95 subX95 abX95 colX95 ddX95 k095 k195 k295 k395 k595 "ValueError.__new__"))
    (eR95 : PySem.HandSPX.refsVE bmX95 = true)
    (eS95 : PySem.W.findIn K (.ref Y5) "__setattr__" = some (some (.builtin "object.__setattr__")))
    (eB95 : PySem.W.subIn K (.ref Y5) (.type "BaseException") = some true)
    (eT95 : PySem.W.typeIn K (.ref Y5) = some (.type "type"))
    (eK95 : PySem.W.keepIn K (.ref Y5) = true)
    (eI95 : PySem.W.findIn K (.ref Y5) "__init__" = some (some (.ref f95)))
    (eF95 : PySem.W.typeIn K (.ref f95) = some (.type "function"))
    (el95 : K.lookup f95 = some ⟨oc95, od95, .func (PySem.W.fnX "__init__" "BadWorker.__init__" (defArgs s_BadWorker_d__init_d_) (defBody s_BadWorker_d__init_d_) (defScope s_BadWorker_d__init_d_) [("__class__", cc95)] .none .none doc95 pm95 none (.ref cda95) ct95), sl95⟩)
    (ec95 : PySem.W.codeIn K (.ref cda95) "BadWorker.__init__" = true)
    (ed95 : K.lookup cda95 = some ⟨ccl95, cdd95, .fields vs95, ccs95⟩)
    (ev95 : vs95[2]? = some (.str file95 tf95))
    (ef95 : ((l.prog.main.file : Str) == file95) = true)
    (ee95 : K.lookup cc95 = some ⟨cl95, cld95, .cell (some (.ref Y5)), csl95⟩)
    (eX95 : PySem.W.clsIn K Y5 = some cdd295)
    (eU95 : PySem.W.ks_superIn K Y5 Y5 "__init__" = some (some (.builtin "ValueError.__init__")))
    (eV95 : PySem.W.subIn K (.ref Y5) (.type "ValueError") = some true)
    (eM95 : PySem.W.mroIn K Y5 (.ref Y5) = some true)
    (eO95 : PySem.W.nsIn K PySem.cStatics "thirdparty.any" = some none)
    (eP95 : (l.prog.main.scope.names.lookup ("super" : Str)).isSome = false)
    (eN95 : PySem.W.findIn K (.ref Y5) "number" = some none)
    (eG95 : PySem.W.findIn K (.ref Y5) "__getattribute__" = some (some (.builtin "BaseException.__getattribute__")))
    (eg95 : PySem.W.findIn K (.ref Y5) "__getattr__" = some none)
    (eD95 : PySem.W.hasDictIn K Y5 = true)
    (aCY6 : PySem.W.nsIn K mainGlobals "NoPlace" = some (some (.ref Y6)))
    (xiY6 : PySem.W.excIn K Y6 veB "ValueError.__new__" = true)
    (xkY6 : PySem.W.keepIn K (.ref Y6) = true)
    (xsY6 : PySem.W.subIn K (.ref Y6) (.type "BaseException") = some true)
    (xtY6 : PySem.W.typeIn K (.ref Y6) = some (.type "type"))
    (aCY7 : PySem.W.nsIn K mainGlobals "NoFunctions" = some (some (.ref Y7)))
    (xiY7 : PySem.W.excIn K Y7 veB "ValueError.__new__" = true)
    (xkY7 : PySem.W.keepIn K (.ref Y7) = true)
    (xsY7 : PySem.W.subIn K (.ref Y7) (.type "BaseException") = some true)
    (xtY7 : PySem.W.typeIn K (.ref Y7) = some (.type "type"))
    (aCY8 : PySem.W.nsIn K mainGlobals "IsOver" = some (some (.ref Y8)))
    (xiY8 : PySem.W.excIn K Y8 veB "ValueError.__new__" = true)
    (xkY8 : PySem.W.keepIn K (.ref Y8) = true)
    (xsY8 : PySem.W.subIn K (.ref Y8) (.type "BaseException") = some true)
    (xtY8 : PySem.W.typeIn K (.ref Y8) = some (.type "type"))
    (aCY9 : PySem.W.nsIn K mainGlobals "BadStep" = some (some (.ref Y9)))
    (xiY9 : PySem.W.excIn K Y9 veB "ValueError.__new__" = true)
    (xkY9 : PySem.W.keepIn K (.ref Y9) = true)
    (xsY9 : PySem.W.subIn K (.ref Y9) (.type "BaseException") = some true)
    (xtY9 : PySem.W.typeIn K (.ref Y9) = some (.type "type"))
    (aCY10 : PySem.W.nsIn K mainGlobals "NoName" = some (some (.ref Y10)))
    (xiY10 : PySem.W.excIn K Y10 veB "ValueError.__new__" = true)
    (xkY10 : PySem.W.keepIn K (.ref Y10) = true)
    (xsY10 : PySem.W.subIn K (.ref Y10) (.type "BaseException") = some true)
    (xtY10 : PySem.W.typeIn K (.ref Y10) = some (.type "type"))
    (aCY11 : PySem.W.nsIn K mainGlobals "NoNote" = some (some (.ref Y11)))
    (xiY11 : PySem.W.excIn K Y11 veB "ValueError.__new__" = true)
    (xkY11 : PySem.W.keepIn K (.ref Y11) = true)
    (xsY11 : PySem.W.subIn K (.ref Y11) (.type "BaseException") = some true)
    (xtY11 : PySem.W.typeIn K (.ref Y11) = some (.type "type"))
    (aCY12 : PySem.W.nsIn K mainGlobals "NothingDone" = some (some (.ref Y12)))
    (xiY12 : PySem.W.excIn K Y12 veB "ValueError.__new__" = true)
    (xkY12 : PySem.W.keepIn K (.ref Y12) = true)
    (xsY12 : PySem.W.subIn K (.ref Y12) (.type "BaseException") = some true)
    (xtY12 : PySem.W.typeIn K (.ref Y12) = some (.type "type"))
    (aCY13 : PySem.W.nsIn K mainGlobals "NoWay" = some (some (.ref Y13)))
    (xiY13 : PySem.W.excIn K Y13 veB "ValueError.__new__" = true)
    (xkY13 : PySem.W.keepIn K (.ref Y13) = true)
    (xsY13 : PySem.W.subIn K (.ref Y13) (.type "BaseException") = some true)
    (xtY13 : PySem.W.typeIn K (.ref Y13) = some (.type "type"))
    (aCY14 : PySem.W.nsIn K mainGlobals "NoLot" = some (some (.ref Y14)))
    (xiY14 : PySem.W.excIn K Y14 veB "ValueError.__new__" = true)
    (xkY14 : PySem.W.keepIn K (.ref Y14) = true)
    (xsY14 : PySem.W.subIn K (.ref Y14) (.type "BaseException") = some true)
    (xtY14 : PySem.W.typeIn K (.ref Y14) = some (.type "type"))
    (aCY15 : PySem.W.nsIn K mainGlobals "NoRing" = some (some (.ref Y15)))
    (xiY15 : PySem.W.excIn K Y15 veB "ValueError.__new__" = true)
    (xkY15 : PySem.W.keepIn K (.ref Y15) = true)
    (xsY15 : PySem.W.subIn K (.ref Y15) (.type "BaseException") = some true)
    (xtY15 : PySem.W.typeIn K (.ref Y15) = some (.type "type"))
    (aCY16 : PySem.W.nsIn K mainGlobals "NoNumber" = some (some (.ref Y16)))
    (xiY16 : PySem.W.excIn K Y16 veB "ValueError.__new__" = true)
    (xkY16 : PySem.W.keepIn K (.ref Y16) = true)
    (xsY16 : PySem.W.subIn K (.ref Y16) (.type "BaseException") = some true)
    (xtY16 : PySem.W.typeIn K (.ref Y16) = some (.type "type"))
    (aCY17 : PySem.W.nsIn K mainGlobals "Endless" = some (some (.ref Y17)))
    (xiY17 : PySem.W.excIn K Y17 veB "ValueError.__new__" = true)
    (xkY17 : PySem.W.keepIn K (.ref Y17) = true)
    (xsY17 : PySem.W.subIn K (.ref Y17) (.type "BaseException") = some true)
    (xtY17 : PySem.W.typeIn K (.ref Y17) = some (.type "type"))
    (aCY18 : PySem.W.nsIn K mainGlobals "NoRow" = some (some (.ref Y18)))
    (xiY18 : PySem.W.excIn K Y18 veB "ValueError.__new__" = true)
    (xkY18 : PySem.W.keepIn K (.ref Y18) = true)
    (xsY18 : PySem.W.subIn K (.ref Y18) (.type "BaseException") = some true)
    (xtY18 : PySem.W.typeIn K (.ref Y18) = some (.type "type"))
    (aCY19 : PySem.W.nsIn K mainGlobals "NoMarks" = some (some (.ref Y19)))
    (xiY19 : PySem.W.excIn K Y19 veB "ValueError.__new__" = true)
    (xkY19 : PySem.W.keepIn K (.ref Y19) = true)
    (xsY19 : PySem.W.subIn K (.ref Y19) (.type "BaseException") = some true)
    (xtY19 : PySem.W.typeIn K (.ref Y19) = some (.type "type"))
    (aCY20 : PySem.W.nsIn K mainGlobals "NoRoom" = some (some (.ref Y20)))
    (xiY20 : PySem.W.excIn K Y20 veB "ValueError.__new__" = true)
    (xkY20 : PySem.W.keepIn K (.ref Y20) = true)
    (xsY20 : PySem.W.subIn K (.ref Y20) (.type "BaseException") = some true)
    (xtY20 : PySem.W.typeIn K (.ref Y20) = some (.type "type"))
    (aCY21 : PySem.W.nsIn K mainGlobals "BadRow" = some (some (.ref Y21)))
    (xiY21 : PySem.W.excIn K Y21 veB "ValueError.__new__" = true)
    (xkY21 : PySem.W.keepIn K (.ref Y21) = true)
    (xsY21 : PySem.W.subIn K (.ref Y21) (.type "BaseException") = some true)
    (xtY21 : PySem.W.typeIn K (.ref Y21) = some (.type "type"))
    (aCY22 : PySem.W.nsIn K mainGlobals "NoText" = some (some (.ref Y22)))
    (xiY22 : PySem.W.excIn K Y22 veB "ValueError.__new__" = true)
    (xkY22 : PySem.W.keepIn K (.ref Y22) = true)
    (xsY22 : PySem.W.subIn K (.ref Y22) (.type "BaseException") = some true)
    (xtY22 : PySem.W.typeIn K (.ref Y22) = some (.type "type"))
    (aCY23 : PySem.W.nsIn K mainGlobals "Knotted" = some (some (.ref Y23)))
    (xiY23 : PySem.W.excIn K Y23 veB "ValueError.__new__" = true)
    (xkY23 : PySem.W.keepIn K (.ref Y23) = true)
    (xsY23 : PySem.W.subIn K (.ref Y23) (.type "BaseException") = some true)
    (xtY23 : PySem.W.typeIn K (.ref Y23) = some (.type "type"))
    (aCY24 : PySem.W.nsIn K mainGlobals "NoSteps" = some (some (.ref Y24)))
    (xiY24 : PySem.W.excIn K Y24 veB "ValueError.__new__" = true)
    (xkY24 : PySem.W.keepIn K (.ref Y24) = true)
    (xsY24 : PySem.W.subIn K (.ref Y24) (.type "BaseException") = some true)
    (xtY24 : PySem.W.typeIn K (.ref Y24) = some (.type "type"))
    (aCY25 : PySem.W.nsIn K mainGlobals "NoHead" = some (some (.ref Y25)))
    (xiY25 : PySem.W.excIn K Y25 veB "ValueError.__new__" = true)
    (xkY25 : PySem.W.keepIn K (.ref Y25) = true)
    (xsY25 : PySem.W.subIn K (.ref Y25) (.type "BaseException") = some true)
    (xtY25 : PySem.W.typeIn K (.ref Y25) = some (.type "type"))
    (aCY26 : PySem.W.nsIn K mainGlobals "NoRows" = some (some (.ref Y26)))
    (xiY26 : PySem.W.excIn K Y26 veB "ValueError.__new__" = true)
    (xkY26 : PySem.W.keepIn K (.ref Y26) = true)
    (xsY26 : PySem.W.subIn K (.ref Y26) (.type "BaseException") = some true)
    (xtY26 : PySem.W.typeIn K (.ref Y26) = some (.type "type"))
    (aCYP : PySem.W.nsIn K mainGlobals "PileError" = some (some (.ref YP)))
    (zv : PySem.W.nsIn K mainGlobals "ValueError" = some none)
    (tab : allB K [Y0, Y1, Y2, Y3, Y4, Y5, Y6, Y7, Y8, Y9, Y10, Y11, Y12, Y13, Y14, Y15, Y16, Y17, Y18, Y19, Y20, Y21, Y22, Y23, Y24, Y25, Y26] YP = true)
    (z_len : PySem.W.nsIn K mainGlobals "len" = some none)
    (z_range : PySem.W.nsIn K mainGlobals "range" = some none)
    (z_isinstance : PySem.W.nsIn K mainGlobals "isinstance" = some none)
    (z_all : PySem.W.nsIn K mainGlobals "all" = some none)
    (z_any : PySem.W.nsIn K mainGlobals "any" = some none)
    (z_sum : PySem.W.nsIn K mainGlobals "sum" = some none)
    (z_tuple : PySem.W.nsIn K mainGlobals "tuple" = some none)
    (z_list : PySem.W.nsIn K mainGlobals "list" = some none)
    (z_sorted : PySem.W.nsIn K mainGlobals "sorted" = some none)
    (z_set : PySem.W.nsIn K mainGlobals "set" = some none)
    (z_abs : PySem.W.nsIn K mainGlobals "abs" = some none)
    (z_int : PySem.W.nsIn K mainGlobals "int" = some none)
    (z_enumerate : PySem.W.nsIn K mainGlobals "enumerate" = some none)
    (z_bool : PySem.W.nsIn K mainGlobals "bool" = some none)
    (z_str : PySem.W.nsIn K mainGlobals "str" = some none)
    (z_dict : PySem.W.nsIn K mainGlobals "dict" = some none)
    (z_min : PySem.W.nsIn K mainGlobals "min" = some none)
    (z_max : PySem.W.nsIn K mainGlobals "max" = some none)
    (z_ord : PySem.W.nsIn K mainGlobals "ord" = some none)
    (z_super : PySem.W.nsIn K mainGlobals "super" = some none) :
    ∃ fd : FuncData, (∀ (s : Shared) (v : Value), BindsTo s fd ⟨[v], []⟩ [("_law_script", v)]) ∧ ∀ base : Heap, K.In base → base.Ns mainGlobals mg → FnOk l.prog w K mg base CX0 3 fa fd ["_law_script"] (liftSp K sp_law) := by
  have e : fa = f5 := by
    have e := hfa.symm.trans (PySem.W.mg_of X G a5)
    cases e
    rfl
  rw [e]
  have T : Txt w K mg Y0 Y1 Y2 Y3 Y4 Y5 Y6 Y7 Y8 Y9 Y10 Y11 Y12 Y13 Y14 Y15 Y16 Y17 Y18 Y19 Y20 Y21 Y22 Y23 Y24 Y25 Y26 YP := { bi := ⟨PySem.W.mg_none_of X G z_len, PySem.W.mg_none_of X G z_range, PySem.W.mg_none_of X G z_isinstance, PySem.W.mg_none_of X G z_all, PySem.W.mg_none_of X G z_any, PySem.W.mg_none_of X G z_sum, PySem.W.mg_none_of X G z_tuple, PySem.W.mg_none_of X G z_list, PySem.W.mg_none_of X G z_sorted, PySem.W.mg_none_of X G z_set, PySem.W.mg_none_of X G z_abs, PySem.W.mg_none_of X G z_int, PySem.W.mg_none_of X G z_enumerate, PySem.W.mg_none_of X G z_bool, PySem.W.mg_none_of X G z_str, PySem.W.mg_none_of X G z_dict, PySem.W.mg_none_of X G z_min, PySem.W.mg_none_of X G z_max, PySem.W.mg_none_of X G z_ord⟩, ix_BadProgram := ix_of tab (by simp), ix_BadText := ix_of tab (by simp), ix_TooMany := ix_of tab (by simp), ix_Unknown := ix_of tab (by simp), ix_BadBook := ix_of tab (by simp), ix_BadWorker := ix_of tab (by simp), ix_NoPlace := ix_of tab (by simp), ix_NoFunctions := ix_of tab (by simp), ix_IsOver := ix_of tab (by simp), ix_BadStep := ix_of tab (by simp), ix_NoName := ix_of tab (by simp), ix_NoNote := ix_of tab (by simp), ix_NothingDone := ix_of tab (by simp), ix_NoWay := ix_of tab (by simp), ix_NoLot := ix_of tab (by simp), ix_NoRing := ix_of tab (by simp), ix_NoNumber := ix_of tab (by simp), ix_Endless := ix_of tab (by simp), ix_NoRow := ix_of tab (by simp), ix_NoMarks := ix_of tab (by simp), ix_NoRoom := ix_of tab (by simp), ix_BadRow := ix_of tab (by simp), ix_NoText := ix_of tab (by simp), ix_Knotted := ix_of tab (by simp), ix_NoSteps := ix_of tab (by simp), ix_NoHead := ix_of tab (by simp), ix_NoRows := ix_of tab (by simp), ix_PileError := ixP_of tab, ix_ValueError := ixV_of tab, bx_ValueError := PySem.W.mg_none_of X G zv, nd := allB_nd tab, xf_BadWorker := ⟨eG95, eg95, eB95, eD95⟩, n_BadWorker_number := eN95, xf_BadBook := ⟨eG94, eg94, eB94, eD94⟩, n_BadBook_part := eN94, xf_Unknown := ⟨eG93, eg93, eB93, eD93⟩, n_Unknown_name := eN93, xf_TooMany := ⟨eG92, eg92, eB92, eD92⟩, n_TooMany_most := eN92, xf_BadText := ⟨eG91, eg91, eB91, eD91⟩, n_BadText_line := eN91, xf_BadProgram := ⟨eG90, eg90, eB90, eD90⟩, n_BadProgram_place := eN90, x_NoLot := ⟨xiY14, PySem.W.mg_of X G aCY14, xkY14, xsY14, xtY14⟩, x_NoWay := ⟨xiY13, PySem.W.mg_of X G aCY13, xkY13, xsY13, xtY13⟩, x_NothingDone := ⟨xiY12, PySem.W.mg_of X G aCY12, xkY12, xsY12, xtY12⟩, x_NoNote := ⟨xiY11, PySem.W.mg_of X G aCY11, xkY11, xsY11, xtY11⟩, x_NoName := ⟨xiY10, PySem.W.mg_of X G aCY10, xkY10, xsY10, xtY10⟩, x_BadStep := ⟨xiY9, PySem.W.mg_of X G aCY9, xkY9, xsY9, xtY9⟩, x_IsOver := ⟨xiY8, PySem.W.mg_of X G aCY8, xkY8, xsY8, xtY8⟩, x_NoFunctions := ⟨xiY7, PySem.W.mg_of X G aCY7, xkY7, xsY7, xtY7⟩, x_NoPlace := ⟨xiY6, PySem.W.mg_of X G aCY6, xkY6, xsY6, xtY6⟩, x_Knotted := ⟨xiY23, PySem.W.mg_of X G aCY23, xkY23, xsY23, xtY23⟩, x_NoText := ⟨xiY22, PySem.W.mg_of X G aCY22, xkY22, xsY22, xtY22⟩, x_BadRow := ⟨xiY21, PySem.W.mg_of X G aCY21, xkY21, xsY21, xtY21⟩, x_NoRoom := ⟨xiY20, PySem.W.mg_of X G aCY20, xkY20, xsY20, xtY20⟩, x_NoMarks := ⟨xiY19, PySem.W.mg_of X G aCY19, xkY19, xsY19, xtY19⟩, x_NoRow := ⟨xiY18, PySem.W.mg_of X G aCY18, xkY18, xsY18, xtY18⟩, x_Endless := ⟨xiY17, PySem.W.mg_of X G aCY17, xkY17, xsY17, xtY17⟩, x_NoNumber := ⟨xiY16, PySem.W.mg_of X G aCY16, xkY16, xsY16, xtY16⟩, x_NoRing := ⟨xiY15, PySem.W.mg_of X G aCY15, xkY15, xsY15, xtY15⟩, x_NoRows := ⟨xiY26, PySem.W.mg_of X G aCY26, xkY26, xsY26, xtY26⟩, x_NoHead := ⟨xiY25, PySem.W.mg_of X G aCY25, xkY25, xsY25, xtY25⟩, x_NoSteps := ⟨xiY24, PySem.W.mg_of X G aCY24, xkY24, xsY24, xtY24⟩, g_TooMany := PySem.W.mg_of X G eC92, g_BadText := PySem.W.mg_of X G eC91, g_BadProgram := PySem.W.mg_of X G eC90, g_BadBook := PySem.W.mg_of X G eC94, g_Unknown := PySem.W.mg_of X G eC93, g_NoPlace := PySem.W.mg_of X G aCY6, g_BadWorker := PySem.W.mg_of X G eC95, g_BadStep := PySem.W.mg_of X G aCY9, g_IsOver := PySem.W.mg_of X G aCY8, g_NoFunctions := PySem.W.mg_of X G aCY7, g_NothingDone := PySem.W.mg_of X G aCY12, g_NoNote := PySem.W.mg_of X G aCY11, g_NoName := PySem.W.mg_of X G aCY10, g_NoRing := PySem.W.mg_of X G aCY15, g_NoLot := PySem.W.mg_of X G aCY14, g_NoWay := PySem.W.mg_of X G aCY13, g_NoRow := PySem.W.mg_of X G aCY18, g_Endless := PySem.W.mg_of X G aCY17, g_NoNumber := PySem.W.mg_of X G aCY16, g_BadRow := PySem.W.mg_of X G aCY21, g_NoRoom := PySem.W.mg_of X G aCY20, g_NoMarks := PySem.W.mg_of X G aCY19, g_NoSteps := PySem.W.mg_of X G aCY24, g_Knotted := PySem.W.mg_of X G aCY23, g_NoText := PySem.W.mg_of X G aCY22, g_NoRows := PySem.W.mg_of X G aCY26, g_NoHead := PySem.W.mg_of X G aCY25, g_PileError := PySem.W.mg_of X G aCYP }
  have F1 := fun_mk (st := s__law_hand) l1 c1 k1
  have D__law_hand : Df K mg "_law_hand" s__law_hand ["_law_script"] f1 _ := ⟨F1, PySem.W.mg_of X G a1, L2.Fun.binds (ps := ["_law_script"]) F1 fun _ _ _ _ _ _ us hl => match us, hl with | [_], _ => rfl⟩
  have F2 := fun_mk (st := s__law_draw) l2 c2 k2
  have D__law_draw : Df K mg "_law_draw" s__law_draw ["_law_hand_here", "_law_many"] f2 _ := ⟨F2, PySem.W.mg_of X G a2, L2.Fun.binds (ps := ["_law_hand_here", "_law_many"]) F2 fun _ _ _ _ _ _ us hl => match us, hl with | [_, _], _ => rfl⟩
  have F3 := fun_mk (st := s__law_any) l3 c3 k3
  have D__law_any : Df K mg "_law_any" s__law_any ["_law_hand_here", "_law_things"] f3 _ := ⟨F3, PySem.W.mg_of X G a3, L2.Fun.binds (ps := ["_law_hand_here", "_law_things"]) F3 fun _ _ _ _ _ _ us hl => match us, hl with | [_, _], _ => rfl⟩
  have F4 := fun_mk (st := s__law_deep) l4 c4 k4
  have D__law_deep : Df K mg "_law_deep" s__law_deep ["_law_hand_here"] f4 _ := ⟨F4, PySem.W.mg_of X G a4, L2.Fun.binds (ps := ["_law_hand_here"]) F4 fun _ _ _ _ _ _ us hl => match us, hl with | [_], _ => rfl⟩
  have F5 := fun_mk (st := s_law) l5 c5 k5
  have D_law : Df K mg "law" s_law ["_law_script"] f5 _ := ⟨F5, PySem.W.mg_of X G a5, L2.Fun.binds (ps := ["_law_script"]) F5 fun _ _ _ _ _ _ us hl => match us, hl with | [_], _ => rfl⟩

  refine ⟨PySem.W.fnOf "law" "law" (defArgs s_law) (defBody s_law) (defScope s_law) .none kV5 dc5 pm5 an5 cd5 ct5, fun s v => .of_eq rfl, fun base _ _ => ?_⟩
  have XR_BadProgram : ExcF l.prog w K mg base 1 "BadProgram" Y0 "place" := by
    have bI : Binds K (PySem.W.fnX "__init__" "BadProgram.__init__" (defArgs s_BadProgram_d__init_d_) (defBody s_BadProgram_d__init_d_) (defScope s_BadProgram_d__init_d_) [("__class__", cc90)] .none .none doc90 pm90 none (.ref cda90) ct90) ["self", "place"] [] := .all fun us hl => match us, hl with | [_, _], _ => rfl
    have o : OexC K Y0 := ⟨⟨_, _, _, _, _, _, _, _, _, _, _, _, _, _, _, eL90, eR90⟩, eS90, eB90, eT90, eK90⟩
    have T : ExI l.prog K Y0 f90 cc90 cda90 "BadProgram.__init__" ["self", "place"] (defArgs s_BadProgram_d__init_d_) (defBody s_BadProgram_d__init_d_) (defScope s_BadProgram_d__init_d_) _ := ⟨o, ⟨_, _, _, _, _, _, rfl, el90⟩, ec90, NdefX.nscope_by (by decide +kernel), ⟨_, _, _, _, _, _, ed90, ev90, ef90⟩, ⟨_, _, _, ee90⟩, ⟨_, eX90⟩, eU90, eV90, eM90, eO90, eP90, rfl⟩
    exact ⟨_, _, _, o, eI90, eF90, bI, x_BadProgram T (PySem.W.mg_none_of X G z_super) eN90 bI, PySem.W.mg_of X G eC90⟩
  have XR_BadText : ExcF l.prog w K mg base 1 "BadText" Y1 "line" := by
    have bI : Binds K (PySem.W.fnX "__init__" "BadText.__init__" (defArgs s_BadText_d__init_d_) (defBody s_BadText_d__init_d_) (defScope s_BadText_d__init_d_) [("__class__", cc91)] .none .none doc91 pm91 none (.ref cda91) ct91) ["self", "line"] [] := .all fun us hl => match us, hl with | [_, _], _ => rfl
    have o : OexC K Y1 := ⟨⟨_, _, _, _, _, _, _, _, _, _, _, _, _, _, _, eL91, eR91⟩, eS91, eB91, eT91, eK91⟩
    have T : ExI l.prog K Y1 f91 cc91 cda91 "BadText.__init__" ["self", "line"] (defArgs s_BadText_d__init_d_) (defBody s_BadText_d__init_d_) (defScope s_BadText_d__init_d_) _ := ⟨o, ⟨_, _, _, _, _, _, rfl, el91⟩, ec91, NdefX.nscope_by (by decide +kernel), ⟨_, _, _, _, _, _, ed91, ev91, ef91⟩, ⟨_, _, _, ee91⟩, ⟨_, eX91⟩, eU91, eV91, eM91, eO91, eP91, rfl⟩
    exact ⟨_, _, _, o, eI91, eF91, bI, x_BadText T (PySem.W.mg_none_of X G z_super) eN91 bI, PySem.W.mg_of X G eC91⟩
  have XR_TooMany : ExcF l.prog w K mg base 1 "TooMany" Y2 "most" := by
    have bI : Binds K (PySem.W.fnX "__init__" "TooMany.__init__" (defArgs s_TooMany_d__init_d_) (defBody s_TooMany_d__init_d_) (defScope s_TooMany_d__init_d_) [("__class__", cc92)] .none .none doc92 pm92 none (.ref cda92) ct92) ["self", "most"] [] := .all fun us hl => match us, hl with | [_, _], _ => rfl
    have o : OexC K Y2 := ⟨⟨_, _, _, _, _, _, _, _, _, _, _, _, _, _, _, eL92, eR92⟩, eS92, eB92, eT92, eK92⟩
    have T : ExI l.prog K Y2 f92 cc92 cda92 "TooMany.__init__" ["self", "most"] (defArgs s_TooMany_d__init_d_) (defBody s_TooMany_d__init_d_) (defScope s_TooMany_d__init_d_) _ := ⟨o, ⟨_, _, _, _, _, _, rfl, el92⟩, ec92, NdefX.nscope_by (by decide +kernel), ⟨_, _, _, _, _, _, ed92, ev92, ef92⟩, ⟨_, _, _, ee92⟩, ⟨_, eX92⟩, eU92, eV92, eM92, eO92, eP92, rfl⟩
    exact ⟨_, _, _, o, eI92, eF92, bI, x_TooMany T (PySem.W.mg_none_of X G z_super) eN92 bI, PySem.W.mg_of X G eC92⟩
  have XR_Unknown : ExcF l.prog w K mg base 1 "Unknown" Y3 "name" := by
    have bI : Binds K (PySem.W.fnX "__init__" "Unknown.__init__" (defArgs s_Unknown_d__init_d_) (defBody s_Unknown_d__init_d_) (defScope s_Unknown_d__init_d_) [("__class__", cc93)] .none .none doc93 pm93 none (.ref cda93) ct93) ["self", "name"] [] := .all fun us hl => match us, hl with | [_, _], _ => rfl
    have o : OexC K Y3 := ⟨⟨_, _, _, _, _, _, _, _, _, _, _, _, _, _, _, eL93, eR93⟩, eS93, eB93, eT93, eK93⟩
    have T : ExI l.prog K Y3 f93 cc93 cda93 "Unknown.__init__" ["self", "name"] (defArgs s_Unknown_d__init_d_) (defBody s_Unknown_d__init_d_) (defScope s_Unknown_d__init_d_) _ := ⟨o, ⟨_, _, _, _, _, _, rfl, el93⟩, ec93, NdefX.nscope_by (by decide +kernel), ⟨_, _, _, _, _, _, ed93, ev93, ef93⟩, ⟨_, _, _, ee93⟩, ⟨_, eX93⟩, eU93, eV93, eM93, eO93, eP93, rfl⟩
    exact ⟨_, _, _, o, eI93, eF93, bI, x_Unknown T (PySem.W.mg_none_of X G z_super) eN93 bI, PySem.W.mg_of X G eC93⟩
  have XR_BadBook : ExcF l.prog w K mg base 1 "BadBook" Y4 "part" := by
    have bI : Binds K (PySem.W.fnX "__init__" "BadBook.__init__" (defArgs s_BadBook_d__init_d_) (defBody s_BadBook_d__init_d_) (defScope s_BadBook_d__init_d_) [("__class__", cc94)] .none .none doc94 pm94 none (.ref cda94) ct94) ["self", "part"] [] := .all fun us hl => match us, hl with | [_, _], _ => rfl
    have o : OexC K Y4 := ⟨⟨_, _, _, _, _, _, _, _, _, _, _, _, _, _, _, eL94, eR94⟩, eS94, eB94, eT94, eK94⟩
    have T : ExI l.prog K Y4 f94 cc94 cda94 "BadBook.__init__" ["self", "part"] (defArgs s_BadBook_d__init_d_) (defBody s_BadBook_d__init_d_) (defScope s_BadBook_d__init_d_) _ := ⟨o, ⟨_, _, _, _, _, _, rfl, el94⟩, ec94, NdefX.nscope_by (by decide +kernel), ⟨_, _, _, _, _, _, ed94, ev94, ef94⟩, ⟨_, _, _, ee94⟩, ⟨_, eX94⟩, eU94, eV94, eM94, eO94, eP94, rfl⟩
    exact ⟨_, _, _, o, eI94, eF94, bI, x_BadBook T (PySem.W.mg_none_of X G z_super) eN94 bI, PySem.W.mg_of X G eC94⟩
  have XR_BadWorker : ExcF l.prog w K mg base 1 "BadWorker" Y5 "number" := by
    have bI : Binds K (PySem.W.fnX "__init__" "BadWorker.__init__" (defArgs s_BadWorker_d__init_d_) (defBody s_BadWorker_d__init_d_) (defScope s_BadWorker_d__init_d_) [("__class__", cc95)] .none .none doc95 pm95 none (.ref cda95) ct95) ["self", "number"] [] := .all fun us hl => match us, hl with | [_, _], _ => rfl
    have o : OexC K Y5 := ⟨⟨_, _, _, _, _, _, _, _, _, _, _, _, _, _, _, eL95, eR95⟩, eS95, eB95, eT95, eK95⟩
    have T : ExI l.prog K Y5 f95 cc95 cda95 "BadWorker.__init__" ["self", "number"] (defArgs s_BadWorker_d__init_d_) (defBody s_BadWorker_d__init_d_) (defScope s_BadWorker_d__init_d_) _ := ⟨o, ⟨_, _, _, _, _, _, rfl, el95⟩, ec95, NdefX.nscope_by (by decide +kernel), ⟨_, _, _, _, _, _, ed95, ev95, ef95⟩, ⟨_, _, _, ee95⟩, ⟨_, eX95⟩, eU95, eV95, eM95, eO95, eP95, rfl⟩
    exact ⟨_, _, _, o, eI95, eF95, bI, x_BadWorker T (PySem.W.mg_none_of X G z_super) eN95 bI, PySem.W.mg_of X G eC95⟩
  have C__law_hand : Cal l.prog w K mg base 1 "_law_hand" ["_law_script"] sp_hand := D__law_hand.cal (ok__law_hand T  D__law_hand)
  have C__law_draw : Cal l.prog w K mg base 1 "_law_draw" ["_law_hand_here", "_law_many"] sp_draw := D__law_draw.cal (ok__law_draw T  D__law_draw)
  have C__law_any : Cal l.prog w K mg base 2 "_law_any" ["_law_hand_here", "_law_things"] sp_any := D__law_any.cal (ok__law_any T ((C__law_draw).mono (by decide)) D__law_any)
  have C__law_deep : Cal l.prog w K mg base 2 "_law_deep" ["_law_hand_here"] sp_deep := D__law_deep.cal (ok__law_deep T ((C__law_draw).mono (by decide)) D__law_deep)
  exact ok_law T ((C__law_hand).mono (by decide)) ((C__law_deep).mono (by decide)) ((C__law_any).mono (by decide)) XR_BadWorker XR_BadBook XR_Unknown XR_TooMany XR_BadText XR_BadProgram D_law
theorem start_ok {K : PySem.W.Frag} {H : Hp} {a : Addr} {ns : List Int} (hl : ns.length ≤ 63) (hO : Only H) (hS : SqL K H a (ns.map V.int)) : liftSp K sp_law [.ref a] H (fun v _ => v = .bl true) fun _ _ _ => False := by
  have hns : ns.length ≤ sizeLine := by rw [sizeLine_eq]; omega
  refine ⟨⟨fun b => b = a ∧ ∃ u, H b = some u, fun _ => False⟩, [.scr ns], fun _ => none, fun d _ => d = .bl true, noX, .cons (.scr ⟨hns, ?_⟩) .nil, ⟨?_, fun _ _ z => z, fun _ _ z => by cases z⟩, ⟨ns, rfl, fun _ => rfl⟩, ?_, .no⟩
  · rcases hS with hR | hK
    · refine .inl ⟨⟨rfl, ?_⟩, hR⟩
      rcases hR with e | ⟨o, e⟩
      · exact ⟨_, e⟩
      · exact ⟨_, e⟩
    · exact .inr fun H' => .inr hK
  · rintro b (⟨_, hu⟩ | hz)
    · exact hu
    · exact hz.elim
  · rintro F' d G' v H' _ r _ rfl
    cases r
    rfl
theorem walk {l : PySem.W.OpenLaw} {q : Program} {loose : List Str} {XP : (Str → Option Value) → Heap → Prop} {YP : World → Heap → Prop} {d : DefRec} {K : Params → PySem.W.Frag} (hn : l.most = some 63) (hdf : d.params.defaults = [])
    (hY : ∀ (w : World) (h : Heap), YP w h → (K w.params).In h)
    (F : ∀ (w : World) (mg : Str → Option Value) (fa : Addr) (h : Heap), (K w.params).In h → h.Ns mainGlobals mg → mg d.name = some (.ref fa) →
      ∃ fd : FuncData, (∀ (s : Shared) (u : Value), BindsTo s fd ⟨[u], []⟩ [("_law_script", u)]) ∧ ∀ base : Heap, (K w.params).In base → base.Ns mainGlobals mg → FnOk l.prog w (K w.params) mg base CX0 3 fa fd ["_law_script"] (liftSp (K w.params) sp_law)) :
    PySem.W.WalkO q loose XP YP l.row.toRowW d [] (fun f vs => PySem.call f vs) :=
  L2.walk_of (n := 63) (k := 3) (x := "_law_script") (CX := fun _ => CX0) (sp := fun w => liftSp (K w.params) sp_law) hn (by decide) hdf ⟨rfl, by decide, by decide⟩ hY F (fun _ _ a ns hl hO hS => start_ok hl hO hS) fun _ _ _ _ _ z => z
end P3

open PySem PySem.W PyProof.Rows in
set_option maxRecDepth 100000 in
set_option maxHeartbeats 0 in
theorem PySem.Challenge.cw_putoffpiles_k00_errors_and_their_fields_holds : PySem.Challenge.rw_putoffpiles_k00_errors_and_their_fields.Holds := by
  w_on; o_law; k_head; (case hw => w_witness2)
  k_fill
  refine P3.walk (l := PySem.Challenge.rw_putoffpiles_k00_errors_and_their_fields) rfl rfl (fun w h Y => PySem.W.kIn_of Y) ?F
  case F =>
    intro w mg fa h KX G hmg
    refine' P3.all_mk KX G hmg ?a1 ?l1 ?c1 ?k1 ?a2 ?l2 ?c2 ?k2 ?a3 ?l3 ?c3 ?k3 ?a4 ?l4 ?c4 ?k4 ?a5 ?l5 ?c5 ?k5 ?eC90 ?eL90 ?eR90 ?eS90 ?eB90 ?eT90 ?eK90 ?eI90 ?eF90 ?el90 ?ec90 ?ed90 ?ev90 ?ef90 ?ee90 ?eX90 ?eU90 ?eV90 ?eM90 ?eO90 ?eP90 ?eN90 ?eG90 ?eg90 ?eD90 ?eC91 ?eL91 ?eR91 ?eS91 ?eB91 ?eT91 ?eK91 ?eI91 ?eF91 ?el91 ?ec91 ?ed91 ?ev91 ?ef91 ?ee91 ?eX91 ?eU91 ?eV91 ?eM91 ?eO91 ?eP91 ?eN91 ?eG91 ?eg91 ?eD91 ?eC92 ?eL92 ?eR92 ?eS92 ?eB92 ?eT92 ?eK92 ?eI92 ?eF92 ?el92 ?ec92 ?ed92 ?ev92 ?ef92 ?ee92 ?eX92 ?eU92 ?eV92 ?eM92 ?eO92 ?eP92 ?eN92 ?eG92 ?eg92 ?eD92 ?eC93 ?eL93 ?eR93 ?eS93 ?eB93 ?eT93 ?eK93 ?eI93 ?eF93 ?el93 ?ec93 ?ed93 ?ev93 ?ef93 ?ee93 ?eX93 ?eU93 ?eV93 ?eM93 ?eO93 ?eP93 ?eN93 ?eG93 ?eg93 ?eD93 ?eC94 ?eL94 ?eR94 ?eS94 ?eB94 ?eT94 ?eK94 ?eI94 ?eF94 ?el94 ?ec94 ?ed94 ?ev94 ?ef94 ?ee94 ?eX94 ?eU94 ?eV94 ?eM94 ?eO94 ?eP94 ?eN94 ?eG94 ?eg94 ?eD94 ?eC95 ?eL95 ?eR95 ?eS95 ?eB95 ?eT95 ?eK95 ?eI95 ?eF95 ?el95 ?ec95 ?ed95 ?ev95 ?ef95 ?ee95 ?eX95 ?eU95 ?eV95 ?eM95 ?eO95 ?eP95 ?eN95 ?eG95 ?eg95 ?eD95 ?aCY6 ?xiY6 ?xkY6 ?xsY6 ?xtY6 ?aCY7 ?xiY7 ?xkY7 ?xsY7 ?xtY7 ?aCY8 ?xiY8 ?xkY8 ?xsY8 ?xtY8 ?aCY9 ?xiY9 ?xkY9 ?xsY9 ?xtY9 ?aCY10 ?xiY10 ?xkY10 ?xsY10 ?xtY10 ?aCY11 ?xiY11 ?xkY11 ?xsY11 ?xtY11 ?aCY12 ?xiY12 ?xkY12 ?xsY12 ?xtY12 ?aCY13 ?xiY13 ?xkY13 ?xsY13 ?xtY13 ?aCY14 ?xiY14 ?xkY14 ?xsY14 ?xtY14 ?aCY15 ?xiY15 ?xkY15 ?xsY15 ?xtY15 ?aCY16 ?xiY16 ?xkY16 ?xsY16 ?xtY16 ?aCY17 ?xiY17 ?xkY17 ?xsY17 ?xtY17 ?aCY18 ?xiY18 ?xkY18 ?xsY18 ?xtY18 ?aCY19 ?xiY19 ?xkY19 ?xsY19 ?xtY19 ?aCY20 ?xiY20 ?xkY20 ?xsY20 ?xtY20 ?aCY21 ?xiY21 ?xkY21 ?xsY21 ?xtY21 ?aCY22 ?xiY22 ?xkY22 ?xsY22 ?xtY22 ?aCY23 ?xiY23 ?xkY23 ?xsY23 ?xtY23 ?aCY24 ?xiY24 ?xkY24 ?xsY24 ?xtY24 ?aCY25 ?xiY25 ?xkY25 ?xsY25 ?xtY25 ?aCY26 ?xiY26 ?xkY26 ?xsY26 ?xtY26 ?aCYP ?zv ?tab ?z_len ?z_range ?z_isinstance ?z_all ?z_any ?z_sum ?z_tuple ?z_list ?z_sorted ?z_set ?z_abs ?z_int ?z_enumerate ?z_bool ?z_str ?z_dict ?z_min ?z_max ?z_ord ?z_super
    (case a1 => k_is)
    (case l1 => k_is)
    (case c1 => k_is)
    (case k1 => k_is)
    (case a2 => k_is)
    (case l2 => k_is)
    (case c2 => k_is)
    (case k2 => k_is)
    (case a3 => k_is)
    (case l3 => k_is)
    (case c3 => k_is)
    (case k3 => k_is)
    (case a4 => k_is)
    (case l4 => k_is)
    (case c4 => k_is)
    (case k4 => k_is)
    (case a5 => k_is)
    (case l5 => k_is)
    (case c5 => k_is)
    (case k5 => k_is)
    (case eC90 => k_is)
    (case eL90 => k_is)
    (case eR90 => rfl)
    (case eS90 => k_is)
    (case eB90 => k_is)
    (case eT90 => k_is)
    (case eK90 => k_is)
    (case eI90 => k_is)
    (case eF90 => k_is)
    (case el90 => k_is)
    (case ec90 => k_is)
    (case ed90 => k_is)
    (case ev90 => rfl)
    (case ef90 => first | rfl | decide +kernel)
    (case ee90 => k_is)
    (case eX90 => k_is)
    (case eU90 => ks_is)
    (case eV90 => k_is)
    (case eM90 => k_is)
    (case eO90 => k_is)
    (case eP90 => first | rfl | decide +kernel)
    (case eN90 => k_is)
    (case eG90 => k_is)
    (case eg90 => k_is)
    (case eD90 => k_is)
    (case eC91 => k_is)
    (case eL91 => k_is)
    (case eR91 => rfl)
    (case eS91 => k_is)
    (case eB91 => k_is)
    (case eT91 => k_is)
    (case eK91 => k_is)
    (case eI91 => k_is)
    (case eF91 => k_is)
    (case el91 => k_is)
    (case ec91 => k_is)
    (case ed91 => k_is)
    (case ev91 => rfl)
    (case ef91 => first | rfl | decide +kernel)
    (case ee91 => k_is)
    (case eX91 => k_is)
    (case eU91 => ks_is)
    (case eV91 => k_is)
    (case eM91 => k_is)
    (case eO91 => k_is)
    (case eP91 => first | rfl | decide +kernel)
    (case eN91 => k_is)
    (case eG91 => k_is)
    (case eg91 => k_is)
    (case eD91 => k_is)
    (case eC92 => k_is)
    (case eL92 => k_is)
    (case eR92 => rfl)
    (case eS92 => k_is)
    (case eB92 => k_is)
    (case eT92 => k_is)
    (case eK92 => k_is)
    (case eI92 => k_is)
    (case eF92 => k_is)
    (case el92 => k_is)
    (case ec92 => k_is)
    (case ed92 => k_is)
    (case ev92 => rfl)
    (case ef92 => first | rfl | decide +kernel)
    (case ee92 => k_is)
    (case eX92 => k_is)
    (case eU92 => ks_is)
    (case eV92 => k_is)
    (case eM92 => k_is)
    (case eO92 => k_is)
    (case eP92 => first | rfl | decide +kernel)
    (case eN92 => k_is)
    (case eG92 => k_is)
    (case eg92 => k_is)
    (case eD92 => k_is)
    (case eC93 => k_is)
    (case eL93 => k_is)
    (case eR93 => rfl)
    (case eS93 => k_is)
    (case eB93 => k_is)
    (case eT93 => k_is)
    (case eK93 => k_is)
    (case eI93 => k_is)
    (case eF93 => k_is)
    (case el93 => k_is)
    (case ec93 => k_is)
    (case ed93 => k_is)
    (case ev93 => rfl)
    (case ef93 => first | rfl | decide +kernel)
    (case ee93 => k_is)
    (case eX93 => k_is)
    (case eU93 => ks_is)
    (case eV93 => k_is)
    (case eM93 => k_is)
    (case eO93 => k_is)
    (case eP93 => first | rfl | decide +kernel)
    (case eN93 => k_is)
    (case eG93 => k_is)
    (case eg93 => k_is)
    (case eD93 => k_is)
    (case eC94 => k_is)
    (case eL94 => k_is)
    (case eR94 => rfl)
    (case eS94 => k_is)
    (case eB94 => k_is)
    (case eT94 => k_is)
    (case eK94 => k_is)
    (case eI94 => k_is)
    (case eF94 => k_is)
    (case el94 => k_is)
    (case ec94 => k_is)
    (case ed94 => k_is)
    (case ev94 => rfl)
    (case ef94 => first | rfl | decide +kernel)
    (case ee94 => k_is)
    (case eX94 => k_is)
    (case eU94 => ks_is)
    (case eV94 => k_is)
    (case eM94 => k_is)
    (case eO94 => k_is)
    (case eP94 => first | rfl | decide +kernel)
    (case eN94 => k_is)
    (case eG94 => k_is)
    (case eg94 => k_is)
    (case eD94 => k_is)
    (case eC95 => k_is)
    (case eL95 => k_is)
    (case eR95 => rfl)
    (case eS95 => k_is)
    (case eB95 => k_is)
    (case eT95 => k_is)
    (case eK95 => k_is)
    (case eI95 => k_is)
    (case eF95 => k_is)
    (case el95 => k_is)
    (case ec95 => k_is)
    (case ed95 => k_is)
    (case ev95 => rfl)
    (case ef95 => first | rfl | decide +kernel)
    (case ee95 => k_is)
    (case eX95 => k_is)
    (case eU95 => ks_is)
    (case eV95 => k_is)
    (case eM95 => k_is)
    (case eO95 => k_is)
    (case eP95 => first | rfl | decide +kernel)
    (case eN95 => k_is)
    (case eG95 => k_is)
    (case eg95 => k_is)
    (case eD95 => k_is)
    (case aCY6 => k_is)
    (case xiY6 => k_exc)
    (case xkY6 => k_is)
    (case xsY6 => k_is)
    (case xtY6 => k_is)
    (case aCY7 => k_is)
    (case xiY7 => k_exc)
    (case xkY7 => k_is)
    (case xsY7 => k_is)
    (case xtY7 => k_is)
    (case aCY8 => k_is)
    (case xiY8 => k_exc)
    (case xkY8 => k_is)
    (case xsY8 => k_is)
    (case xtY8 => k_is)
    (case aCY9 => k_is)
    (case xiY9 => k_exc)
    (case xkY9 => k_is)
    (case xsY9 => k_is)
    (case xtY9 => k_is)
    (case aCY10 => k_is)
    (case xiY10 => k_exc)
    (case xkY10 => k_is)
    (case xsY10 => k_is)
    (case xtY10 => k_is)
    (case aCY11 => k_is)
    (case xiY11 => k_exc)
    (case xkY11 => k_is)
    (case xsY11 => k_is)
    (case xtY11 => k_is)
    (case aCY12 => k_is)
    (case xiY12 => k_exc)
    (case xkY12 => k_is)
    (case xsY12 => k_is)
    (case xtY12 => k_is)
    (case aCY13 => k_is)
    (case xiY13 => k_exc)
    (case xkY13 => k_is)
    (case xsY13 => k_is)
    (case xtY13 => k_is)
    (case aCY14 => k_is)
    (case xiY14 => k_exc)
    (case xkY14 => k_is)
    (case xsY14 => k_is)
    (case xtY14 => k_is)
    (case aCY15 => k_is)
    (case xiY15 => k_exc)
    (case xkY15 => k_is)
    (case xsY15 => k_is)
    (case xtY15 => k_is)
    (case aCY16 => k_is)
    (case xiY16 => k_exc)
    (case xkY16 => k_is)
    (case xsY16 => k_is)
    (case xtY16 => k_is)
    (case aCY17 => k_is)
    (case xiY17 => k_exc)
    (case xkY17 => k_is)
    (case xsY17 => k_is)
    (case xtY17 => k_is)
    (case aCY18 => k_is)
    (case xiY18 => k_exc)
    (case xkY18 => k_is)
    (case xsY18 => k_is)
    (case xtY18 => k_is)
    (case aCY19 => k_is)
    (case xiY19 => k_exc)
    (case xkY19 => k_is)
    (case xsY19 => k_is)
    (case xtY19 => k_is)
    (case aCY20 => k_is)
    (case xiY20 => k_exc)
    (case xkY20 => k_is)
    (case xsY20 => k_is)
    (case xtY20 => k_is)
    (case aCY21 => k_is)
    (case xiY21 => k_exc)
    (case xkY21 => k_is)
    (case xsY21 => k_is)
    (case xtY21 => k_is)
    (case aCY22 => k_is)
    (case xiY22 => k_exc)
    (case xkY22 => k_is)
    (case xsY22 => k_is)
    (case xtY22 => k_is)
    (case aCY23 => k_is)
    (case xiY23 => k_exc)
    (case xkY23 => k_is)
    (case xsY23 => k_is)
    (case xtY23 => k_is)
    (case aCY24 => k_is)
    (case xiY24 => k_exc)
    (case xkY24 => k_is)
    (case xsY24 => k_is)
    (case xtY24 => k_is)
    (case aCY25 => k_is)
    (case xiY25 => k_exc)
    (case xkY25 => k_is)
    (case xsY25 => k_is)
    (case xtY25 => k_is)
    (case aCY26 => k_is)
    (case xiY26 => k_exc)
    (case xkY26 => k_is)
    (case xsY26 => k_is)
    (case xtY26 => k_is)
    (case aCYP => k_is)
    (case zv => k_is)
    (case tab => kernel_rfl)
    (case z_len => k_is)
    (case z_range => k_is)
    (case z_isinstance => k_is)
    (case z_all => k_is)
    (case z_any => k_is)
    (case z_sum => k_is)
    (case z_tuple => k_is)
    (case z_list => k_is)
    (case z_sorted => k_is)
    (case z_set => k_is)
    (case z_abs => k_is)
    (case z_int => k_is)
    (case z_enumerate => k_is)
    (case z_bool => k_is)
    (case z_str => k_is)
    (case z_dict => k_is)
    (case z_min => k_is)
    (case z_max => k_is)
    (case z_ord => k_is)
    (case z_super => k_is)
