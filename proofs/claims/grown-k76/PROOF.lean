import PyProof.Rows.All
import Wide.All
import OpenK.AllK
import Wide.FinOn
import HandS.ForMost
import HandS.ForExc
import HandS.ExcCtx
import HandS.Lambda
import HandS.IsInst
import HandS.TupLe
import HandS.Wide
import HandS.TupMul
import HandS.Style
import HandS.Defaults
import HandS.ExcIs
import HandS.Dict
import HandS.Iter
import KE.GoesEnum
import HandS.OwnEq
import HandS.Hot
import HandS.HotCalls
import HandS.Exc
import HandS.Head0
import HandS.Head1
import HandS.Head2
import HandS.HeadHook1
import HandS.HeadHook2
import HandS.HeadHook3
import HandS.HeadHook4
import HandS.HeadWalk
import PySem.Challenge.RW_anynumeral_k76_whole_endless_rows_and_th
import HandS.EndTab
set_option Elab.async false
set_option linter.all false
/-! NyCore: data in place of values. A D is a value as data: tuples are trees, lists and instances are numbers
into a list Mm of what may change. W (a Wd) says how such data stand in the layer's abstract heap. -/
namespace Ny
open PySem PySem.Spec PyProof.Rows L2

inductive D where
  | non | bl (b : Bool) | int (i : Int) | str (x : Str) | tup (ds : List D) | ref (n : Nat) | err (c : Addr) | ext (v : V)

inductive MO where
  | lst (ds : List D)
  | ins (C : Addr) (fs : List (Str × D))
  | emp

abbrev Mm := List MO
abbrev Sl := List (Option D)

inductive Res (α : Type) where
  | ok (a : α) (m : Mm)
  | exc (c : Addr) (m : Mm)
  | stuck

def Res.bind {α β : Type} (r : Res α) (f : α → Mm → Res β) : Res β :=
  match r with
  | .ok a m => f a m
  | .exc c m => .exc c m
  | .stuck => .stuck
@[simp] theorem Res.bind_ok {α β : Type} (a : α) (m : Mm) (f : α → Mm → Res β) : (Res.ok a m).bind f = f a m := rfl
@[simp] theorem Res.bind_exc {α β : Type} (c : Addr) (m : Mm) (f : α → Mm → Res β) : (Res.exc c m : Res α).bind f = .exc c m := rfl
@[simp] theorem Res.bind_stuck {α β : Type} (f : α → Mm → Res β) : (Res.stuck : Res α).bind f = .stuck := rfl

structure Wd where
  al : Nat → Addr
  H : Hp
  M : Mm

/-- what stays through a whole run: the tables of the code objects, the script -/
structure Amb where
  /-- the own exception classes whose instances have a dict of their own -/
  xc : List Addr := []
  T : List (Addr × Str)
  sa : Addr
  sn : List Int

mutual
/-- v is the data d, by W -/
def Rep (K : PySem.W.Frag) (W : Wd) : D → V → Prop
  | .non, v => v = .non
  | .bl b, v => v = .bl b
  | .int i, v => v = .int i
  | .str x, v => v = .str x
  | .tup ds, v => ∃ a vs, v = .ref a ∧ SqT K W.H a vs ∧ Reps K W ds vs
  | .ref n, v => n < W.M.length ∧ v = .ref (W.al n)
  | .err _, v => ∃ a, v = .ref a
  | .ext u, v => v = u
def Reps (K : PySem.W.Frag) (W : Wd) : List D → List V → Prop
  | [], vs => vs = []
  | d :: ds, vs => ∃ v r, vs = v :: r ∧ Rep K W d v ∧ Reps K W ds r
end

/-- the object of number n stands at a -/
def RepO (K : PySem.W.Frag) (W : Wd) (a : Addr) : MO → Prop
  | .lst ds => ∃ vs, W.H a = some (.lst vs) ∧ Reps K W ds vs
  | .ins C fs => ∃ dx gs, W.H a = some (.ins C dx gs) ∧ gs.map (·.1) = fs.map (·.1) ∧ Reps K W (fs.map (·.2)) (gs.map (·.2))
  | .emp => W.H a = some (.dK [])

def ScrK (K : PySem.W.Frag) (A : Amb) : Prop := ∃ (o : Obj) (its : Array Value) (n : Nat), K.lookup A.sa = some o ∧ o.cls = .type "list" ∧ o.dict = none ∧ o.data = .seq its n ∧ its.size ≤ sizeLine ∧ Vals (A.sn.map V.int) its.toList
def ScrOk (K : PySem.W.Frag) (A : Amb) (W : Wd) : Prop :=
  (Rd W.H A.sa (.lst (A.sn.map V.int)) ∧ ∀ i, i < W.M.length → W.al i ≠ A.sa) ∨ ScrK K A

structure Ok (K : PySem.W.Frag) (A : Amb) (W : Wd) : Prop where
  inj : ∀ i j, i < W.M.length → j < W.M.length → W.al i = W.al j → i = j
  obj : ∀ i mo, W.M[i]? = some mo → RepO K W (W.al i) mo
  tabs : LamX.Tabs A.T W.H
  scr : ScrOk K A W

/-- nothing stands there, or a table -/
def Fre (H : Hp) (b : Addr) : Prop := ∀ o, H b = some o → ∃ ps, o = .tbl ps
theorem Fre.none {H : Hp} {b : Addr} (h : H b = none) : Fre H b := fun o e => by rw [h] at e; cases e
theorem Fre.ext {H H' : Hp} (e : ∀ b o, H b = some o → H' b = some o) {b : Addr} (h : Fre H' b) : Fre H b := fun o q => h o (e b o q)
/-- what is known of the dict of an exception of the class at c -/
def DdOk (A : Amb) (c : Addr) (H : Hp) (dd : Option Addr) : Prop := if c ∈ A.xc then ∃ a fs, dd = some a ∧ H a = some (.xd fs) else dd = none
/-- W' comes behind W -/
structure Le (W W' : Wd) : Prop where
  len : W.M.length ≤ W'.M.length
  al : ∀ i, i < W.M.length → W'.al i = W.al i
  fr : ∀ b o, W.H b = some o → (∀ i, i < W.M.length → W.al i ≠ b) → (∀ ps, o ≠ .tbl ps) → W'.H b = some o
  dom : ∀ b, Fre W'.H b → Fre W.H b
  nw : ∀ i, W.M.length ≤ i → i < W'.M.length → Fre W.H (W'.al i)

theorem Le.rfl' (W : Wd) : Le W W := ⟨Nat.le_refl _, fun _ _ => rfl, fun _ _ h _ _ => h, fun _ h => h, fun i h h' => absurd h' (by omega)⟩
theorem Le.trans {W W1 W2 : Wd} (a : Le W W1) (b : Le W1 W2) : Le W W2 := by
  refine ⟨Nat.le_trans a.len b.len, fun i hi => ?_, fun c o h hn ht => ?_, fun c h => a.dom c (b.dom c h), fun i h1 h2 => ?_⟩
  · rw [b.al i (Nat.lt_of_lt_of_le hi a.len), a.al i hi]
  · refine b.fr c o (a.fr c o h hn ht) (fun i hi e => ?_) ht
    by_cases hlt : i < W.M.length
    · rw [a.al i hlt] at e
      exact hn i hlt e
    · have z := a.nw i (by omega) hi
      rw [e] at z
      obtain ⟨ps, q⟩ := z o h
      exact ht ps q
  · by_cases hlt : i < W1.M.length
    · rw [b.al i hlt]
      exact a.nw i h1 hlt
    · exact a.dom _ (b.nw i (by omega) h2)

section
variable {K : PySem.W.Frag} {A : Amb} {W W' : Wd}
theorem RepO.is {a : Addr} {mo : MO} (h : RepO K W a mo) : ∃ o, W.H a = some o ∧ ((∃ xs, o = .lst xs) ∨ (∃ C dx fs, o = .ins C dx fs) ∨ o = .dK []) := by
  cases mo with
  | lst ds =>
    obtain ⟨vs, e, _⟩ := h
    exact ⟨_, e, .inl ⟨_, rfl⟩⟩
  | ins C fs =>
    obtain ⟨dx, gs, e, _⟩ := h
    exact ⟨_, e, .inr (.inl ⟨_, _, _, rfl⟩)⟩
  | emp => exact ⟨_, h, .inr (.inr rfl)⟩
/-- what is no list and no instance is not one of ours -/
theorem Ok.off (h : Ok K A W) {b : Addr} {o : HO} (e : W.H b = some o) (h1 : ∀ xs, o ≠ .lst xs) (h2 : ∀ C dx fs, o ≠ .ins C dx fs) (h3 : o ≠ .dK [] := by intro z; cases z) : ∀ i, i < W.M.length → W.al i ≠ b := by
  intro i hi z
  obtain ⟨u, eu, hu⟩ := (h.obj i _ (List.getElem?_eq_getElem hi)).is
  rw [z, e] at eu
  cases eu
  rcases hu with ⟨xs, q⟩ | ⟨C, dx, fs, q⟩ | q
  · exact h1 xs q
  · exact h2 C dx fs q
  · exact h3 q
theorem Ok.there (h : Ok K A W) {i : Nat} (hi : i < W.M.length) : W.H (W.al i) ≠ none := by
  obtain ⟨u, eu, _⟩ := (h.obj i _ (List.getElem?_eq_getElem hi)).is
  rw [eu]
  exact fun z => nomatch z
theorem Le.tupK (l : Le W W') (h : Ok K A W) {a : Addr} {vs : List V} (s : SqT K W.H a vs) : SqT K W'.H a vs := by
  rcases s with (s | ⟨o, s⟩) | s
  · exact .inl (.inl (l.fr _ _ s (h.off s (fun _ z => nomatch z) fun _ _ _ z => nomatch z) fun _ z => nomatch z))
  · exact .inl (.inr ⟨o, l.fr _ _ s (h.off s (fun _ z => nomatch z) fun _ _ _ z => nomatch z) fun _ z => nomatch z⟩)
  · exact .inr s
/-- between any two abstract heaps: tuples stay, our addresses stay -/
structure Keep (K : PySem.W.Frag) (W W' : Wd) : Prop where
  len : W.M.length ≤ W'.M.length
  al : ∀ i, i < W.M.length → W'.al i = W.al i
  tup : ∀ a vs, SqT K W.H a vs → SqT K W'.H a vs
theorem Le.keep (l : Le W W') (h : Ok K A W) : Keep K W W' := ⟨l.len, l.al, fun _ _ s => l.tupK h s⟩
mutual
theorem Rep.keep (k : Keep K W W') : ∀ (d : D) (v : V), Rep K W d v → Rep K W' d v
  | .non, _, h => by simpa only [Rep] using h
  | .bl _, _, h => by simpa only [Rep] using h
  | .int _, _, h => by simpa only [Rep] using h
  | .str _, _, h => by simpa only [Rep] using h
  | .tup ds, v, h => by
    simp only [Rep] at h ⊢
    obtain ⟨a, vs, e, s, r⟩ := h
    exact ⟨a, vs, e, k.tup a vs s, Reps.keep k ds vs r⟩
  | .ref n, _, h => by
    simp only [Rep] at h ⊢
    obtain ⟨h1, h2⟩ := h
    exact ⟨Nat.lt_of_lt_of_le h1 k.len, by rw [h2, k.al n h1]⟩
  | .err _, _, h => by simpa only [Rep] using h
  | .ext _, _, h => by simpa only [Rep] using h
theorem Reps.keep (k : Keep K W W') : ∀ (ds : List D) (vs : List V), Reps K W ds vs → Reps K W' ds vs
  | [], _, h => by simpa only [Reps] using h
  | d :: ds, vs, h => by
    simp only [Reps] at h ⊢
    obtain ⟨v, r, e, h1, h2⟩ := h
    exact ⟨v, r, e, Rep.keep k d v h1, Reps.keep k ds r h2⟩
end
theorem Rep.le {d : D} {v : V} (r : Rep K W d v) (l : Le W W') (h : Ok K A W) : Rep K W' d v := Rep.keep (l.keep h) d v r
theorem Reps.le {ds : List D} {vs : List V} (r : Reps K W ds vs) (l : Le W W') (h : Ok K A W) : Reps K W' ds vs := Reps.keep (l.keep h) ds vs r
/-! lists of data -/
theorem Reps.nil : Reps K W [] [] := by simp only [Reps]
theorem Reps.cons {d : D} {v : V} {ds : List D} {vs : List V} (h : Rep K W d v) (r : Reps K W ds vs) : Reps K W (d :: ds) (v :: vs) := by
  simp only [Reps]
  exact ⟨v, vs, rfl, h, r⟩
theorem Reps.inv {d : D} {ds : List D} {vs : List V} (r : Reps K W (d :: ds) vs) : ∃ v vr, vs = v :: vr ∧ Rep K W d v ∧ Reps K W ds vr := by
  simpa only [Reps] using r
theorem Reps.inv0 {vs : List V} (r : Reps K W [] vs) : vs = [] := by simpa only [Reps] using r
theorem Reps.length : ∀ {ds : List D} {vs : List V}, Reps K W ds vs → vs.length = ds.length
  | [], vs, r => by rw [r.inv0]; rfl
  | d :: ds, vs, r => by
    obtain ⟨v, vr, e, _, r2⟩ := r.inv
    rw [e, List.length_cons, List.length_cons, Reps.length r2]
theorem Reps.get : ∀ {ds : List D} {vs : List V} {i : Nat} {d : D}, Reps K W ds vs → ds[i]? = some d → ∃ v, vs[i]? = some v ∧ Rep K W d v
  | [], _, i, d, _, h => by simp at h
  | c :: ds, vs, 0, d, r, h => by
    obtain ⟨v, vr, e, r1, _⟩ := r.inv
    subst e
    simp at h
    subst h
    exact ⟨v, rfl, r1⟩
  | c :: ds, vs, i + 1, d, r, h => by
    obtain ⟨v, vr, e, _, r2⟩ := r.inv
    subst e
    obtain ⟨u, h1, h2⟩ := Reps.get (i := i) (d := d) r2 (by simpa using h)
    exact ⟨u, by simpa using h1, h2⟩
theorem Reps.append : ∀ {ds es : List D} {vs us : List V}, Reps K W ds vs → Reps K W es us → Reps K W (ds ++ es) (vs ++ us)
  | [], _, vs, _, r, s => by rw [r.inv0]; exact s
  | d :: ds, es, vs, us, r, s => by
    obtain ⟨v, vr, e, r1, r2⟩ := r.inv
    subst e
    exact Reps.cons r1 (Reps.append r2 s)
theorem Reps.take : ∀ {ds : List D} {vs : List V} (n : Nat), Reps K W ds vs → Reps K W (ds.take n) (vs.take n)
  | _, _, 0, _ => Reps.nil
  | [], vs, n + 1, r => by rw [r.inv0]; exact Reps.nil
  | d :: ds, vs, n + 1, r => by
    obtain ⟨v, vr, e, r1, r2⟩ := r.inv
    subst e
    exact Reps.cons r1 (Reps.take n r2)
theorem Reps.drop : ∀ {ds : List D} {vs : List V} (n : Nat), Reps K W ds vs → Reps K W (ds.drop n) (vs.drop n)
  | _, _, 0, r => r
  | [], vs, n + 1, r => by rw [r.inv0]; exact Reps.nil
  | d :: ds, vs, n + 1, r => by
    obtain ⟨v, vr, e, r1, r2⟩ := r.inv
    subst e
    exact Reps.drop n r2
theorem Reps.set {d : D} {v : V} (h : Rep K W d v) : ∀ {ds : List D} {vs : List V} (n : Nat), Reps K W ds vs → Reps K W (ds.set n d) (vs.set n v)
  | [], vs, n, r => by rw [r.inv0]; exact Reps.nil
  | e :: ds, vs, 0, r => by
    obtain ⟨u, vr, q, r1, r2⟩ := r.inv
    subst q
    exact Reps.cons h r2
  | e :: ds, vs, n + 1, r => by
    obtain ⟨u, vr, q, r1, r2⟩ := r.inv
    subst q
    exact Reps.cons r1 (Reps.set h n r2)
theorem Reps.flat : ∀ {dss : List (List D)} {vss : List (List V)}, Paired (fun ds vs => Reps K W ds vs) dss vss → Reps K W dss.flatten vss.flatten
  | _, _, .nil => Reps.nil
  | _, _, .cons r t => by
    rw [List.flatten_cons, List.flatten_cons]
    exact Reps.append r (Reps.flat t)
theorem Reps.repl {ds : List D} {vs : List V} (r : Reps K W ds vs) : ∀ n : Nat, Reps K W (List.replicate n ds).flatten (List.replicate n vs).flatten
  | 0 => Reps.nil
  | n + 1 => by
    rw [List.replicate_succ, List.replicate_succ, List.flatten_cons, List.flatten_cons]
    exact Reps.append r (Reps.repl r n)
theorem Reps.ints : ∀ {ns : List Int} {vs : List V}, Reps K W (ns.map D.int) vs → vs = ns.map V.int
  | [], vs, r => r.inv0
  | n :: ns, vs, r => by
    obtain ⟨v, vr, e, r1, r2⟩ := Reps.inv (d := .int n) (ds := ns.map D.int) r
    have z : v = .int n := by simpa only [Rep] using r1
    rw [e, z, Reps.ints r2]
    rfl
theorem Reps.bls : ∀ {ns : List Bool} {vs : List V}, Reps K W (ns.map D.bl) vs → vs = ns.map V.bl
  | [], vs, r => r.inv0
  | n :: ns, vs, r => by
    obtain ⟨v, vr, e, r1, r2⟩ := Reps.inv (d := .bl n) (ds := ns.map D.bl) r
    have z : v = .bl n := by simpa only [Rep] using r1
    rw [e, z, Reps.bls r2]
    rfl
theorem Reps.of_ints : ∀ (ns : List Int), Reps K W (ns.map D.int) (ns.map V.int)
  | [] => Reps.nil
  | n :: ns => Reps.cons (by simp only [Rep]) (Reps.of_ints ns)
end

/-! ### steps of the world -/
section
variable {K : PySem.W.Frag} {A : Amb} {W W' : Wd}
theorem RepO.keep (k : Keep K W W') {a : Addr} {mo : MO} (h : RepO K W a mo) (e : ∀ o, W.H a = some o → W'.H a = some o) : RepO K W' a mo := by
  cases mo with
  | lst ds =>
    obtain ⟨vs, h1, h2⟩ := h
    exact ⟨vs, e _ h1, Reps.keep k ds vs h2⟩
  | ins C fs =>
    obtain ⟨dx, gs, h1, h2, h3⟩ := h
    exact ⟨dx, gs, e _ h1, h2, Reps.keep k _ _ h3⟩
  | emp => exact e _ h
theorem Ok.scrAdd (h : Ok K A W) {p : Addr} (hp : W.H p = none) (k : Nat) (hk : W.M.length ≤ k) (W' : Wd) (hH : ∀ b o, W.H b = some o → W'.H b = some o) (hal : ∀ i, i < W'.M.length → W'.al i = p ∨ (i < W.M.length ∧ W'.al i = W.al i)) : ScrOk K A W' := by
  rcases h.scr with ⟨r, n⟩ | s
  · refine .inl ⟨?_, fun i hi z => ?_⟩
    · rcases r with r | ⟨o, r⟩
      · exact .inl (hH _ _ r)
      · exact .inr ⟨o, hH _ _ r⟩
    · rcases hal i hi with e | ⟨h1, e⟩
      · have q : W.H A.sa = none := by rw [← z, e]; exact hp
        rcases r with r | ⟨o, r⟩ <;> (rw [q] at r; cases r)
      · exact n i h1 (by rw [← e]; exact z)
  · exact .inr s
/-- a new tuple -/
theorem Ok.newTup (h : Ok K A W) {p : Addr} (hp : W.H p = none) {ds : List D} {vs : List V} (r : Reps K W ds vs) :
    Ok K A ⟨W.al, upd W.H p (.tup vs), W.M⟩ ∧ Le W ⟨W.al, upd W.H p (.tup vs), W.M⟩ ∧ Rep K ⟨W.al, upd W.H p (.tup vs), W.M⟩ (.tup ds) (.ref p) := by
  have ext : ∀ b o, W.H b = some o → upd W.H p (.tup vs) b = some o := fun b o e => by rw [upd_ne (ne_of_none e hp)]; exact e
  have le : Le W ⟨W.al, upd W.H p (.tup vs), W.M⟩ := by
    refine ⟨Nat.le_refl _, fun _ _ => rfl, fun b o e _ _ => ext b o e, fun b e => e.ext ext, fun i h1 h2 => absurd h2 (by show ¬ i < W.M.length; omega)⟩
  have k := le.keep h
  refine ⟨⟨h.inj, fun i mo e => (h.obj i mo e).keep k fun o q => ext _ o q, h.tabs.ext ext, h.scrAdd hp _ (Nat.le_refl _) _ ext fun i hi => .inr ⟨hi, rfl⟩⟩, le, ?_⟩
  simp only [Rep]
  exact ⟨p, vs, rfl, SqT.of upd_same, Reps.keep k _ _ r⟩
/-- a new object of ours at p: o stands there -/
def addO (W : Wd) (p : Addr) (H' : Hp) (mo : MO) : Wd := ⟨fun i => if i = W.M.length then p else W.al i, H', W.M ++ [mo]⟩
theorem addO_al {p : Addr} {H' : Hp} {mo : MO} {i : Nat} (hi : i < W.M.length) : (addO W p H' mo).al i = W.al i := by
  show (if i = W.M.length then p else W.al i) = W.al i
  rw [if_neg (by omega)]
theorem addO_new {p : Addr} {H' : Hp} {mo : MO} : (addO W p H' mo).al W.M.length = p := by
  show (if W.M.length = W.M.length then p else _) = p
  rw [if_pos rfl]
theorem Ok.addObj (h : Ok K A W) {p : Addr} (hp : W.H p = none) {H' : Hp} {mo : MO} (ext : ∀ b o, W.H b = some o → H' b = some o) (new : Le W (addO W p H' mo) → RepO K (addO W p H' mo) p mo) :
    Ok K A (addO W p H' mo) ∧ Le W (addO W p H' mo) ∧ Rep K (addO W p H' mo) (.ref W.M.length) (.ref p) := by
  have len : (addO W p H' mo).M.length = W.M.length + 1 := by
    show (W.M ++ [mo]).length = _
    rw [List.length_append]; rfl
  have le : Le W (addO W p H' mo) := by
    refine ⟨by omega, fun i hi => addO_al hi, fun b o e _ _ => ext b o e, fun b e => e.ext ext, fun i h1 h2 => ?_⟩
    have e : i = W.M.length := by omega
    rw [e, addO_new]
    exact .none hp
  have k := le.keep h
  have ne : ∀ i, i < W.M.length → W.al i ≠ p := fun i hi z => h.there hi (by rw [z]; exact hp)
  refine ⟨⟨fun i j hi hj e => ?_, fun i m e => ?_, h.tabs.ext ext, h.scrAdd hp _ (Nat.le_refl _) _ ext fun i hi => ?_⟩, le, ?_⟩
  · by_cases h1 : i < W.M.length
    · by_cases h2 : j < W.M.length
      · rw [addO_al h1, addO_al h2] at e
        exact h.inj i j h1 h2 e
      · have : j = W.M.length := by omega
        rw [addO_al h1, this, addO_new] at e
        exact absurd e (ne i h1)
    · have hi' : i = W.M.length := by omega
      by_cases h2 : j < W.M.length
      · rw [addO_al h2, hi', addO_new] at e
        exact absurd e.symm (ne j h2)
      · omega
  · by_cases h1 : i < W.M.length
    · have e' : (W.M ++ [mo])[i]? = some m := e
      rw [List.getElem?_append_left h1] at e'
      rw [addO_al h1]
      exact (h.obj i m e').keep k fun o q => ext _ o q
    · have hl : i < (W.M ++ [mo]).length := (List.getElem?_eq_some_iff.mp e).1
      have hi' : i = W.M.length := by rw [List.length_append] at hl; simp at hl; omega
      have e' : (W.M ++ [mo])[i]? = some m := e
      rw [hi', List.getElem?_concat_length] at e'
      cases e'
      rw [hi', addO_new]
      exact new le
  · by_cases h1 : i < W.M.length
    · exact .inr ⟨h1, addO_al h1⟩
    · have : i = W.M.length := by omega
      rw [this, addO_new]
      exact .inl rfl
  · simp only [Rep]
    exact ⟨by omega, by rw [addO_new]⟩
theorem Ok.newLst (h : Ok K A W) {p : Addr} (hp : W.H p = none) {ds : List D} {vs : List V} (r : Reps K W ds vs) :
    Ok K A (addO W p (upd W.H p (.lst vs)) (.lst ds)) ∧ Le W (addO W p (upd W.H p (.lst vs)) (.lst ds)) ∧ Rep K (addO W p (upd W.H p (.lst vs)) (.lst ds)) (.ref W.M.length) (.ref p) :=
  h.addObj hp (fun b o e => by rw [upd_ne (ne_of_none e hp)]; exact e) fun le => ⟨vs, upd_same, r.le le h⟩
/-- a list rewritten -/
def setO (W : Wd) (n : Nat) (o : HO) (mo : MO) : Wd := ⟨W.al, upd W.H (W.al n) o, W.M.set n mo⟩
theorem Ok.setObj (h : Ok K A W) {n : Nat} {o : HO} {mo : MO} (hn : n < W.M.length) (hd : (∃ xs, o = .lst xs) ∨ ∃ C dx fs, o = .ins C dx fs) (new : Le W (setO W n o mo) → RepO K (setO W n o mo) (W.al n) mo) :
    Ok K A (setO W n o mo) ∧ Le W (setO W n o mo) := by
  have len : (setO W n o mo).M.length = W.M.length := by
    show (W.M.set n mo).length = _
    rw [List.length_set]
  obtain ⟨u, eu, hu⟩ := (h.obj n _ (List.getElem?_eq_getElem hn)).is
  have le : Le W (setO W n o mo) := by
    refine ⟨by omega, fun _ _ => rfl, fun b x e nb _ => ?_, fun b e => ?_, fun i h1 h2 => absurd h2 (by omega)⟩
    · show upd W.H (W.al n) o b = some x
      rw [upd_ne (fun z => nb n hn z.symm)]
      exact e
    · intro x q
      by_cases hb : b = W.al n
      · obtain ⟨ps, z⟩ := e o (by rw [hb]; exact upd_same)
        rcases hd with ⟨xs, q⟩ | ⟨C, dx, fs, q⟩ <;> (rw [q] at z; cases z)
      · exact e x (by show upd W.H (W.al n) o b = some x; rw [upd_ne hb]; exact q)
  have k := le.keep h
  refine ⟨⟨fun i j hi hj e => h.inj i j (by omega) (by omega) e, fun i m e => ?_, ?_, ?_⟩, le⟩
  · have e' : (W.M.set n mo)[i]? = some m := e
    by_cases hi : i = n
    · subst hi
      rw [List.getElem?_set_self hn] at e'
      cases e'
      exact new le
    · rw [List.getElem?_set_ne (Ne.symm hi)] at e'
      have hl : i < W.M.length := (List.getElem?_eq_some_iff.mp e').1
      refine (h.obj i m e').keep k fun x q => ?_
      show upd W.H (W.al n) o (W.al i) = some x
      rw [upd_ne (fun z => hi (h.inj i n hl hn z))]
      exact q
  · intro p hp
    obtain ⟨ps, h1, h2, h3⟩ := h.tabs p hp
    have off : ∀ b x, W.H b = some x → (∀ xs, x ≠ .lst xs) → (∀ C dx fs, x ≠ .ins C dx fs) → x ≠ .dK [] → upd W.H (W.al n) o b = some x := fun b x e q1 q2 q3 => by
      rw [upd_ne (fun z => h.off e q1 q2 q3 n hn z.symm)]
      exact e
    refine ⟨ps, off _ _ h1 (fun _ z => nomatch z) (fun _ _ _ z => nomatch z) (fun z => nomatch z), h2, fun pos cv hc => ?_⟩
    obtain ⟨c, e1, e2⟩ := h3 pos cv hc
    exact ⟨c, e1, off _ _ e2 (fun _ z => nomatch z) (fun _ _ _ z => nomatch z) (fun z => nomatch z)⟩
  · rcases h.scr with ⟨r, q⟩ | s
    · refine .inl ⟨?_, fun i hi => q i (by omega)⟩
      have nn : A.sa ≠ W.al n := fun z => q n hn z.symm
      rcases r with r | ⟨x, r⟩
      · exact .inl (by show upd W.H (W.al n) o A.sa = _; rw [upd_ne nn]; exact r)
      · exact .inr ⟨x, by show upd W.H (W.al n) o A.sa = _; rw [upd_ne nn]; exact r⟩
    · exact .inr s
theorem Ok.setLst (h : Ok K A W) {n : Nat} {ds : List D} {vs : List V} (hn : n < W.M.length) (r : Reps K W ds vs) :
    Ok K A (setO W n (.lst vs) (.lst ds)) ∧ Le W (setO W n (.lst vs) (.lst ds)) :=
  h.setObj hn (.inl ⟨_, rfl⟩) fun le => ⟨vs, upd_same, r.le le h⟩
/-- the list of number n -/
theorem Ok.getLst (h : Ok K A W) {n : Nat} {ds : List D} (e : W.M[n]? = some (.lst ds)) : ∃ vs, W.H (W.al n) = some (.lst vs) ∧ Reps K W ds vs := h.obj n _ e
end
end Ny


set_option Elab.async false
set_option linter.all false
set_option maxRecDepth 10000
set_option maxHeartbeats 1000000
/-! NyExpr: an expression is worth a function of slots and objects: DE X A e f. -/
namespace Ny
open PySem PySem.Spec PyProof.Rows L2

theorem PE.imp {X : Cx} {e : Expr} {t t' : TE} (h : PE X e t) (k : ∀ σ H Q, t' σ H Q → t σ H Q) : PE X e t' := ⟨fun pins s σ H Q I q => h.run pins s σ H Q I (k σ H Q q)⟩
theorem PT.imp {X : Cx} {e : Expr} {t t' : TT} (h : PT X e t) (k : ∀ σ H Q, t' σ H Q → t σ H Q) : PT X e t' := ⟨fun pins s σ H Q I q => h.run pins s σ H Q I (k σ H Q q)⟩
theorem PW.imp {X : Cx} {e : Expr} {t t' : TT} (h : PW X e t) (k : ∀ σ H Q, t' σ H Q → t σ H Q) : PW X e t' := ⟨fun wh pins s σ H Q I q => h.run wh pins s σ H Q I (k σ H Q q)⟩
theorem PA.imp {X : Cx} {e : List Expr} {t t' : TA} (h : PA X e t) (k : ∀ σ H Q, t' σ H Q → t σ H Q) : PA X e t' := ⟨fun pos pins s σ H Q I q => h.run pos pins s σ H Q I (k σ H Q q)⟩

/-- the slots hold such data -/
def Slots (K : PySem.W.Frag) (W : Wd) (σ : L2.St) (ρ : Sl) : Prop := σ.length = ρ.length ∧ ∀ (i : Nat) (d : D), ρ[i]? = some (some d) → ∃ v, σ[i]? = some (some v) ∧ Rep K W d v
theorem Slots.le {K : PySem.W.Frag} {A : Amb} {W W' : Wd} {σ : L2.St} {ρ : Sl} (s : Slots K W σ ρ) (l : Le W W') (h : Ok K A W) : Slots K W' σ ρ :=
  ⟨s.1, fun i d e => let ⟨v, h1, h2⟩ := s.2 i d e; ⟨v, h1, h2.le l h⟩⟩

/-- r, told of the layer: R says how an answer stands there, Q is wanted of it, Wx of an exception -/
def Post {α β : Type} (K : PySem.W.Frag) (A : Amb) (Wx : WX) (R : Wd → α → β → Prop) (σ : L2.St) (W : Wd) (Q : β → Hp → Prop) : Res α → Prop
  | .ok a M' => ∀ b W', Ok K A W' → Le W W' → W'.M = M' → R W' a b → Q b W'.H
  | .exc c M' => ∀ dd W', Ok K A W' → Le W W' → W'.M = M' → DdOk A c W'.H dd → Wx (.ref c) dd σ W'.H
  | .stuck => False
section
variable {α β γ δ : Type} {K : PySem.W.Frag} {A : Amb} {Wx : WX} {R : Wd → α → β → Prop} {R' : Wd → γ → δ → Prop} {σ : L2.St} {W W' : Wd} {Q : β → Hp → Prop} {Q' : δ → Hp → Prop}
theorem Post.le {r : Res α} (p : Post K A Wx R σ W Q r) (l : Le W W') : Post K A Wx R σ W' Q r := by
  cases r with
  | ok a m => exact fun b W2 o l2 e r => p b W2 o (l.trans l2) e r
  | exc c m => exact fun dd W2 o l2 e z => p dd W2 o (l.trans l2) e z
  | stuck => exact p
/-- first r, then g -/
theorem Post.seq {r : Res α} {g : α → Mm → Res γ} (p : Post K A Wx R' σ W Q' (r.bind g)) (k : ∀ a b W1, Ok K A W1 → Le W W1 → R W1 a b → Post K A Wx R' σ W1 Q' (g a W1.M) → Q b W1.H) : Post K A Wx R σ W Q r := by
  cases r with
  | ok a m =>
    intro b W1 o l e r
    refine k a b W1 o l r ?_
    rw [e]
    exact Post.le (r := g a m) p l
  | exc c m => exact p
  | stuck => exact p
theorem Post.imp {r : Res α} (p : Post K A Wx R σ W Q r) {Q2 : β → Hp → Prop} (k : ∀ a b W1, Ok K A W1 → Le W W1 → R W1 a b → Q b W1.H → Q2 b W1.H) : Post K A Wx R σ W Q2 r := by
  cases r with
  | ok a m => exact fun b W1 o l e r => k a b W1 o l r (p b W1 o l e r)
  | exc c m => exact p
  | stuck => exact p
theorem Post.here {a : α} {b : β} {m : Mm} (p : Post K A Wx R σ W Q (.ok a m)) (h : Ok K A W) (e : W.M = m) (r : R W a b) : Q b W.H := p b W h (Le.rfl' W) e r
theorem Post.there {a : α} {b : β} {m : Mm} (p : Post K A Wx R σ W Q (.ok a m)) (h : Ok K A W') (l : Le W W') (e : W'.M = m) (r : R W' a b) : Q b W'.H := p b W' h l e r
end

def tD (K : PySem.W.Frag) (A : Amb) (Wx : WX) (f : Sl → Mm → Res D) : TE := fun σ H Q => ∃ ρ W, W.H = H ∧ Ok K A W ∧ Slots K W σ ρ ∧ Post K A Wx (Rep K) σ W Q (f ρ W.M)
def tDT (K : PySem.W.Frag) (A : Amb) (Wx : WX) (f : Sl → Mm → Res Bool) : TT := fun σ H Q => ∃ ρ W, W.H = H ∧ Ok K A W ∧ Slots K W σ ρ ∧ Post K A Wx (fun _ a b => a = b) σ W Q (f ρ W.M)
def tDA (K : PySem.W.Frag) (A : Amb) (Wx : WX) (f : Sl → Mm → Res (List D)) : TA := fun σ H Q => ∃ ρ W, W.H = H ∧ Ok K A W ∧ Slots K W σ ρ ∧ Post K A Wx (Reps K) σ W Q (f ρ W.M)

/-- e is worth f -/
def DE (X : Cx) (A : Amb) (e : Expr) (f : Sl → Mm → Res D) : Prop := ∀ Wx, L2N.Takes X Wx → PE X e (tD X.K A Wx f)
def DT (X : Cx) (A : Amb) (e : Expr) (f : Sl → Mm → Res Bool) : Prop := ∀ Wx, L2N.Takes X Wx → PT X e (tDT X.K A Wx f)
def DW (X : Cx) (A : Amb) (e : Expr) (f : Sl → Mm → Res Bool) : Prop := ∀ Wx, L2N.Takes X Wx → PW X e (tDT X.K A Wx f)
def DA (X : Cx) (A : Amb) (es : List Expr) (f : Sl → Mm → Res (List D)) : Prop := ∀ Wx, L2N.Takes X Wx → PA X es (tDA X.K A Wx f)

section
variable {X : Cx} {A : Amb} {a b c e : Expr} {fa fb fc : Sl → Mm → Res D} {pos : Pos}
/-! ### names, constants -/
def dVar (i : Nat) : Sl → Mm → Res D := fun ρ M => match ρ[i]? with
  | some (some d) => .ok d M
  | _ => .stuck
def dC (d : D) : Sl → Mm → Res D := fun _ M => .ok d M
theorem de_var {i : Nat} {x : Str} (hN : X.N[i]? = some x) (hv : Vis X.env.scope x) (hd : (x == ("__debug__" : Str)) = false := by decide) (hcd : (x == ("__classdict__" : Str)) = false := by decide) : DE X A (.Name x pos) (dVar i) := by
  intro Wx tk
  refine PE.imp (pe_var hN hv hd hcd) fun σ H Q h => ?_
  obtain ⟨ρ, W, rfl, ok, sl, p⟩ := h
  show ∃ v, σ[i]? = some (some v) ∧ Q v W.H
  unfold dVar at p
  split at p
  · rename_i d e
    obtain ⟨v, h1, h2⟩ := sl.2 i d e
    exact ⟨v, h1, p.here ok rfl h2⟩
  · exact p.elim
/-- d stands for v whatever the world is -/
def Cst (K : PySem.W.Frag) (d : D) (v : V) : Prop := ∀ W, Rep K W d v
theorem de_cst {v : V} {d : D} (h : PE X e (tC v)) (k : Cst X.K d v) : DE X A e (dC d) := by
  intro Wx tk
  refine PE.imp h fun σ H Q h => ?_
  obtain ⟨ρ, W, rfl, ok, sl, p⟩ := h
  exact p.here (b := v) ok rfl (k W)
theorem Cst.int (K : PySem.W.Frag) (i : Int) : Cst K (.int i) (.int i) := fun _ => by simp only [Rep]
theorem Cst.str (K : PySem.W.Frag) (i : Str) : Cst K (.str i) (.str i) := fun _ => by simp only [Rep]
theorem Cst.bl (K : PySem.W.Frag) (i : Bool) : Cst K (.bl i) (.bl i) := fun _ => by simp only [Rep]
theorem Cst.non (K : PySem.W.Frag) : Cst K .non .non := fun _ => by simp only [Rep]
theorem Cst.ext (K : PySem.W.Frag) (v : V) : Cst K (.ext v) v := fun _ => by simp only [Rep]
theorem de_int {i j} : DE X A (.Constant (.int i) j pos) (dC (.int i)) := de_cst pe_int (Cst.int _ _)
theorem de_str {i j} : DE X A (.Constant (.str i) j pos) (dC (.str i)) := de_cst pe_str (Cst.str _ _)
theorem de_bl {i j} : DE X A (.Constant (.bool i) j pos) (dC (.bl i)) := de_cst pe_bl (Cst.bl _ _)
theorem de_non {j} : DE X A (.Constant .none j pos) (dC .non) := de_cst pe_non (Cst.non _)
theorem de_globI {x : Str} {i : Int} (hg : Gl X x) (hm : ∃ t, X.mg x = some (.int i t)) (hd : (x == ("__debug__" : Str)) = false := by decide) : DE X A (.Name x pos) (dC (.int i)) := by
  obtain ⟨t, hm⟩ := hm
  exact de_cst (pe_glob (v := .int i) hg hm ⟨t, rfl⟩ hd) (Cst.int _ _)
theorem de_globS {x : Str} {i : Str} (hg : Gl X x) (hm : ∃ t, X.mg x = some (.str i t)) (hd : (x == ("__debug__" : Str)) = false := by decide) : DE X A (.Name x pos) (dC (.str i)) := by
  obtain ⟨t, hm⟩ := hm
  exact de_cst (pe_glob (v := .str i) hg hm ⟨t, rfl⟩ hd) (Cst.str _ _)
theorem de_globR {x : Str} {C : Addr} (hg : Gl X x) (hm : X.mg x = some (.ref C)) (hd : (x == ("__debug__" : Str)) = false := by decide) : DE X A (.Name x pos) (dC (.ext (.ref C))) :=
  de_cst (pe_glob (v := .ref C) hg hm rfl hd) (Cst.ext _ _)
theorem de_bty {x : Str} {T : String} (hg : Gl X x) (hm : X.mg x = none) (hv : bootBuiltins x = some (.type T)) (hn : x ≠ "__name__" := by decide) (hd : (x == ("__debug__" : Str)) = false := by decide) : DE X A (.Name x pos) (dC (.ext (.ty T))) :=
  de_cst (pe_bltn (v := .ty T) hg hm hv rfl hn hd) (Cst.ext _ _)

/-! ### two-place operations -/
def dBin (o : D → D → Mm → Res D) (fa fb : Sl → Mm → Res D) : Sl → Mm → Res D := fun ρ M => (fa ρ M).bind fun x M1 => (fb ρ M1).bind fun y M2 => o x y M2
/-- r, of values, does what o does of data -/
def OpD (X : Cx) (A : Amb) (r : R2) (o : D → D → Mm → Res D) : Prop := ∀ Wx σ W dx dy x y Q, Ok X.K A W → Rep X.K W dx x → Rep X.K W dy y → Post X.K A Wx (Rep X.K) σ W Q (o dx dy W.M) → r x y W.H Q
theorem bin_imp {r : R2} {o : D → D → Mm → Res D} (hd : OpD X A r o) {Wx : WX} {σ : L2.St} {H : Hp} {Q : VK} (h : tD X.K A Wx (dBin o fa fb) σ H Q) : tOp r (tD X.K A Wx fa) (tD X.K A Wx fb) σ H Q := by
  obtain ⟨ρ, W, rfl, ok, sl, p⟩ := h
  refine ⟨ρ, W, rfl, ok, sl, p.seq fun dx x W1 ok1 l1 r1 p1 => ?_⟩
  refine ⟨ρ, W1, rfl, ok1, sl.le l1 ok, p1.seq fun dy y W2 ok2 l2 r2 p2 => ?_⟩
  exact hd Wx σ W2 dx dy x y Q ok2 (r1.le l2 ok1) r2 p2
theorem de_bin {op : Operator} {r : R2} {o : D → D → Mm → Res D} (ho : OpR X (binaryOp op) r) (hd : OpD X A r o) (ha : DE X A a fa) (hb : DE X A b fb) : DE X A (.BinOp a op b pos) (dBin o fa fb) :=
  fun Wx tk => PE.imp (pe_op ho (ha Wx tk) (hb Wx tk)) fun _ _ _ h => bin_imp hd h
theorem de_cmp {op : CmpOp} {r : R2} {o : D → D → Mm → Res D} (ho : OpR X (compareOp op) r) (hd : OpD X A r o) (ha : DE X A a fa) (hb : DE X A b fb) (hm : behindInMarks op b = false) : DE X A (.Compare a [op] [b] pos) (dBin o fa fb) :=
  fun Wx tk => PE.imp (pe_cmpR ho (ha Wx tk) (hb Wx tk) hm) fun _ _ _ h => bin_imp hd h
def dTest (f : Sl → Mm → Res D) : Sl → Mm → Res Bool := fun ρ M => (f ρ M).bind fun d M1 => match d with
  | .bl b => .ok b M1
  | _ => .stuck
theorem test_imp {r : R2} {o : D → D → Mm → Res D} (hd : OpD X A r o) {Wx : WX} {σ : L2.St} {H : Hp} {Q : Bool → Hp → Prop} (h : tDT X.K A Wx (dTest (dBin o fa fb)) σ H Q) : tTest (tOp r (tD X.K A Wx fa) (tD X.K A Wx fb)) σ H Q := by
  obtain ⟨ρ, W, rfl, ok, sl, p⟩ := h
  refine bin_imp (Wx := Wx) hd ⟨ρ, W, rfl, ok, sl, Post.seq p fun d v W1 ok1 l1 r1 p1 => ?_⟩
  cases d <;> first
    | exact (show False from p1).elim
    | (simp only [Rep] at r1
       exact ⟨_, r1, p1.here ok1 rfl rfl⟩)
theorem dt_cmp {op : CmpOp} {r : R2} {o : D → D → Mm → Res D} (ho : OpR X (compareOp op) r) (hd : OpD X A r o) (ha : DE X A a fa) (hb : DE X A b fb) (hm : behindInMarks op b = false) : DT X A (.Compare a [op] [b] pos) (dTest (dBin o fa fb)) :=
  fun Wx tk => PT.imp (pt_cmpR ho (ha Wx tk) (hb Wx tk) hm) fun _ _ _ h => test_imp hd h
/-- an expression that is True or False, as a test -/
theorem dt_val (ha : DE X A a fa) (he : ∀ whole, isTrue a X.env whole = (do let v ← whole; standAt a.pos; holding [v] (truthy v)) := by intro _; rfl) : DT X A a (dTest fa) := by
  intro Wx tk
  refine PT.imp (pt_val (ha Wx tk) he) fun σ H Q h => ?_
  obtain ⟨ρ, W, rfl, ok, sl, p⟩ := h
  refine ⟨ρ, W, rfl, ok, sl, Post.seq p fun d v W1 ok1 l1 r1 p1 => ?_⟩
  cases d <;> first
    | exact (show False from p1).elim
    | (simp only [Rep] at r1
       exact ⟨_, r1, p1.here ok1 rfl rfl⟩)
/-! a chain a op1 b op2 c -/
def dChain (o o' : D → D → Mm → Res D) (fa fb fc : Sl → Mm → Res D) : Sl → Mm → Res D := fun ρ M => (fa ρ M).bind fun x M1 => (fb ρ M1).bind fun y M2 => (o x y M2).bind fun k M3 => match k with
  | .bl true => (fc ρ M3).bind fun z M4 => o' y z M4
  | .bl false => .ok (.bl false) M3
  | _ => .stuck
theorem chain_imp {r r' : R2} {o o' : D → D → Mm → Res D} (hd : OpD X A r o) (hd' : OpD X A r' o') {Wx : WX} {σ : L2.St} {H : Hp} {Q : VK} (h : tD X.K A Wx (dChain o o' fa fb fc) σ H Q) : tChain r r' (tD X.K A Wx fa) (tD X.K A Wx fb) (tD X.K A Wx fc) σ H Q := by
  obtain ⟨ρ, W, rfl, ok, sl, p⟩ := h
  refine ⟨ρ, W, rfl, ok, sl, p.seq fun dx x W1 ok1 l1 r1 p1 => ?_⟩
  refine ⟨ρ, W1, rfl, ok1, sl.le l1 ok, p1.seq fun dy y W2 ok2 l2 r2 p2 => ?_⟩
  have l02 := l1.trans l2
  refine hd Wx σ W2 dx dy x y _ ok2 (r1.le l2 ok1) r2 (p2.seq fun k v W3 ok3 l3 r3 p3 => ?_)
  cases k <;> first
    | exact (show False from p3).elim
    | skip
  rename_i k
  simp only [Rep] at r3
  refine ⟨k, r3, ?_⟩
  cases k with
  | true =>
    refine iteT ⟨ρ, W3, rfl, ok3, sl.le (l02.trans l3) ok, Post.seq p3 fun dz z W4 ok4 l4 r4 p4 => ?_⟩
    exact hd' Wx σ W4 dy dz y z Q ok4 (r2.le (l3.trans l4) ok2) r4 p4
  | false => exact iteF (p3.here ok3 rfl (by simp only [Rep]))
theorem de_chain {op op' : CmpOp} {r r' : R2} {o o' : D → D → Mm → Res D} (ho : OpR X (compareOp op) r) (hd : OpD X A r o) (ho' : OpR X (compareOp op') r') (hd' : OpD X A r' o') (ha : DE X A a fa) (hb : DE X A b fb) (hc : DE X A c fc)
    (hm : lastMarks [op, op'] [b, c] = false := by with_unfolding_all rfl) : DE X A (.Compare a [op, op'] [b, c] pos) (dChain o o' fa fb fc) :=
  fun Wx tk => PE.imp (pe_chain ho ho' (ha Wx tk) (hb Wx tk) (hc Wx tk) hm) fun _ _ _ h => chain_imp hd hd' h
theorem dt_chain {op op' : CmpOp} {r r' : R2} {o o' : D → D → Mm → Res D} (ho : OpR X (compareOp op) r) (hd : OpD X A r o) (ho' : OpR X (compareOp op') r') (hd' : OpD X A r' o') (ha : DE X A a fa) (hb : DE X A b fb) (hc : DE X A c fc)
    (hm : lastMarks [op, op'] [b, c] = false := by with_unfolding_all rfl) : DT X A (.Compare a [op, op'] [b, c] pos) (dTest (dChain o o' fa fb fc)) := by
  intro Wx tk
  refine PT.imp (pt_chain ho ho' (ha Wx tk) (hb Wx tk) (hc Wx tk) hm) fun σ H Q h => ?_
  obtain ⟨ρ, W, rfl, ok, sl, p⟩ := h
  refine chain_imp (Wx := Wx) hd hd' ⟨ρ, W, rfl, ok, sl, Post.seq p fun d v W1 ok1 l1 r1 p1 => ?_⟩
  cases d <;> first
    | exact (show False from p1).elim
    | (simp only [Rep] at r1
       exact ⟨_, r1, p1.here ok1 rfl rfl⟩)

/-! ### and, or, not, if -/
def dAndT (fa fb : Sl → Mm → Res Bool) : Sl → Mm → Res Bool := fun ρ M => (fa ρ M).bind fun k M1 => if k = true then fb ρ M1 else .ok false M1
def dOrT (fa fb : Sl → Mm → Res Bool) : Sl → Mm → Res Bool := fun ρ M => (fa ρ M).bind fun k M1 => if k = true then .ok true M1 else fb ρ M1
def dNotT (fa : Sl → Mm → Res Bool) : Sl → Mm → Res Bool := fun ρ M => (fa ρ M).bind fun k M1 => .ok (!k) M1
variable {ga gb : Sl → Mm → Res Bool} {rest : List Expr}
theorem dt_of (h : DW X A a ga) : DT X A a ga := fun Wx tk => (h Wx tk).pt
theorem dw_and1 (h : DT X A a ga) : DW X A (.BoolOp .And [a] pos) ga := fun Wx tk => pw_and1 (h Wx tk)
theorem dw_or1 (h : DT X A a ga) : DW X A (.BoolOp .Or [a] pos) ga := fun Wx tk => pw_or1 (h Wx tk)
theorem dw_and (ha : DT X A a ga) (hb : DW X A (.BoolOp .And (b :: rest) pos) gb) : DW X A (.BoolOp .And (a :: b :: rest) pos) (dAndT ga gb) := by
  intro Wx tk
  refine PW.imp (pw_and (ha Wx tk) (hb Wx tk)) fun σ H Q h => ?_
  obtain ⟨ρ, W, rfl, ok, sl, p⟩ := h
  refine ⟨ρ, W, rfl, ok, sl, p.seq fun k b W1 ok1 l1 r1 p1 => ?_⟩
  subst r1
  cases k with
  | true => exact iteT ⟨ρ, W1, rfl, ok1, sl.le l1 ok, p1⟩
  | false => exact iteF (p1.here ok1 rfl rfl)
theorem dw_or (ha : DT X A a ga) (hb : DW X A (.BoolOp .Or (b :: rest) pos) gb) : DW X A (.BoolOp .Or (a :: b :: rest) pos) (dOrT ga gb) := by
  intro Wx tk
  refine PW.imp (pw_or (ha Wx tk) (hb Wx tk)) fun σ H Q h => ?_
  obtain ⟨ρ, W, rfl, ok, sl, p⟩ := h
  refine ⟨ρ, W, rfl, ok, sl, p.seq fun k b W1 ok1 l1 r1 p1 => ?_⟩
  subst r1
  cases k with
  | true => exact iteT (p1.here ok1 rfl rfl)
  | false => exact iteF ⟨ρ, W1, rfl, ok1, sl.le l1 ok, p1⟩
theorem dt_not (ha : DT X A a ga) : DT X A (.UnaryOp .Not a pos) (dNotT ga) := by
  intro Wx tk
  refine PT.imp (pt_not (ha Wx tk)) fun σ H Q h => ?_
  obtain ⟨ρ, W, rfl, ok, sl, p⟩ := h
  refine ⟨ρ, W, rfl, ok, sl, p.seq fun k b W1 ok1 l1 r1 p1 => ?_⟩
  subst r1
  exact p1.here ok1 rfl rfl
/-! as values: all but the last True or False -/
def dAndV (fa fb : Sl → Mm → Res D) : Sl → Mm → Res D := fun ρ M => (fa ρ M).bind fun k M1 => match k with
  | .bl true => fb ρ M1
  | .bl false => .ok (.bl false) M1
  | _ => .stuck
def dOrV (fa fb : Sl → Mm → Res D) : Sl → Mm → Res D := fun ρ M => (fa ρ M).bind fun k M1 => match k with
  | .bl true => .ok (.bl true) M1
  | .bl false => fb ρ M1
  | _ => .stuck
def dNotV (fa : Sl → Mm → Res D) : Sl → Mm → Res D := fun ρ M => (fa ρ M).bind fun k M1 => match k with
  | .bl k => .ok (.bl (!k)) M1
  | _ => .stuck
theorem de_one {op} (h : DE X A a fa) : DE X A (.BoolOp op [a] pos) fa := fun Wx tk => pe_one (h Wx tk)
theorem de_and (ha : DE X A a fa) (hb : DE X A (.BoolOp .And (b :: rest) pos) fb) : DE X A (.BoolOp .And (a :: b :: rest) pos) (dAndV fa fb) := by
  intro Wx tk
  refine PE.imp (pe_and (ha Wx tk) (hb Wx tk)) fun σ H Q h => ?_
  obtain ⟨ρ, W, rfl, ok, sl, p⟩ := h
  refine ⟨ρ, W, rfl, ok, sl, p.seq fun k v W1 ok1 l1 r1 p1 => ?_⟩
  cases k <;> first
    | exact (show False from p1).elim
    | skip
  rename_i k
  simp only [Rep] at r1
  refine ⟨k, r1, ?_⟩
  cases k with
  | true => exact iteT ⟨ρ, W1, rfl, ok1, sl.le l1 ok, p1⟩
  | false => exact iteF (p1.here ok1 rfl (by simp only [Rep]))
theorem de_or (ha : DE X A a fa) (hb : DE X A (.BoolOp .Or (b :: rest) pos) fb) : DE X A (.BoolOp .Or (a :: b :: rest) pos) (dOrV fa fb) := by
  intro Wx tk
  refine PE.imp (pe_or (ha Wx tk) (hb Wx tk)) fun σ H Q h => ?_
  obtain ⟨ρ, W, rfl, ok, sl, p⟩ := h
  refine ⟨ρ, W, rfl, ok, sl, p.seq fun k v W1 ok1 l1 r1 p1 => ?_⟩
  cases k <;> first
    | exact (show False from p1).elim
    | skip
  rename_i k
  simp only [Rep] at r1
  refine ⟨k, r1, ?_⟩
  cases k with
  | true => exact iteT (p1.here ok1 rfl (by simp only [Rep]))
  | false => exact iteF ⟨ρ, W1, rfl, ok1, sl.le l1 ok, p1⟩
theorem de_not (ha : DE X A a fa) : DE X A (.UnaryOp .Not a pos) (dNotV fa) := by
  intro Wx tk
  refine PE.imp (pe_not (ha Wx tk)) fun σ H Q h => ?_
  obtain ⟨ρ, W, rfl, ok, sl, p⟩ := h
  refine ⟨ρ, W, rfl, ok, sl, p.seq fun k v W1 ok1 l1 r1 p1 => ?_⟩
  cases k <;> first
    | exact (show False from p1).elim
    | skip
  rename_i k
  simp only [Rep] at r1
  exact ⟨k, r1, p1.here ok1 rfl (by simp only [Rep])⟩
def dIfE (fc : Sl → Mm → Res Bool) (fa fb : Sl → Mm → Res D) : Sl → Mm → Res D := fun ρ M => (fc ρ M).bind fun k M1 => if k = true then fa ρ M1 else fb ρ M1
theorem de_if {gc : Sl → Mm → Res Bool} (hc : DT X A c gc) (ha : DE X A a fa) (hb : DE X A b fb) : DE X A (.IfExp c a b pos) (dIfE gc fa fb) := by
  intro Wx tk
  refine PE.imp (pe_ifExp (hc Wx tk) (ha Wx tk) (hb Wx tk)) fun σ H Q h => ?_
  obtain ⟨ρ, W, rfl, ok, sl, p⟩ := h
  refine ⟨ρ, W, rfl, ok, sl, p.seq fun k b W1 ok1 l1 r1 p1 => ?_⟩
  subst r1
  cases k with
  | true => exact iteT ⟨ρ, W1, rfl, ok1, sl.le l1 ok, p1⟩
  | false => exact iteF ⟨ρ, W1, rfl, ok1, sl.le l1 ok, p1⟩

/-! ### one-place operations -/
def dUn (o : D → Mm → Res D) (fa : Sl → Mm → Res D) : Sl → Mm → Res D := fun ρ M => (fa ρ M).bind o
def oNeg : D → Mm → Res D
  | .int i, M => .ok (.int (-i)) M
  | _, _ => .stuck
theorem de_neg (ha : DE X A a fa) : DE X A (.UnaryOp .USub a pos) (dUn oNeg fa) := by
  intro Wx tk
  refine PE.imp (pe_un un_neg (ha Wx tk)) fun σ H Q h => ?_
  obtain ⟨ρ, W, rfl, ok, sl, p⟩ := h
  refine ⟨ρ, W, rfl, ok, sl, Post.seq p fun k v W1 ok1 l1 r1 p1 => ?_⟩
  cases k <;> first
    | exact (show False from p1).elim
    | skip
  rename_i i
  simp only [Rep] at r1
  exact ⟨i, r1, p1.here ok1 rfl (by simp only [Rep])⟩

/-! ### argument lists, displays -/
def dNilA : Sl → Mm → Res (List D) := fun _ M => .ok [] M
def dConsA (fa : Sl → Mm → Res D) (fr : Sl → Mm → Res (List D)) : Sl → Mm → Res (List D) := fun ρ M => (fa ρ M).bind fun x M1 => (fr ρ M1).bind fun xs M2 => .ok (x :: xs) M2
variable {es : List Expr} {fs : Sl → Mm → Res (List D)}
theorem da_nil : DA X A [] dNilA := by
  intro Wx tk
  refine PA.imp pa_nil fun σ H Q h => ?_
  obtain ⟨ρ, W, rfl, ok, sl, p⟩ := h
  exact p.here ok rfl Reps.nil
theorem da_cons (ha : DE X A e fa) (hr : DA X A es fs) (hs : starEach (e :: es) X.env = (false, eval e X.env) :: starEach es X.env := by rfl) : DA X A (e :: es) (dConsA fa fs) := by
  intro Wx tk
  refine PA.imp (pa_cons (ha Wx tk) (hr Wx tk) hs) fun σ H Q h => ?_
  obtain ⟨ρ, W, rfl, ok, sl, p⟩ := h
  refine ⟨ρ, W, rfl, ok, sl, p.seq fun d v W1 ok1 l1 r1 p1 => ?_⟩
  refine ⟨ρ, W1, rfl, ok1, sl.le l1 ok, p1.seq fun ds vs W2 ok2 l2 r2 p2 => ?_⟩
  exact p2.here ok2 rfl (Reps.cons (r1.le l2 ok1) r2)
/-- a new tuple, a new list -/
def newT (ds : List D) (M : Mm) : Res D := if ds.length ≤ sizeLine then .ok (.tup ds) M else .stuck
def newL (ds : List D) (M : Mm) : Res D := if ds.length ≤ sizeLine then .ok (.ref M.length) (M ++ [.lst ds]) else .stuck
def dTup (fs : Sl → Mm → Res (List D)) : Sl → Mm → Res D := fun ρ M => (fs ρ M).bind newT
def dLst (fs : Sl → Mm → Res (List D)) : Sl → Mm → Res D := fun ρ M => (fs ρ M).bind newL
theorem newT_post {K : PySem.W.Frag} {Wx : WX} {σ : L2.St} {W : Wd} {Q : VK} {ds : List D} {vs : List V} (ok : Ok K A W) (r : Reps K W ds vs) (p : Post K A Wx (Rep K) σ W Q (newT ds W.M)) : vs.length ≤ sizeLine ∧ ∀ q, W.H q = none → Q (.ref q) (upd W.H q (.tup vs)) := by
  unfold newT at p
  split at p
  · rename_i hl
    refine ⟨by rw [r.length]; exact hl, fun q hq => ?_⟩
    obtain ⟨o2, l2, r2⟩ := ok.newTup hq r
    exact p.there o2 l2 rfl r2
  · exact p.elim
theorem newL_post {K : PySem.W.Frag} {Wx : WX} {σ : L2.St} {W : Wd} {Q : VK} {ds : List D} {vs : List V} (ok : Ok K A W) (r : Reps K W ds vs) (p : Post K A Wx (Rep K) σ W Q (newL ds W.M)) : vs.length ≤ sizeLine ∧ ∀ q, W.H q = none → Q (.ref q) (upd W.H q (.lst vs)) := by
  unfold newL at p
  split at p
  · rename_i hl
    refine ⟨by rw [r.length]; exact hl, fun q hq => ?_⟩
    obtain ⟨o2, l2, r2⟩ := ok.newLst hq r
    exact p.there o2 l2 rfl r2
  · exact p.elim
theorem de_tup {x1} (h : DA X A es fs) : DE X A (.Tuple es x1 pos) (dTup fs) := by
  intro Wx tk
  refine PE.imp (pe_tup (h Wx tk)) fun σ H Q h => ?_
  obtain ⟨ρ, W, rfl, ok, sl, p⟩ := h
  exact ⟨ρ, W, rfl, ok, sl, Post.seq p fun ds vs W1 ok1 l1 r1 p1 => newT_post ok1 r1 p1⟩
theorem de_lst (h : DA X A es fs) : DE X A (.List es pos) (dLst fs) := by
  intro Wx tk
  refine PE.imp (pe_lst (h Wx tk)) fun σ H Q h => ?_
  obtain ⟨ρ, W, rfl, ok, sl, p⟩ := h
  exact ⟨ρ, W, rfl, ok, sl, Post.seq p fun ds vs W1 ok1 l1 r1 p1 => newL_post ok1 r1 p1⟩
end
end Ny


set_option Elab.async false
set_option linter.all false
set_option maxRecDepth 10000
set_option maxHeartbeats 1000000
/-! NyOps: what +, -, ==, <, [ ], and the built-in calls do of data. -/
namespace Ny
open PySem PySem.Spec PyProof.Rows L2
section
variable {X : Cx} {A : Amb}

/-! ### data as the library's data (for ==) -/
mutual
def pdT : D → Option PyData
  | .non => some .none
  | .bl b => some (.bool b)
  | .int i => some (.int i)
  | .str x => some (.str x)
  | .tup ds => (pdTs ds).map .tuple
  | .ref _ => none
  | .err _ => none
  | .ext _ => none
def pdTs : List D → Option (List PyData)
  | [] => some []
  | d :: ds => (pdT d).bind fun p => (pdTs ds).map fun ps => p :: ps
end
def pdM (M : Mm) : D → Option PyData
  | .ref n => match M[n]? with
    | some (.lst ds) => (pdTs ds).map .list
    | _ => none
  | d => pdT d
mutual
theorem pdT_dp {K : PySem.W.Frag} {W : Wd} : ∀ (d : D) (v : V) (p : PyData), Rep K W d v → pdT d = some p → Dp K W.H v p
  | .non, v, p, r, e => by
    simp only [Rep] at r
    simp only [pdT] at e
    cases e; subst r; exact .non
  | .bl b, v, p, r, e => by
    simp only [Rep] at r
    simp only [pdT] at e
    cases e; subst r; exact .bl b
  | .int b, v, p, r, e => by
    simp only [Rep] at r
    simp only [pdT] at e
    cases e; subst r; exact .int b
  | .str b, v, p, r, e => by
    simp only [Rep] at r
    simp only [pdT] at e
    cases e; subst r; exact .str b
  | .tup ds, v, p, r, e => by
    simp only [Rep] at r
    simp only [pdT] at e
    obtain ⟨a, vs, rfl, s, rs⟩ := r
    cases q : pdTs ds with
    | none => rw [q] at e; cases e
    | some ps =>
      rw [q] at e
      cases e
      exact .tup s (pdTs_dp ds vs ps rs q)
  | .ref _, v, p, r, e => by simp only [pdT] at e; cases e
  | .err _, v, p, r, e => by simp only [pdT] at e; cases e
  | .ext _, v, p, r, e => by simp only [pdT] at e; cases e
theorem pdTs_dp {K : PySem.W.Frag} {W : Wd} : ∀ (ds : List D) (vs : List V) (ps : List PyData), Reps K W ds vs → pdTs ds = some ps → DpAll K W.H vs ps
  | [], vs, ps, r, e => by
    simp only [pdTs] at e
    cases e
    rw [r.inv0]
    exact .nil
  | d :: ds, vs, ps, r, e => by
    simp only [pdTs] at e
    obtain ⟨v, vr, rfl, r1, r2⟩ := r.inv
    cases q : pdT d with
    | none => rw [q] at e; cases e
    | some p =>
      rw [q] at e
      cases q2 : pdTs ds with
      | none => rw [q2] at e; cases e
      | some pr =>
        rw [q2] at e
        cases e
        exact .cons (pdT_dp d v p r1 q) (pdTs_dp ds vr pr r2 q2)
end
theorem pdM_dp {K : PySem.W.Frag} {W : Wd} (ok : Ok K A W) {d : D} {v : V} {p : PyData} (r : Rep K W d v) (e : pdM W.M d = some p) : Dp K W.H v p := by
  cases d with
  | ref n =>
    simp only [Rep] at r
    obtain ⟨hn, rfl⟩ := r
    simp only [pdM] at e
    split at e
    · rename_i ds hm
      obtain ⟨vs, h1, h2⟩ := ok.getLst hm
      cases q : pdTs ds with
      | none => rw [q] at e; cases e
      | some ps =>
        rw [q] at e
        cases e
        exact .lst (SqL.of h1) (pdTs_dp ds vs ps h2 q)
    · cases e
  | _ => exact pdT_dp _ v p r e

def oEqN (neg : Bool) : D → D → Mm → Res D := fun x y M => match pdM M x, pdM M y with
  | some p, some q => if SeqAt.shaped p = true ∧ SeqAt.shaped q = true then .ok (.bl (if neg then !PyData.eqv p q else PyData.eqv p q)) M else .stuck
  | _, _ => .stuck
def oEq := oEqN false
def oNe := oEqN true
theorem od_eq : OpD X A (rEqD X.K) oEq := by
  intro Wx σ W dx dy x y Q ok rx ry p
  unfold oEq oEqN at p
  split at p
  · rename_i p1 p2 e1 e2
    split at p
    · rename_i hs
      exact ⟨p1, p2, pdM_dp ok rx e1, pdM_dp ok ry e2, hs.1, hs.2, p.here ok rfl (by simp only [Rep]; rfl)⟩
    · exact p.elim
  · exact p.elim
theorem od_ne : OpD X A (rNeD X.K) oNe := by
  intro Wx σ W dx dy x y Q ok rx ry p
  unfold oNe oEqN at p
  split at p
  · rename_i p1 p2 e1 e2
    split at p
    · rename_i hs
      exact ⟨p1, p2, pdM_dp ok rx e1, pdM_dp ok ry e2, hs.1, hs.2, p.here ok rfl (by simp only [Rep]; rfl)⟩
    · exact p.elim
  · exact p.elim

/-! ### + - * // % ** -/
def rAdd4 (K : PySem.W.Frag) : R2 := fun x y H Q => (∃ i j, x = .int i ∧ y = .int j ∧ Q (.int (i + j)) H) ∨ (∃ i j, x = .str i ∧ y = .str j ∧ i.length + j.length ≤ sizeLine ∧ Q (.str (i ++ j)) H) ∨ rCat x y H Q ∨ rCatT K x y H Q
theorem op_add4 : OpR X (binaryOp .Add) (rAdd4 X.K) := op_add.or (op_add_str.or (op_cat.or op_catT))
def oAdd : D → D → Mm → Res D
  | .int i, .int j, M => .ok (.int (i + j)) M
  | .str x, .str y, M => if x.length + y.length ≤ sizeLine then .ok (.str (x ++ y)) M else .stuck
  | .ref m, .ref n, M => match M[m]?, M[n]? with
    | some (.lst a), some (.lst b) => if a.length + b.length ≤ sizeLine then .ok (.ref M.length) (M ++ [.lst (a ++ b)]) else .stuck
    | _, _ => .stuck
  | .tup a, .tup b, M => if a ≠ [] ∧ a.length + b.length ≤ sizeLine then .ok (.tup (a ++ b)) M else .stuck
  | _, _, _ => .stuck
theorem Reps.ne {K : PySem.W.Frag} {W : Wd} {ds : List D} {vs : List V} (r : Reps K W ds vs) (h : ds ≠ []) : vs ≠ [] := fun e => by
  have := r.length
  rw [e] at this
  cases ds with
  | nil => exact h rfl
  | cons => simp at this
theorem Reps.eq_nil {K : PySem.W.Frag} {W : Wd} {ds : List D} {vs : List V} (r : Reps K W ds vs) (h : vs = []) : ds = [] := by
  have := r.length
  rw [h] at this
  cases ds with
  | nil => rfl
  | cons => simp at this
theorem od_add : OpD X A (rAdd4 X.K) oAdd := by
  intro Wx σ W dx dy x y Q ok rx ry p
  unfold oAdd at p
  split at p
  · simp only [Rep] at rx ry
    exact .inl ⟨_, _, rx, ry, p.here ok rfl (by simp only [Rep])⟩
  · split at p
    · simp only [Rep] at rx ry
      exact .inr (.inl ⟨_, _, rx, ry, by assumption, p.here ok rfl (by simp only [Rep])⟩)
    · exact p.elim
  · split at p
    · split at p
      · rename_i a b e1 e2 hl
        simp only [Rep] at rx ry
        obtain ⟨vs, h1, h2⟩ := ok.getLst e1
        obtain ⟨us, h3, h4⟩ := ok.getLst e2
        refine .inr (.inr (.inl ⟨_, _, vs, us, rx.2, ry.2, h1, h3, by rw [h2.length, h4.length]; exact hl, fun q hq => ?_⟩))
        obtain ⟨o2, l2, r2⟩ := ok.newLst hq (h2.append h4)
        exact p.there o2 l2 rfl r2
      · exact p.elim
    · exact p.elim
  · split at p
    · rename_i a b h
      simp only [Rep] at rx ry
      obtain ⟨a1, vs, rfl, s1, r1⟩ := rx
      obtain ⟨a2, us, rfl, s2, r2⟩ := ry
      refine .inr (.inr (.inr ⟨a1, a2, vs, us, rfl, rfl, s1, s2, r1.ne h.1, by rw [r1.length, r2.length]; exact h.2, fun e => ?_, fun e q hq => ?_⟩))
      · have z := r2.eq_nil e
        subst z
        refine p.here ok rfl ?_
        simp only [Rep]
        exact ⟨a1, vs, rfl, s1, by rw [List.append_nil]; exact r1⟩
      · obtain ⟨o2, l2, r3⟩ := ok.newTup hq (r1.append r2)
        exact p.there o2 l2 rfl r3
    · exact p.elim
  · exact p.elim
def oInt (g : Int → Int → Int) : D → D → Mm → Res D
  | .int i, .int j, M => .ok (.int (g i j)) M
  | _, _, _ => .stuck
def oIntC (C : Int → Int → Prop) [∀ i j, Decidable (C i j)] (g : Int → Int → Int) : D → D → Mm → Res D
  | .int i, .int j, M => if C i j then .ok (.int (g i j)) M else .stuck
  | _, _, _ => .stuck
theorem od_int {g : Int → Int → Int} : OpD X A (rI0 fun i j => .int (g i j)) (oInt g) := by
  intro Wx σ W dx dy x y Q ok rx ry p
  unfold oInt at p
  split at p
  · simp only [Rep] at rx ry
    exact ⟨_, _, rx, ry, p.here ok rfl (by simp only [Rep])⟩
  · exact p.elim
theorem od_intC {C : Int → Int → Prop} [∀ i j, Decidable (C i j)] {g : Int → Int → Int} : OpD X A (rI C fun i j => .int (g i j)) (oIntC C g) := by
  intro Wx σ W dx dy x y Q ok rx ry p
  unfold oIntC at p
  split at p
  · split at p
    · simp only [Rep] at rx ry
      exact ⟨_, _, rx, ry, by assumption, p.here ok rfl (by simp only [Rep])⟩
    · exact p.elim
  · exact p.elim
def oSub := oInt fun i j => i - j
instance (i j : Int) : Decidable (CMul i j) := by unfold CMul; infer_instance
instance (i j : Int) : Decidable (CDiv i j) := by unfold CDiv; infer_instance
instance (i j : Int) : Decidable (CPow i j) := by unfold CPow; infer_instance
def oMulI := oIntC CMul fun i j => i * j
def oDiv := oIntC CDiv fun i j => i / j
def oMod := oIntC (fun _ j => 0 < j) fun i j => i % j
def oPow := oIntC CPow fun i j => i ^ j.toNat
theorem od_sub : OpD X A (rI0 fun i j => .int (i - j)) oSub := od_int
theorem od_div : OpD X A (rI CDiv fun i j => .int (i / j)) oDiv := od_intC
theorem od_mod : OpD X A (rI (fun _ j => 0 < j) fun i j => .int (i % j)) oMod := od_intC
theorem od_pow : OpD X A (rI CPow fun i j => .int (i ^ j.toNat)) oPow := od_intC
/-- a * b: ints, a list times an int -/
def rMul2 : R2 := fun x y H Q => rI CMul (fun i j => .int (i * j)) x y H Q ∨ rRep x y H Q
theorem op_mul2 : OpR X (binaryOp .Mult) rMul2 := op_mul.or op_rep
def oMul : D → D → Mm → Res D
  | .int i, .int j, M => if CMul i j then .ok (.int (i * j)) M else .stuck
  | .ref m, .int k, M => match M[m]? with
    | some (.lst a) => if -(2 ^ 63) ≤ k ∧ k < 2 ^ 63 ∧ a.length * k.toNat ≤ sizeLine then .ok (.ref M.length) (M ++ [.lst (List.replicate k.toNat a).flatten]) else .stuck
    | _ => .stuck
  | _, _, _ => .stuck
theorem od_mul : OpD X A rMul2 oMul := by
  intro Wx σ W dx dy x y Q ok rx ry p
  unfold oMul at p
  split at p
  · split at p
    · simp only [Rep] at rx ry
      exact .inl ⟨_, _, rx, ry, by assumption, p.here ok rfl (by simp only [Rep])⟩
    · exact p.elim
  · split at p
    · split at p
      · rename_i a e h
        simp only [Rep] at rx ry
        obtain ⟨vs, h1, h2⟩ := ok.getLst e
        refine .inr ⟨_, _, vs, rx.2, ry, h1, h.1, h.2.1, by rw [h2.length]; exact h.2.2, fun q hq => ?_⟩
        obtain ⟨o2, l2, r2⟩ := ok.newLst hq (h2.repl _)
        exact p.there o2 l2 rfl r2
      · exact p.elim
    · exact p.elim
  · exact p.elim

/-! ### comparisons of ints; is -/
def oCmp (g : Int → Int → Bool) : D → D → Mm → Res D
  | .int i, .int j, M => .ok (.bl (g i j)) M
  | _, _, _ => .stuck
theorem od_cmp {g : Int → Int → Bool} : OpD X A (rI0 fun i j => .bl (g i j)) (oCmp g) := by
  intro Wx σ W dx dy x y Q ok rx ry p
  unfold oCmp at p
  split at p
  · simp only [Rep] at rx ry
    exact ⟨_, _, rx, ry, p.here ok rfl (by simp only [Rep])⟩
  · exact p.elim
def oLt := oCmp fun i j => decide (i < j)
def oLe := oCmp fun i j => decide (i ≤ j)
def oGt := oCmp fun i j => decide (j < i)
def oGe := oCmp fun i j => decide (j ≤ i)
theorem od_lt : OpD X A (rI0 fun i j => .bl (decide (i < j))) oLt := od_cmp
theorem od_le : OpD X A (rI0 fun i j => .bl (decide (i ≤ j))) oLe := od_cmp
theorem od_gt : OpD X A (rI0 fun i j => .bl (decide (j < i))) oGt := od_cmp
theorem od_ge : OpD X A (rI0 fun i j => .bl (decide (j ≤ i))) oGe := od_cmp
def rIs2 (neg : Bool) : R2 := fun x y H Q => (y = .non ∧ Q (.bl (if neg then !decide (x = .non) else decide (x = .non))) H) ∨ (∃ a b, x = .bl a ∧ y = .bl b ∧ Q (.bl (if neg then !decide (a = b) else decide (a = b))) H)
theorem op_is2 : OpR X (compareOp .Is) (rIs2 false) := op_isN.or op_is_bl
theorem op_isnot2 : OpR X (compareOp .IsNot) (rIs2 true) := op_notN.or op_isnot_bl
def isNonD : D → Option Bool
  | .non => some true
  | .ext _ => none
  | _ => some false
def oIsN (neg : Bool) : D → D → Mm → Res D
  | .bl a, .bl b, M => .ok (.bl (if neg then !decide (a = b) else decide (a = b))) M
  | x, .non, M => match isNonD x with
    | some k => .ok (.bl (if neg then !k else k)) M
    | none => .stuck
  | _, _, _ => .stuck
theorem isNonD_ok {K : PySem.W.Frag} {W : Wd} {d : D} {v : V} {k : Bool} (r : Rep K W d v) (e : isNonD d = some k) : decide (v = V.non) = k := by
  cases d <;> simp only [isNonD] at e <;> first | (cases e; done) | skip
  all_goals (simp only [Rep] at r)
  all_goals first
    | (subst r; cases e; rfl)
    | (obtain ⟨a, vs, rfl, _⟩ := r; cases e; rfl)
    | (obtain ⟨_, rfl⟩ := r; cases e; rfl)
    | (obtain ⟨a, rfl⟩ := r; cases e; rfl)
theorem od_isN {neg : Bool} : OpD X A (rIs2 neg) (oIsN neg) := by
  intro Wx σ W dx dy x y Q ok rx ry p
  unfold oIsN at p
  split at p
  · simp only [Rep] at rx ry
    exact .inr ⟨_, _, rx, ry, p.here ok rfl (by simp only [Rep])⟩
  · split at p
    · rename_i k e
      simp only [Rep] at ry
      refine .inl ⟨ry, ?_⟩
      rw [isNonD_ok rx e]
      exact p.here ok rfl (by simp only [Rep])
    · exact p.elim
  · exact p.elim

/-! ### subscripts -/
theorem atI_reps {K : PySem.W.Frag} {W : Wd} {ds : List D} {vs : List V} {i : Int} {d : D} (r : Reps K W ds vs) (h : atI ds i = some d) : ∃ v, atI vs i = some v ∧ Rep K W d v := by
  unfold atI at h ⊢
  rw [r.length]
  cases e : ixN ds.length i with
  | none => rw [e] at h; cases h
  | some j =>
    rw [e] at h
    obtain ⟨v, h1, h2⟩ := r.get (i := j) (d := d) h
    exact ⟨v, h1, h2⟩
def oIx : D → D → Mm → Res D
  | .ref m, .int i, M => match M[m]? with
    | some (.lst a) => match atI a i with
      | some d => .ok d M
      | none => .stuck
    | _ => .stuck
  | .tup a, .int i, M => match atI a i with
    | some d => .ok d M
    | none => .stuck
  | .str x, .int i, M => if x.length ≤ sizeLine then match atI x.cps.toList i with
    | some c => .ok (.str ⟨#[c]⟩) M
    | none => .stuck else .stuck
  | _, _, _ => .stuck
theorem od_ix : OpD X A (rIx X.K) oIx := by
  intro Wx σ W dx dy x y Q ok rx ry p
  unfold oIx at p
  split at p
  · split at p
    · split at p
      · rename_i a e _ d h
        simp only [Rep] at rx ry
        obtain ⟨vs, h1, h2⟩ := ok.getLst e
        obtain ⟨v, h3, h4⟩ := atI_reps h2 h
        exact .inl ⟨_, vs, _, v, rx.2, ry, SqL.of h1, h3, p.here ok rfl h4⟩
      · exact p.elim
    · exact p.elim
  · split at p
    · rename_i a i _ d h
      simp only [Rep] at rx ry
      obtain ⟨q, vs, rfl, s, r⟩ := rx
      obtain ⟨v, h3, h4⟩ := atI_reps r h
      exact .inr (.inl ⟨q, vs, _, v, rfl, ry, s, h3, p.here ok rfl h4⟩)
    · exact p.elim
  · split at p
    · split at p
      · simp only [Rep] at rx ry
        exact .inr (.inr ⟨_, _, _, rx, ry, by assumption, by assumption, p.here ok rfl (by simp only [Rep])⟩)
      · exact p.elim
    · exact p.elim
  · exact p.elim
theorem de_ix {a b : Expr} {pos : Pos} {fa fb : Sl → Mm → Res D} (ha : DE X A a fa) (hb : DE X A b fb) (hs : PlainIx b) : DE X A (.Subscript a b pos) (dBin oIx fa fb) :=
  fun Wx tk => PE.imp (pe_ix ix_seq (ha Wx tk) (hb Wx tk) hs) fun _ _ _ h => bin_imp od_ix h
end
end Ny


set_option Elab.async false
set_option linter.all false
set_option maxRecDepth 10000
set_option maxHeartbeats 1000000
/-! NyCalls: built-in functions, types, methods of lists, slices. -/
namespace Ny
open PySem PySem.Spec PyProof.Rows L2
section
variable {X : Cx} {A : Amb}
/-! ### calls by name of what is built in -/
def dCall (o : List D → Mm → Res D) (fs : Sl → Mm → Res (List D)) : Sl → Mm → Res D := fun ρ M => (fs ρ M).bind o
def CallD (X : Cx) (A : Amb) (r : List V → Hp → VK → Prop) (o : List D → Mm → Res D) : Prop :=
  ∀ Wx σ W ds vs Q, Ok X.K A W → Reps X.K W ds vs → Post X.K A Wx (Rep X.K) σ W Q (o ds W.M) → r vs W.H Q
theorem call_imp {r : List V → Hp → VK → Prop} {o : List D → Mm → Res D} {fs : Sl → Mm → Res (List D)} (hd : CallD X A r o) {Wx : WX} {σ : L2.St} {H : Hp} {Q : VK} (h : tD X.K A Wx (dCall o fs) σ H Q) : tCB r (tDA X.K A Wx fs) σ H Q := by
  obtain ⟨ρ, W, rfl, ok, sl, p⟩ := h
  exact ⟨ρ, W, rfl, ok, sl, Post.seq p fun ds vs W1 ok1 l1 r1 p1 => hd Wx σ W1 ds vs Q ok1 r1 p1⟩
section
variable {x : Str} {p pos : Pos} {e : Expr} {es : List Expr} {fs : Sl → Mm → Res (List D)} {id T : String} {r : List V → Hp → VK → Prop} {o : List D → Mm → Res D}
theorem de_callB (hc : CallR X (.builtin id) r) (hd : CallD X A r o) (hg : Gl X x) (hm : X.mg x = none) (hv : bootBuiltins x = some (.builtin id)) (ha : DA X A (e :: es) fs) (hn : x ≠ "__name__" := by decide) (hdb : (x == ("__debug__" : Str)) = false := by decide)
    (he : starEach (e :: es) X.env = (false, eval e X.env) :: starEach es X.env := by rfl) (hpl : (backTo pos (starEach es X.env)).any (·.1) = false := by rfl) : DE X A (.Call (.Name x p) (e :: es) [] pos) (dCall o fs) :=
  fun Wx tk => PE.imp (pe_callB hc hg hm hv (ha Wx tk) hn hdb he hpl) fun _ _ _ h => call_imp hd h
theorem de_callTy (hc : CallR X (.type T) r) (hd : CallD X A r o) (hg : Gl X x) (hm : X.mg x = none) (hv : bootBuiltins x = some (.type T)) (ha : DA X A (e :: es) fs) (hn : x ≠ "__name__" := by decide) (hdb : (x == ("__debug__" : Str)) = false := by decide)
    (he : starEach (e :: es) X.env = (false, eval e X.env) :: starEach es X.env := by rfl) (hpl : (backTo pos (starEach es X.env)).any (·.1) = false := by rfl) : DE X A (.Call (.Name x p) (e :: es) [] pos) (dCall o fs) :=
  fun Wx tk => PE.imp (pe_callTy hc hg hm hv (ha Wx tk) hn hdb he hpl) fun _ _ _ h => call_imp hd h
end
theorem Reps.one {K : PySem.W.Frag} {W : Wd} {d : D} {vs : List V} (r : Reps K W [d] vs) : ∃ v, vs = [v] ∧ Rep K W d v := by
  obtain ⟨v, vr, rfl, r1, r2⟩ := r.inv
  rw [r2.inv0]
  exact ⟨v, rfl, r1⟩
theorem Reps.two {K : PySem.W.Frag} {W : Wd} {d e : D} {vs : List V} (r : Reps K W [d, e] vs) : ∃ v u, vs = [v, u] ∧ Rep K W d v ∧ Rep K W e u := by
  obtain ⟨v, vr, rfl, r1, r2⟩ := r.inv
  obtain ⟨u, rfl, r3⟩ := r2.one
  exact ⟨v, u, rfl, r1, r3⟩
/-! len -/
def oLen : List D → Mm → Res D
  | [.ref n], M => match M[n]? with
    | some (.lst ds) => .ok (.int ds.length) M
    | _ => .stuck
  | [.tup ds], M => .ok (.int ds.length) M
  | [.str x], M => if x.length ≤ sizeLine then .ok (.int x.length) M else .stuck
  | _, _ => .stuck
theorem cd_len : CallD X A (fun xs H Q => ∃ x n, xs = [x] ∧ LenV X.K x H n ∧ Q (.int n) H) oLen := by
  intro Wx σ W ds vs Q ok r p
  unfold oLen at p
  split at p
  · split at p
    · rename_i n _ ds e
      obtain ⟨v, rfl, r1⟩ := r.one
      simp only [Rep] at r1
      obtain ⟨_, rfl⟩ := r1
      obtain ⟨us, h1, h2⟩ := ok.getLst e
      exact ⟨_, us.length, rfl, .inl ⟨us, SqL.of h1, rfl⟩, p.here ok rfl (by simp only [Rep]; rw [h2.length])⟩
    · exact p.elim
  · obtain ⟨v, rfl, r1⟩ := r.one
    simp only [Rep] at r1
    obtain ⟨a, us, rfl, s, h2⟩ := r1
    exact ⟨_, us.length, rfl, .inr ⟨us, s, rfl⟩, p.here ok rfl (by simp only [Rep]; rw [h2.length])⟩
  · split at p
    · obtain ⟨v, rfl, r1⟩ := r.one
      simp only [Rep] at r1
      subst r1
      exact ⟨_, _, rfl, ⟨by assumption, rfl⟩, p.here ok rfl (by simp only [Rep])⟩
    · exact p.elim
  · exact p.elim
/-! lists of bools, of ints -/
def toBls : List D → Option (List Bool)
  | [] => some []
  | .bl b :: r => (toBls r).map (b :: ·)
  | _ => none
def toInts : List D → Option (List Int)
  | [] => some []
  | .int b :: r => (toInts r).map (b :: ·)
  | _ => none
theorem toBls_map : ∀ {ds : List D} {bs : List Bool}, toBls ds = some bs → ds = bs.map D.bl
  | [], bs, h => by simp only [toBls] at h; cases h; rfl
  | .bl b :: r, bs, h => by
    simp only [toBls] at h
    cases q : toBls r with
    | none => rw [q] at h; cases h
    | some br => rw [q] at h; cases h; rw [toBls_map q]; rfl
  | .non :: _, _, h | .int _ :: _, _, h | .str _ :: _, _, h | .tup _ :: _, _, h | .ref _ :: _, _, h | .err _ :: _, _, h | .ext _ :: _, _, h => by simp [toBls] at h
theorem toInts_map : ∀ {ds : List D} {bs : List Int}, toInts ds = some bs → ds = bs.map D.int
  | [], bs, h => by simp only [toInts] at h; cases h; rfl
  | .int b :: r, bs, h => by
    simp only [toInts] at h
    cases q : toInts r with
    | none => rw [q] at h; cases h
    | some br => rw [q] at h; cases h; rw [toInts_map q]; rfl
  | .non :: _, _, h | .bl _ :: _, _, h | .str _ :: _, _, h | .tup _ :: _, _, h | .ref _ :: _, _, h | .err _ :: _, _, h | .ext _ :: _, _, h => by simp [toInts] at h
@[simp] theorem toBls_of : ∀ bs : List Bool, toBls (bs.map D.bl) = some bs
  | [] => rfl
  | b :: r => by rw [List.map_cons]; simp only [toBls]; rw [toBls_of r]; rfl
@[simp] theorem toInts_of : ∀ bs : List Int, toInts (bs.map D.int) = some bs
  | [] => rfl
  | b :: r => by rw [List.map_cons]; simp only [toInts]; rw [toInts_of r]; rfl
def oFoldB (g : List Bool → Bool) : List D → Mm → Res D
  | [.ref n], M => match M[n]? with
    | some (.lst ds) => match toBls ds with
      | some bs => .ok (.bl (g bs)) M
      | none => .stuck
    | _ => .stuck
  | _, _ => .stuck
def oAll := oFoldB fun bs => bs.all id
def oAny := oFoldB fun bs => bs.any id
theorem foldB_ok {g : List Bool → Bool} {Wx : WX} {σ : L2.St} {W : Wd} {ds : List D} {vs : List V} {Q : VK} (ok : Ok X.K A W) (r : Reps X.K W ds vs) (p : Post X.K A Wx (Rep X.K) σ W Q (oFoldB g ds W.M)) :
    ∃ (a : Addr) (bs : List Bool), vs = [V.ref a] ∧ SqL X.K W.H a (bs.map V.bl) ∧ Q (.bl (g bs)) W.H := by
  unfold oFoldB at p
  split at p
  · split at p
    · split at p
      · rename_i n _ ds e _ bs h
        obtain ⟨v, rfl, r1⟩ := r.one
        simp only [Rep] at r1
        obtain ⟨_, rfl⟩ := r1
        obtain ⟨us, h1, h2⟩ := ok.getLst e
        rw [toBls_map h] at h2
        rw [Reps.bls h2] at h1
        exact ⟨_, bs, rfl, SqL.of h1, p.here ok rfl (by simp only [Rep])⟩
      · exact p.elim
    · exact p.elim
  · exact p.elim
theorem cd_all : CallD X A (rAll X.K) oAll := fun _ _ _ _ _ _ ok r p => foldB_ok ok r p
theorem cd_any : CallD X A (rAny X.K) oAny := fun _ _ _ _ _ _ ok r p => foldB_ok ok r p
def oSum : List D → Mm → Res D
  | [.ref n], M => match M[n]? with
    | some (.lst ds) => match toInts ds with
      | some bs => .ok (.int bs.sum) M
      | none => .stuck
    | _ => .stuck
  | _, _ => .stuck
theorem cd_sum : CallD X A (rSum X.K) oSum := by
  intro Wx σ W ds vs Q ok r p
  unfold oSum at p
  split at p
  · split at p
    · split at p
      · rename_i n _ ds e _ bs h
        obtain ⟨v, rfl, r1⟩ := r.one
        simp only [Rep] at r1
        obtain ⟨_, rfl⟩ := r1
        obtain ⟨us, h1, h2⟩ := ok.getLst e
        rw [toInts_map h] at h2
        rw [Reps.ints h2] at h1
        exact ⟨_, bs, rfl, SqL.of h1, p.here ok rfl (by simp only [Rep])⟩
      · exact p.elim
    · exact p.elim
  · exact p.elim
/-! int(x), abs(x), max(a, b) -/
def oInt1 : List D → Mm → Res D
  | [.int i], M => .ok (.int i) M
  | [.bl k], M => .ok (.int (if k then 1 else 0)) M
  | _, _ => .stuck
theorem cd_int1 : CallD X A (fun xs H Q => (∃ i, xs = [.int i] ∧ Q (.int i) H) ∨ ∃ k, xs = [.bl k] ∧ Q (.int (if k then 1 else 0)) H) oInt1 := by
  intro Wx σ W ds vs Q ok r p
  unfold oInt1 at p
  split at p
  · obtain ⟨v, rfl, r1⟩ := r.one
    simp only [Rep] at r1
    subst r1
    exact .inl ⟨_, rfl, p.here ok rfl (by simp only [Rep])⟩
  · obtain ⟨v, rfl, r1⟩ := r.one
    simp only [Rep] at r1
    subst r1
    exact .inr ⟨_, rfl, p.here ok rfl (by simp only [Rep])⟩
  · exact p.elim
def oAbs : List D → Mm → Res D
  | [.int i], M => .ok (.int (if i < 0 then -i else i)) M
  | _, _ => .stuck
theorem cd_abs : CallD X A (fun xs H Q => ∃ i, xs = [.int i] ∧ Q (.int (if i < 0 then -i else i)) H) oAbs := by
  intro Wx σ W ds vs Q ok r p
  unfold oAbs at p
  split at p
  · obtain ⟨v, rfl, r1⟩ := r.one
    simp only [Rep] at r1
    subst r1
    exact ⟨_, rfl, p.here ok rfl (by simp only [Rep])⟩
  · exact p.elim
def oMax2 : List D → Mm → Res D
  | [.int i, .int j], M => .ok (.int (if j > i then j else i)) M
  | _, _ => .stuck
theorem cd_max2 : CallD X A (fun xs H Q => ∃ i j, xs = [.int i, .int j] ∧ Q (.int (if j > i then j else i)) H) oMax2 := by
  intro Wx σ W ds vs Q ok r p
  unfold oMax2 at p
  split at p
  · obtain ⟨v, u, rfl, r1, r2⟩ := r.two
    simp only [Rep] at r1 r2
    subst r1 r2
    exact ⟨_, _, rfl, p.here ok rfl (by simp only [Rep])⟩
  · exact p.elim
/-! tuple(x), list(x) -/
def oTuple : List D → Mm → Res D
  | [.ref n], M => match M[n]? with
    | some (.lst ds) => .ok (.tup ds) M
    | _ => .stuck
  | [.tup ds], M => .ok (.tup ds) M
  | _, _ => .stuck
def rTupOf (K : PySem.W.Frag) : List V → Hp → VK → Prop := fun xs H Q => ∃ p ys, xs = [.ref p] ∧ ((SqL K H p ys ∧ ∀ l, H l = none → Q (.ref l) (upd H l (.tup ys))) ∨ (SqT K H p ys ∧ Q (.ref p) H))
theorem cr_tupOf : CallR X (.type "tuple") (rTupOf X.K) := call_tuple_of
theorem cd_tuple : CallD X A (rTupOf X.K) oTuple := by
  intro Wx σ W ds vs Q ok r p
  unfold oTuple at p
  split at p
  · split at p
    · rename_i n _ ds e
      obtain ⟨v, rfl, r1⟩ := r.one
      simp only [Rep] at r1
      obtain ⟨_, rfl⟩ := r1
      obtain ⟨us, h1, h2⟩ := ok.getLst e
      refine ⟨_, us, rfl, .inl ⟨SqL.of h1, fun l hl => ?_⟩⟩
      obtain ⟨o2, l2, r2⟩ := ok.newTup hl h2
      exact p.there o2 l2 rfl r2
    · exact p.elim
  · obtain ⟨v, rfl, r1⟩ := r.one
    have r0 := r1
    simp only [Rep] at r1
    obtain ⟨a, us, rfl, s, h2⟩ := r1
    exact ⟨_, us, rfl, .inr ⟨s, p.here ok rfl r0⟩⟩
  · exact p.elim
def oList : List D → Mm → Res D
  | [.ref n], M => match M[n]? with
    | some (.lst ds) => .ok (.ref M.length) (M ++ [.lst ds])
    | _ => .stuck
  | [.tup ds], M => .ok (.ref M.length) (M ++ [.lst ds])
  | _, _ => .stuck
def rListOf (K : PySem.W.Frag) : List V → Hp → VK → Prop := fun xs H Q => ∃ p ys, xs = [.ref p] ∧ (SqL K H p ys ∨ SqT K H p ys) ∧ ∀ l, H l = none → Q (.ref l) (upd H l (.lst ys))
theorem cr_listOf : CallR X (.type "list") (rListOf X.K) := call_list_of
theorem cd_list : CallD X A (rListOf X.K) oList := by
  intro Wx σ W ds vs Q ok r p
  unfold oList at p
  split at p
  · split at p
    · rename_i n _ ds e
      obtain ⟨v, rfl, r1⟩ := r.one
      simp only [Rep] at r1
      obtain ⟨_, rfl⟩ := r1
      obtain ⟨us, h1, h2⟩ := ok.getLst e
      refine ⟨_, us, rfl, .inl (SqL.of h1), fun l hl => ?_⟩
      obtain ⟨o2, l2, r2⟩ := ok.newLst hl h2
      exact p.there o2 l2 rfl r2
    · exact p.elim
  · obtain ⟨v, rfl, r1⟩ := r.one
    simp only [Rep] at r1
    obtain ⟨a, us, rfl, s, h2⟩ := r1
    refine ⟨_, us, rfl, .inr s, fun l hl => ?_⟩
    obtain ⟨o2, l2, r2⟩ := ok.newLst hl h2
    exact p.there o2 l2 rfl r2
  · exact p.elim
/-! isinstance -/
def tyD (M : Mm) : D → Option Value
  | .non => some (.type "NoneType")
  | .bl _ => some (.type "bool")
  | .int _ => some (.type "int")
  | .str _ => some (.type "str")
  | .tup _ => some (.type "tuple")
  | .ref n => match M[n]? with
    | some (.lst _) => some (.type "list")
    | some (.ins C _) => some (.ref C)
    | some .emp => some (.type "dict")
    | none => none
  | .err _ => none
  | .ext _ => none
/-- what isinstance asks of a class of the text whose instances are asked -/
structure InsC (K : PySem.W.Frag) (C : Addr) : Prop where
  cl : Cls K C
  ha : PySem.W.findIn K (.ref C) "__class__" = some (some (.builtin "object.__class__"))
  hn : PySem.W.specialIn K (.builtin "object.__class__") "__get__" = some (some (.builtin "getset_descriptor.__get__"))
  ht : PySem.W.takesIn K (.builtin "object.__class__") = some true
  hm : PySem.W.mroIn K C (.type "object") = some true
theorem tyD_ok {W : Wd} (ok : Ok X.K A W) {d : D} {v : V} {t : Value} (r : Rep X.K W d v) (e : tyD W.M d = some t) (hI : ∀ C, t = .ref C → InsC X.K C) : TyX X.K W.H v t := by
  cases d <;> simp only [tyD] at e
  case non => cases e; simp only [Rep] at r; subst r; exact .base .non
  case bl => cases e; simp only [Rep] at r; subst r; exact .base (.bl _)
  case int => cases e; simp only [Rep] at r; subst r; exact .base (.int _)
  case str => cases e; simp only [Rep] at r; subst r; exact .base (.str _)
  case tup =>
    cases e
    simp only [Rep] at r
    obtain ⟨a, us, rfl, s, h2⟩ := r
    rcases s with (s | ⟨o, s⟩) | ⟨o, its, n, s1, s2, _⟩
    · exact .base (.tup s)
    · exact .fTuple s
    · exact .kTuple s1 s2
  case ref n =>
    simp only [Rep] at r
    obtain ⟨hn, rfl⟩ := r
    split at e
    · rename_i ds h
      cases e
      obtain ⟨us, h1, _⟩ := ok.getLst h
      exact .base (.lst h1)
    · rename_i C fs h
      cases e
      obtain ⟨dx, gs, h1, _⟩ := ok.obj n _ h
      have z := hI C rfl
      exact .base (.ins h1 z.cl z.ha z.hn z.ht z.hm)
    · rename_i h
      cases e
      exact .base (.dK (ok.obj n _ h))
    · cases e
  case err => cases e
  case ext => cases e
def oIsi (c : V) (kit : Value → Option Bool) : List D → Mm → Res D
  | [x, .ext w], M => if w = c then match tyD M x with
    | some t => match kit t with
      | some b => .ok (.bl b) M
      | none => .stuck
    | none => .stuck else .stuck
  | _, _ => .stuck
theorem cd_isi {kit : Value → Option Bool} {c : V} {u : Value} (hc : ClsV c u) (hk : ∀ t b, kit t = some b → PySem.W.kitOne X.K t u = some b) (hI : ∀ C b, kit (.ref C) = some b → InsC X.K C) : CallD X A (rIsi X.K) (oIsi c kit) := by
  intro Wx σ W ds vs Q ok r p
  unfold oIsi at p
  split at p
  · split at p
    · rename_i hw
      subst hw
      split at p
      · rename_i t ht
        split at p
        · rename_i b hb
          obtain ⟨v, w, rfl, r2, r3⟩ := r.two
          simp only [Rep] at r3
          subst r3
          exact ⟨_, _, t, u, b, rfl, hc, tyD_ok ok r2 ht (fun C e => hI C b (by rw [← e]; exact hb)), hk t b hb, p.here ok rfl (by simp only [Rep])⟩
        · exact p.elim
      · exact p.elim
    · exact p.elim
  · exact p.elim
/-- for a built-in type -/
def kitTy (T : String) : Value → Option Bool
  | .type a => kitB a T
  | _ => none
theorem cd_isiTy (T : String) : CallD X A (rIsi X.K) (oIsi (.ty T) (kitTy T)) := by
  refine cd_isi (.ty T) (fun t b e => ?_) fun C b e => by simp [kitTy] at e
  cases t <;> simp only [kitTy] at e <;> first | (cases e; done) | exact kit_ty e
/-- for a class of the text -/
def basicTys : List String := ["NoneType", "bool", "int", "str", "tuple", "list", "dict"]
def kitOwn (C : Addr) : Value → Option Bool
  | .type a => if a ∈ basicTys then some false else none
  | .ref D => if D = C then some true else none
  | _ => none
theorem kitOne_self {K : PySem.W.Frag} (C : Addr) : PySem.W.kitOne K (.ref C) (.ref C) = some true := by
  unfold PySem.W.kitOne
  rw [if_pos (by simp)]
theorem cd_isiOwn {C : Addr} (hI : InsC X.K C) (hk : ∀ T ∈ basicTys, PySem.W.kitOne X.K (.type T) (.ref C) = some false) : CallD X A (rIsi X.K) (oIsi (.ref C) (kitOwn C)) := by
  refine cd_isi (.own C) (fun t b e => ?_) fun D b e => ?_
  · cases t <;> simp only [kitOwn] at e <;> first | (cases e; done) | skip
    · split at e
      · rename_i h
        cases e
        exact hk _ h
      · cases e
    · split at e
      · rename_i h
        cases e
        subst h
        exact kitOne_self _
      · cases e
  · simp only [kitOwn] at e
    split at e
    · rename_i h
      rw [h]
      exact hI
    · cases e

/-! ### methods of lists -/
def dMeth (o : D → List D → Mm → Res D) (fo : Sl → Mm → Res D) (fs : Sl → Mm → Res (List D)) : Sl → Mm → Res D := fun ρ M => (fo ρ M).bind fun x M1 => match x, M1[(match x with | .ref n => n | _ => M1.length)]? with
  | .ref _, some (.lst _) => (fs ρ M1).bind fun xs M2 => o x xs M2
  | _, _ => .stuck
def MethD (X : Cx) (A : Amb) (r : V → List V → Hp → VK → Prop) (o : D → List D → Mm → Res D) : Prop :=
  ∀ Wx σ W dx ds x vs Q, Ok X.K A W → Rep X.K W dx x → Reps X.K W ds vs → Post X.K A Wx (Rep X.K) σ W Q (o dx ds W.M) → r x vs W.H Q
theorem meth_split {fo : Sl → Mm → Res D} {fs : Sl → Mm → Res (List D)} {o : D → List D → Mm → Res D} {Wx : WX} {σ : L2.St} {ρ : Sl} {W : Wd} {Q : VK} (ok : Ok X.K A W) (p : Post X.K A Wx (Rep X.K) σ W Q (dMeth o fo fs ρ W.M)) {Q1 : VK}
    (k : ∀ d v W1 ds, Ok X.K A W1 → Le W W1 → Rep X.K W1 d v → (∃ n, d = .ref n ∧ W1.M[n]? = some (.lst ds)) → Post X.K A Wx (Rep X.K) σ W1 Q ((fs ρ W1.M).bind fun xs M2 => o d xs M2) → Q1 v W1.H) : Post X.K A Wx (Rep X.K) σ W Q1 (fo ρ W.M) := by
  refine Post.seq p fun d v W1 ok1 l1 r1 p1 => ?_
  split at p1
  · rename_i n ds h
    exact k _ v W1 ds ok1 l1 r1 ⟨n, rfl, h⟩ p1
  · exact p1.elim
section
variable {name : Str} {id : String} {ob e : Expr} {es : List Expr} {fo : Sl → Mm → Res D} {fs : Sl → Mm → Res (List D)} {r : V → List V → Hp → VK → Prop} {o : D → List D → Mm → Res D} {apos pos : Pos}
theorem tyV_lst {W : Wd} (ok : Ok X.K A W) {d : D} {v : V} {ds : List D} (r : Rep X.K W d v) (h : ∃ n, d = .ref n ∧ W.M[n]? = some (.lst ds)) : tyV X.K "list" v W.H := by
  obtain ⟨n, rfl, e⟩ := h
  simp only [Rep] at r
  obtain ⟨_, rfl⟩ := r
  obtain ⟨us, h1, _⟩ := ok.getLst e
  exact .inl ⟨rfl, us, SqL.of h1⟩
end
/-! append, extend, pop -/
def oApp : D → List D → Mm → Res D
  | .ref n, [d], M => match M[n]? with
    | some (.lst ds) => if ds.length < sizeLine then .ok .non (M.set n (.lst (ds ++ [d]))) else .stuck
    | _ => .stuck
  | _, _, _ => .stuck
theorem md_app : MethD X A rAppend oApp := by
  intro Wx σ W dx ds x vs Q ok r1 r2 p
  unfold oApp at p
  split at p
  · split at p
    · split at p
      · rename_i n d _ ds e hl
        simp only [Rep] at r1
        obtain ⟨hn, rfl⟩ := r1
        obtain ⟨v, rfl, r3⟩ := r2.one
        obtain ⟨us, h1, h2⟩ := ok.getLst e
        refine ⟨_, us, v, rfl, rfl, h1, by rw [h2.length]; exact hl, ?_⟩
        obtain ⟨o2, l2⟩ := ok.setLst hn (h2.append (Reps.cons r3 Reps.nil))
        exact p.there o2 l2 rfl (by simp only [Rep])
      · exact p.elim
    · exact p.elim
  · exact p.elim
def oExt : D → List D → Mm → Res D
  | .ref n, [.ref m], M => match M[n]?, M[m]? with
    | some (.lst ds), some (.lst es) => if ds.length + es.length ≤ sizeLine then .ok .non (M.set n (.lst (ds ++ es))) else .stuck
    | _, _ => .stuck
  | .ref n, [.tup es], M => match M[n]? with
    | some (.lst ds) => if ds.length + es.length ≤ sizeLine then .ok .non (M.set n (.lst (ds ++ es))) else .stuck
    | _ => .stuck
  | _, _, _ => .stuck
def rExt2 (K : PySem.W.Frag) : V → List V → Hp → VK → Prop := fun x vs H Q => rExtend x vs H Q ∨ ∃ l b xs zs, x = .ref l ∧ vs = [.ref b] ∧ H l = some (.lst xs) ∧ SqT K H b zs ∧ xs.length + zs.length ≤ sizeLine ∧ Q .non (upd H l (.lst (xs ++ zs)))
theorem md_ext : MethD X A (rExt2 X.K) oExt := by
  intro Wx σ W dx ds x vs Q ok r1 r2 p
  unfold oExt at p
  split at p
  · split at p
    · split at p
      · rename_i n m _ _ ds es e1 e2 hl
        simp only [Rep] at r1
        obtain ⟨hn, rfl⟩ := r1
        obtain ⟨v, rfl, r3⟩ := r2.one
        simp only [Rep] at r3
        obtain ⟨_, rfl⟩ := r3
        obtain ⟨us, h1, h2⟩ := ok.getLst e1
        obtain ⟨ws, h3, h4⟩ := ok.getLst e2
        refine .inl ⟨_, _, us, ws, rfl, rfl, h1, h3, by rw [h2.length, h4.length]; exact hl, ?_⟩
        obtain ⟨o2, l2⟩ := ok.setLst hn (h2.append h4)
        exact p.there o2 l2 rfl (by simp only [Rep])
      · exact p.elim
    · exact p.elim
  · split at p
    · split at p
      · rename_i n es _ ds e1 hl
        simp only [Rep] at r1
        obtain ⟨hn, rfl⟩ := r1
        obtain ⟨v, rfl, r3⟩ := r2.one
        simp only [Rep] at r3
        obtain ⟨b, ws, rfl, s, h4⟩ := r3
        obtain ⟨us, h1, h2⟩ := ok.getLst e1
        refine .inr ⟨_, b, us, ws, rfl, rfl, h1, s, by rw [h2.length, h4.length]; exact hl, ?_⟩
        obtain ⟨o2, l2⟩ := ok.setLst hn (h2.append h4)
        exact p.there o2 l2 rfl (by simp only [Rep])
      · exact p.elim
    · exact p.elim
  · exact p.elim
/-- list.extend by a tuple, as it stands -/
theorem ext_tup_run (l : Addr) (its : Array Value) (n : Nat) (b : Addr) (its2 : Array Value) (n2 : Nat) (dd : Option Addr) (sl : Array (Option Value)) (h0 : ¬(!its.isEmpty && Builtin.List.listTooLong (its.size + its2.size)) = true) (h1 : its.size ≤ sizeLine) (h2 : its.size + its2.size ≤ sizeLine + 1) :
    Meets (Builtin.«list.extend» ⟨[.ref l, .ref b], []⟩) (fun _ R s => s.heap.get? l = some { cls := .type "list", dict := none, data := .seq its n, slots := #[] } ∧ s.heap.get? b = some { cls := .type "tuple", dict := dd, data := .seq its2 n2, slots := sl } ∧
      R (.ok (.ret Value.none)) { s with heap := s.heap.update l (Obj.mapSeq fun x => x ++ its2), toks := s.toks }) :=
  .of_wp fun prog w A R s h => by
    obtain ⟨hp, g, d, tk, os⟩ := s
    obtain ⟨hl, hb, h⟩ := h
    have f1 := PySem.AutoSeq1.idx_int
    have f2 := PySem.AutoSeq1.sub_tuple_tuple
    have f3 := PySem.AutoSeq1.sub_list_list
    have f4 := PySem.AutoSeq1.sub_tuple_list
    have f5 := PySem.AutoSeq1.sub_list_tuple
    have hz' : (its ++ its2).size ≤ sizeLine + 1 := by
      rw [Array.size_append]
      exact h2
    wp_walk using (wpAny_updateSeq hl rfl (hz := h1) (_hz' := hz')), PySem.AutoSeq1.wpAny_loadPart' hl, PySem.AutoSeq1.wpAny_loadPart' hb
    exact ⟨_, rfl, h⟩
theorem mt_extT : MtM X "list.extend" (fun x vs H Q => ∃ l b xs zs, x = .ref l ∧ vs = [.ref b] ∧ H l = some (.lst xs) ∧ SqT X.K H b zs ∧ xs.length + zs.length ≤ sizeLine ∧ Q .non (upd H l (.lst (xs ++ zs)))) := by
  intro pins s σ H x vs v us Q I rx rv h
  obtain ⟨l, b, xs, zs, hx, hvs, hH, hB, hz, q⟩ := h
  subst hx hvs
  cases rx
  obtain ⟨u, hu, ru⟩ := rv.one
  subst hu
  cases ru
  obtain ⟨_, its, n, r, hl, e⟩ := I.lstM hH
  obtain ⟨its2, r2, ⟨⟨c2, dd, dt, sl⟩, e2, hc, n2, hd⟩, _⟩ := I.tuple hB
  dsimp only at hc hd
  subst hc hd
  have hl2 := r2.length
  have hsz : its.toArray.size + its2.toArray.size ≤ sizeLine := by
    rw [List.size_toArray, List.size_toArray]
    omega
  have h0 : ¬(!its.toArray.isEmpty && Builtin.List.listTooLong (its.toArray.size + its2.toArray.size)) = true := by
    rw [notLongL hsz]
    simp
  refine call_meets F.slot_list_extend ⟨_, e, rfl⟩ F.entry_list_extend (F.args_list_extend_2 _ _) (ext_tup_run l its.toArray n b its2.toArray n2 dd sl h0 (by rw [List.size_toArray]; omega) (by omega)) ⟨e, e2, ?_⟩
  exact ⟨.non, _, I.lset (its' := its ++ its2) hH e (by simp) (r.append r2) (by rw [List.length_append]; omega), rfl, q⟩
theorem mt_ext2 : MtR X "list.extend" (rExt2 X.K) := MtR.or mt_extend mt_extT
section
variable {name : Str} {id : String} {ob e : Expr} {es : List Expr} {fo : Sl → Mm → Res D} {fs : Sl → Mm → Res (List D)} {r : V → List V → Hp → VK → Prop} {o : D → List D → Mm → Res D} {apos pos : Pos}
theorem de_lmeth (pa : PlainAttrs "list") (slot : Slot "list" name id) (hty : typeOf (.builtin id) = pure (.type "method_descriptor")) (hm : MtR X id r) (hd : MethD X A r o) (ho : DE X A ob fo) (ha : DA X A (e :: es) fs)
    (hbase : attributeBase ob name X.env (eval ob X.env) = eval ob X.env := by rfl)
    (hfew : ((backTo pos (starEach (e :: es) X.env)).all (fun x => !x.1) && (backToKw pos (keywordEach [] X.env)).all (fun x => x.1.isSome)
      && decide ((e :: es).length + ([] : List Keyword).length + (if ([] : List Keyword).isEmpty then 0 else 1) < 30)) = true := by rfl)
    (hline : (apos.endLine == pos.line) = true := by rfl) (hs : starEach (e :: es) X.env = (false, eval e X.env) :: starEach es X.env := by rfl) (hplain : (backTo pos (starEach es X.env)).any (·.1) = false := by rfl) :
    DE X A (.Call (.Attribute ob name apos) (e :: es) [] pos) (dMeth o fo fs) := by
  intro Wx tk
  refine PE.imp (pe_bm pa slot hty hm (ho Wx tk) (ha Wx tk) hbase hfew hline hs hplain) fun σ H Q h => ?_
  obtain ⟨ρ, W, rfl, ok, sl, p⟩ := h
  refine ⟨ρ, W, rfl, ok, sl, meth_split ok p fun d v W1 ds ok1 l1 r1 hd1 p1 => ⟨tyV_lst ok1 r1 hd1, ρ, W1, rfl, ok1, sl.le l1 ok, Post.seq p1 fun es vs W2 ok2 l2 r2 p2 => ?_⟩⟩
  exact hd Wx σ W2 d es v vs Q ok2 (r1.le l2 ok1) r2 p2
theorem de_app (ho : DE X A ob fo) (ha : DA X A (e :: es) fs) (hbase : attributeBase ob "append" X.env (eval ob X.env) = eval ob X.env := by rfl)
    (hfew : ((backTo pos (starEach (e :: es) X.env)).all (fun x => !x.1) && (backToKw pos (keywordEach [] X.env)).all (fun x => x.1.isSome)
      && decide ((e :: es).length + ([] : List Keyword).length + (if ([] : List Keyword).isEmpty then 0 else 1) < 30)) = true := by rfl)
    (hline : (apos.endLine == pos.line) = true := by rfl) (hs : starEach (e :: es) X.env = (false, eval e X.env) :: starEach es X.env := by rfl) (hplain : (backTo pos (starEach es X.env)).any (·.1) = false := by rfl) :
    DE X A (.Call (.Attribute ob "append" apos) (e :: es) [] pos) (dMeth oApp fo fs) :=
  de_lmeth PySem.F.plainAttrs_list PySem.F.slot_list_append PySem.F.type_list_append mt_append md_app ho ha hbase hfew hline hs hplain
theorem de_ext (ho : DE X A ob fo) (ha : DA X A (e :: es) fs) (hbase : attributeBase ob "extend" X.env (eval ob X.env) = eval ob X.env := by rfl)
    (hfew : ((backTo pos (starEach (e :: es) X.env)).all (fun x => !x.1) && (backToKw pos (keywordEach [] X.env)).all (fun x => x.1.isSome)
      && decide ((e :: es).length + ([] : List Keyword).length + (if ([] : List Keyword).isEmpty then 0 else 1) < 30)) = true := by rfl)
    (hline : (apos.endLine == pos.line) = true := by rfl) (hs : starEach (e :: es) X.env = (false, eval e X.env) :: starEach es X.env := by rfl) (hplain : (backTo pos (starEach es X.env)).any (·.1) = false := by rfl) :
    DE X A (.Call (.Attribute ob "extend" apos) (e :: es) [] pos) (dMeth oExt fo fs) :=
  de_lmeth PySem.F.plainAttrs_list PySem.F.slot_list_extend PySem.F.type_list_extend mt_ext2 md_ext ho ha hbase hfew hline hs hplain
end
/-! ### slices -/
def dPart (f : Option (Sl → Mm → Res D)) : Sl → Mm → Res (Option Int) := fun ρ M => match f with
  | none => .ok none M
  | some f => (f ρ M).bind fun d M1 => match d with
    | .int i => .ok (some i) M1
    | _ => .stuck
def tDO (K : PySem.W.Frag) (A : Amb) (Wx : WX) (f : Sl → Mm → Res (Option Int)) : TO := fun σ H Q => ∃ ρ W, W.H = H ∧ Ok K A W ∧ Slots K W σ ρ ∧ Post K A Wx (fun _ a b => a = b) σ W Q (f ρ W.M)
theorem PO.imp {e : Option Expr} {t t' : TO} (h : PO X e t) (k : ∀ σ H Q, t' σ H Q → t σ H Q) : PO X e t' := ⟨fun pins s σ H Q I q => h.run pins s σ H Q I (k σ H Q q)⟩
def DO (X : Cx) (A : Amb) (e : Option Expr) (f : Sl → Mm → Res (Option Int)) : Prop := ∀ Wx, L2N.Takes X Wx → PO X e (tDO X.K A Wx f)
theorem do_none : DO X A none (dPart none) := by
  intro Wx tk
  refine PO.imp po_none fun σ H Q h => ?_
  obtain ⟨ρ, W, rfl, ok, sl, p⟩ := h
  exact p.here ok rfl rfl
theorem do_some {e : Expr} {f : Sl → Mm → Res D} (h : DE X A e f) : DO X A (some e) (dPart (some f)) := by
  intro Wx tk
  refine PO.imp (po_some (h Wx tk)) fun σ H Q h => ?_
  obtain ⟨ρ, W, rfl, ok, sl, p⟩ := h
  refine ⟨ρ, W, rfl, ok, sl, Post.seq p fun d v W1 ok1 l1 r1 p1 => ?_⟩
  cases d <;> first
    | exact (show False from p1).elim
    | skip
  simp only [Rep] at r1
  exact ⟨_, r1, p1.here ok1 rfl rfl⟩
def cutD (xs : List D) (lo hi : Option Int) : List D := (xs.drop (HT.sIx xs.length 0 lo)).take (HT.sIx xs.length xs.length hi - HT.sIx xs.length 0 lo)
theorem Reps.cut {K : PySem.W.Frag} {W : Wd} {ds : List D} {vs : List V} (r : Reps K W ds vs) (lo hi : Option Int) : Reps K W (cutD ds lo hi) (cutV vs lo hi) := by
  unfold cutD cutV
  rw [r.length]
  exact (r.drop _).take _
def oSl : D → Option Int → Option Int → Mm → Res D
  | .ref n, lo, hi, M => match M[n]? with
    | some (.lst ds) => .ok (.ref M.length) (M ++ [.lst (cutD ds lo hi)])
    | _ => .stuck
  | .tup ds, lo, hi, M => if HT.sIx ds.length 0 lo = 0 ∧ HT.sIx ds.length ds.length hi = ds.length then .stuck else .ok (.tup (cutD ds lo hi)) M
  | _, _, _, _ => .stuck
def rSl2 (K : PySem.W.Frag) : V → Option Int → Option Int → Hp → VK → Prop := fun x lo hi H Q => rSlL K x lo hi H Q ∨ rSlT K x lo hi H Q
theorem sl_two : SlR X (rSl2 X.K) := sl_list.or sl_tup
def dSl (f : Sl → Mm → Res D) (fl fh : Sl → Mm → Res (Option Int)) : Sl → Mm → Res D := fun ρ M => (f ρ M).bind fun x M1 => (fl ρ M1).bind fun l M2 => (fh ρ M2).bind fun h M3 => oSl x l h M3
theorem sl_ok {Wx : WX} {σ : L2.St} {W : Wd} {d : D} {v : V} {lo hi : Option Int} {Q : VK} (ok : Ok X.K A W) (r : Rep X.K W d v) (p : Post X.K A Wx (Rep X.K) σ W Q (oSl d lo hi W.M)) : rSl2 X.K v lo hi W.H Q := by
  unfold oSl at p
  split at p
  · split at p
    · rename_i n _ ds e
      simp only [Rep] at r
      obtain ⟨_, rfl⟩ := r
      obtain ⟨us, h1, h2⟩ := ok.getLst e
      refine .inl ⟨_, us, rfl, SqL.of h1, fun q hq => ?_⟩
      obtain ⟨o2, l2, r2⟩ := ok.newLst hq (h2.cut _ _)
      exact p.there o2 l2 rfl r2
    · exact p.elim
  · split at p
    · exact p.elim
    · rename_i ds hne
      simp only [Rep] at r
      obtain ⟨a, us, rfl, s, h2⟩ := r
      refine .inr ⟨a, us, rfl, s, by rw [h2.length]; exact hne, fun q hq => ?_⟩
      obtain ⟨o2, l2, r2⟩ := ok.newTup hq (h2.cut _ _)
      exact p.there o2 l2 rfl r2
  · exact p.elim
theorem de_slice {e : Expr} {lo hi : Option Expr} {f : Sl → Mm → Res D} {fl fh : Sl → Mm → Res (Option Int)} {p2 pos : Pos} (he : DE X A e f) (hl : DO X A lo fl) (hh : DO X A hi fh) : DE X A (.Subscript e (.Slice lo hi none p2) pos) (dSl f fl fh) := by
  intro Wx tk
  refine PE.imp (pe_slice sl_two (he Wx tk) (hl Wx tk) (hh Wx tk)) fun σ H Q h => ?_
  obtain ⟨ρ, W, rfl, ok, sl, p⟩ := h
  refine ⟨ρ, W, rfl, ok, sl, Post.seq p fun d v W1 ok1 l1 r1 p1 => ⟨ρ, W1, rfl, ok1, sl.le l1 ok, Post.seq p1 fun a b W2 ok2 l2 r2 p2 => ?_⟩⟩
  subst r2
  refine ⟨ρ, W2, rfl, ok2, sl.le (l1.trans l2) ok, Post.seq p2 fun a2 b2 W3 ok3 l3 r3 p3 => ?_⟩
  subst r3
  exact sl_ok ok3 (r1.le (l2.trans l3) ok1) p3
/-- the script's slice -/
def oSlScr (A : Amb) : D → Option Int → Option Int → Mm → Res D
  | .ext (.ref a), lo, hi, M => if a = A.sa then .ok (.ref M.length) (M ++ [.lst (cutD (A.sn.map D.int) lo hi)]) else .stuck
  | _, _, _, _ => .stuck
theorem Ok.script {W : Wd} (ok : Ok X.K A W) : SqL X.K W.H A.sa (A.sn.map V.int) := by
  rcases ok.scr with ⟨h, _⟩ | h
  · exact .inl h
  · exact .inr h
def dSlS (A : Amb) (f : Sl → Mm → Res D) (fl fh : Sl → Mm → Res (Option Int)) : Sl → Mm → Res D := fun ρ M => (f ρ M).bind fun x M1 => (fl ρ M1).bind fun l M2 => (fh ρ M2).bind fun h M3 => oSlScr A x l h M3
theorem de_sliceS {e : Expr} {lo hi : Option Expr} {f : Sl → Mm → Res D} {fl fh : Sl → Mm → Res (Option Int)} {p2 pos : Pos} (he : DE X A e f) (hl : DO X A lo fl) (hh : DO X A hi fh) : DE X A (.Subscript e (.Slice lo hi none p2) pos) (dSlS A f fl fh) := by
  intro Wx tk
  refine PE.imp (pe_slice sl_list (he Wx tk) (hl Wx tk) (hh Wx tk)) fun σ H Q h => ?_
  obtain ⟨ρ, W, rfl, ok, sl, p⟩ := h
  refine ⟨ρ, W, rfl, ok, sl, Post.seq p fun d v W1 ok1 l1 r1 p1 => ⟨ρ, W1, rfl, ok1, sl.le l1 ok, Post.seq p1 fun a b W2 ok2 l2 r2 p2 => ?_⟩⟩
  subst r2
  refine ⟨ρ, W2, rfl, ok2, sl.le (l1.trans l2) ok, Post.seq p2 fun a2 b2 W3 ok3 l3 r3 p3 => ?_⟩
  subst r3
  unfold oSlScr at p3
  split at p3
  · split at p3
    · rename_i he
      subst he
      simp only [Rep] at r1
      subst r1
      refine ⟨_, _, rfl, ok3.script, fun q hq => ?_⟩
      obtain ⟨o2, l2, r2⟩ := ok3.newLst hq ((Reps.of_ints A.sn).cut _ _)
      exact p3.there o2 l2 rfl r2
    · exact p3.elim
  · exact p3.elim
end
end Ny


set_option Elab.async false
set_option linter.all false
set_option maxRecDepth 10000
set_option maxHeartbeats 1000000
/-! NyStmt: statements, targets, loops. -/
namespace Ny
open PySem PySem.Spec PyProof.Rows L2
inductive Out where
  | nx | rt (d : D) | bk | ct
inductive RS where
  | ok (o : Out) (ρ : Sl) (m : Mm)
  | exc (c : Addr) (ρ : Sl) (m : Mm)
  | stuck
/-- an expression's answer goes on in a statement -/
def eb {α : Type} (r : Res α) (ρ : Sl) (k : α → Mm → RS) : RS := match r with
  | .ok a m => k a m
  | .exc c m => .exc c ρ m
  | .stuck => .stuck
@[simp] theorem eb_ok {α : Type} (a : α) (m : Mm) (ρ : Sl) (k : α → Mm → RS) : eb (.ok a m) ρ k = k a m := rfl
@[simp] theorem eb_exc {α : Type} (c : Addr) (m : Mm) (ρ : Sl) (k : α → Mm → RS) : eb (.exc c m) ρ k = .exc c ρ m := rfl
@[simp] theorem eb_stuck {α : Type} (ρ : Sl) (k : α → Mm → RS) : eb .stuck ρ k = .stuck := rfl

def PostS (K : PySem.W.Frag) (A : Amb) (Wx : WX) (W : Wd) (E : Ends) : RS → Prop
  | .ok .nx ρ M' => ∀ σ' W', Ok K A W' → Le W W' → W'.M = M' → Slots K W' σ' ρ → E.nx σ' W'.H
  | .ok (.rt d) _ M' => ∀ v W', Ok K A W' → Le W W' → W'.M = M' → Rep K W' d v → E.rt v W'.H
  | .ok .bk ρ M' => ∀ σ' W', Ok K A W' → Le W W' → W'.M = M' → Slots K W' σ' ρ → E.bk σ' W'.H
  | .ok .ct ρ M' => ∀ σ' W', Ok K A W' → Le W W' → W'.M = M' → Slots K W' σ' ρ → E.ct σ' W'.H
  | .exc c ρ M' => ∀ dd σ' W', Ok K A W' → Le W W' → W'.M = M' → Slots K W' σ' ρ → DdOk A c W'.H dd → Wx (.ref c) dd σ' W'.H
  | .stuck => False
section
variable {α β : Type} {K : PySem.W.Frag} {A : Amb} {Wx : WX} {R : Wd → α → β → Prop} {σ : L2.St} {ρ : Sl} {W W' : Wd} {E E' : Ends} {Q : β → Hp → Prop}
theorem PostS.le {r : RS} (p : PostS K A Wx W E r) (l : Le W W') : PostS K A Wx W' E r := by
  cases r with
  | ok o ρ m =>
    cases o with
    | nx => exact fun s W2 o l2 e r => p s W2 o (l.trans l2) e r
    | rt d => exact fun s W2 o l2 e r => p s W2 o (l.trans l2) e r
    | bk => exact fun s W2 o l2 e r => p s W2 o (l.trans l2) e r
    | ct => exact fun s W2 o l2 e r => p s W2 o (l.trans l2) e r
  | exc c ρ m => exact fun dd s W2 o l2 e r z => p dd s W2 o (l.trans l2) e r z
  | stuck => exact p
theorem PostS.eb (ok : Ok K A W) (sl : Slots K W σ ρ) {r : Res α} {k : α → Mm → RS} (p : PostS K A Wx W E (Ny.eb r ρ k)) (h : ∀ a b W1, Ok K A W1 → Le W W1 → R W1 a b → PostS K A Wx W1 E (k a W1.M) → Q b W1.H) : Post K A Wx R σ W Q r := by
  cases r with
  | ok a m =>
    intro b W1 o l e r
    refine h a b W1 o l r ?_
    rw [e]
    exact PostS.le (r := k a m) p l
  | exc c m => exact fun dd W1 o l e z => p dd σ W1 o l e (sl.le l ok) z
  | stuck => exact p
/-- the ends exchanged -/
theorem PostS.imp {r : RS} (p : PostS K A Wx W E r) (h1 : ∀ σ' W', Ok K A W' → Le W W' → E.nx σ' W'.H → E'.nx σ' W'.H) (h2 : ∀ v H, E.rt v H → E'.rt v H) (h3 : ∀ σ H, E.bk σ H → E'.bk σ H) (h4 : ∀ σ H, E.ct σ H → E'.ct σ H) : PostS K A Wx W E' r := by
  cases r with
  | ok o ρ m =>
    cases o with
    | nx => exact fun s W2 o l2 e r => h1 s W2 o l2 (p s W2 o l2 e r)
    | rt d => exact fun s W2 o l2 e r => h2 s _ (p s W2 o l2 e r)
    | bk => exact fun s W2 o l2 e r => h3 s _ (p s W2 o l2 e r)
    | ct => exact fun s W2 o l2 e r => h4 s _ (p s W2 o l2 e r)
  | exc c ρ m => exact p
  | stuck => exact p
end
def tDS (K : PySem.W.Frag) (A : Amb) (Wx : WX) (g : Sl → Mm → RS) : TS := fun E σ H => ∃ ρ W, W.H = H ∧ Ok K A W ∧ Slots K W σ ρ ∧ PostS K A Wx W E (g ρ W.M)
def DS (X : Cx) (A : Amb) (s : Stmt) (g : Sl → Mm → RS) : Prop := ∀ Wx, L2N.Takes X Wx → PS X s (tDS X.K A Wx g)
def DSs (X : Cx) (A : Amb) (s : List Stmt) (g : Sl → Mm → RS) : Prop := ∀ Wx, L2N.Takes X Wx → PSs X s (tDS X.K A Wx g)
theorem PS.imp {X : Cx} {s : Stmt} {t t' : TS} (h : PS X s t) (k : ∀ E σ H, t' E σ H → t E σ H) : PS X s t' := ⟨fun pins s σ H E I q => h.run pins s σ H E I (k E σ H q)⟩
theorem PSs.imp {X : Cx} {s : List Stmt} {t t' : TS} (h : PSs X s t) (k : ∀ E σ H, t' E σ H → t E σ H) : PSs X s t' := ⟨fun pins s σ H E I q => h.run pins s σ H E I (k E σ H q)⟩

section
variable {X : Cx} {A : Amb} {st : Stmt} {rest : List Stmt} {g g1 g2 : Sl → Mm → RS} {e : Expr} {f : Sl → Mm → Res D} {pos : Pos}
def gNx : Sl → Mm → RS := fun ρ M => .ok .nx ρ M
def gSeq (g1 g2 : Sl → Mm → RS) : Sl → Mm → RS := fun ρ M => match g1 ρ M with
  | .ok .nx ρ1 M1 => g2 ρ1 M1
  | r => r
theorem dss_nil : DSs X A [] gNx := by
  intro Wx tk
  refine PSs.imp pss_nil fun E σ H h => ?_
  obtain ⟨ρ, W, rfl, ok, sl, p⟩ := h
  exact p σ W ok (Le.rfl' W) rfl sl
theorem dss_cons (h1 : DS X A st g1) (h2 : DSs X A rest g2) : DSs X A (st :: rest) (gSeq g1 g2) := by
  intro Wx tk
  refine PSs.imp (pss_cons (h1 Wx tk) (h2 Wx tk)) fun E σ H h => ?_
  obtain ⟨ρ, W, rfl, ok, sl, p⟩ := h
  refine ⟨ρ, W, rfl, ok, sl, ?_⟩
  unfold gSeq at p
  cases q : g1 ρ W.M with
  | ok o ρ1 M1 =>
    rw [q] at p
    cases o with
    | nx =>
      intro σ' W' ok' l' e' sl'
      refine ⟨ρ1, W', rfl, ok', sl', ?_⟩
      rw [e']
      exact PostS.le p l'
    | rt d => exact p
    | bk => exact p
    | ct => exact p
  | exc c ρ1 M1 => rw [q] at p; exact p
  | stuck => rw [q] at p; exact p.elim
theorem dss_one (h : DS X A st g) : DSs X A [st] g := fun Wx tk => pss_one (h Wx tk)
theorem ds_pass : DS X A (.Pass pos) gNx := by
  intro Wx tk
  refine PS.imp ps_pass fun E σ H h => ?_
  obtain ⟨ρ, W, rfl, ok, sl, p⟩ := h
  exact p σ W ok (Le.rfl' W) rfl sl
def gBk : Sl → Mm → RS := fun ρ M => .ok .bk ρ M
def gCt : Sl → Mm → RS := fun ρ M => .ok .ct ρ M
theorem ds_break : DS X A (.Break pos) gBk := by
  intro Wx tk
  refine PS.imp ps_break fun E σ H h => ?_
  obtain ⟨ρ, W, rfl, ok, sl, p⟩ := h
  exact p σ W ok (Le.rfl' W) rfl sl
theorem ds_continue : DS X A (.Continue pos) gCt := by
  intro Wx tk
  refine PS.imp ps_continue fun E σ H h => ?_
  obtain ⟨ρ, W, rfl, ok, sl, p⟩ := h
  exact p σ W ok (Le.rfl' W) rfl sl
def gExpr (f : Sl → Mm → Res D) : Sl → Mm → RS := fun ρ M => eb (f ρ M) ρ fun _ M1 => .ok .nx ρ M1
theorem ds_expr (h : DE X A e f) (hs : swapsWith e none pos.line X.env = pure false := by rfl) : DS X A (.Expr e pos) (gExpr f) := by
  intro Wx tk
  refine PS.imp (ps_expr (h Wx tk) hs) fun E σ H h => ?_
  obtain ⟨ρ, W, rfl, ok, sl, p⟩ := h
  exact ⟨ρ, W, rfl, ok, sl, PostS.eb ok sl p fun d v W1 ok1 l1 r1 p1 => p1 σ W1 ok1 (Le.rfl' _) rfl (sl.le l1 ok)⟩
def gRet (f : Sl → Mm → Res D) : Sl → Mm → RS := fun ρ M => eb (f ρ M) ρ fun d M1 => .ok (.rt d) ρ M1
theorem ds_ret (h : DE X A e f) : DS X A (.Return (some e) pos) (gRet f) := by
  intro Wx tk
  refine PS.imp (ps_ret (h Wx tk)) fun E σ H h => ?_
  obtain ⟨ρ, W, rfl, ok, sl, p⟩ := h
  exact ⟨ρ, W, rfl, ok, sl, PostS.eb ok sl p fun d v W1 ok1 l1 r1 p1 => p1 v W1 ok1 (Le.rfl' _) rfl r1⟩
def gRetN : Sl → Mm → RS := fun ρ M => .ok (.rt .non) ρ M
theorem ds_retN : DS X A (.Return none pos) gRetN := by
  intro Wx tk
  refine PS.imp ps_retN fun E σ H h => ?_
  obtain ⟨ρ, W, rfl, ok, sl, p⟩ := h
  exact p .non W ok (Le.rfl' W) rfl (by simp only [Rep])
def gIf (c : Sl → Mm → Res Bool) (a b : Sl → Mm → RS) : Sl → Mm → RS := fun ρ M => eb (c ρ M) ρ fun k M1 => if k = true then a ρ M1 else b ρ M1
theorem ds_if {c : Expr} {a b : List Stmt} {gc : Sl → Mm → Res Bool} (hc : DT X A c gc) (ha : DSs X A a g1) (hb : DSs X A b g2) : DS X A (.If c a b pos) (gIf gc g1 g2) := by
  intro Wx tk
  refine PS.imp (ps_if (hc Wx tk) (ha Wx tk) (hb Wx tk)) fun E σ H h => ?_
  obtain ⟨ρ, W, rfl, ok, sl, p⟩ := h
  refine ⟨ρ, W, rfl, ok, sl, PostS.eb ok sl p fun k b W1 ok1 l1 r1 p1 => ?_⟩
  subst r1
  cases k with
  | true => exact iteT ⟨ρ, W1, rfl, ok1, sl.le l1 ok, p1⟩
  | false => exact iteF ⟨ρ, W1, rfl, ok1, sl.le l1 ok, p1⟩
def gNever : Sl → Mm → RS := fun _ _ => .stuck
theorem ds_never : DS X A st gNever := by
  intro Wx tk
  refine PS.imp ps_never fun E σ H h => ?_
  obtain ⟨ρ, W, rfl, ok, sl, p⟩ := h
  exact p

/-! ### targets -/
def tDG (K : PySem.W.Frag) (A : Amb) (h : D → Sl → Mm → Res Sl) : TG := fun v σ H Q => ∃ d ρ W, W.H = H ∧ Ok K A W ∧ Slots K W σ ρ ∧ Rep K W d v ∧ Post K A (fun _ _ _ _ => False) (fun W' ρ' σ' => Slots K W' σ' ρ') σ W Q (h d ρ W.M)
def tDGs (K : PySem.W.Frag) (A : Amb) (h : List D → Sl → Mm → Res Sl) : TGs := fun vs σ H Q => ∃ ds ρ W, W.H = H ∧ Ok K A W ∧ Slots K W σ ρ ∧ Reps K W ds vs ∧ Post K A (fun _ _ _ _ => False) (fun W' ρ' σ' => Slots K W' σ' ρ') σ W Q (h ds ρ W.M)
def DG (X : Cx) (A : Amb) (t : Expr) (h : D → Sl → Mm → Res Sl) : Prop := PG X t (tDG X.K A h)
def DGs (X : Cx) (A : Amb) (t : List Expr) (h : List D → Sl → Mm → Res Sl) : Prop := PGs X t (tDGs X.K A h)
theorem PG.imp {e : Expr} {t t' : TG} (h : PG X e t) (k : ∀ v σ H Q, t' v σ H Q → t v σ H Q) : PG X e t' := ⟨fun pins s σ H v u Q I r q => h.run pins s σ H v u Q I r (k v σ H Q q)⟩
theorem PGs.imp {e : List Expr} {t t' : TGs} (h : PGs X e t) (k : ∀ v σ H Q, t' v σ H Q → t v σ H Q) : PGs X e t' := ⟨fun pins s σ H v u Q I r q => h.run pins s σ H v u Q I r (k v σ H Q q)⟩
theorem Slots.set {K : PySem.W.Frag} {W : Wd} {σ : L2.St} {ρ : Sl} (s : Slots K W σ ρ) {d : D} {v : V} (r : Rep K W d v) (i : Nat) : Slots K W (σ.set i (some v)) (ρ.set i (some d)) := by
  refine ⟨by rw [List.length_set, List.length_set]; exact s.1, fun j c e => ?_⟩
  by_cases h : j = i
  · subst h
    by_cases hl : j < ρ.length
    · rw [List.getElem?_set_self hl] at e
      cases e
      exact ⟨v, List.getElem?_set_self (by rw [s.1]; exact hl), r⟩
    · rw [List.getElem?_eq_none (by rw [List.length_set]; omega)] at e
      cases e
  · rw [List.getElem?_set_ne (Ne.symm h)] at e
    obtain ⟨u, h1, h2⟩ := s.2 j c e
    exact ⟨u, by rw [List.getElem?_set_ne (Ne.symm h)]; exact h1, h2⟩
def hName (i : Nat) : D → Sl → Mm → Res Sl := fun d ρ M => .ok (ρ.set i (some d)) M
theorem dg_name {i : Nat} {x : Str} (hN : X.N.Nodup) (hi : X.N[i]? = some x) (hx : Loc X.env.scope x) (hf : X.fn x = true ∨ X.env.scope.names.lookup x = some .local := by first | exact .inl rfl | exact .inr rfl | assumption) : DG X A (.Name x pos) (hName i) := by
  refine PG.imp (pg_name hN hi hx hf) fun v σ H Q h => ?_
  obtain ⟨d, ρ, W, rfl, ok, sl, r, p⟩ := h
  exact p.here (b := σ.set i (some v)) ok rfl (sl.set r i)
def hNil : List D → Sl → Mm → Res Sl := fun ds ρ M => match ds with
  | [] => .ok ρ M
  | _ => .stuck
def hCons (h : D → Sl → Mm → Res Sl) (hs : List D → Sl → Mm → Res Sl) : List D → Sl → Mm → Res Sl := fun ds ρ M => match ds with
  | d :: r => (h d ρ M).bind fun ρ1 M1 => hs r ρ1 M1
  | [] => .stuck
theorem dgs_nil : DGs X A [] hNil := by
  refine PGs.imp pgs_nil fun v σ H Q h => ?_
  obtain ⟨ds, ρ, W, rfl, ok, sl, r, p⟩ := h
  cases ds with
  | nil => exact ⟨r.inv0, p.here ok rfl sl⟩
  | cons => exact p.elim
theorem dgs_cons {e : Expr} {es : List Expr} {h : D → Sl → Mm → Res Sl} {hs : List D → Sl → Mm → Res Sl} (h1 : DG X A e h) (h2 : DGs X A es hs)
    (ha : (assignEach (e :: es) X.env).map (·.2) = assign e X.env :: (assignEach es X.env).map (·.2) := by rfl) : DGs X A (e :: es) (hCons h hs) := by
  refine PGs.imp (pgs_cons h1 h2 ha) fun v σ H Q q => ?_
  obtain ⟨ds, ρ, W, rfl, ok, sl, r, p⟩ := q
  cases ds with
  | nil => exact p.elim
  | cons d dr =>
    obtain ⟨u, vr, rfl, r1, r2⟩ := r.inv
    refine ⟨u, vr, rfl, d, ρ, W, rfl, ok, sl, r1, Post.seq p fun ρ1 σ1 W1 ok1 l1 s1 p1 => ?_⟩
    refine ⟨dr, ρ1, W1, rfl, ok1, s1, r2.le l1 ok, ?_⟩
    cases q : hs dr ρ1 W1.M with
    | ok a m => rw [q] at p1; exact p1
    | exc c m => rw [q] at p1; exact fun dd W2 o l e z => p1 dd W2 o l e z
    | stuck => rw [q] at p1; exact p1
def hTup (n : Nat) (hs : List D → Sl → Mm → Res Sl) : D → Sl → Mm → Res Sl := fun d ρ M => match d with
  | .tup ds => if ds.length = n then hs ds ρ M else .stuck
  | _ => .stuck
theorem dg_tup {es : List Expr} {k : Nat} {hs : List D → Sl → Mm → Res Sl} {n : Nat} (hc : X.calm = true) (h : DGs X A es hs)
    (hn : (assignEach es X.env).length = n := by rfl) (hst : (assignEach es X.env).findIdx? (·.1) = none := by rfl) : DG X A (.Tuple es k pos) (hTup n hs) := by
  refine PG.imp (pg_tup hc h hn hst) fun v σ H Q q => ?_
  obtain ⟨d, ρ, W, rfl, ok, sl, r, p⟩ := q
  unfold hTup at p
  split at p
  · split at p
    · rename_i ds hl
      simp only [Rep] at r
      obtain ⟨a, vs, rfl, s, r2⟩ := r
      exact ⟨a, vs, rfl, s, by rw [r2.length]; exact hl, ds, ρ, W, rfl, ok, sl, r2, p⟩
    · exact p.elim
  · exact p.elim
/-- target = value -/
def gAsg (f : Sl → Mm → Res D) (h : D → Sl → Mm → Res Sl) : Sl → Mm → RS := fun ρ M => eb (f ρ M) ρ fun d M1 => match h d ρ M1 with
  | .ok ρ1 M2 => .ok .nx ρ1 M2
  | _ => .stuck
theorem asg_end {Wx : WX} {W : Wd} {E : Ends} {σ : L2.St} {ρ : Sl} {d : D} {v : V} {h : D → Sl → Mm → Res Sl} (ok : Ok X.K A W) (sl : Slots X.K W σ ρ) (r : Rep X.K W d v) (p : PostS X.K A Wx W E (match h d ρ W.M with
    | .ok ρ1 M2 => .ok .nx ρ1 M2
    | _ => .stuck)) : tDG X.K A h v σ W.H E.nx := by
  refine ⟨d, ρ, W, rfl, ok, sl, r, ?_⟩
  cases q : h d ρ W.M with
  | ok ρ1 M2 => rw [q] at p; exact p
  | exc c m => rw [q] at p; exact p.elim
  | stuck => rw [q] at p; exact p.elim
theorem ds_asg {tg : Expr} {h : D → Sl → Mm → Res Sl} (he : DE X A e f) (hg : DG X A tg h) (hs : swapsWithSole [tg] e pos.line X.env = pure false := by rfl) (hw : swappedStores [tg] e X.env = pure none := by rfl)
    (h1 : (assignEach [tg] X.env).map (·.2) = [assign tg X.env] := by rfl) : DS X A (.Assign [tg] e pos) (gAsg f h) := by
  intro Wx tk
  refine PS.imp (ps_asg (he Wx tk) hg hs hw h1) fun E σ H h => ?_
  obtain ⟨ρ, W, rfl, ok, sl, p⟩ := h
  exact ⟨ρ, W, rfl, ok, sl, PostS.eb ok sl p fun d v W1 ok1 l1 r1 p1 => asg_end ok1 (sl.le l1 ok) r1 p1⟩
theorem ds_set {i : Nat} {x : Str} {pos' : Pos} (hN : X.N.Nodup) (hi : X.N[i]? = some x) (hx : Loc X.env.scope x) (he : DE X A e f) (hs : swapsWith e (some (.Name x pos')) pos.line X.env = pure false := by rfl) (hf : X.fn x = true ∨ X.env.scope.names.lookup x = some .local := by first | exact .inl rfl | exact .inr rfl | assumption) :
    DS X A (.Assign [.Name x pos'] e pos) (gAsg f (hName i)) := by
  intro Wx tk
  refine PS.imp (ps_set hN hi hx (he Wx tk) hs hf) fun E σ H h => ?_
  obtain ⟨ρ, W, rfl, ok, sl, p⟩ := h
  exact ⟨ρ, W, rfl, ok, sl, PostS.eb ok sl p fun d v W1 ok1 l1 r1 p1 => p1 (σ.set i (some v)) W1 ok1 (Le.rfl' _) rfl ((sl.le l1 ok).set r1 i)⟩
def gPar (i j : Nat) (fs : Sl → Mm → Res (List D)) : Sl → Mm → RS := fun ρ M => eb (fs ρ M) ρ fun ds M1 => match ds with
  | [a, b] => .ok .nx ((ρ.set i (some a)).set j (some b)) M1
  | _ => .stuck
theorem ds_par {i j : Nat} {x y : Str} {a b : Expr} {fs : Sl → Mm → Res (List D)} {px py pt : Pos} {kt k2 pt2} (hc : X.calm = true) (hN : X.N.Nodup) (hi : X.N[i]? = some x) (hj : X.N[j]? = some y) (hij : i ≠ j)
    (hx : X.env.scope.names.lookup x = some .local) (hy : X.env.scope.names.lookup y = some .local) (ha : DA X A [a, b] fs)
    (hw : swappedStores [.Tuple [.Name x px, .Name y py] kt pt] (.Tuple [a, b] k2 pt2) X.env = pure (some [x, y]))
    (hs : swapsWithSole [.Tuple [.Name x px, .Name y py] kt pt] (.Tuple [a, b] k2 pt2) pos.line X.env = pure false := by rfl) :
    DS X A (.Assign [.Tuple [.Name x px, .Name y py] kt pt] (.Tuple [a, b] k2 pt2) pos) (gPar i j fs) := by
  intro Wx tk
  refine PS.imp (ps_par hc hN hi hj hij hx hy (ha Wx tk) hw hs) fun E σ H h => ?_
  obtain ⟨ρ, W, rfl, ok, sl, p⟩ := h
  refine ⟨ρ, W, rfl, ok, sl, PostS.eb ok sl p fun ds vs W1 ok1 l1 r1 p1 => ?_⟩
  split at p1
  · obtain ⟨v, u, rfl, r2, r3⟩ := r1.two
    exact ⟨v, u, rfl, p1 _ W1 ok1 (Le.rfl' _) rfl (((sl.le l1 ok).set r2 i).set r3 j)⟩
  · exact p1.elim
def gPar3 (i j l : Nat) (fs : Sl → Mm → Res (List D)) : Sl → Mm → RS := fun ρ M => eb (fs ρ M) ρ fun ds M1 => match ds with
  | [a, b, c] => .ok .nx (((ρ.set i (some a)).set j (some b)).set l (some c)) M1
  | _ => .stuck
theorem Reps.three' {K : PySem.W.Frag} {W : Wd} {d e g : D} {vs : List V} (r : Reps K W [d, e, g] vs) : ∃ v u w, vs = [v, u, w] ∧ Rep K W d v ∧ Rep K W e u ∧ Rep K W g w := by
  obtain ⟨v, vr, rfl, r1, r2⟩ := r.inv
  obtain ⟨u, w, rfl, r3, r4⟩ := r2.two
  exact ⟨v, u, w, rfl, r1, r3, r4⟩
theorem ds_par3 {i j l : Nat} {x y z : Str} {a b c : Expr} {fs : Sl → Mm → Res (List D)} {px py pz pt : Pos} {kt k2 pt2} (hc : X.calm = true) (hN : X.N.Nodup) (hi : X.N[i]? = some x) (hj : X.N[j]? = some y) (hl : X.N[l]? = some z) (hij : i ≠ j) (hil : i ≠ l) (hjl : j ≠ l)
    (hx : X.env.scope.names.lookup x = some .local) (hy : X.env.scope.names.lookup y = some .local) (hz : X.env.scope.names.lookup z = some .local) (ha : DA X A [a, b, c] fs)
    (hw : swappedStores [.Tuple [.Name x px, .Name y py, .Name z pz] kt pt] (.Tuple [a, b, c] k2 pt2) X.env = pure (some [x, y, z]))
    (hs : swapsWithSole [.Tuple [.Name x px, .Name y py, .Name z pz] kt pt] (.Tuple [a, b, c] k2 pt2) pos.line X.env = pure false := by rfl) :
    DS X A (.Assign [.Tuple [.Name x px, .Name y py, .Name z pz] kt pt] (.Tuple [a, b, c] k2 pt2) pos) (gPar3 i j l fs) := by
  intro Wx tk
  refine PS.imp (ps_par3 hc hN hi hj hl hij hil hjl hx hy hz (ha Wx tk) hw hs) fun E σ H h => ?_
  obtain ⟨ρ, W, rfl, ok, sl, p⟩ := h
  refine ⟨ρ, W, rfl, ok, sl, PostS.eb ok sl p fun ds vs W1 ok1 l1 r1 p1 => ?_⟩
  split at p1
  · obtain ⟨v, u, w, rfl, r2, r3, r4⟩ := r1.three'
    exact ⟨v, u, w, rfl, p1 _ W1 ok1 (Le.rfl' _) rfl ((((sl.le l1 ok).set r2 i).set r3 j).set r4 l)⟩
  · exact p1.elim
/-! ### a[i] = v -/
def hSub (fo fi : Sl → Mm → Res D) : D → Sl → Mm → Res Sl := fun d ρ M => (fo ρ M).bind fun o M1 => (fi ρ M1).bind fun i M2 => match o, i with
  | .ref n, .int k => match M2[n]? with
    | some (.lst ds) => match ixN ds.length k with
      | some j => .ok ρ (M2.set n (.lst (ds.set j d)))
      | none => .stuck
    | _ => .stuck
  | _, _ => .stuck
theorem takes_no {X : Cx} : L2N.Takes X (fun _ _ _ _ => False) := fun u s' x => by
  obtain ⟨_, _, _, _, _, _, _, _, _, _, _, _, _, _, _, _, z⟩ := x
  exact z.elim
theorem dg_sub {o i : Expr} {fo fi : Sl → Mm → Res D} (ho : DE X A o fo) (hi : DE X A i fi)
    (ha : ∀ v, assign (.Subscript o i pos) X.env v = (do
      let ov ← holding [v] (eval o X.env)
      let iv ← holding [v, ov] (eval i X.env)
      standAt pos
      holding [v, ov, iv] (setItem ov iv v)
      release [v, ov, iv] []) := by intro _; rfl) : DG X A (.Subscript o i pos) (hSub fo fi) := by
  refine PG.imp (pg_sub (ho _ takes_no) (hi _ takes_no) set_list ha) fun v σ H Q q => ?_
  obtain ⟨d, ρ, W, rfl, ok, sl, r, p⟩ := q
  refine ⟨ρ, W, rfl, ok, sl, Post.seq p fun dq vo W1 ok1 l1 r1 p1 => ⟨ρ, W1, rfl, ok1, sl.le l1 ok, Post.seq p1 fun di vi W2 ok2 l2 r2 p2 => ?_⟩⟩
  have r1' := r1.le l2 ok1
  have rv := r.le (l1.trans l2) ok
  split at p2
  · split at p2
    · split at p2
      · rename_i n k _ ds e _ j hj
        simp only [Rep] at r1' r2
        obtain ⟨hn, rfl⟩ := r1'
        obtain ⟨us, h1, h2⟩ := ok2.getLst e
        refine ⟨_, us, k, j, rfl, r2, h1, by rw [h2.length]; exact hj, ?_⟩
        obtain ⟨o3, l3⟩ := ok2.setLst hn (h2.set rv j)
        exact p2.there o3 l3 rfl ((sl.le ((l1.trans l2).trans l3) ok))
      · exact p2.elim
    · exact p2.elim
  · exact p2.elim
end
end Ny


set_option Elab.async false
set_option linter.all false
set_option maxRecDepth 10000
set_option maxHeartbeats 1000000
/-! NyLoop: what is walked, for, while, list comprehensions. -/
namespace Ny
open PySem PySem.Spec PyProof.Rows L2
/-! ### sameness of data, as a Bool -/
mutual
def beqD : D → D → Bool
  | .non, .non => true
  | .bl a, .bl b => a == b
  | .int a, .int b => a == b
  | .str a, .str b => decide (a = b)
  | .tup a, .tup b => beqDs a b
  | .ref a, .ref b => a == b
  | .err a, .err b => a == b
  | .ext a, .ext b => decide (a = b)
  | _, _ => false
def beqDs : List D → List D → Bool
  | [], [] => true
  | a :: x, b :: y => beqD a b && beqDs x y
  | _, _ => false
end
mutual
theorem beqD_self : ∀ d : D, beqD d d = true
  | .non => by simp [beqD]
  | .bl _ => by simp [beqD]
  | .int _ => by simp [beqD]
  | .str _ => by simp [beqD]
  | .tup ds => by simp only [beqD]; exact beqDs_self ds
  | .ref _ => by simp [beqD]
  | .err _ => by simp [beqD]
  | .ext _ => by simp [beqD]
theorem beqDs_self : ∀ d : List D, beqDs d d = true
  | [] => by simp [beqDs]
  | d :: ds => by simp only [beqDs]; rw [beqD_self d, beqDs_self ds]; rfl
end
mutual
theorem beqD_eq : ∀ a b : D, beqD a b = true → a = b
  | .non, b, h => by cases b <;> simp [beqD] at h <;> rfl
  | .bl _, b, h => by cases b <;> simp [beqD] at h; rw [h]
  | .int _, b, h => by cases b <;> simp [beqD] at h; rw [h]
  | .str _, b, h => by cases b <;> simp [beqD] at h; rw [h]
  | .tup x, b, h => by
    cases b <;> simp only [beqD] at h <;> first | (cases h; done) | skip
    rw [beqDs_eq x _ h]
  | .ref _, b, h => by cases b <;> simp [beqD] at h; rw [h]
  | .err _, b, h => by cases b <;> simp [beqD] at h; rw [h]
  | .ext _, b, h => by cases b <;> simp [beqD] at h; rw [h]
theorem beqDs_eq : ∀ a b : List D, beqDs a b = true → a = b
  | [], b, h => by cases b <;> simp [beqDs] at h; rfl
  | x :: a, b, h => by
    cases b with
    | nil => simp [beqDs] at h
    | cons y b =>
      simp only [beqDs, Bool.and_eq_true] at h
      rw [beqD_eq x y h.1, beqDs_eq a b h.2]
end
/-- the lists that are walked are as they were -/
abbrev Ck := List (Nat × List D)
def sameL : Ck → Mm → Bool
  | [], _ => true
  | (n, xs) :: r, M => (match M[n]? with
    | some (.lst ys) => beqDs ys xs
    | _ => false) && sameL r M
theorem sameL_cons {n : Nat} {xs : List D} {r : Ck} {M : Mm} (h : sameL ((n, xs) :: r) M = true) : M[n]? = some (.lst xs) ∧ sameL r M = true := by
  simp only [sameL, Bool.and_eq_true] at h
  obtain ⟨h, h2⟩ := h
  split at h
  · rename_i ys e
    exact ⟨by rw [e, beqDs_eq ys xs h], h2⟩
  · cases h
theorem sameL_some {n : Nat} {xs : List D} {M : Mm} (h : sameL [(n, xs)] M = true) : M[n]? = some (.lst xs) := (sameL_cons h).1
@[simp] theorem sameL_none {M : Mm} : sameL [] M = true := rfl
theorem sameL_of {n : Nat} {xs : List D} {r : Ck} {M : Mm} (h : M[n]? = some (.lst xs)) (h2 : sameL r M = true := by rfl) : sameL ((n, xs) :: r) M = true := by
  simp only [sameL, h, beqDs_self, h2, Bool.and_self]
/-- J walks the items xs, as long as what is walked is as it was -/
def ItOk (K : PySem.W.Frag) (A : Amb) (W0 : Wd) (J : It) (ck : Ck) (xs : List D) : Prop :=
  ∀ W i, Ok K A W → Keep K W0 W → sameL ck W.M = true →
    (∀ d, xs[i]? = some d → J.go i W.H ∧ ∀ x H', J.yld i W.H x H' → ∃ W', W'.H = H' ∧ Ok K A W' ∧ Le W W' ∧ W'.M = W.M ∧ Rep K W' d x) ∧ (i = xs.length → J.stop i W.H)
abbrev Src := Ck × List D
def tDI (K : PySem.W.Frag) (A : Amb) (Wx : WX) (fi : Sl → Mm → Res Src) : TI := fun σ H R => ∃ ρ W, W.H = H ∧ Ok K A W ∧ Slots K W σ ρ ∧ Post K A Wx (fun W' (s : Src) J => ItOk K A W' J s.1 s.2 ∧ sameL s.1 W'.M = true) σ W R (fi ρ W.M)
theorem PI.imp {X : Cx} {tg e : Expr} {t t' : TI} (h : PI X tg e t) (k : ∀ σ H R, t' σ H R → t σ H R) : PI X tg e t' := ⟨fun pins s σ H R I q => h.run pins s σ H R I (k σ H R q)⟩
def DI (X : Cx) (A : Amb) (tg e : Expr) (fi : Sl → Mm → Res Src) : Prop := ∀ Wx, L2N.Takes X Wx → PI X tg e (tDI X.K A Wx fi)

section
variable {X : Cx} {A : Amb} {tg : Expr} {e : Expr} {f : Sl → Mm → Res D} {pos : Pos}
def sList (f : Sl → Mm → Res D) : Sl → Mm → Res Src := fun ρ M => (f ρ M).bind fun d M1 => match d with
  | .ref n => match M1[n]? with
    | some (.lst ds) => .ok ([(n, ds)], ds) M1
    | _ => .stuck
  | _ => .stuck
theorem Ok.lst_inj {K : PySem.W.Frag} {W : Wd} {a : Addr} {vs us : List V} (h : W.H a = some (.lst vs)) (s : SqL K W.H a us) (hk : K.lookup a = none) : us = vs := by
  rcases s with (s | ⟨o, s⟩) | ⟨o, its, n, e, _⟩
  · rw [h] at s; cases s; rfl
  · rw [h] at s; cases s
  · rw [hk] at e; cases e
theorem list_imp {K : PySem.W.Frag} {Wx : WX} {σ : L2.St} {H : Hp} {R : It → Hp → Prop} (q : tDI K A Wx (sList f) σ H R) : iList K (tD K A Wx f) σ H R := by
  obtain ⟨ρ, W, rfl, ok, sl, p⟩ := q
  refine ⟨ρ, W, rfl, ok, sl, Post.seq p fun d v W1 ok1 l1 r1 p1 => ?_⟩
  split at p1
  · split at p1
    · rename_i n _ ds e
      simp only [Rep] at r1
      obtain ⟨hn, rfl⟩ := r1
      obtain ⟨us, h1, h2⟩ := ok1.getLst e
      refine ⟨_, rfl, ⟨us, SqL.of h1⟩, ?_⟩
      refine p1.here (b := Itl K (W1.al n)) ok1 rfl ⟨fun W2 i ok2 l2 hs => ?_, sameL_of e⟩
      have e2 := sameL_some hs
      obtain ⟨ws, h3, h4⟩ := ok2.getLst e2
      rw [l2.al n hn] at h3
      refine ⟨fun d hd => ?_, fun hl => ⟨ws, SqL.of h3, by rw [h4.length]; exact Nat.le_of_eq hl.symm⟩⟩
      obtain ⟨v, hv, rv⟩ := h4.get hd
      refine ⟨⟨ws, v, SqL.of h3, hv⟩, fun x H' y => ?_⟩
      obtain ⟨rfl, hy⟩ := y
      have z := hy ws (SqL.of h3)
      rw [hv] at z
      cases z
      exact ⟨W2, rfl, ok2, Le.rfl' W2, rfl, rv⟩
    · exact p1.elim
  · exact p1.elim
theorem di_list (h : DE X A e f) : DI X A tg e (sList f) := fun Wx tk => PI.imp (pi_list (h Wx tk)) fun _ _ _ q => list_imp q
def sTup (f : Sl → Mm → Res D) : Sl → Mm → Res Src := fun ρ M => (f ρ M).bind fun d M1 => match d with
  | .tup ds => .ok ([], ds) M1
  | _ => .stuck
theorem di_tup (h : DE X A e f) : DI X A tg e (sTup f) := by
  intro Wx tk
  refine PI.imp (pi_tup (h Wx tk)) fun σ H R q => ?_
  obtain ⟨ρ, W, rfl, ok, sl, p⟩ := q
  refine ⟨ρ, W, rfl, ok, sl, Post.seq p fun d v W1 ok1 l1 r1 p1 => ?_⟩
  split at p1
  · rename_i ds
    simp only [Rep] at r1
    obtain ⟨a, us, rfl, s, h2⟩ := r1
    refine ⟨a, rfl, ⟨us, s⟩, ?_⟩
    refine p1.here (b := Itt X.K a) ok1 rfl ⟨fun W2 i ok2 l2 hs => ?_, rfl⟩
    have s2 := l2.tup _ _ s
    have h4 := Reps.keep l2 _ _ h2
    refine ⟨fun d hd => ?_, fun hl => ⟨us, s2, by rw [h4.length]; exact Nat.le_of_eq hl.symm⟩⟩
    obtain ⟨v, hv, rv⟩ := h4.get hd
    refine ⟨⟨us, v, s2, hv⟩, fun x H' y => ?_⟩
    obtain ⟨rfl, hy⟩ := y
    have z := hy us s2
    rw [hv] at z
    cases z
    exact ⟨W2, rfl, ok2, Le.rfl' W2, rfl, rv⟩
  · exact p1.elim
def rangeD (lo : Int) (n : Nat) : List D := (List.range n).map fun i => D.int (lo + (i : Nat))
theorem rangeD_get {lo : Int} {n i : Nat} {d : D} (h : (rangeD lo n)[i]? = some d) : i < n ∧ d = .int (lo + (i : Nat)) := by
  unfold rangeD at h
  rw [List.getElem?_map] at h
  by_cases hi : i < n
  · rw [List.getElem?_eq_getElem (by simpa using hi)] at h
    simp at h
    exact ⟨hi, h.symm⟩
  · rw [List.getElem?_eq_none (by simpa using hi)] at h
    cases h
theorem rangeD_length (lo : Int) (n : Nat) : (rangeD lo n).length = n := by
  unfold rangeD
  rw [List.length_map, List.length_range]
theorem itr_ok {K : PySem.W.Frag} {W0 : Wd} (lo : Int) (n : Nat) : ItOk K A W0 (Itr lo n) [] (rangeD lo n) := fun W i ok l hs => by
  refine ⟨fun d hd => ?_, fun hl => by rw [rangeD_length] at hl; exact Nat.le_of_eq hl.symm⟩
  obtain ⟨hi, rfl⟩ := rangeD_get hd
  refine ⟨hi, fun x H' y => ?_⟩
  obtain ⟨rfl, rfl⟩ := y
  exact ⟨W, rfl, ok, Le.rfl' W, rfl, by simp only [Rep]⟩
def sRng1 (fs : Sl → Mm → Res (List D)) : Sl → Mm → Res Src := fun ρ M => (fs ρ M).bind fun ds M1 => match ds with
  | [.int j] => if -(2 ^ 62) ≤ j ∧ j < 2 ^ 62 then .ok ([], rangeD 0 j.toNat) M1 else .stuck
  | _ => .stuck
theorem di_rng1 {a : Expr} {fs : Sl → Mm → Res (List D)} {p : Pos} (hg : Gl X "range") (hm : X.mg "range" = none) (ha : DA X A [a] fs) (hs : starEach [a] X.env = [(false, eval a X.env)] := by rfl) : DI X A tg (.Call (.Name "range" p) [a] [] pos) (sRng1 fs) := by
  intro Wx tk
  refine PI.imp (pi_range1 hg hm (ha Wx tk) hs) fun σ H R q => ?_
  obtain ⟨ρ, W, rfl, ok, sl, p⟩ := q
  refine ⟨ρ, W, rfl, ok, sl, Post.seq p fun ds vs W1 ok1 l1 r1 p1 => ?_⟩
  split at p1
  · split at p1
    · rename_i j hj
      obtain ⟨v, rfl, r2⟩ := r1.one
      simp only [Rep] at r2
      subst r2
      exact ⟨j, rfl, hj.1, hj.2, p1.here (b := Itr 0 j.toNat) ok1 rfl ⟨itr_ok _ _, rfl⟩⟩
    · exact p1.elim
  · exact p1.elim
def sRng2 (fs : Sl → Mm → Res (List D)) : Sl → Mm → Res Src := fun ρ M => (fs ρ M).bind fun ds M1 => match ds with
  | [.int i, .int j] => if -(2 ^ 62) ≤ i ∧ i < 2 ^ 62 ∧ -(2 ^ 62) ≤ j ∧ j < 2 ^ 62 then .ok ([], rangeD i (j - i).toNat) M1 else .stuck
  | _ => .stuck
theorem di_rng2 {a b : Expr} {fs : Sl → Mm → Res (List D)} {p : Pos} (hg : Gl X "range") (hm : X.mg "range" = none) (ha : DA X A [a, b] fs) (hs : starEach [a, b] X.env = [(false, eval a X.env), (false, eval b X.env)] := by rfl) (hs2 : starEach [b] X.env = [(false, eval b X.env)] := by rfl) :
    DI X A tg (.Call (.Name "range" p) [a, b] [] pos) (sRng2 fs) := by
  intro Wx tk
  refine PI.imp (pi_range2 hg hm (ha Wx tk) hs hs2) fun σ H R q => ?_
  obtain ⟨ρ, W, rfl, ok, sl, p⟩ := q
  refine ⟨ρ, W, rfl, ok, sl, Post.seq p fun ds vs W1 ok1 l1 r1 p1 => ?_⟩
  split at p1
  · split at p1
    · rename_i i j hj
      obtain ⟨v, u, rfl, r2, r3⟩ := r1.two
      simp only [Rep] at r2 r3
      subst r2 r3
      exact ⟨i, j, rfl, hj, p1.here (b := Itr i (j - i).toNat) ok1 rfl ⟨itr_ok _ _, rfl⟩⟩
    · exact p1.elim
  · exact p1.elim
def downD (hi : Int) (n : Nat) : List D := (List.range n).map fun i => D.int (hi - (i : Nat))
/-- range(a, b, -1) -/
def sRngD (fs : Sl → Mm → Res (List D)) : Sl → Mm → Res Src := fun ρ M => (fs ρ M).bind fun ds M1 => match ds with
  | [.int i, .int j, .int c] => if c = -1 ∧ -(2 ^ 62) ≤ i ∧ i < 2 ^ 62 ∧ -(2 ^ 62) ≤ j ∧ j < 2 ^ 62 then .ok ([], downD i (i - j).toNat) M1 else .stuck
  | _ => .stuck
theorem Reps.three {K : PySem.W.Frag} {W : Wd} {d e g : D} {vs : List V} (r : Reps K W [d, e, g] vs) : ∃ v u w, vs = [v, u, w] ∧ Rep K W d v ∧ Rep K W e u ∧ Rep K W g w := by
  obtain ⟨v, vr, rfl, r1, r2⟩ := r.inv
  obtain ⟨u, w, rfl, r3, r4⟩ := r2.two
  exact ⟨v, u, w, rfl, r1, r3, r4⟩
theorem di_rngD {a b c : Expr} {fs : Sl → Mm → Res (List D)} {p : Pos} (hg : Gl X "range") (hm : X.mg "range" = none) (ha : DA X A [a, b, c] fs)
    (hs : starEach [a, b, c] X.env = (false, eval a X.env) :: starEach [b, c] X.env := by rfl) (hpl : (backTo pos (starEach [b, c] X.env)).any (·.1) = false := by rfl) :
    DI X A tg (.Call (.Name "range" p) [a, b, c] [] pos) (sRngD fs) := by
  intro Wx tk
  refine PI.imp (pi_range3 hg hm (ha Wx tk) hs hpl) fun σ H R q => ?_
  obtain ⟨ρ, W, rfl, ok, sl, p⟩ := q
  refine ⟨ρ, W, rfl, ok, sl, Post.seq p fun ds vs W1 ok1 l1 r1 p1 => ?_⟩
  split at p1
  · split at p1
    · rename_i i j c hj
      obtain ⟨rfl, h1, h2, h3, h4⟩ := hj
      obtain ⟨v, u, w, rfl, r2, r3, r4⟩ := r1.three
      simp only [Rep] at r2 r3 r4
      subst r2 r3 r4
      refine ⟨i, j, -1, (i - j).toNat, rfl, RgC.neg h1 h2 h3 h4, p1.here (b := Itc i (-1) (i - j).toNat) ok1 rfl ⟨fun W2 k ok2 l2 hs => ?_, rfl⟩⟩
      refine ⟨fun d hd => ?_, fun hl => by
        show (i - j).toNat ≤ k
        rw [hl]
        simp only [downD, List.length_map, List.length_range, Nat.le_refl]⟩
      have hk : k < (i - j).toNat ∧ d = .int (i - (k : Nat)) := by
        simp only [downD] at hd
        rw [List.getElem?_map] at hd
        by_cases hi : k < (i - j).toNat
        · rw [List.getElem?_eq_getElem (by simpa using hi)] at hd
          simp at hd
          exact ⟨hi, hd.symm⟩
        · rw [List.getElem?_eq_none (by simpa using hi)] at hd
          cases hd
      refine ⟨hk.1, fun x H' y => ?_⟩
      obtain ⟨rfl, rfl⟩ := y
      refine ⟨W2, rfl, ok2, Le.rfl' W2, rfl, ?_⟩
      rw [hk.2]
      simp only [Rep]
      congr 1
      omega
    · exact p1.elim
  · exact p1.elim

/-! ### for -/
def forL (ck : Ck) (h : D → Sl → Mm → Res Sl) (b : Sl → Mm → RS) : List D → Sl → Mm → RS
  | [], ρ, M => .ok .nx ρ M
  | x :: xs, ρ, M => match h x ρ M with
    | .ok ρ1 M1 => match b ρ1 M1 with
      | .ok .nx ρ2 M2 => if sameL ck M2 = true then forL ck h b xs ρ2 M2 else .stuck
      | .ok .ct ρ2 M2 => if sameL ck M2 = true then forL ck h b xs ρ2 M2 else .stuck
      | .ok .bk ρ2 M2 => .ok .nx ρ2 M2
      | r => r
    | _ => .stuck
def gFor (fi : Sl → Mm → Res Src) (h : D → Sl → Mm → Res Sl) (b : Sl → Mm → RS) : Sl → Mm → RS := fun ρ M => eb (fi ρ M) ρ fun s M1 => forL s.1 h b s.2 ρ M1
theorem ds_for {iter : Expr} {body : List Stmt} {fi : Sl → Mm → Res Src} {h : D → Sl → Mm → Res Sl} {g : Sl → Mm → RS} (hp : PassesOwn (model X.prog X.w) X.A X.env X.xe) (hc : X.calm = true) (hi : DI X A tg iter fi) (hg : DG X A tg h) (hb : DSs X A body g)
    (hs : ∀ x, foldedSetIterable iter X.env x = pure x := by intro _; rfl) : DS X A (.For tg iter body [] pos) (gFor fi h g) := by
  intro Wx tk
  refine PS.imp (ps_for hp hc (hi Wx tk) hg (hb Wx tk) hs) fun E σ H q => ?_
  obtain ⟨ρ, W, rfl, ok, sl, p⟩ := q
  refine ⟨ρ, W, rfl, ok, sl, PostS.eb ok sl p fun s J W1 ok1 l1 r1 p1 => ?_⟩
  obtain ⟨ck, xs⟩ := s
  obtain ⟨io, ss⟩ := r1
  dsimp only at io ss p1
  refine ⟨fun i m σ2 H2 => m = xs.length - i ∧ i ≤ xs.length ∧ ∃ ρ2 W2, W2.H = H2 ∧ Ok X.K A W2 ∧ Le W1 W2 ∧ Slots X.K W2 σ2 ρ2 ∧ sameL ck W2.M = true ∧ PostS X.K A Wx W2 E (forL ck h g (xs.drop i) ρ2 W2.M),
    ⟨xs.length, by simp, Nat.zero_le _, ρ, W1, rfl, ok1, Le.rfl' _, sl.le l1 ok, ss, by simpa using p1⟩, ?_⟩
  rintro i m σ2 H2 ⟨rfl, hi, ρ2, W2, rfl, ok2, l2, sl2, ss2, p2⟩
  by_cases hlt : i < xs.length
  · right
    obtain ⟨go, yl⟩ := (io W2 i ok2 (l2.keep ok1) ss2).1 xs[i] (List.getElem?_eq_getElem hlt)
    refine ⟨go, fun σ' H' => ∃ ρ3 W3, W3.H = H' ∧ Ok X.K A W3 ∧ Le W1 W3 ∧ Slots X.K W3 σ' ρ3 ∧ sameL ck W3.M = true ∧ PostS X.K A Wx W3 E (forL ck h g (xs.drop (i + 1)) ρ3 W3.M), fun σ' H' n => ⟨xs.length - (i + 1), by omega, rfl, hlt, n⟩, fun x H' y => ?_⟩
    obtain ⟨W3, rfl, ok3, l3, em, rx⟩ := yl x H' y
    have dr : xs.drop i = xs[i] :: xs.drop (i + 1) := List.drop_eq_getElem_cons hlt
    rw [dr, ← em] at p2
    simp only [forL] at p2
    refine ⟨xs[i], ρ2, W3, rfl, ok3, sl2.le l3 ok2, rx, ?_⟩
    cases q : h xs[i] ρ2 W3.M with
    | ok ρ4 M4 =>
      rw [q] at p2
      intro σ4 W4 ok4 l4 em4 sl4
      refine ⟨ρ4, W4, rfl, ok4, sl4, ?_⟩
      dsimp only at p2
      have p4 := PostS.le p2 (l3.trans l4)
      rw [← em4] at p4
      have l14 := l2.trans (l3.trans l4)
      cases q2 : g ρ4 W4.M with
      | ok o ρ5 M5 =>
        rw [q2] at p4
        cases o with
        | nx =>
          intro σ5 W5 ok5 l5 em5 sl5
          dsimp only at p4
          rw [← em5] at p4
          split at p4
          · exact ⟨ρ5, W5, rfl, ok5, l14.trans l5, sl5, by assumption, PostS.le p4 l5⟩
          · exact p4.elim
        | ct =>
          intro σ5 W5 ok5 l5 em5 sl5
          dsimp only at p4
          rw [← em5] at p4
          split at p4
          · exact ⟨ρ5, W5, rfl, ok5, l14.trans l5, sl5, by assumption, PostS.le p4 l5⟩
          · exact p4.elim
        | bk => exact p4
        | rt d => exact p4
      | exc c ρ5 M5 => rw [q2] at p4; exact p4
      | stuck => rw [q2] at p4; exact p4.elim
    | exc c m => rw [q] at p2; exact p2.elim
    | stuck => rw [q] at p2; exact p2.elim
  · left
    have e : i = xs.length := by omega
    subst e
    refine ⟨(io W2 _ ok2 (l2.keep ok1) ss2).2 rfl, ?_⟩
    rw [List.drop_length] at p2
    exact p2 σ2 W2 ok2 (Le.rfl' _) rfl sl2

/-! ### while -/
def whileL (c : Sl → Mm → Res Bool) (b : Sl → Mm → RS) : Nat → Sl → Mm → RS
  | 0, _, _ => .stuck
  | n + 1, ρ, M => eb (c ρ M) ρ fun k M1 => if k = true then match b ρ M1 with
      | .ok .nx ρ2 M2 => whileL c b n ρ2 M2
      | .ok .ct ρ2 M2 => whileL c b n ρ2 M2
      | .ok .bk ρ2 M2 => .ok .nx ρ2 M2
      | r => r
    else .ok .nx ρ M1
def fuelN : Nat := 1000000
def gWhile (c : Sl → Mm → Res Bool) (b : Sl → Mm → RS) : Sl → Mm → RS := fun ρ M => whileL c b fuelN ρ M
theorem ds_while {c : Expr} {body : List Stmt} {gc : Sl → Mm → Res Bool} {g : Sl → Mm → RS} (hp : PassesOwn (model X.prog X.w) X.A X.env X.xe) (hc : DT X A c gc) (hb : DSs X A body g) : DS X A (.While c body [] pos) (gWhile gc g) := by
  intro Wx tk
  refine PS.imp (ps_while hp (hc Wx tk) (hb Wx tk)) fun E σ H q => ?_
  obtain ⟨ρ, W, rfl, ok, sl, p⟩ := q
  refine ⟨fun m σ2 H2 => ∃ ρ2 W2, W2.H = H2 ∧ Ok X.K A W2 ∧ Slots X.K W2 σ2 ρ2 ∧ PostS X.K A Wx W2 E (whileL gc g m ρ2 W2.M), ⟨fuelN, ρ, W, rfl, ok, sl, p⟩, ?_⟩
  rintro m σ2 H2 ⟨ρ2, W2, rfl, ok2, sl2, p2⟩
  cases m with
  | zero => exact p2.elim
  | succ m =>
    simp only [whileL] at p2
    refine ⟨ρ2, W2, rfl, ok2, sl2, PostS.eb ok2 sl2 p2 fun k k' W3 ok3 l3 r3 p3 => ?_⟩
    subst r3
    have sl3 := sl2.le l3 ok2
    cases k with
    | false => exact iteF (p3 σ2 W3 ok3 (Le.rfl' _) rfl sl3)
    | true =>
      refine iteT ⟨fun σ' H' => ∃ ρ4 W4, W4.H = H' ∧ Ok X.K A W4 ∧ Slots X.K W4 σ' ρ4 ∧ PostS X.K A Wx W4 E (whileL gc g m ρ4 W4.M), fun σ' H' n => ⟨m, Nat.lt_succ_self m, n⟩, ρ2, W3, rfl, ok3, sl3, ?_⟩
      rw [if_pos rfl] at p3
      cases q2 : g ρ2 W3.M with
      | ok o ρ5 M5 =>
        rw [q2] at p3
        cases o with
        | nx =>
          intro σ5 W5 ok5 l5 em5 sl5
          exact ⟨ρ5, W5, rfl, ok5, sl5, by rw [em5]; exact PostS.le p3 l5⟩
        | ct =>
          intro σ5 W5 ok5 l5 em5 sl5
          exact ⟨ρ5, W5, rfl, ok5, sl5, by rw [em5]; exact PostS.le p3 l5⟩
        | bk => exact p3
        | rt d => exact p3
      | exc c ρ5 M5 => rw [q2] at p3; exact p3
      | stuck => rw [q2] at p3; exact p3.elim

/-! ### list comprehensions -/
def wipeD (ρ : Sl) : List Nat → Sl
  | [] => ρ
  | i :: r => (wipeD ρ r).set i none
theorem Slots.wipe {K : PySem.W.Frag} {W : Wd} {σ : L2.St} {ρ : Sl} (s : Slots K W σ ρ) : ∀ vs : List Nat, Slots K W (L2.wipe σ vs) (wipeD ρ vs)
  | [] => s
  | i :: r => by
    have ih := Slots.wipe s r
    refine ⟨by simp only [L2.wipe, wipeD, List.length_set]; exact ih.1, fun j d e => ?_⟩
    simp only [L2.wipe, wipeD] at e ⊢
    by_cases h : j = i
    · subst h
      by_cases hl : j < (wipeD ρ r).length
      · rw [List.getElem?_set_self hl] at e; cases e
      · rw [List.getElem?_eq_none (by rw [List.length_set]; omega)] at e; cases e
    · rw [List.getElem?_set_ne (Ne.symm h)] at e
      obtain ⟨v, h1, h2⟩ := ih.2 j d e
      exact ⟨v, by rw [List.getElem?_set_ne (Ne.symm h)]; exact h1, h2⟩
theorem wipe_get (σ : L2.St) : ∀ (vs : List Nat) (j : Nat), (L2.wipe σ vs)[j]? = if j ∈ vs then (if j < σ.length then some none else none) else σ[j]?
  | [], j => by simp [L2.wipe]
  | i :: r, j => by
    simp only [L2.wipe]
    by_cases h : j = i
    · subst h
      by_cases hl : j < σ.length
      · rw [List.getElem?_set_self (by rw [wipe_length]; exact hl)]
        simp [hl]
      · rw [List.getElem?_eq_none (by rw [List.length_set, wipe_length]; omega)]
        simp [hl]
    · rw [List.getElem?_set_ne (Ne.symm h), wipe_get σ r j]
      simp [h]
theorem wipe_set {σ : L2.St} {vs : List Nat} {i : Nat} (h : i ∈ vs) (y : Option V) : L2.wipe (σ.set i y) vs = L2.wipe σ vs := by
  apply List.ext_getElem?
  intro j
  rw [wipe_get, wipe_get, List.length_set]
  by_cases hj : j ∈ vs
  · rw [if_pos hj, if_pos hj]
  · rw [if_neg hj, if_neg hj, List.getElem?_set_ne (fun e => hj (by rw [← e]; exact h))]
theorem wipe_wipe (σ : L2.St) (vs : List Nat) : L2.wipe (L2.wipe σ vs) vs = L2.wipe σ vs := by
  apply List.ext_getElem?
  intro j
  by_cases hj : j ∈ vs
  · simp [wipe_get, wipe_length, hj]
  · simp [wipe_get, wipe_length, hj]
def Res.bindN {α β : Type} (r : Res α) (f : α → Mm → Res β) : Res β := match r with
  | .ok a m => f a m
  | _ => .stuck
@[simp] theorem Res.bindN_ok {α β : Type} (a : α) (m : Mm) (f : α → Mm → Res β) : (Res.ok a m).bindN f = f a m := rfl
@[simp] theorem Res.bindN_exc {α β : Type} (c : Addr) (m : Mm) (f : α → Mm → Res β) : (Res.exc c m : Res α).bindN f = .stuck := rfl
@[simp] theorem Res.bindN_stuck {α β : Type} (f : α → Mm → Res β) : (Res.stuck : Res α).bindN f = .stuck := rfl
abbrev wNo : WX := fun _ _ _ _ => False
theorem Post.seqN {α β γ δ : Type} {K : PySem.W.Frag} {Wx Wy : WX} {R : Wd → α → β → Prop} {R' : Wd → γ → δ → Prop} {σ σ' : L2.St} {W : Wd} {Q : β → Hp → Prop} {Q' : δ → Hp → Prop} {r : Res α} {g : α → Mm → Res γ} (p : Post K A Wx R' σ W Q' (r.bindN g))
    (k : ∀ a b W1, Ok K A W1 → Le W W1 → R W1 a b → Post K A Wx R' σ W1 Q' (g a W1.M) → Q b W1.H) : Post K A Wy R σ' W Q r := by
  cases r with
  | ok a m =>
    intro b W1 o l e r
    refine k a b W1 o l r ?_
    rw [e]
    exact Post.le (r := g a m) p l
  | exc c m => exact p.elim
  | stuck => exact p
/-- an object that stands, of no number -/
def Hid (W : Wd) (p : Addr) (o : HO) : Prop := W.H p = some o ∧ ∀ i, i < W.M.length → W.al i ≠ p
theorem Hid.le {W W' : Wd} {p : Addr} {o : HO} (h : Hid W p o) (l : Le W W') (ht : ∀ ps, o ≠ .tbl ps) : Hid W' p o := by
  refine ⟨l.fr p o h.1 h.2 ht, fun i hi z => ?_⟩
  by_cases hl : i < W.M.length
  · rw [l.al i hl] at z
    exact h.2 i hl z
  · have q := l.nw i (by omega) hi
    rw [z] at q
    obtain ⟨ps, e⟩ := q o h.1
    exact ht ps e
theorem Ok.hide {K : PySem.W.Frag} {W : Wd} (h : Ok K A W) {p : Addr} (hp : W.H p = none) (o : HO) : Ok K A ⟨W.al, upd W.H p o, W.M⟩ ∧ Le W ⟨W.al, upd W.H p o, W.M⟩ ∧ Hid ⟨W.al, upd W.H p o, W.M⟩ p o := by
  have ext : ∀ b x, W.H b = some x → upd W.H p o b = some x := fun b x e => by rw [upd_ne (ne_of_none e hp)]; exact e
  have le : Le W ⟨W.al, upd W.H p o, W.M⟩ := by
    refine ⟨Nat.le_refl _, fun _ _ => rfl, fun b x e _ _ => ext b x e, fun b e => e.ext ext, fun i h1 h2 => absurd h2 (by show ¬ i < W.M.length; omega)⟩
  have k := le.keep h
  exact ⟨⟨h.inj, fun i mo e => (h.obj i mo e).keep k fun o q => ext _ o q, h.tabs.ext ext, h.scrAdd hp _ (Nat.le_refl _) _ ext fun i hi => .inr ⟨hi, rfl⟩⟩, le, upd_same, fun i hi z => h.there hi (by show W.H (W.al i) = none; rw [show W.al i = p from z]; exact hp)⟩
/-- what was hidden is rewritten -/
theorem Ok.hidSet {K : PySem.W.Frag} {W : Wd} (h : Ok K A W) {p : Addr} {xs ys : List V} (hp : Hid W p (.lst xs)) (hs : p ≠ A.sa ∨ ScrK K A) : Ok K A ⟨W.al, upd W.H p (.lst ys), W.M⟩ ∧ Hid ⟨W.al, upd W.H p (.lst ys), W.M⟩ p (.lst ys) ∧ Keep K W ⟨W.al, upd W.H p (.lst ys), W.M⟩ := by
  have off : ∀ b x, W.H b = some x → (∀ zs, x ≠ .lst zs) → upd W.H p (.lst ys) b = some x := fun b x e q => by
    rw [upd_ne (fun z => by
      rw [z, hp.1] at e
      exact q xs (Option.some.inj e).symm)]
    exact e
  have k : Keep K W ⟨W.al, upd W.H p (.lst ys), W.M⟩ := ⟨Nat.le_refl _, fun _ _ => rfl, fun a vs s => by
    rcases s with (s | ⟨o, s⟩) | s
    · exact .inl (.inl (off _ _ s fun _ z => nomatch z))
    · exact .inl (.inr ⟨o, off _ _ s fun _ z => nomatch z⟩)
    · exact .inr s⟩
  refine ⟨⟨h.inj, fun i mo e => (h.obj i mo e).keep k fun o q => ?_, fun q hq => ?_, ?_⟩, ⟨upd_same, hp.2⟩, k⟩
  · show upd W.H p (.lst ys) (W.al i) = some o
    rw [upd_ne (hp.2 i (List.getElem?_eq_some_iff.mp e).1)]
    exact q
  · obtain ⟨ps, h1, h2, h3⟩ := h.tabs q hq
    refine ⟨ps, off _ _ h1 (fun _ z => nomatch z), h2, fun pos cv hc => ?_⟩
    obtain ⟨c, e1, e2⟩ := h3 pos cv hc
    exact ⟨c, e1, off _ _ e2 (fun _ z => nomatch z)⟩
  · rcases hs with hs | hs
    case inr => exact .inr hs
    rcases h.scr with ⟨r, q⟩ | s
    · have nn : A.sa ≠ p := fun z => hs z.symm
      refine .inl ⟨?_, q⟩
      rcases r with r | ⟨x, r⟩
      · exact .inl (by show upd W.H p (.lst ys) A.sa = _; rw [upd_ne nn]; exact r)
      · exact .inr ⟨x, by show upd W.H p (.lst ys) A.sa = _; rw [upd_ne nn]; exact r⟩
    · exact .inr s
theorem Keep.trans {K : PySem.W.Frag} {W W1 W2 : Wd} (a : Keep K W W1) (b : Keep K W1 W2) : Keep K W W2 := ⟨Nat.le_trans a.len b.len, fun i hi => by rw [b.al i (Nat.lt_of_lt_of_le hi a.len), a.al i hi], fun x v h => b.tup x v (a.tup x v h)⟩
theorem Keep.rfl' {K : PySem.W.Frag} (W : Wd) : Keep K W W := ⟨Nat.le_refl _, fun _ _ => rfl, fun _ _ h => h⟩
/-- what was hidden gets a number -/
theorem Ok.own {K : PySem.W.Frag} {W : Wd} (h : Ok K A W) {p : Addr} {ds : List D} {us : List V} (hp : Hid W p (.lst us)) (r : Reps K W ds us) (hs : p ≠ A.sa ∨ ScrK K A) :
    Ok K A (addO W p W.H (.lst ds)) ∧ Rep K (addO W p W.H (.lst ds)) (.ref W.M.length) (.ref p) ∧ (addO W p W.H (.lst ds)).H = W.H ∧ (addO W p W.H (.lst ds)).M = W.M ++ [.lst ds] ∧ (∀ i, i < W.M.length → (addO W p W.H (.lst ds)).al i = W.al i) ∧ (addO W p W.H (.lst ds)).al W.M.length = p ∧ (addO W p W.H (.lst ds)).M.length = W.M.length + 1 := by
  have len : (addO W p W.H (.lst ds)).M.length = W.M.length + 1 := by
    show (W.M ++ [MO.lst ds]).length = _
    rw [List.length_append]; rfl
  have k : Keep K W (addO W p W.H (.lst ds)) := ⟨by omega, fun i hi => addO_al hi, fun _ _ s => s⟩
  refine ⟨⟨fun i j hi hj e => ?_, fun i m e => ?_, h.tabs, ?_⟩, ?_, rfl, rfl, fun i hi => addO_al hi, addO_new, len⟩
  · by_cases h1 : i < W.M.length
    · by_cases h2 : j < W.M.length
      · rw [addO_al h1, addO_al h2] at e
        exact h.inj i j h1 h2 e
      · have : j = W.M.length := by omega
        rw [addO_al h1, this, addO_new] at e
        exact absurd e (hp.2 i h1)
    · have hi' : i = W.M.length := by omega
      by_cases h2 : j < W.M.length
      · rw [addO_al h2, hi', addO_new] at e
        exact absurd e.symm (hp.2 j h2)
      · omega
  · by_cases h1 : i < W.M.length
    · have e' : (W.M ++ [MO.lst ds])[i]? = some m := e
      rw [List.getElem?_append_left h1] at e'
      rw [addO_al h1]
      exact (h.obj i m e').keep k fun o q => q
    · have hl : i < (W.M ++ [MO.lst ds]).length := (List.getElem?_eq_some_iff.mp e).1
      have hi' : i = W.M.length := by rw [List.length_append] at hl; simp at hl; omega
      have e' : (W.M ++ [MO.lst ds])[i]? = some m := e
      rw [hi', List.getElem?_concat_length] at e'
      cases e'
      rw [hi', addO_new]
      exact ⟨us, hp.1, Reps.keep k _ _ r⟩
  · rcases hs with hs | hs
    case inr => exact .inr hs
    rcases h.scr with ⟨r, q⟩ | s
    · refine .inl ⟨r, fun i hi z => ?_⟩
      by_cases h1 : i < W.M.length
      · rw [addO_al h1] at z; exact q i h1 z
      · have : i = W.M.length := by omega
        rw [this, addO_new] at z
        exact hs z
    · exact .inr s
  · simp only [Rep]
    exact ⟨by omega, by rw [addO_new]⟩
/-- a comprehension's target: names of the block -/
def TgC (K : PySem.W.Frag) (vs : List Nat) (g : TG) (h : D → Sl → Option Sl) : Prop :=
  ∀ (A : Amb) (W : Wd) (σ : L2.St) (ρ : Sl) (d : D) (v : V) (k : L2.St → Hp → Prop) (ρ1 : Sl), Ok K A W → Slots K W σ ρ → Rep K W d v → h d ρ = some ρ1 → (∀ σ2, Slots K W σ2 ρ1 → L2.wipe σ2 vs = L2.wipe σ vs → k σ2 W.H) → g v σ W.H k
def TgCs (K : PySem.W.Frag) (vs : List Nat) (g : TGs) (h : List D → Sl → Option Sl) : Prop :=
  ∀ (A : Amb) (W : Wd) (σ : L2.St) (ρ : Sl) (d : List D) (v : List V) (k : L2.St → Hp → Prop) (ρ1 : Sl), Ok K A W → Slots K W σ ρ → Reps K W d v → h d ρ = some ρ1 → (∀ σ2, Slots K W σ2 ρ1 → L2.wipe σ2 vs = L2.wipe σ vs → k σ2 W.H) → g v σ W.H k
def cName (i : Nat) : D → Sl → Option Sl := fun d ρ => some (ρ.set i (some d))
theorem tgc_name {K : PySem.W.Frag} {vs : List Nat} {i : Nat} (hi : i ∈ vs) : TgC K vs (gName i) (cName i) := by
  intro A W σ ρ d v k ρ1 ok sl r e q
  cases e
  exact q _ (sl.set r i) (wipe_set hi _)
def cNil : List D → Sl → Option Sl := fun ds ρ => match ds with
  | [] => some ρ
  | _ => none
def cCons (h : D → Sl → Option Sl) (hs : List D → Sl → Option Sl) : List D → Sl → Option Sl := fun ds ρ => match ds with
  | d :: r => (h d ρ).bind (hs r)
  | [] => none
theorem tgcs_nil {K : PySem.W.Frag} {vs : List Nat} : TgCs K vs gNil cNil := by
  intro A W σ ρ d v k ρ1 ok sl r e q
  cases d with
  | nil =>
    cases e
    exact ⟨r.inv0, q σ sl rfl⟩
  | cons => cases e
theorem tgcs_cons {K : PySem.W.Frag} {vs : List Nat} {g : TG} {gs : TGs} {h : D → Sl → Option Sl} {hs : List D → Sl → Option Sl} (h1 : TgC K vs g h) (h2 : TgCs K vs gs hs) : TgCs K vs (gCons g gs) (cCons h hs) := by
  intro A W σ ρ d v k ρ1 ok sl r e q
  cases d with
  | nil => cases e
  | cons d dr =>
    obtain ⟨u, vr, rfl, r1, r2⟩ := r.inv
    refine ⟨u, vr, rfl, ?_⟩
    cases e1 : h d ρ with
    | none =>
      simp only [cCons, e1] at e
      cases e
    | some ρ2 =>
      simp only [cCons, e1] at e
      exact h1 A W σ ρ d u _ ρ2 ok sl r1 e1 fun σ2 s2 w2 => h2 A W σ2 ρ2 dr vr k ρ1 ok s2 r2 e fun σ3 s3 w3 => q σ3 s3 (w3.trans w2)
def cTup (n : Nat) (hs : List D → Sl → Option Sl) : D → Sl → Option Sl := fun d ρ => match d with
  | .tup ds => if ds.length = n then hs ds ρ else none
  | _ => none
theorem tgc_tup {K : PySem.W.Frag} {vs : List Nat} {n : Nat} {gs : TGs} {hs : List D → Sl → Option Sl} (h : TgCs K vs gs hs) : TgC K vs (gTup K n gs) (cTup n hs) := by
  intro A W σ ρ d v k ρ1 ok sl r e q
  cases d with
  | tup ds =>
    simp only [cTup] at e
    split at e
    · rename_i hl
      simp only [Rep] at r
      obtain ⟨a, us, rfl, s, r2⟩ := r
      exact ⟨a, us, rfl, s, by rw [r2.length]; exact hl, h A W σ ρ ds us k ρ1 ok sl r2 e q⟩
    · cases e
  | _ => cases e
/-- a clause's tests -/
def DTs (X : Cx) (A : Amb) (ifs : List Expr) (f : Sl → Mm → Res Bool) : Prop := ∀ Wx, L2N.Takes X Wx → PTs X ifs (tDT X.K A Wx f)
def dYes : Sl → Mm → Res Bool := fun _ M => .ok true M
theorem dts_nil : DTs X A [] dYes := by
  intro Wx tk
  refine ⟨fun pins s σ H Q I h => pts_nil.run pins s σ H Q I ?_⟩
  obtain ⟨ρ, W, rfl, ok, sl, p⟩ := h
  exact p.here ok rfl rfl
theorem dts_one {c : Expr} {f : Sl → Mm → Res Bool} (h : DT X A c f) : DTs X A [c] f := fun Wx tk => pts_one (h Wx tk)
def lcL (ck : Ck) (h : D → Sl → Option Sl) (t : Sl → Mm → Res Bool) (f : Sl → Mm → Res D) (ρw : Sl) : List D → Mm → Res (List D)
  | [], M => .ok [] M
  | x :: xs, M => match h x ρw with
    | none => .stuck
    | some ρ1 => (t ρ1 M).bindN fun k M2 => if k = true then (f ρ1 M2).bindN fun y M3 => if sameL ck M3 = true then (lcL ck h t f ρw xs M3).bindN fun ys M4 => .ok (y :: ys) M4 else .stuck
      else if sameL ck M2 = true then lcL ck h t f ρw xs M2 else .stuck
def dLc (fi : Sl → Mm → Res Src) (h : D → Sl → Option Sl) (t : Sl → Mm → Res Bool) (f : Sl → Mm → Res D) (vs : List Nat) : Sl → Mm → Res D := fun ρ M => (fi ρ M).bind fun s M1 => (lcL s.1 h t f (wipeD ρ vs) s.2 M1).bindN fun ys M2 => newL ys M2
theorem Res.bindN_assoc {α β γ : Type} (r : Res α) (f : α → Mm → Res β) (g : β → Mm → Res γ) : (r.bindN f).bindN g = r.bindN fun a m => (f a m).bindN g := by
  cases r <;> rfl
theorem Ok.apart {K : PySem.W.Frag} {W : Wd} (h : Ok K A W) {p : Addr} (hp : W.H p = none) : p ≠ A.sa ∨ ScrK K A := by
  rcases h.scr with ⟨r, _⟩ | s
  · refine .inl fun z => ?_
    rw [← z] at r
    rcases r with r | ⟨o, r⟩ <;> (rw [hp] at r; cases r)
  · exact .inr s
theorem lc_imp {g : TG} {fi : Sl → Mm → Res Src} {h : D → Sl → Option Sl} {t : Sl → Mm → Res Bool} {f : Sl → Mm → Res D} {vs : List Nat} {Wx : WX} (hg : TgC X.K vs g h) {σ : L2.St} {H : Hp} {Q : VK} (q : tD X.K A Wx (dLc fi h t f vs) σ H Q) :
    tLc (tDI X.K A Wx fi) g (tDT X.K A wNo t) (tD X.K A wNo f) vs σ H Q := by
  obtain ⟨ρ, W, rfl, ok, sl, p⟩ := q
  refine ⟨ρ, W, rfl, ok, sl, Post.seq p fun s J W1 ok1 l1 r1 p1 => ?_⟩
  obtain ⟨ck, xs⟩ := s
  obtain ⟨io, ss⟩ := r1
  dsimp only at io ss p1
  intro D hD
  have ap := ok1.apart hD
  obtain ⟨okA, lA, hA⟩ := ok1.hide hD (.lst [])
  have slw := (sl.le l1 ok).wipe vs
  -- W2: where we are; ds, us: what is made so far
  refine ⟨fun i m H2 => m = xs.length - i ∧ i ≤ xs.length ∧ ∃ W2 ds us, W2.H = H2 ∧ Ok X.K A W2 ∧ Keep X.K W1 W2 ∧ ItOk X.K A W2 J ck xs ∧ Hid W2 D (.lst us) ∧ W1.H D = none ∧ (∀ b, Fre W2.H b → Fre W1.H b) ∧ (∀ i, W1.M.length ≤ i → i < W2.M.length → Fre W1.H (W2.al i)) ∧ (∀ b o, W1.H b = some o → (∀ i, i < W1.M.length → W1.al i ≠ b) → (∀ ps, o ≠ .tbl ps) → W2.H b = some o) ∧ Reps X.K W2 ds us ∧ sameL ck W2.M = true ∧
      Post X.K A Wx (Rep X.K) σ W1 Q ((lcL ck h t f (wipeD ρ vs) (xs.drop i) W2.M).bindN fun ys M2 => newL (ds ++ ys) M2), ⟨xs.length, by simp, Nat.zero_le _, _, [], [], rfl, okA, lA.keep ok1, fun W3 i o3 l3 h3 => io W3 i o3 ((lA.keep ok1).trans l3) h3, hA, hD, lA.dom, lA.nw, lA.fr, Reps.nil, ss, by simpa using p1⟩, ?_⟩
  rintro i m H2 ⟨rfl, hi, W2, ds, us, rfl, ok2, k2, io2, hid2, nD, dom2, nw2, fr2, rs2, ss2, p2⟩
  have slw2 : Slots X.K W2 (L2.wipe σ vs) (wipeD ρ vs) := ⟨slw.1, fun j d e => let ⟨v, h1, h2⟩ := slw.2 j d e; ⟨v, h1, Rep.keep k2 d v h2⟩⟩
  -- W2 comes behind W1 but for D
  have LE : ∀ W4, Le W2 W4 → Le W1 W4 := fun W4 l => by
    refine ⟨Nat.le_trans k2.len l.len, fun j hj => ?_, fun b o e n tb => ?_, fun b e => dom2 b (l.dom b e), fun j h1 h2 => ?_⟩
    · rw [l.al j (Nat.lt_of_lt_of_le hj k2.len), k2.al j hj]
    · refine l.fr b o (fr2 b o e n tb) (fun j hj z => ?_) tb
      by_cases hlt : j < W1.M.length
      · rw [k2.al j hlt] at z; exact n j hlt z
      · have q := nw2 j (by omega) hj
        rw [z] at q
        obtain ⟨ps, y⟩ := q o e
        exact tb ps y
    · by_cases hlt : j < W2.M.length
      · rw [l.al j hlt]; exact nw2 j h1 hlt
      · exact dom2 _ (l.nw j (by omega) h2)
  by_cases hlt : i < xs.length
  · right
    obtain ⟨go, yl⟩ := (io2 W2 i ok2 (Keep.rfl' _) ss2).1 xs[i] (List.getElem?_eq_getElem hlt)
    refine ⟨go, fun H' => ∃ W5 ds us, W5.H = H' ∧ Ok X.K A W5 ∧ Keep X.K W1 W5 ∧ ItOk X.K A W5 J ck xs ∧ Hid W5 D (.lst us) ∧ W1.H D = none ∧ (∀ b, Fre W5.H b → Fre W1.H b) ∧ (∀ i, W1.M.length ≤ i → i < W5.M.length → Fre W1.H (W5.al i)) ∧ (∀ b o, W1.H b = some o → (∀ i, i < W1.M.length → W1.al i ≠ b) → (∀ ps, o ≠ .tbl ps) → W5.H b = some o) ∧ Reps X.K W5 ds us ∧ sameL ck W5.M = true ∧
      Post X.K A Wx (Rep X.K) σ W1 Q ((lcL ck h t f (wipeD ρ vs) (xs.drop (i + 1)) W5.M).bindN fun ys M2 => newL (ds ++ ys) M2), fun H' n => ⟨xs.length - (i + 1), by omega, rfl, hlt, n⟩, fun x H' y => ?_⟩
    obtain ⟨W3, rfl, ok3, l3, em, rx⟩ := yl x H' y
    have dr : xs.drop i = xs[i] :: xs.drop (i + 1) := List.drop_eq_getElem_cons hlt
    rw [dr, ← em] at p2
    simp only [lcL] at p2
    have slw3 := slw2.le l3 ok2
    have hid3 := hid2.le l3 (fun _ z => nomatch z)
    cases hq : h xs[i] (wipeD ρ vs) with
    | none => rw [hq] at p2; exact p2.elim
    | some ρ1 =>
      rw [hq] at p2
      dsimp only at p2
      refine hg A W3 _ _ _ x _ ρ1 ok3 slw3 rx hq fun σ2 s2 w2 => ⟨by rw [w2, wipe_wipe], ρ1, W3, rfl, ok3, s2, ?_⟩
      rw [Res.bindN_assoc] at p2
      have p3 := Post.le p2 (LE W3 l3)
      cases qt : t ρ1 W3.M with
      | exc c m => rw [qt] at p3; exact p3.elim
      | stuck => rw [qt] at p3; exact p3.elim
      | ok kk m3 =>
        rw [qt, Res.bindN_ok] at p3
        intro b W4 ok4 l4 em4 eb
        subst eb
        rw [← em4] at p3
        have s4 := s2.le l4 ok3
        have hid4 := hid3.le l4 (fun _ z => nomatch z)
        have l24 := l3.trans l4
        cases kk with
        | false =>
          rw [if_neg (by decide)] at p3
          refine iteF ?_
          split at p3
          · rename_i hs4
            refine ⟨W4, ds, us, rfl, ok4, (LE W4 l24).keep ok1, fun W6 j o6 l6 h6 => io2 W6 j o6 ((l24.keep ok2).trans l6) h6, hid4, nD, (LE W4 l24).dom, (LE W4 l24).nw, (LE W4 l24).fr, rs2.le l24 ok2, hs4, ?_⟩
            exact (show Post X.K A Wx (Rep X.K) σ W1 Q _ from by
              rw [qt, Res.bindN_ok, if_neg (by decide), ← em4, if_pos hs4] at p2
              exact p2)
          · exact p3.elim
        | true =>
          rw [if_pos rfl] at p3
          refine iteT ⟨ρ1, W4, rfl, ok4, s4, ?_⟩
          cases qf : f ρ1 W4.M with
          | exc c m => rw [qf] at p3; exact p3.elim
          | stuck => rw [qf] at p3; exact p3.elim
          | ok yd m4 =>
            intro v W5 ok5 l5 em5 rv
            have l25 := l24.trans l5
            have hid5 := hid4.le l5 (fun _ z => nomatch z)
            have p5 := p2
            rw [qt, Res.bindN_ok, if_pos rfl, ← em4, qf, Res.bindN_ok, ← em5] at p5
            split at p5
            · rename_i hs5
              rw [Res.bindN_assoc] at p5
              simp only [Res.bindN_ok] at p5
              obtain ⟨ok6, hid6, k6⟩ := ok5.hidSet (ys := us ++ [v]) hid5 ap
              have rs5 := rs2.le l25 ok2
              have lt : us.length < sizeLine := by
                rw [rs2.length]
                cases ql : lcL ck h t f (wipeD ρ vs) (xs.drop (i + 1)) W5.M with
                | ok ys M =>
                  rw [ql, Res.bindN_ok] at p5
                  unfold newL at p5
                  split at p5
                  · rename_i hl
                    simp only [List.length_append, List.length_cons] at hl
                    omega
                  · exact p5.elim
                | exc c M => rw [ql] at p5; exact p5.elim
                | stuck => rw [ql] at p5; exact p5.elim
              refine ⟨us, hid5.1, lt, ⟨W5.al, upd W5.H D (.lst (us ++ [v])), W5.M⟩, ds ++ [yd], us ++ [v], rfl, ok6, ((LE W5 l25).keep ok1).trans k6, fun W7 j o7 l7 h7 => io2 W7 j o7 (((l25.keep ok2).trans k6).trans l7) h7, hid6, nD, fun b e => ?_, (LE W5 l25).nw, fun b o e n tb => ?_, Reps.keep k6 _ _ (rs5.append (Reps.cons rv Reps.nil)), hs5, ?_⟩
              · by_cases hb : b = D
                · rw [hb]; exact .none nD
                · exact (LE W5 l25).dom b fun o q => e o (by show upd W5.H D (.lst (us ++ [v])) b = some o; rw [upd_ne hb]; exact q)
              · show upd W5.H D (.lst (us ++ [v])) b = some o
                rw [upd_ne (fun z => by rw [z, nD] at e; cases e)]
                exact (LE W5 l25).fr b o e n tb
              · simpa only [List.append_assoc, List.singleton_append] using p5
            · exact p5.elim
  · left
    have e : i = xs.length := by omega
    subst e
    refine ⟨(io2 W2 _ ok2 (Keep.rfl' _) ss2).2 rfl, ?_⟩
    rw [List.drop_length] at p2
    simp only [lcL, Res.bindN_ok, List.append_nil] at p2
    unfold newL at p2
    split at p2
    · obtain ⟨ok7, r7, H7, M7, al7, al8, len7⟩ := ok2.own hid2 rs2 ap
      have z := p2 (.ref D) (addO W2 D W2.H (.lst ds)) ok7 ⟨by rw [len7]; have := k2.len; omega, fun j hj => by rw [al7 j (Nat.lt_of_lt_of_le hj k2.len), k2.al j hj], fun b o e n tb => fr2 b o e n tb, fun b e => dom2 b e, fun j h1 h2 => by
        by_cases hj : j < W2.M.length
        · rw [al7 j hj]; exact nw2 j h1 hj
        · have : j = W2.M.length := by omega
          rw [this, al8]; exact .none nD⟩ rfl r7
      exact z
    · exact p2.elim
/-- [f for h in fi if t] -/
theorem de_lc {elt iter : Expr} {ifs : List Expr} {scope : Scope} {own : List (Str × Nat)} {g : TG} {fi : Sl → Mm → Res Src} {h : D → Sl → Option Sl} {t : Sl → Mm → Res Bool} (hc : X.calm = true) (hN : X.N.Nodup) (hi : DI X A tg iter fi) (ok : BlkOk X.N X.env.scope scope own)
    (hg : ∀ (s : Shared) (H : Hp) (C : Addr) (cl : List (Str × Addr)) (fp : List Addr), PG (X.blk s H scope (compEnvC scope cl C X.env) fp) tg g) (hh : TgC X.K (own.map (·.2)) g h)
    (ht : ∀ (s : Shared) (H : Hp) (C : Addr) (cl : List (Str × Addr)) (fp : List Addr), DTs (X.blk s H scope (compEnvC scope cl C X.env) fp) A ifs t)
    (he : ∀ (s : Shared) (H : Hp) (C : Addr) (cl : List (Str × Addr)) (fp : List Addr), DE (X.blk s H scope (compEnvC scope cl C X.env) fp) A elt f) (hs : ∀ x, foldedSetIterable iter X.env x = pure x := by intro _; rfl) :
    DE X A (.ListComp elt [⟨tg, iter, ifs, 0⟩] scope pos) (dLc fi h t f (own.map (·.2))) := by
  intro Wx tk
  exact PE.imp (pe_lc (tt := tDT X.K A wNo t) (te := tD X.K A wNo f) hc hN (hi Wx tk) ok hg (fun s H C cl fp => ht s H C cl fp wNo takes_no) (fun s H C cl fp => he s H C cl fp wNo takes_no) hs) fun σ H Q q => lc_imp hh q
theorem ds_setLc {i : Nat} {y : Str} {py : Pos} {elt iter : Expr} {ifs : List Expr} {scope : Scope} {own : List (Str × Nat)} {spos : Pos} {g : TG} {fi : Sl → Mm → Res Src} {h : D → Sl → Option Sl} {t : Sl → Mm → Res Bool} (hc : X.calm = true) (hN : X.N.Nodup) (hy : X.N[i]? = some y) (hyl : X.env.scope.names.lookup y = some .local)
    (hsw : swapsWith (.ListComp elt [⟨tg, iter, ifs, 0⟩] scope pos) (some (.Name y py)) spos.line X.env = pure true) (hi : DI X A tg iter fi) (ok : BlkOk X.N X.env.scope scope own)
    (hg : ∀ (s : Shared) (H : Hp) (C : Addr) (cl : List (Str × Addr)) (fp : List Addr), PG (X.blk s H scope (compEnvC scope cl C X.env) fp) tg g) (hh : TgC X.K (own.map (·.2)) g h)
    (ht : ∀ (s : Shared) (H : Hp) (C : Addr) (cl : List (Str × Addr)) (fp : List Addr), DTs (X.blk s H scope (compEnvC scope cl C X.env) fp) A ifs t)
    (he : ∀ (s : Shared) (H : Hp) (C : Addr) (cl : List (Str × Addr)) (fp : List Addr), DE (X.blk s H scope (compEnvC scope cl C X.env) fp) A elt f) (hs : ∀ x, foldedSetIterable iter X.env x = pure x := by intro _; rfl) :
    DS X A (.Assign [.Name y py] (.ListComp elt [⟨tg, iter, ifs, 0⟩] scope pos) spos) (gAsg (dLc fi h t f (own.map (·.2))) (hName i)) := by
  intro Wx tk
  refine PS.imp (ps_setLc (tt := tDT X.K A wNo t) (te := tD X.K A wNo f) hc hN hy hyl hsw (hi Wx tk) ok hg (fun s H C cl fp => ht s H C cl fp wNo takes_no) (fun s H C cl fp => he s H C cl fp wNo takes_no) hs) fun E σ H q => ?_
  obtain ⟨ρ, W, rfl, ok0, sl, p⟩ := q
  show tLc (tDI X.K A Wx fi) g (tDT X.K A wNo t) (tD X.K A wNo f) (own.map (·.2)) σ W.H (fun x H1 => gName i x σ H1 E.nx)
  exact lc_imp (Wx := Wx) hh ⟨ρ, W, rfl, ok0, sl, PostS.eb ok0 sl p fun d v W1 ok1 l1 r1 p1 => p1 (σ.set i (some v)) W1 ok1 (Le.rfl' _) rfl ((sl.le l1 ok0).set r1 i)⟩
end
end Ny


set_option Elab.async false
set_option linter.all false
set_option maxRecDepth 10000
set_option maxHeartbeats 1000000
/-! NyDef: defs and their calls. -/
namespace Ny
open PySem PySem.Spec PyProof.Rows L2
/-- what a def makes of its arguments -/
abbrev Den := List D → Mm → Res D
def startD (N : List Str) (ds : List D) : Sl := ds.map some ++ List.replicate (N.length - ds.length) none
theorem slots_start {K : PySem.W.Frag} {W : Wd} {ds : List D} {vs : List V} (r : Reps K W ds vs) (N : List Str) : Slots K W (L2.start N vs) (startD N ds) := by
  have hl := r.length
  refine ⟨?_, fun i d e => ?_⟩
  · unfold L2.start startD
    rw [List.length_append, List.length_append, List.length_map, List.length_map, List.length_replicate, List.length_replicate, hl]
  · unfold startD at e
    by_cases hi : i < ds.length
    · rw [List.getElem?_append_left (by rw [List.length_map]; exact hi), List.getElem?_map] at e
      cases q : ds[i]? with
      | none => rw [q] at e; cases e
      | some d' =>
        rw [q] at e
        cases e
        obtain ⟨v, hv, rv⟩ := r.get q
        refine ⟨v, ?_, rv⟩
        unfold L2.start
        rw [List.getElem?_append_left (by rw [List.length_map, hl]; exact hi), List.getElem?_map, hv] <;> rfl
    · rw [List.getElem?_append_right (by rw [List.length_map]; omega)] at e
      rw [List.getElem?_replicate] at e
      split at e <;> cases e
/-- what such a def promises -/
def spD (K : PySem.W.Frag) (A : Amb) (den : Den) : Sp := fun vs H Q E => ∃ ds W, W.H = H ∧ Ok K A W ∧ Reps K W ds vs ∧ Post K A (fun cls d _ H => E cls d H) (Rep K) [] W Q (den ds W.M)
def endD (r : RS) : Res D := match r with
  | .ok .nx _ M1 => .ok .non M1
  | .ok (.rt d) _ M1 => .ok d M1
  | .exc c _ M1 => .exc c M1
  | _ => .stuck
def bodyD (N : List Str) (n : Nat) (g : Sl → Mm → RS) : Den := fun ds M => if ds.length = n then endD (g (startD N ds) M) else .stuck
theorem spD_len {K : PySem.W.Frag} {A : Amb} {N : List Str} {n : Nat} {g : Sl → Mm → RS} {vs : List V} {H : Hp} {Q : VK} {E : XK} (h : spD K A (bodyD N n g) vs H Q E) : vs.length = n := by
  obtain ⟨ds, W, _, _, r, p⟩ := h
  unfold bodyD at p
  split at p
  · rw [r.length]; assumption
  · exact p.elim
section
variable {P : Program} {w : World} {K : PySem.W.Frag} {mg : Str → Option Value} {base : Heap} {x qual : Str} {params : Arguments} {body : List Stmt} {scope : Scope} {dvs : List V} {kws : List (Str × V)} {f : Addr} {fd : FuncData} {A : Amb}
theorem post_end {Q : VK} {E : XK} {W : Wd} {r : RS} (p : Post K A (fun cls d _ H => E cls d H) (Rep K) [] W Q (endD r)) : PostS K A (fun cls d _ H => E cls d H) W { nx := fun _ H' => Q .non H', rt := Q } r := by
  cases r with
  | ok o ρ m =>
    cases o with
    | nx => exact fun σ' W' ok l e _ => p .non W' ok l e (by simp only [Rep])
    | rt d => exact fun v W' ok l e r => p v W' ok l e r
    | bk => exact p.elim
    | ct => exact p.elim
  | exc c ρ m => exact fun dd σ' W' ok l e _ z => p dd W' ok l e z
  | stuck => exact p.elim
/-- a def is worth what its body is worth -/
theorem def_ok {N ps : List Str} {k : Nat} {g : Sl → Mm → RS} (F : FunD K x qual params body scope dvs kws f fd) (S : FnScope N ps scope)
    (hb : ∀ (cdv : Value) (A0 : Around) (outer : List Env) (s : Shared) (H : Hp) (E : XK), Room k (A0.deeper (envOfC qual scope s.heap.objs.size f cdv)) → DSs (cxOf (L2N.CX P w) P w K mg base N qual scope f cdv A0 outer s H E) A body g) :
    FnOk P w K mg base (L2N.CX P w) (k + 1) f fd ps (spD K A (bodyD N ps.length g)) := by
  refine F.ok S (fun vs H Q E h => spD_len h) fun cdv A0 outer s H vs Q E hr h => ?_
  have hl := spD_len h
  refine ⟨tDS K A (fun cls d _ H => E cls d H) g, hb cdv A0 outer s H E hr _ (L2N.takes_of rfl rfl rfl rfl), ?_⟩
  obtain ⟨ds, W, rfl, ok, r, p⟩ := h
  unfold bodyD at p
  rw [if_pos (by rw [← r.length]; exact hl)] at p
  exact ⟨startD N ds, W, rfl, ok, slots_start r N, post_end p⟩
end
section
variable {X : Cx} {A : Amb} {fs : Sl → Mm → Res (List D)} {pos : Pos}
def dDef (den : Den) (fs : Sl → Mm → Res (List D)) : Sl → Mm → Res D := fun ρ M => (fs ρ M).bind den
theorem post_call {K : PySem.W.Frag} {Wx : WX} {σ : L2.St} {W : Wd} {Q : VK} {r : Res D} (p : Post K A Wx (Rep K) σ W Q r) : Post K A (fun cls d _ H => L2.WE Wx σ cls d H) (Rep K) [] W Q r := by
  cases r with
  | ok a m => exact p
  | exc c m => exact p
  | stuck => exact p
theorem de_call {k : Nat} {f : Addr} {fd : FuncData} {ps : List Str} {den : Den} {x : Str} {e : Expr} {es : List Expr} {p : Pos} (F : FnOk X.prog X.w X.K X.mg X.base (L2N.CX X.prog X.w) k f fd ps (spD X.K A den)) (hr : Room k X.A) (hg : Gl X x) (hm : X.mg x = some (.ref f)) (hk : PySem.W.keepIn X.K (.ref f) = true)
    (hb : Binds X.K fd ps []) (ha : DA X A (e :: es) fs) (hdb : (x == ("__debug__" : Str)) = false := by decide) (he : starEach (e :: es) X.env = (false, eval e X.env) :: starEach es X.env := by rfl) (hpl : (backTo pos (starEach es X.env)).any (·.1) = false := by rfl) :
    DE X A (.Call (.Name x p) (e :: es) [] pos) (dDef den fs) := by
  intro Wx tk
  refine PE.imp (pe_callS F hr hg hm hk hb (fun σ => L2N.passAt tk σ) (ha Wx tk) hdb he hpl) fun σ H Q q => ?_
  obtain ⟨ρ, W, rfl, ok, sl, p⟩ := q
  refine ⟨ρ, W, rfl, ok, sl, Post.seq p fun ds vs W1 ok1 l1 r1 p1 => ?_⟩
  exact ⟨ds, W1, rfl, ok1, r1, post_call p1⟩
end
end Ny


set_option Elab.async false
set_option linter.all false
set_option maxRecDepth 10000
set_option maxHeartbeats 1000000
/-! NyObj: instances of the text's own classes. -/
namespace Ny
open PySem PySem.Spec PyProof.Rows L2
/-! ### attributes -/
def getF (C : Addr) (f : Str) (d : D) (M : Mm) : Res D := match d with
  | .ref n => match M[n]? with
    | some (.ins C' fs) => if C' = C then match fs.lookup f with
      | some d => .ok d M
      | none => .stuck
      else .stuck
    | _ => .stuck
  | _ => .stuck
def putD (f : Str) (d : D) : List (Str × D) → List (Str × D)
  | [] => [(f, d)]
  | (g, x) :: r => if g = f then (g, d) :: r else (g, x) :: putD f d r
section
variable {K : PySem.W.Frag} {W : Wd}
theorem flds_lookup {f : Str} {d : D} : ∀ {fs : List (Str × D)} {gs : List (Str × V)}, gs.map (·.1) = fs.map (·.1) → Reps K W (fs.map (·.2)) (gs.map (·.2)) → fs.lookup f = some d → ∃ v, gs.lookup f = some v ∧ Rep K W d v
  | [], gs, _, _, h => by simp [List.lookup] at h
  | (g, x) :: fs, [], e, _, _ => by simp at e
  | (g, x) :: fs, (g', y) :: gs, e, r, h => by
    simp only [List.map_cons, List.cons.injEq] at e
    obtain ⟨rfl, e⟩ := e
    obtain ⟨v, vr, ev, r1, r2⟩ := Reps.inv r
    simp only [List.map_cons, List.cons.injEq] at ev
    obtain ⟨rfl, rfl⟩ := ev
    by_cases hg : f = g'
    · subst hg
      simp only [List.lookup, beq_self_eq_true, Option.some.injEq] at h ⊢
      subst h
      exact ⟨_, rfl, r1⟩
    · have hb : (f == g') = false := by simpa using hg
      simp only [List.lookup, hb] at h ⊢
      exact flds_lookup e r2 h
theorem flds_put {f : Str} {d : D} {v : V} (rv : Rep K W d v) : ∀ {fs : List (Str × D)} {gs : List (Str × V)}, gs.map (·.1) = fs.map (·.1) → Reps K W (fs.map (·.2)) (gs.map (·.2)) →
    (putF f v gs).map (·.1) = (putD f d fs).map (·.1) ∧ Reps K W ((putD f d fs).map (·.2)) ((putF f v gs).map (·.2))
  | [], [], _, _ => ⟨rfl, Reps.cons rv Reps.nil⟩
  | [], _ :: _, e, _ => by simp at e
  | _ :: _, [], e, _ => by simp at e
  | (g, x) :: fs, (g', y) :: gs, e, r => by
    simp only [List.map_cons, List.cons.injEq] at e
    obtain ⟨rfl, e⟩ := e
    obtain ⟨w, wr, ev, r1, r2⟩ := Reps.inv r
    simp only [List.map_cons, List.cons.injEq] at ev
    obtain ⟨rfl, rfl⟩ := ev
    unfold putF putD
    by_cases hg : g' = f
    · rw [if_pos hg, if_pos hg]
      exact ⟨by simp [e], Reps.cons rv r2⟩
    · rw [if_neg hg, if_neg hg]
      obtain ⟨h1, h2⟩ := flds_put rv e r2
      exact ⟨by simp [h1], Reps.cons r1 h2⟩
end
section
variable {X : Cx} {A : Amb} {e o value : Expr} {fe fo fv : Sl → Mm → Res D} {f : Str} {pos pos' : Pos} {C : Addr}
def dFld (C : Addr) (f : Str) (fe : Sl → Mm → Res D) : Sl → Mm → Res D := fun ρ M => (fe ρ M).bind (getF C f)
theorem de_fld (c : Cls X.K C) (n : NoAttr X.K C f) (he : DE X A e fe) (hb : attributeBase e f X.env (eval e X.env) = eval e X.env := by rfl) : DE X A (.Attribute e f pos) (dFld C f fe) := by
  intro Wx tk
  refine PE.imp (pe_fld (he Wx tk) hb) fun σ H Q q => ?_
  obtain ⟨ρ, W, rfl, ok, sl, p⟩ := q
  refine ⟨ρ, W, rfl, ok, sl, Post.seq p fun d v W1 ok1 l1 r1 p1 => ?_⟩
  unfold getF at p1
  split at p1
  · rename_i k
    split at p1
    · rename_i C' fs em
      split at p1
      · rename_i hC
        subst hC
        split at p1
        · rename_i d' el
          simp only [Rep] at r1
          obtain ⟨hk, rfl⟩ := r1
          obtain ⟨dx, gs, h1, h2, h3⟩ := ok1.obj k _ em
          obtain ⟨u, hu, ru⟩ := flds_lookup h2 h3 el
          exact ⟨_, C', dx, gs, u, rfl, h1, c, n, hu, p1.here ok1 rfl ru⟩
        · exact p1.elim
      · exact p1.elim
    · exact p1.elim
  · exact p1.elim
/-- o.f = value -/
def gFld (C : Addr) (f : Str) (fo fv : Sl → Mm → Res D) : Sl → Mm → RS := fun ρ M => eb (fv ρ M) ρ fun d M1 => eb (fo ρ M1) ρ fun x M2 => match x with
  | .ref n => match M2[n]? with
    | some (.ins C' fs) => if C' = C ∧ fs.length < 1000 then .ok .nx ρ (M2.set n (.ins C (putD f d fs))) else .stuck
    | _ => .stuck
  | _ => .stuck
theorem ds_fld (c : Cls X.K C) (n : NoAttr X.K C f) (ho : DE X A o fo) (hv : DE X A value fv) (hs : swapsWith value (some (.Attribute o f pos')) pos.line X.env = pure false := by rfl) : DS X A (.Assign [.Attribute o f pos'] value pos) (gFld C f fo fv) := by
  intro Wx tk
  refine PS.imp (ps_fld (ho Wx tk) (hv Wx tk) hs) fun E σ H q => ?_
  obtain ⟨ρ, W, rfl, ok, sl, p⟩ := q
  refine ⟨ρ, W, rfl, ok, sl, PostS.eb ok sl p fun d v W1 ok1 l1 r1 p1 => ?_⟩
  have sl1 := sl.le l1 ok
  refine ⟨ρ, W1, rfl, ok1, sl1, PostS.eb ok1 sl1 p1 fun x u W2 ok2 l2 r2 p2 => ?_⟩
  split at p2
  · rename_i k
    split at p2
    · rename_i C' fs em
      split at p2
      · rename_i hC
        obtain ⟨rfl, hl⟩ := hC
        simp only [Rep] at r2
        obtain ⟨hk, rfl⟩ := r2
        obtain ⟨dx, gs, h1, h2, h3⟩ := ok2.obj k _ em
        have hgl : gs.length < 1000 := by
          have z := congrArg List.length h2
          rw [List.length_map, List.length_map] at z
          omega
        obtain ⟨q1, q2⟩ := flds_put (f := f) (r1.le l2 ok1) h2 h3
        obtain ⟨ok3, l3⟩ := ok2.setObj (n := k) (o := .ins C' dx (putF f v gs)) (mo := .ins C' (putD f d fs)) hk (.inr ⟨_, _, _, rfl⟩) fun le => ⟨dx, _, upd_same, q1, q2.le le ok2⟩
        exact ⟨_, C', dx, gs, rfl, h1, c, n, hgl, p2 σ _ ok3 l3 rfl ((sl1.le l2 ok1).le l3 ok2)⟩
      · exact p2.elim
    · exact p2.elim
  · exact p2.elim
/-! ### instances are made -/
theorem run_makeS {CX : CXT} {k : Nat} {g : Addr} {fd : FuncData} {ps : List Str} {sp : Sp} {E : L2.St → XK} {pins : List (Addr × Obj)} {σ : L2.St} {H : Hp} {s : Shared} {Q : VK} {us : List Value} {vs : List V} (M : Mk X.K C g) (F : FnOk X.prog X.w X.K X.mg X.base CX k g fd ps sp) (hr : Room (k + 1) X.A)
    (hb : Binds X.K fd ps []) (hx : PassesAt CX X σ (E σ)) (I : Inv X pins σ H s) (r : Vals vs us) (h : ∀ x dx, H x = none → H dx = none → dx ≠ x → sp (.ref x :: vs) (upd (upd H dx (.own x)) x (.ins C dx [])) (fun v H2 => v = .non ∧ Q (.ref x) H2) (E σ)) :
    wpAny (model X.prog X.w) X.A (call (.ref C) us) (EP X pins σ Q) X.xe s := by
  have told := h (s.heap.objs.size + 1) s.heap.objs.size (I.hok.fresh (Nat.le_succ _)) (I.hok.fresh (Nat.le_refl _)) (Nat.ne_of_lt (Nat.lt_succ_self _))
  have J := Inv.made (C := C) I
  have rr : Vals (V.ref (s.heap.objs.size + 1) :: vs) (Value.ref (s.heap.objs.size + 1) :: us) := .cons rfl r
  have len : (Value.ref (s.heap.objs.size + 1) :: us).length = ps.length := by
    rw [← rr.length]
    exact F.len _ _ _ _ told
  have bnd := hb _ (Value.ref (s.heap.objs.size + 1) :: us) J.kIn (by rw [List.append_nil]; exact len)
  rw [List.append_nil] at bnd
  refine wpAny_call (make_map (f := g) I.kIn M.makes M.init (beq_iff_eq.mp M.fn) (codeAny_mono (F.run _ X.stack _ _ ⟨Value.ref (s.heap.objs.size + 1) :: us, []⟩ _ _ _ (E σ) (hr.make C us []) (J.env0.make C us []) bnd rr told) fun z s' hz => ?_))
  cases z with
  | error e => exact hx pins _ _ e s' J hz
  | ok fl =>
    cases fl with
    | ret u =>
      obtain ⟨v, H', J', rv, ev, qv⟩ := J.after hz
      subst ev
      exact ⟨rv, V.ref (s.heap.objs.size + 1), H', J', rfl, qv⟩
    | next => exact hz.elim
    | brk => exact hz.elim
    | cont => exact hz.elim
def tMakeS (C : Addr) (sp : Sp) (E : L2.St → XK) (t : TA) : TE := fun σ H Q => t σ H fun vs H1 => ∀ x dx, H1 x = none → H1 dx = none → dx ≠ x → sp (.ref x :: vs) (upd (upd H1 dx (.own x)) x (.ins C dx [])) (fun v H2 => v = .non ∧ Q (.ref x) H2) (E σ)
def dMake (C : Addr) (den : Den) (fs : Sl → Mm → Res (List D)) : Sl → Mm → Res D := fun ρ M => (fs ρ M).bind fun ds M1 => (den (.ref M1.length :: ds) (M1 ++ [.ins C []])).bind fun r M2 => match r with
  | .non => .ok (.ref M1.length) M2
  | _ => .stuck
theorem post_make {K : PySem.W.Frag} {W : Wd} {x dx : Addr} {ds : List D} {vs : List V} {den : Den} {Wx : WX} {σ : L2.St} {Q : VK} (ok : Ok K A W) (rs : Reps K W ds vs) (hx : W.H x = none) (hd : W.H dx = none) (hne : dx ≠ x)
    (p : Post K A Wx (Rep K) σ W Q ((den (.ref W.M.length :: ds) (W.M ++ [.ins C []])).bind fun r M2 => match r with
      | .non => .ok (.ref W.M.length) M2
      | _ => .stuck)) :
    spD K A den (.ref x :: vs) (upd (upd W.H dx (.own x)) x (.ins C dx [])) (fun v H2 => v = .non ∧ Q (.ref x) H2) (WE Wx σ) := by
  obtain ⟨ok2, l2, r2⟩ := ok.addObj (p := x) (H' := upd (upd W.H dx (.own x)) x (.ins C dx [])) (mo := .ins C []) hx (fun b o e => by
    rw [upd_ne (ne_of_none e hx), upd_ne (ne_of_none e hd)]
    exact e) fun _ => ⟨dx, [], upd_same, rfl, Reps.nil⟩
  have hM : (addO W x (upd (upd W.H dx (.own x)) x (.ins C dx [])) (.ins C [])).M = W.M ++ [.ins C []] := rfl
  refine ⟨_, _, rfl, ok2, Reps.cons r2 (rs.le l2 ok), ?_⟩
  rw [hM]
  have p2 := Post.le p l2
  cases q : den (.ref W.M.length :: ds) (W.M ++ [.ins C []]) with
  | ok a m =>
    rw [q, Res.bind_ok] at p2
    intro v W3 ok3 l3 em rv
    cases a with
    | non =>
      simp only [Rep] at rv
      subst rv
      exact ⟨rfl, p2 (.ref x) W3 ok3 l3 em (r2.le l3 ok2)⟩
    | _ => exact p2.elim
  | exc c m =>
    rw [q] at p2
    exact fun dd W3 ok3 l3 em z => p2 dd W3 ok3 l3 em z
  | stuck =>
    rw [q] at p2
    exact p2.elim
theorem de_make {k : Nat} {g : Addr} {fd : FuncData} {ps : List Str} {den : Den} {x : Str} {es : List Expr} {p : Pos} {fs : Sl → Mm → Res (List D)} (Mc : Mk X.K C g) (F : FnOk X.prog X.w X.K X.mg X.base (L2N.CX X.prog X.w) k g fd ps (spD X.K A den)) (hr : Room (k + 1) X.A) (hg : Gl X x) (hm : X.mg x = some (.ref C))
    (hb : Binds X.K fd ps []) (ha : DA X A (e :: es) fs) (hdb : (x == ("__debug__" : Str)) = false := by decide) (he : starEach (e :: es) X.env = (false, eval e X.env) :: starEach es X.env := by rfl) (hpl : (backTo pos (starEach es X.env)).any (·.1) = false := by rfl) :
    DE X A (.Call (.Name x p) (e :: es) [] pos) (dMake C den fs) := by
  intro Wx tk
  have pe : PE X (.Call (.Name x p) (e :: es) [] pos) (tMakeS C (spD X.K A den) (WE Wx) (tDA X.K A Wx fs)) := by
    refine ⟨fun pins s σ H Q I q => ?_⟩
    refine wpAny_Call_Name_kw (ld_glob I hg hm ?_ hdb)
    refine PySem.W.callWith_K (h₀ := X.base) I.ok.mod.kin Mc.kp (thn ((ha Wx tk).run pos pins s σ H _ I q) fun us s1 z => ?_) he hpl
    obtain ⟨vs, H1, I1, r, q1⟩ := z
    exact ⟨I1.kIn, run_makeS Mc F hr hb (L2N.passAt tk σ) I1 r q1⟩
  refine PE.imp pe fun σ H Q q => ?_
  obtain ⟨ρ, W, rfl, ok, sl, p⟩ := q
  refine ⟨ρ, W, rfl, ok, sl, Post.seq p fun ds vs W1 ok1 l1 r1 p1 => ?_⟩
  exact fun x dx hx hd hne => post_make ok1 r1 hx hd hne p1
end
end Ny


set_option Elab.async false
set_option linter.all false
set_option maxRecDepth 10000
set_option maxHeartbeats 1000000
/-! NyExc: own exceptions are raised. -/
namespace Ny
open PySem PySem.Spec PyProof.Rows L2
section
variable {X : Cx} {A : Amb} {C : Addr} {x : Str} {p pos pos' : Pos}
/-- an own exception class without own __init__, below ValueError -/
structure OwnX (K : PySem.W.Frag) (mg : Str → Option Value) (x : Str) (C : Addr) : Prop where
  gl : mg x = some (.ref C)
  ex : PySem.W.excIn K C [.type "ValueError", .type "Exception", .type "BaseException", .type "object"] "ValueError.__new__" = true
  kp : PySem.W.keepIn K (.ref C) = true
  sb : PySem.W.subIn K (.ref C) (.type "BaseException") = some true
  ty : PySem.W.typeIn K (.ref C) = some (.type "type")
theorem pmk_none (o : OwnX X.K X.mg x C) (hg : Gl X x) (hdb : (x == ("__debug__" : Str)) = false := by decide) : L2N.PMk X (.Call (.Name x p) [] [] pos) (fun _ H Q => Q (.ref C) none H) := by
  intro pins s σ H Q I h
  refine wpAny_Call_Name_kw (ld_glob I hg o.gl ?_ hdb)
  refine PySem.W.callWith_K0 I.kIn o.kp ?_
  obtain ⟨bm, N, nm, qn, bs, hdct, sn, sub, ab, col, dd, k0, k1, k2, k3, k5, mN, hC, hN, hni, T⟩ := exc_obj I.kIn o.ex
  exact wpAny_call_exc_subT F.excBase_ValueError T hC hN hni (fun h' e hm => L2N.mk_of I hm (raises_own o.sb o.ty) h (I.hok.gone hm.new)) (Nat.zero_le _)
def gRaise (C : Addr) : Sl → Mm → RS := fun ρ M => .exc C ρ M
theorem ds_raise (hc : X.calm = true) (hx : C ∉ A.xc) (o : OwnX X.K X.mg x C) (hg : Gl X x) (hdb : (x == ("__debug__" : Str)) = false := by decide) : DS X A (.Raise (some (.Call (.Name x p) [] [] pos)) none pos') (gRaise C) := by
  intro Wx tk
  refine PS.imp (L2N.ps_raise hc tk (pmk_none o hg hdb)) fun E σ H q => ?_
  obtain ⟨ρ, W, rfl, ok, sl, p⟩ := q
  exact p none σ W ok (Le.rfl' W) rfl sl (by unfold DdOk; rw [if_neg hx])
/-- {} -/
def dEmp : Sl → Mm → Res D := fun _ M => .ok (.ref M.length) (M ++ [.emp])
theorem de_emp : DE X A (.Dict [] [] pos) dEmp := by
  intro Wx tk
  refine PE.imp pe_dnewK fun σ H Q q => ?_
  obtain ⟨ρ, W, rfl, ok, sl, p⟩ := q
  intro a ha
  obtain ⟨ok2, l2, r2⟩ := ok.addObj (p := a) (H' := upd W.H a (.dK [])) (mo := .emp) ha (fun b o e => by rw [upd_ne (ne_of_none e ha)]; exact e) fun _ => upd_same
  exact p.there ok2 l2 rfl r2
end
end Ny


set_option Elab.async false
set_option linter.all false
set_option maxRecDepth 100000
set_option maxHeartbeats 2000000
/-! NyIter: enumerate over a tuple, a list. -/
namespace Ny
open PySem PySem.Spec PyProof.Rows L2
/-- enumerate(v): v by what its iterator begins with -/
theorem meets_enum {v : Value} {o : Obj} {Hh : Heap → Prop} (B : Begins v o Hh) :
    Meets (Builtin.«enumerate.__new__» ⟨[.type "enumerate", v], []⟩) (fun _ R s => Hh s.heap ∧ R (.ok (.ret (.ref (s.heap.push o).objs.size))) { s with heap := (s.heap.push o).push { cls := .type "enumerate", data := .fields #[.none, .bool false, .ref s.heap.objs.size, rawInt 0, .none, .none] } }) :=
  .of_wp fun prog w A R s q => by
    obtain ⟨hp, g, d, tk, os⟩ := s
    obtain ⟨q0, q⟩ := q
    have sub := sub_enumerate
    have it : ∀ {A' : Around} {E : Value → Shared → Prop} {Q : Value → Shared → Prop}, Q (.ref hp.objs.size) ⟨hp.push o, g, d, tk, os⟩ → wpAny (model prog w) A' (pyIter v) Q E ⟨hp, g, d, tk, os⟩ := fun z => B.iter prog w _ _ ⟨hp, g, d, tk, os⟩ _ q0 z
    wp_walk using it
    refine wpAny_stack_any fun st => wpAny_pure ?_
    split
    · rename_i c _ _ _ _ _
      cases (c == Value.type "enumerate") <;> (wp_walk using it) <;> exact ⟨_, rfl, q⟩
    · (wp_walk using it) <;> exact ⟨_, rfl, q⟩
theorem call_enum {prog : Program} {w : World} {A : Around} {E : Value → Shared → Prop} {s : Shared} {v : Value} {o : Obj} {Hh : Heap → Prop} {Q : Value → Shared → Prop} (B : Begins v o Hh) (h1 : Hh s.heap)
    (h : ∀ h', IsEnum h' (s.heap.objs.size + 1) s.heap.objs.size 0 .none → h'.get? s.heap.objs.size = some o → (∀ b u, s.heap.get? b = some u → h'.get? b = some u) → Q (.ref (s.heap.objs.size + 1)) { s with heap := h' }) :
    wpAny (model prog w) A (call (.type "enumerate") [v]) Q E s := by
  refine callType_new F.called_enumerate (by decide) (F.typeCall_enumerate_1 _) (F.newCall_enumerate_1 _) (fun obj => F.args_object_init_2 obj _) F.entry_enumerate_new (meets_enum B) ⟨h1, ?_⟩
  have hz : (s.heap.push o).objs.size = s.heap.objs.size + 1 := Heap.size_push ..
  show _ ∧ _
  rw [hz]
  have he : IsEnum ((s.heap.push o).push { cls := .type "enumerate", data := .fields #[.none, .bool false, .ref s.heap.objs.size, rawInt 0, .none, .none] }) (s.heap.objs.size + 1) s.heap.objs.size 0 .none := by
    have z := Heap.get?_push_size (s.heap.push o) (o := { cls := .type "enumerate", data := .fields #[.none, .bool false, .ref s.heap.objs.size, rawInt 0, .none, .none] }) rfl
    rw [hz] at z
    exact z
  exact ⟨⟨_, he, rfl⟩, h _ he (Heap.get?_push_of_some _ (Heap.get?_push_size _ B.free)) fun b u x => Heap.get?_push_of_some _ (Heap.get?_push_of_some _ x)⟩
/-- the tuple at a, each item in a new pair -/
def IteT (K : PySem.W.Frag) (a : Addr) : It :=
  ⟨fun i H => ∃ (xs : List V) (x : V), SqT K H a xs ∧ xs[i]? = some x, fun i H v H' => ∃ T x, v = .ref T ∧ H T = none ∧ H' = upd H T (.tup [.int (i : Nat), x]) ∧ ∀ xs, SqT K H a xs → xs[i]? = some x, fun i H => ∃ xs : List V, SqT K H a xs ∧ xs.length = i⟩
theorem turn_enumT {P : Program} {w : World} {K : PySem.W.Frag} {elts : List Expr} {kk : Nat} {tpos : Pos} (a e it : Addr) :
    Turn P w K (.Tuple elts kk tpos) (IteT K a) [e, it] e (fun i h => (∃ old, IsEnum h e it ((i : Nat) : Int) old) ∧ h.IsTupleIter it a i ∧ e ≠ it) where
  mem := by simp
  obj := fun i h st b hb => by
    obtain ⟨⟨old, he⟩, ⟨o, ho, hc, hd⟩, _⟩ := st
    rcases (show b = e ∨ b = it by simpa using hb) with z | z
    · rw [z]; exact ⟨_, he, fun v q => nomatch q⟩
    · rw [z]; exact ⟨o, ho, fun v q => by rw [hd] at q; cases q⟩
  keep := fun i h h' st k => let ⟨⟨old, he⟩, hi, hne⟩ := st; ⟨⟨old, k e (by simp) _ he⟩, hi.at fun o q => k it (by simp) o q, hne⟩
  item := by
    intro X hP hw hK hc i pins s σ H E I hf st hg
    subst hP hw hK
    obtain ⟨⟨old, he⟩, hit, hne⟩ := st
    obtain ⟨xs, x, hq, hx⟩ := hg
    obtain ⟨its, rv, p, hz⟩ := I.tuple hq
    obtain ⟨u, hu, ru⟩ := rv.get hx
    have hel : e < s.heap.objs.size := Heap.lt_size he
    have hil : it < s.heap.objs.size := by obtain ⟨_, q, _⟩ := hit; exact Heap.lt_size q
    have nit : a ≠ it := fun z => by
      obtain ⟨o, q, qc, qd⟩ := hit
      obtain ⟨o', r, rc, n, rd⟩ := p
      rw [z, q] at r
      cases r
      rw [qd] at rd
      cases rd
    have nea : e ≠ a := fun z => by
      obtain ⟨o', r, rc, n, rd⟩ := p
      have he' : s.heap.get? e = _ := he
      rw [z, r] at he'
      cases he'
      cases rd
    have hlt : i < its.toArray.size := by
      have z : i < its.length := (List.getElem?_eq_some_iff.mp hu).1
      simpa using z
    refine wpAny_pyNext_enum_itemD (Draws.tuple (A := X.A.in1) (show X.A.in1.handled = none from I.ok.hd hc) it a nit its.toArray) he ⟨hit, p⟩ hlt hne (by simp [hne, nea]) fun x' h' tk hP ho hst hT hsz hk => ?_
    have ex : x' = u := by
      have z : its.toArray[i]? = some x' := hP
      rw [List.getElem?_toArray, hu] at z
      exact (Option.some.inj z).symm
    subst ex
    refine ⟨_, rfl, wpAny_letOwnedTupleGo_enum (s := { s with heap := h', toks := tk + 1 }) ho fun h'' he' sb => ?_⟩
    have hT2 : h''.get? s.heap.objs.size = some { cls := .type "tuple", data := .seq #[.int i tk, x'] } := (sb.2 _ (Nat.ne_of_gt hel)).trans hT
    have new : ObjOk X.prog X.w (upd H s.heap.objs.size (.tup [.int (i : Nat), x])) h'' s.heap.objs.size (.tup [.int (i : Nat), x]) :=
      ⟨by show 2 ≤ sizeLine; decide, [.int i tk, x'], .cons ⟨_, rfl⟩ (.cons ru .nil), ⟨_, hT2, rfl, _, rfl⟩⟩
    have I1 : Inv X pins σ (upd H s.heap.objs.size (.tup [.int (i : Nat), x])) { s with heap := h'', toks := tk + 1 } :=
      I.turnedNew (ch := [e, it]) (fun b ob hb q => (sb.2 b (fun z => hb (by simp [z]))).trans (hk b ob (fun z => hb (by simp [z])) (fun z => hb (by simp [z])) q)) hf (Nat.le_refl _) new
    refine ⟨.ref s.heap.objs.size, _, I1, rfl, ⟨_, x, rfl, I.hok.fresh (Nat.le_refl _), rfl, fun ys hy => by rw [I.tuple_inj hy hq]; exact hx⟩, ⟨⟨x', ?_⟩, hst.1.at fun o q => (sb.2 it (Ne.symm hne)).trans q, hne⟩, fun b hb => ?_⟩
    · rw [show ((i + 1 : Nat) : Int) = (i : Int) + 1 by omega]
      exact he'
    · have hb' : b < s.heap.objs.size := by
        rcases (show b = e ∨ b = it by simpa using hb) with z | z
        · rw [z]; exact hel
        · rw [z]; exact hil
      rw [upd_ne (Nat.ne_of_lt hb')]
      exact (hf b hb).1
  done := by
    intro X hP hw hK hc i pins s σ H E I hf st hg
    subst hP hw hK
    obtain ⟨⟨old, he⟩, hit, hne⟩ := st
    obtain ⟨xs, hq, hx⟩ := hg
    obtain ⟨its, rv, p, hz⟩ := I.tuple hq
    obtain ⟨f0, f1, f2, f3, f4, f5⟩ := hf it (by simp)
    have nit : a ≠ it := fun z => by
      obtain ⟨o, q, qc, qd⟩ := hit
      obtain ⟨o', r, rc, n, rd⟩ := p
      rw [z, q] at r
      cases r
      rw [qd] at rd
      cases rd
    have hn : i = its.toArray.size := by rw [List.size_toArray, ← rv.length, hx]
    subst hn
    exact wpAny_pyNext_enum_endD (Draws.tuple (A := X.A.in1) (show X.A.in1.handled = none from I.ok.hd hc) it a nit its.toArray) he ⟨hit, p⟩ fun h' eb => ⟨rfl, I.turned (t' := s.toks) (fun b o hb q => eb b o hb q) f0 f1 f3 f4 f5⟩
  self := fun A i s Q E st h => let ⟨⟨_, he⟩, _⟩ := st; wpAny_pyIter_enum he h
def iEnumE (K : PySem.W.Frag) (ta : TA) : TI := fun σ H R => ta σ H fun vs H1 => ∃ a xs, vs = [.ref a] ∧ ((SqT K H1 a xs ∧ R (IteT K a) H1) ∨ (SqL K H1 a xs ∧ R (Ite K a) H1))
theorem pi_enumE {X : Cx} {e : Expr} {ta : TA} {p pos tpos : Pos} {elts : List Expr} {kk : Nat} (hg : Gl X "enumerate") (hm : X.mg "enumerate" = none) (ha : PA X [e] ta) (hs : starEach [e] X.env = [(false, eval e X.env)] := by rfl) :
    PI X (.Tuple elts kk tpos) (.Call (.Name "enumerate" p) [e] [] pos) (iEnumE X.K ta) := by
  refine ⟨fun pins s σ H R I h => ?_⟩
  refine Call_ (ld_blt I hg hm boot_enumerate (PyProof.Rows.callWith_type1 (thn (ha.run pos pins s σ H _ I h) fun us s1 z => ?_) hs rfl))
  obtain ⟨vs, H1, I1, r1, a, xs, ex, q⟩ := z
  subst ex
  cases r1 with
  | cons r rr =>
    cases rr
    cases r
    have above : ∀ b ∈ [s1.heap.objs.size + 1, s1.heap.objs.size], s1.heap.objs.size ≤ b := fun b hb => by
      rcases (show b = s1.heap.objs.size + 1 ∨ b = s1.heap.objs.size by simpa using hb) with z | z
      · rw [z]; exact Nat.le_add_right _ _
      · rw [z]; exact Nat.le_refl _
    rcases q with ⟨hq, q⟩ | ⟨hq, q⟩
    · obtain ⟨its, rv, p', hz⟩ := I1.tuple hq
      refine call_enum (begins_tuple a its.toArray) p' fun h' he hit hk => wpAny_pyIter_enum he ?_
      have I2 : Inv X pins σ H1 { s1 with heap := h' } := I1.kept (t' := s1.toks) hk
      exact ⟨s1.heap.objs.size + 1, [s1.heap.objs.size + 1, s1.heap.objs.size], _, _, H1, rfl, I2, turn_enumT a (s1.heap.objs.size + 1) s1.heap.objs.size, ⟨⟨.none, he⟩, ⟨_, hit, rfl, rfl⟩, Nat.succ_ne_self _⟩, fun b hb => I1.fpOk (above b hb) (I1.hok.fresh (above b hb)), q⟩
    · obtain ⟨its, rv, p', hz⟩ := I1.list hq
      refine call_enumerate_list p'.isList fun h' he hit hsz hk => wpAny_pyIter_enum he ?_
      have I2 : Inv X pins σ H1 { s1 with heap := h' } := I1.kept (t' := s1.toks) hk
      exact ⟨s1.heap.objs.size + 1, [s1.heap.objs.size + 1, s1.heap.objs.size], _, _, H1, rfl, I2, turn_enum a (s1.heap.objs.size + 1) s1.heap.objs.size, ⟨⟨.none, he⟩, hit, Nat.succ_ne_self _⟩, fun b hb => I1.fpOk (above b hb) (I1.hok.fresh (above b hb)), q⟩
/-! ### told of the layer -/
def numF : Nat → List D → List D
  | _, [] => []
  | k, d :: ds => .tup [.int (k : Nat), d] :: numF (k + 1) ds
theorem numF_get : ∀ {ds : List D} {k i : Nat} {x : D}, (numF k ds)[i]? = some x → ∃ d, ds[i]? = some d ∧ x = .tup [.int ((k + i : Nat) : Int), d]
  | [], _, _, _, h => by simp [numF] at h
  | d :: ds, k, 0, x, h => by
    simp only [numF, List.getElem?_cons_zero, Option.some.injEq] at h
    exact ⟨d, rfl, h.symm⟩
  | d :: ds, k, i + 1, x, h => by
    simp only [numF, List.getElem?_cons_succ] at h
    obtain ⟨e, h1, h2⟩ := numF_get h
    exact ⟨e, by simpa using h1, by rw [h2, show k + 1 + i = k + (i + 1) by omega]⟩
theorem numF_length : ∀ {ds : List D} {k : Nat}, (numF k ds).length = ds.length
  | [], _ => rfl
  | d :: ds, k => by simp [numF, numF_length]
def sEnum (fs : Sl → Mm → Res (List D)) : Sl → Mm → Res Src := fun ρ M => (fs ρ M).bind fun ds M1 => match ds with
  | [.tup ds] => .ok ([], numF 0 ds) M1
  | [.ref n] => match M1[n]? with
    | some (.lst ds) => .ok ([(n, ds)], numF 0 ds) M1
    | _ => .stuck
  | _ => .stuck
section
variable {X : Cx} {A : Amb}
theorem pair_new {K : PySem.W.Frag} {W : Wd} {T : Addr} {i : Nat} {d : D} {u : V} (ok : Ok K A W) (hT : W.H T = none) (ru : Rep K W d u) : ∃ W', W'.H = upd W.H T (.tup [.int (i : Nat), u]) ∧ Ok K A W' ∧ Le W W' ∧ W'.M = W.M ∧ Rep K W' (.tup [.int ((i : Nat) : Int), d]) (.ref T) := by
  have r : Reps K W [.int ((i : Nat) : Int), d] [.int (i : Nat), u] := Reps.cons (by simp only [Rep]) (Reps.cons ru Reps.nil)
  obtain ⟨ok2, l2, r2⟩ := ok.newTup hT r
  exact ⟨_, rfl, ok2, l2, rfl, r2⟩
theorem di_enum {e : Expr} {fs : Sl → Mm → Res (List D)} {p pos tpos : Pos} {elts : List Expr} {kk : Nat} (hg : Gl X "enumerate") (hm : X.mg "enumerate" = none) (ha : DA X A [e] fs) (hs : starEach [e] X.env = [(false, eval e X.env)] := by rfl) : DI X A (.Tuple elts kk tpos) (.Call (.Name "enumerate" p) [e] [] pos) (sEnum fs) := by
  intro Wx tk
  refine PI.imp (pi_enumE hg hm (ha Wx tk) hs) fun σ H R q => ?_
  obtain ⟨ρ, W, rfl, ok, sl, p⟩ := q
  refine ⟨ρ, W, rfl, ok, sl, Post.seq p fun ds vs W1 ok1 l1 r1 p1 => ?_⟩
  split at p1
  · rename_i ds
    obtain ⟨v, rfl, r2⟩ := r1.one
    simp only [Rep] at r2
    obtain ⟨a, us, rfl, st, h2⟩ := r2
    refine ⟨a, us, rfl, .inl ⟨st, p1.here (b := IteT X.K a) ok1 rfl ⟨fun W2 i ok2 l2 hs => ?_, rfl⟩⟩⟩
    have s2 := l2.tup _ _ st
    have h4 := Reps.keep l2 _ _ h2
    refine ⟨fun d hd => ?_, fun hl => ⟨us, s2, by rw [h4.length, hl]; exact numF_length.symm⟩⟩
    obtain ⟨d0, hd0, rfl⟩ := numF_get hd
    obtain ⟨u, hu, ru⟩ := h4.get hd0
    refine ⟨⟨us, u, s2, hu⟩, fun x H' y => ?_⟩
    obtain ⟨T, u', rfl, hT, rfl, hy⟩ := y
    have z := hy us s2
    rw [hu] at z
    cases z
    rw [Nat.zero_add]
    exact pair_new ok2 hT ru
  · rename_i n
    split at p1
    · rename_i ds em
      obtain ⟨v, rfl, r2⟩ := r1.one
      simp only [Rep] at r2
      obtain ⟨hn, rfl⟩ := r2
      obtain ⟨us, h1, h2⟩ := ok1.getLst em
      refine ⟨W1.al n, us, rfl, .inr ⟨SqL.of h1, p1.here (b := Ite X.K (W1.al n)) ok1 rfl ⟨fun W2 i ok2 l2 hs => ?_, sameL_of em⟩⟩⟩
      obtain ⟨ws, h3, h4⟩ := ok2.getLst (sameL_some hs)
      rw [l2.al n hn] at h3
      refine ⟨fun d hd => ?_, fun hl => ⟨ws, SqL.of h3, by rw [h4.length, hl]; exact Nat.le_of_eq numF_length.symm⟩⟩
      obtain ⟨d0, hd0, rfl⟩ := numF_get hd
      obtain ⟨u, hu, ru⟩ := h4.get hd0
      refine ⟨⟨ws, u, SqL.of h3, hu⟩, fun x H' y => ?_⟩
      obtain ⟨T, u', rfl, hT, rfl, hy⟩ := y
      have z := hy ws (SqL.of h3)
      rw [hu] at z
      cases z
      rw [Nat.zero_add]
      exact pair_new ok2 hT ru
    · exact p1.elim
  · exact p1.elim
/-! ### a list or a tuple -/
def iSeq (K : PySem.W.Frag) (te : TE) : TI := fun σ H R => te σ H fun x H1 => ∃ a, x = .ref a ∧ ((∃ xs, SqT K H1 a xs ∧ R (Itt K a) H1) ∨ ∃ xs, SqL K H1 a xs ∧ R (Itl K a) H1)
theorem pi_seq {tg l : Expr} {tl : TE} (hl : PE X l tl) : PI X tg l (iSeq X.K tl) := by
  refine ⟨fun pins s σ H R I h => thn (hl.run pins s σ H _ I h) fun v s1 z => ?_⟩
  obtain ⟨x, H1, I1, r1, a, e, q⟩ := z
  subst e
  cases r1
  have fresh : ∀ b ∈ [s1.heap.objs.size], FpOk X pins H1 b := fun b hb => by
    rw [List.mem_singleton.mp hb]
    exact I1.fpOk (Nat.le_refl _) (I1.hok.fresh (Nat.le_refl _))
  rcases q with ⟨xs, hq, q⟩ | ⟨xs, hq, q⟩
  · obtain ⟨its, rv, p, hz⟩ := I1.tuple hq
    exact wpAny_pyIter_tuple (show s1.heap.IsTuple a its.toArray from p) ⟨s1.heap.objs.size, [s1.heap.objs.size], _, _, H1, rfl, I1.kept (t' := s1.toks) fun b o e => Heap.get?_push_of_some _ e, turn_tuple a _, ⟨_, Heap.get?_push_size _ rfl, rfl, rfl⟩, fresh, q⟩
  · obtain ⟨its, rv, p, hz⟩ := I1.list hq
    exact wpAny_pyIter_list p.isList ⟨s1.heap.objs.size, [s1.heap.objs.size], _, _, H1, rfl, I1.kept (t' := s1.toks) fun b o e => Heap.get?_push_of_some _ e, turn_list a _, ⟨_, Heap.get?_push_size _ rfl, rfl, rfl⟩, fresh, q⟩
def srcOf (d : D) (M1 : Mm) : Res Src := match d with
  | .tup ds => .ok ([], ds) M1
  | .ref n => match M1[n]? with
    | some (.lst ds) => .ok ([(n, ds)], ds) M1
    | _ => .stuck
  | _ => .stuck
def sSeq (f : Sl → Mm → Res D) : Sl → Mm → Res Src := fun ρ M => (f ρ M).bind srcOf
theorem di_seq {tg e : Expr} {f : Sl → Mm → Res D} (h : DE X A e f) : DI X A tg e (sSeq f) := by
  intro Wx tk
  refine PI.imp (pi_seq (h Wx tk)) fun σ H R q => ?_
  obtain ⟨ρ, W, rfl, ok, sl, p⟩ := q
  refine ⟨ρ, W, rfl, ok, sl, Post.seq p fun d v W1 ok1 l1 r1 p1 => ?_⟩
  unfold srcOf at p1
  split at p1
  · rename_i ds
    simp only [Rep] at r1
    obtain ⟨a, us, rfl, s, h2⟩ := r1
    refine ⟨a, rfl, .inl ⟨us, s, p1.here (b := Itt X.K a) ok1 rfl ⟨fun W2 i ok2 l2 hs => ?_, rfl⟩⟩⟩
    have s2 := l2.tup _ _ s
    have h4 := Reps.keep l2 _ _ h2
    refine ⟨fun d hd => ?_, fun hl => ⟨us, s2, by rw [h4.length]; exact Nat.le_of_eq hl.symm⟩⟩
    obtain ⟨v, hv, rv⟩ := h4.get hd
    refine ⟨⟨us, v, s2, hv⟩, fun x H' y => ?_⟩
    obtain ⟨rfl, hy⟩ := y
    have z := hy us s2
    rw [hv] at z
    cases z
    exact ⟨W2, rfl, ok2, Le.rfl' W2, rfl, rv⟩
  · split at p1
    · rename_i n _ ds e
      simp only [Rep] at r1
      obtain ⟨hn, rfl⟩ := r1
      obtain ⟨us, h1, h2⟩ := ok1.getLst e
      refine ⟨_, rfl, .inr ⟨us, SqL.of h1, p1.here (b := Itl X.K (W1.al n)) ok1 rfl ⟨fun W2 i ok2 l2 hs => ?_, sameL_of e⟩⟩⟩
      obtain ⟨ws, h3, h4⟩ := ok2.getLst (sameL_some hs)
      rw [l2.al n hn] at h3
      refine ⟨fun d hd => ?_, fun hl => ⟨ws, SqL.of h3, by rw [h4.length]; exact Nat.le_of_eq hl.symm⟩⟩
      obtain ⟨v, hv, rv⟩ := h4.get hd
      refine ⟨⟨ws, v, SqL.of h3, hv⟩, fun x H' y => ?_⟩
      obtain ⟨rfl, hy⟩ := y
      have z := hy ws (SqL.of h3)
      rw [hv] at z
      cases z
      exact ⟨W2, rfl, ok2, Le.rfl' W2, rfl, rv⟩
    · exact p1.elim
  · exact p1.elim
end
end Ny


set_option Elab.async false
set_option linter.all false
set_option maxRecDepth 10000
set_option maxHeartbeats 1000000
/-! NyEq: == by an own __eq__. -/
namespace Ny
open PySem PySem.Spec PyProof.Rows L2
def TyC (K : PySem.W.Frag) (C : Addr) (y : V) (H : Hp) : Prop := (∃ b dy gs, y = .ref b ∧ H b = some (.ins C dy gs)) ∨ ∃ b ys, y = .ref b ∧ SqT K H b ys
def rEqI (K : PySem.W.Frag) (A : Amb) (C : Addr) (den : Den) : R2 := fun x y H Q => ∃ a dx fs, x = .ref a ∧ H a = some (.ins C dx fs) ∧ TyC K C y H ∧ spD K A den [x, y] H (fun v H' => (∃ b, v = .bl b) ∧ Q v H') fun _ _ _ => False
theorem looks_cls {M : Model} {h : Heap} {a : Addr} {o : Obj} (e : h.get? a = some o) : PySem.W.Looks M h (typeOf (.ref a)) o.cls := fun A Q E s k q => wpAny_typeOf_ref (k _ _ e) q
section
variable {X : Cx} {A : Amb} {C : Addr} {den : Den}
theorem op_eqI {k : Nat} {f : Addr} {fd : FuncData} {ps : List Str} (F : FnOk X.prog X.w X.K X.mg X.base (L2N.CX X.prog X.w) k f fd ps (spD X.K A den)) (hr : Room k X.A) (hs : PySem.W.findIn X.K (.ref C) "__eq__" = some (some (.ref f))) (hf : PySem.W.isFn X.K (.ref f) = true)
    (hb : Binds X.K fd ps []) (ht : PySem.W.notFirst X.K C (.type "tuple") = true) : OpR X (compareOp .Eq) (rEqI X.K A C den) := by
  intro pins s σ H x y v u Q I rx ry hq
  obtain ⟨a, dx, fs, rfl, ha, ty, sp⟩ := hq
  obtain rfl : v = Value.ref a := rx
  show wpAny (model X.prog X.w) X.A (richCompare .Eq (.ref a) u) (EP X pins σ Q) X.xe s
  obtain ⟨mA, J, _⟩ := ins_get I.hok ha
  obtain ⟨od, J, _⟩ := J.look
  obtain ⟨m, hF⟩ := I.fr
  have fin : wpAny (model X.prog X.w) X.A (call (.ref f) [.ref a, u]) (PySem.W.CmpBack (EP X pins σ Q)) X.xe s := by
    have rr : Vals [V.ref a, y] [Value.ref a, u] := .cons rfl (.cons ry .nil)
    have hl := F.len _ _ _ _ sp
    have bnd := hb s [.ref a, u] I.kIn (by simpa using hl)
    rw [List.append_nil] at bnd
    refine wpAny_call (codeAny_mono (F.run X.A X.stack s H ⟨[.ref a, u], []⟩ _ _ _ _ hr I.env0 bnd rr sp) fun r s' hz => ?_)
    cases r with
    | error e =>
      obtain ⟨_, _, _, _, _, _, _, _, _, _, _, _, no⟩ := hz
      exact no.elim
    | ok fl =>
      cases fl with
      | ret z =>
        obtain ⟨v', H', I', rz, ⟨b, eb⟩, q⟩ := I.after hz
        subst eb
        obtain rfl : z = Value.bool b := rz
        exact ⟨.bl b, H', I', rfl, q⟩
      | next => exact hz.elim
      | brk => exact hz.elim
      | cont => exact hz.elim
  rcases ty with ⟨b, dy, gs, rfl, hb'⟩ | ⟨b, ys, rfl, st⟩
  · obtain rfl : u = Value.ref b := ry
    obtain ⟨mB, J', _⟩ := ins_get I.hok hb'
    obtain ⟨od', J', _⟩ := J'.look
    exact PySem.W.cmp_K (op := .Eq) (tb := .ref C) hr.units0 hF I.ok.mod.kin J J'.type (by simp [PySem.W.notFirst]) hs hf fin
  · obtain rfl : u = Value.ref b := ry
    obtain ⟨its, rv, p, hz⟩ := I.tuple st
    obtain ⟨o, ho, hc, _⟩ := p
    have lk := looks_cls (M := model X.prog X.w) ho
    rw [hc] at lk
    exact PySem.W.cmp_K (op := .Eq) (tb := .type "tuple") hr.units0 hF I.ok.mod.kin J lk ht hs hf fin
def tyC (C : Addr) (y : D) (M : Mm) : Bool := match y with
  | .tup _ => true
  | .ref n => match M[n]? with
    | some (.ins C' _) => C' == C
    | _ => false
  | _ => false
def oEqI (C : Addr) (den : Den) (o : D → D → Mm → Res D) : D → D → Mm → Res D := fun x y M => match x with
  | .ref n => match M[n]? with
    | some (.ins C' _) => if C' = C ∧ tyC C y M = true then (den [x, y] M).bindN fun r M1 => match r with
      | .bl b => .ok (.bl b) M1
      | _ => .stuck
      else .stuck
    | _ => o x y M
  | _ => o x y M
theorem od_eqI {r : R2} {o : D → D → Mm → Res D} (h : OpD X A r o) : OpD X A (fun x y H Q => rEqI X.K A C den x y H Q ∨ r x y H Q) (oEqI C den o) := by
  intro Wx σ W dx dy x y Q ok rx ry p
  unfold oEqI at p
  split at p
  · rename_i n
    split at p
    · rename_i C' fs em
      split at p
      · rename_i hC
        obtain ⟨rfl, ht⟩ := hC
        have rx' := rx
        simp only [Rep] at rx
        obtain ⟨hn, rfl⟩ := rx
        obtain ⟨d1, gs, h1, _, _⟩ := ok.obj n _ em
        refine .inl ⟨_, d1, gs, rfl, h1, ?_, [.ref n, dy], W, rfl, ok, Reps.cons rx' (Reps.cons ry Reps.nil), ?_⟩
        · unfold tyC at ht
          split at ht
          · simp only [Rep] at ry
            obtain ⟨b, vs, rfl, st, _⟩ := ry
            exact .inr ⟨b, vs, rfl, st⟩
          · rename_i m
            split at ht
            · rename_i C2 fs2 em2
              have e : C2 = C' := by simpa using ht
              subst e
              simp only [Rep] at ry
              obtain ⟨hm, rfl⟩ := ry
              obtain ⟨d2, gs2, h2, _, _⟩ := ok.obj m _ em2
              exact .inl ⟨_, d2, gs2, rfl, h2⟩
            · cases ht
          · cases ht
        · cases q : den [.ref n, dy] W.M with
          | ok a m =>
            rw [q, Res.bindN_ok] at p
            intro v W1 ok1 l1 em1 rv
            cases a with
            | bl b =>
              have rv' := rv
              simp only [Rep] at rv
              exact ⟨⟨b, rv⟩, p v W1 ok1 l1 em1 rv'⟩
            | _ => exact p.elim
          | exc c m => rw [q] at p; exact p.elim
          | stuck => rw [q] at p; exact p.elim
      · exact p.elim
    · exact .inr (h Wx σ W _ _ _ _ Q ok rx ry p)
  · exact .inr (h Wx σ W _ _ _ _ Q ok rx ry p)
end
end Ny


set_option Elab.async false
set_option linter.all false
set_option maxRecDepth 100000
set_option maxHeartbeats 2000000
/-! NyHot: a list comprehension, a tuple taken apart, within an except suite. -/
namespace Ny
open PySem PySem.Spec PyProof.Rows L2
section
variable {prog : Program} {w : World} {A : Around} {E : Value → Shared → Prop} {s : Shared} {x1 : Addr}
open HotX in
theorem stop_hot {α : Type} {Q : α → Shared → Prop} (hot : HotAt A x1 s.heap) (hE : ∀ e h', (∀ b o, s.heap.get? b = some o → h'.get? b = some o) → (∃ o, h'.get? e = some o ∧ o.cls = .type "StopIteration") → E (.ref e) { s with heap := h' }) :
    wpAny (model prog w) A (do let v ← newExc (.type "StopIteration") []; (raiseNew v : Sem α)) Q E s := by
  obtain ⟨hh, o1, vs1, h1, d1, c1⟩ := hot
  refine wpAny_bind ?_
  simp only [newExc, newTuple]
  refine wpAny_bind (wpAny_newObj_type ?_ (by size_fits))
  refine wpAny_bind (m := firstArgMember _ _) (wpAny_of_eq (a := Value.none) (by first | rfl | (simp only [firstArgMember]; rfl)) ?_)
  refine wpAny_newObj_type ?_ (by size_fits)
  refine raiseNew_hot ⟨hh, o1, vs1, Heap.get?_push_of_some _ (Heap.get?_push_of_some _ h1), d1, c1⟩ (Nat.ne_of_lt (Heap.lt_size (Heap.get?_push_of_some _ h1))) (Heap.get?_push_size _ rfl) rfl (by first | (simp; done) | (simp; omega) | (simp only [Array.size_append]; simp; omega)) ?_
  refine hE _ _ (fun b o e => ?_) ⟨_, Heap.get?_update_self _ (Heap.get?_push_size _ rfl) rfl, rfl⟩
  rw [Heap.get?_update_other _ _ (Nat.ne_of_gt (Heap.lt_size (Heap.get?_push_of_some _ e)))]
  exact Heap.get?_push_of_some _ (Heap.get?_push_of_some _ e)
theorem hot_ne {it : Addr} {o : Obj} {vs : Array Value} (hot : HotX.HotAt A x1 s.heap) (ho : s.heap.get? it = some o) (hd : o.data = .fields vs) (hs : vs.size = 2) : x1 ≠ it := fun z => by
  obtain ⟨_, o1, vs1, h1, d1, c1⟩ := hot
  rw [z, ho] at h1
  cases h1
  rw [hd] at d1
  cases d1
  rw [Array.getElem?_eq_none (by omega)] at c1
  cases c1
theorem HotAt.upd {it : Addr} {f : Obj → Obj} (hot : HotX.HotAt A x1 s.heap) (ne : x1 ≠ it) : HotX.HotAt A x1 (s.heap.update it f) := by
  obtain ⟨hh, o1, vs1, h1, d1, c1⟩ := hot
  exact ⟨hh, o1, vs1, (Heap.get?_update_other _ _ (Ne.symm ne)).trans h1, d1, c1⟩
theorem HotAt.ext {h' : Heap} (hot : HotX.HotAt A x1 s.heap) (k : ∀ b o, s.heap.get? b = some o → h'.get? b = some o) : HotX.HotAt A x1 h' := by
  obtain ⟨hh, o1, vs1, h1, d1, c1⟩ := hot
  exact ⟨hh, o1, vs1, k _ _ h1, d1, c1⟩
theorem next_list_hot {it l : Addr} {i : Nat} {items : Array Value} {Q : Option Value → Shared → Prop} (hot : HotX.HotAt A x1 s.heap) (hit : s.heap.IsListIter it l i) (hl : s.heap.IsList l items) (hx : items[i]? = none)
    (hQ : ∀ h', Heap.ExtBut it s.heap h' → Q none { s with heap := h' }) : wpAny (model prog w) A (pyNext (.ref it)) Q E s := by
  obtain ⟨o, ho, hc, hd⟩ := id hit
  obtain ⟨ol, hol, _, nl, hdl⟩ := hl
  have ne := hot_ne hot ho hd rfl
  unfold pyNext
  refine wpAny_bind (wpAny_attempt (wpAny_callSpecial?_slot (name := Str.ofString "__next__") hit.typeIs slot_listiter_next (wpAny_call_entry slot_listiter_next hit.typeIs entry_listiter_next ?_ (args_listiter_next _))))
  show wpAny _ _ (field (.ref it) 0 >>= _) _ _ s
  refine wpAny_bind (wpAny_field ho hd (x := .ref l) rfl ?_)
  show wpAny _ _ (if (Value.ref l == Value.none) = true then _ else _) _ _ s
  rw [if_neg (show ¬ ((Value.ref l == Value.none) = true) from Bool.false_ne_true)]
  show wpAny _ _ (field (.ref it) 1 >>= _) _ _ s
  refine wpAny_bind (wpAny_field ho hd (x := .int i 0) rfl (wpAny_bind (wpAny_seqItems hol hdl ?_)))
  simp only [Int.toNat_natCast, hx]
  refine wpAny_bind (wpAny_rule (wpAny_bind (wpAny_setField ho hd (by simp) ?_)))
  have hot2 := HotAt.upd (f := Obj.mapFields (·.setIfInBounds 0 Value.none)) hot ne
  refine stop_hot (A := A.in1) (s := { s with heap := s.heap.update it (Obj.mapFields (·.setIfInBounds 0 Value.none)) }) hot2 fun e h' k hs => ?_
  obtain ⟨oe, h1, h2⟩ := hs
  refine wpAny_bind (wpAny_isInstance (T := "StopIteration") (b := true) ⟨_, h1, h2⟩ isSubtype_stop ?_)
  exact wpAny_pure (hQ _ fun b u hb e => k b u ((Heap.get?_update_other _ _ (Ne.symm hb)).trans e))
theorem next_tuple_hot {it t : Addr} {i : Nat} {items : Array Value} {Q : Option Value → Shared → Prop} (hot : HotX.HotAt A x1 s.heap) (hit : IsTupIter s.heap it t i) (ht : IsTup s.heap t items) (hx : items[i]? = none)
    (hQ : ∀ h', Heap.ExtBut it s.heap h' → Q none { s with heap := h' }) : wpAny (model prog w) A (pyNext (.ref it)) Q E s := by
  obtain ⟨o, ho, hc, hd⟩ := id hit
  obtain ⟨ol, hol, _, nl, hdl⟩ := ht
  have ne := hot_ne hot ho hd rfl
  unfold pyNext
  refine wpAny_bind (wpAny_attempt (wpAny_callSpecial?_slot (name := Str.ofString "__next__") hit.typeIs slot_tupleiter_next (wpAny_call_entry slot_tupleiter_next hit.typeIs entry_tupleiter_next ?_ (args_tupleiter_next _))))
  show wpAny _ _ (field (.ref it) 0 >>= _) _ _ s
  refine wpAny_bind (wpAny_field ho hd (x := .ref t) rfl ?_)
  show wpAny _ _ (if (Value.ref t == Value.none) = true then _ else _) _ _ s
  rw [if_neg (show ¬ ((Value.ref t == Value.none) = true) from Bool.false_ne_true)]
  show wpAny _ _ (field (.ref it) 1 >>= _) _ _ s
  refine wpAny_bind (wpAny_field ho hd (x := .int i 0) rfl (wpAny_bind (wpAny_seqItems hol hdl ?_)))
  simp only [Int.toNat_natCast, hx]
  refine wpAny_bind (wpAny_rule (wpAny_bind (wpAny_setField ho hd (by simp) ?_)))
  have hot2 := HotAt.upd (f := Obj.mapFields (·.setIfInBounds 0 Value.none)) hot ne
  refine stop_hot (A := A.in1) (s := { s with heap := s.heap.update it (Obj.mapFields (·.setIfInBounds 0 Value.none)) }) hot2 fun e h' k hs => ?_
  obtain ⟨oe, h1, h2⟩ := hs
  refine wpAny_bind (wpAny_isInstance (T := "StopIteration") (b := true) ⟨_, h1, h2⟩ isSubtype_stop ?_)
  exact wpAny_pure (hQ _ fun b u hb e => k b u ((Heap.get?_update_other _ _ (Ne.symm hb)).trans e))
/-- a tuple taken apart -/
theorem unpack_hot {t : Addr} {items : Array Value} {targets : List (Bool × (Value → Sem Unit))} {Q : Unit → Shared → Prop} (hot : HotX.HotAt A x1 s.heap) (ht : IsTup s.heap t items) (hn : targets.length = items.size) (hstar : targets.findIdx? (·.1) = none)
    (h : ∀ h', Heap.ExtBut s.heap.objs.size s.heap h' → wpAny (model prog w) A (assignInOrder (targets.map (·.2)) items.toList) Q E { s with heap := h' }) : wpAny (model prog w) A (unpack (.ref t) targets) Q E s := by
  have hlt : t ≠ s.heap.objs.size := by obtain ⟨o, ho, _⟩ := ht; exact Nat.ne_of_lt (Heap.lt_size ho)
  have hx1 : x1 ≠ s.heap.objs.size := by obtain ⟨_, o, _, ho, _⟩ := hot; exact Nat.ne_of_lt (Heap.lt_size ho)
  unfold unpack
  rw [hn, hstar]
  refine wpAny_bind (wpAny_holding ?_)
  unfold unpackItems notIterableAtAll
  refine wpAny_bind (wpAny_bind (wpAny_specialOf ht.typeIs slot_tuple_iter.lookup (wpAny_pure ?_)))
  simp only [Bool.false_eq_true, if_false]
  refine wpAny_bind (wpAny_holding (iter_tuple ht (wpAny_bind (wpAny_holding (draw_tuple hlt items.size 0 _ _ ⟨_, Heap.get?_push_size _ rfl, rfl, rfl⟩ (ht.push _) (by omega) fun h1 hit1 hs1 => ?_)))))
  rw [show List.take items.size (List.drop 0 items.toList) = items.toList by rw [List.drop_zero]; exact List.take_of_length_le (by simp), if_neg (by simp)]
  have ht1 : IsTup h1 t items := (ht.push _).extBut hs1.extBut hlt
  have hot1 : HotX.HotAt A x1 h1 := by
    obtain ⟨hh, o1, vs1, e1, d1, c1⟩ := hot
    exact ⟨hh, o1, vs1, hs1.extBut x1 o1 hx1 (Heap.get?_push_of_some _ e1), d1, c1⟩
  refine wpAny_bind (wpAny_holding (next_tuple_hot (s := { s with heap := h1 }) hot1 hit1 ht1 (by simp) fun h2 he2 => ?_))
  simp only [Option.isSome_none, Bool.false_eq_true, if_false]
  exact wpAny_pure (h h2 fun b o hb e => he2 b o hb (hs1.extBut b o hb (Heap.get?_push_of_some _ e)))
end
end Ny


set_option Elab.async false
set_option linter.all false
set_option maxRecDepth 100000
set_option maxHeartbeats 2000000
/-! NyHotLc: name = [..] within an except suite, over a list. -/
namespace Ny
open PySem PySem.Spec PyProof.Rows L2
abbrev HotS (A : Around) (h : Heap) : Prop := ∃ x1, HotX.HotAt A x1 h
structure TurnN (P : Program) (w : World) (K : PySem.W.Frag) (tg : Expr) (J : It) (fp : List Addr) (it : Addr) (tn : Nat → Heap → Prop) : Prop where
  obj : ∀ i h, tn i h → ∀ b ∈ fp, ∃ o, h.get? b = some o ∧ ∀ v, o.data ≠ .cell v
  keep : ∀ i h h', tn i h → (∀ b ∈ fp, ∀ o, h.get? b = some o → h'.get? b = some o) → tn i h'
  item : ∀ (X : Cx), X.prog = P → X.w = w → X.K = K → ∀ (i : Nat) (pins : List (Addr × Obj)) (s : Shared) (σ : L2.St) (H : Hp) (E : Value → Shared → Prop), Inv X pins σ H s → (∀ b ∈ fp, FpOk X pins H b) → tn i s.heap → J.go i H →
    wpAny (model P w) X.A (pyNext (.ref it)) (fun r s1 => ∃ u, r = some u ∧ wpAny (model P w) X.A (letOwnedTupleGo tg (.ref it) u) (fun _ s2 => ∃ x H', Inv X pins σ H' s2 ∧ RelV x u ∧ J.yld i H x H' ∧ tn (i + 1) s2.heap ∧ ∀ b ∈ fp, H' b = none) E s1) E s
  done : ∀ (X : Cx), X.prog = P → X.w = w → X.K = K → ∀ (i : Nat) (pins : List (Addr × Obj)) (s : Shared) (σ : L2.St) (H : Hp) (E : Value → Shared → Prop), HotS X.A s.heap → Inv X pins σ H s → (∀ b ∈ fp, FpOk X pins H b) → tn i s.heap → J.stop i H →
    wpAny (model P w) X.A (pyNext (.ref it)) (fun r s1 => r = none ∧ Inv X pins σ H s1) E s
  self : ∀ (A : Around) (i : Nat) (s : Shared) (Q : Value → Shared → Prop) (E : Value → Shared → Prop), tn i s.heap → Q (.ref it) s → wpAny (model P w) A (pyIter (.ref it)) Q E s
theorem turn_listN {P : Program} {w : World} {K : PySem.W.Frag} {tg : Expr} (a it : Addr) : TurnN P w K tg (Itl K a) [it] it (fun i h => h.IsListIter it a i) where
  obj := fun i h st b hb => by
    obtain ⟨o, e, c, d⟩ := st
    rw [List.mem_singleton.mp hb]
    exact ⟨o, e, fun v z => by rw [d] at z; cases z⟩
  keep := fun i h h' st k => st.at fun o e => k it (by simp) o e
  item := by
    intro X hP hw hK i pins s σ H E I hf st hg
    subst hP hw hK
    obtain ⟨xs, x, hq, hx⟩ := hg
    obtain ⟨its, rv, p, hz⟩ := I.list hq
    obtain ⟨u, hu, ru⟩ := rv.get hx
    obtain ⟨f0, f1, f2, f3, f4, f5⟩ := hf it (by simp)
    refine wpAny_pyNext_list_item st p.isList (x := u) (by simpa using hu) fun h' st' sb => ?_
    have I1 : Inv X pins σ H { s with heap := h' } := I.turned (t' := s.toks) (fun b o hb e => (sb.2 b hb).trans e) f0 f1 f3 f4 f5
    have st2 := st'
    obtain ⟨o, e, c, d⟩ := st2
    exact ⟨u, rfl, go_of (s := { s with heap := h' }) e c d (by decide) ⟨x, H, I1, ru, ⟨rfl, fun ys hy => by rw [I.list_inj hy hq]; exact hx⟩, st', fun b hb => (hf b hb).1⟩⟩
  done := by
    intro X hP hw hK i pins s σ H E hot I hf st hg
    subst hP hw hK
    obtain ⟨x1, hot⟩ := hot
    obtain ⟨xs, hq, hx⟩ := hg
    obtain ⟨its, rv, p, hz⟩ := I.list hq
    obtain ⟨f0, f1, f2, f3, f4, f5⟩ := hf it (by simp)
    have hl := rv.length
    exact next_list_hot hot st p.isList (by simp; omega) fun h' eb => ⟨rfl, I.turned (t' := s.toks) (fun b o hb e => eb b o hb e) f0 f1 f3 f4 f5⟩
  self := fun _ _ _ _ _ st h => wpAny_pyIter_listiter st h
def PIEN (X : Cx) (pins : List (Addr × Obj)) (σ : L2.St) (tg : Expr) (R : It → Hp → Prop) (itv : Value) (s2 : Shared) : Prop :=
  ∃ (it : Addr) (fp : List Addr) (tn : Nat → Heap → Prop) (J : It) (H' : Hp), itv = .ref it ∧ Inv X pins σ H' s2 ∧ TurnN X.prog X.w X.K tg J fp it tn ∧ tn 0 s2.heap ∧ (∀ b ∈ fp, FpOk X pins H' b) ∧ R J H'
structure PIN (X : Cx) (tg iter : Expr) (wi : TI) : Prop where
  run : ∀ (pins : List (Addr × Obj)) (s : Shared) (σ : L2.St) (H : Hp) (R : It → Hp → Prop), Inv X pins σ H s → wi σ H R → wpAny (model X.prog X.w) X.A (eval iter X.env) (fun v s1 => wpAny (model X.prog X.w) X.A (pyIter v) (PIEN X pins σ tg R) X.xe s1) X.xe s
theorem PIN.imp {X : Cx} {tg e : Expr} {t t' : TI} (h : PIN X tg e t) (k : ∀ σ H R, t' σ H R → t σ H R) : PIN X tg e t' := ⟨fun pins s σ H R I q => h.run pins s σ H R I (k σ H R q)⟩
theorem pi_listN {X : Cx} {tg l : Expr} {tl : TE} (hl : PE X l tl) : PIN X tg l (iList X.K tl) := by
  refine ⟨fun pins s σ H R I h => thn (hl.run pins s σ H _ I h) fun v s1 z => ?_⟩
  obtain ⟨x, H1, I1, r1, a, e, ⟨xs, hq⟩, q⟩ := z
  subst e
  cases r1
  obtain ⟨its, rv, p, hz⟩ := I1.list hq
  refine wpAny_pyIter_list p.isList ⟨s1.heap.objs.size, [s1.heap.objs.size], _, _, H1, rfl, I1.kept (t' := s1.toks) fun b o e => Heap.get?_push_of_some _ e, turn_listN a _, ⟨_, Heap.get?_push_size _ rfl, rfl, rfl⟩, fun b hb => ?_, q⟩
  rw [List.mem_singleton.mp hb]
  exact I1.fpOk (Nat.le_refl _) (I1.hok.fresh (Nat.le_refl _))
/-- the handled exception stands at a block's start -/
def HotB (X : Cx) (s : Shared) (H : Hp) (fp : List Addr) : Prop := ∃ p : Addr × Obj, L2H.Hot1 X.A p ∧ s.heap.get? p.1 = some p.2 ∧ H p.1 = none ∧ p.1 ∉ frs X.stack ∧ p.1 ∉ fp
section
variable {X : Cx}
theorem HotB.at {s : Shared} {H H' : Hp} {fp : List Addr} {scope : Scope} {ce : Env} {pins : List (Addr × Obj)} {σ : L2.St} {s' : Shared} (h : HotB X s H fp) (I : Inv (X.blk s H scope ce fp) pins σ H' s') : HotS X.A s'.heap := by
  obtain ⟨p, ⟨hh, v1, e1, c1⟩, hp, hn, hf, hx⟩ := h
  exact ⟨p.1, hh, p.2, v1, I.base.keep p.1 p.2 hp hn hf hx, e1, c1⟩
theorem pg_tupN {s : Shared} {H : Hp} {fp : List Addr} {scope : Scope} {ce : Env} {es : List Expr} {k : Nat} {t : TGs} {n : Nat} {pos : Pos} (hot : HotB X s H fp) (h : PGs (X.blk s H scope ce fp) es t)
    (hn : (assignEach es (X.blk s H scope ce fp).env).length = n := by rfl) (hst : (assignEach es (X.blk s H scope ce fp).env).findIdx? (·.1) = none := by rfl) : PG (X.blk s H scope ce fp) (.Tuple es k pos) (gTup X.K n t) := by
  refine ⟨fun pins s' σ H' v u Q I r hw => ?_⟩
  obtain ⟨a, xs, rfl, hq, hl, hw⟩ := hw
  cases r
  obtain ⟨its, rv, ht, hz⟩ := I.tuple hq
  obtain ⟨x1, hx1⟩ := hot.at I
  rw [assign_Tuple]
  refine wpAny_bind (wpAny_standAt (unpack_hot hx1 ht (by simp [hn, ← hl, rv.length]) hst fun h' hx => ?_))
  have I1 : Inv (X.blk s H scope ce fp) pins σ H' { s' with heap := h' } := I.kept (t' := s'.toks) fun b o e => hx b o (Nat.ne_of_lt (Heap.lt_size e)) e
  exact h.run pins _ σ H' xs _ Q I1 (by simpa using rv) hw
/-- the comprehension; the handled exception is pinned -/
theorem lc_hot {pins : List (Addr × Obj)} {s : Shared} {σ : L2.St} {H : Hp} {Q : VK} {elt tg iter : Expr} {ifs : List Expr} {scope : Scope} {own : List (Str × Nat)} {pos pos' : Pos} {wi : TI} {g : TG} {tt : TT} {te : TE} {use : Option (Value → Sem Unit)} {Qf : Value → Shared → Prop}
    (hh : L2H.HotC X) (hN : X.N.Nodup) (I : Inv X pins σ H s) (hi : PIN X tg iter wi) (ok : BlkOk X.N X.env.scope scope own)
    (hg : ∀ (s : Shared) (H : Hp) (C : Addr) (cl : List (Str × Addr)) (fp : List Addr), HotB X s H fp → PG (X.blk s H scope (compEnvC scope cl C X.env) fp) tg g)
    (ht : ∀ (s : Shared) (H : Hp) (C : Addr) (cl : List (Str × Addr)) (fp : List Addr), PTs (X.blk s H scope (compEnvC scope cl C X.env) fp) ifs tt)
    (he : ∀ (s : Shared) (H : Hp) (C : Addr) (cl : List (Str × Addr)) (fp : List Addr), PE (X.blk s H scope (compEnvC scope cl C X.env) fp) elt te) (hs : ∀ x, foldedSetIterable iter X.env x = pure x) (h : tLc wi g tt te (own.map (·.2)) σ H Q)
    (hRR : ∀ D C s' m H', Inv X pins σ H' s' → Q (.ref D) H' → s'.heap.Ns C m → FpOk X pins H' C → compPost (model X.prog X.w) X.A X.xe use Qf (.ref D) C (.ok .next) s') :
    wpAny (model X.prog X.w) X.A (comprehension (.ListComp elt [⟨tg, iter, ifs, 0⟩] scope pos) scope X.env pos' (newList []) false (eval iter X.env) use) Qf X.xe s := by
  have hfree : ∀ y ∈ scope.names, y.2 = .free → ∃ c, X.env.cells.lookup y.1 = some c := fun y hy e => (ok.free y hy e).elim (fun k => I.ok.has _ (.inl k)) fun k => I.ok.has _ (.inr k)
  refine wpAny_comprehension_free (use := use) rfl hs (closure_ok hfree) ok.kind (fun y hy e => by rw [ok.uniq y hy, e]) (thn (hi.run pins s σ H _ I h) fun xv s1 hx => thn hx fun itv s2 h2 => ?_)
  obtain ⟨it, fp, tn, J, H2, rfl, I2, T, st2, f2, q⟩ := h2
  refine wpAny_newObj_type (newEnv_comp ?_) (by show 0 ≤ sizeLine; decide)
  generalize hD : s2.heap.objs.size = D
  obtain ⟨W, ⟨m0, w0⟩, turn⟩ := q D (I2.hok.fresh (Nat.le_of_eq hD))
  generalize hs3 : ({ s2 with heap := s2.heap.push { cls := .type "list", data := .seq ([] : List Value).toArray } } : Shared) = s3
  have h3 : s3.heap = s2.heap.push { cls := .type "list", data := .seq ([] : List Value).toArray } := by rw [← hs3]
  have I3 : Inv X pins σ (upd H2 D (.lst [])) s3 := by
    rw [← hs3]
    refine I2.laid (t' := s2.toks) (fun b o e => Heap.get?_push_of_some _ e) (Nat.le_of_eq hD) ⟨Nat.zero_le _, [], 0, .nil, ?_⟩
    rw [← hD]
    exact Heap.get?_push_size _ rfl
  have f3 : ∀ b ∈ fp, FpOk X pins (upd H2 D (.lst [])) b ∧ b < s3.heap.objs.size := fun b hb => by
    obtain ⟨o, e, _⟩ := T.obj _ _ st2 b hb
    have hlt := Heap.lt_size e
    refine ⟨⟨?_, (f2 b hb).2⟩, by rw [h3, Heap.size_push]; exact Nat.lt_succ_of_lt hlt⟩
    rw [upd_ne (by rw [← hD]; exact Nat.ne_of_lt hlt)]
    exact (f2 b hb).1
  have st3 : tn 0 s3.heap := T.keep _ _ _ st2 fun b _ o e => by rw [h3]; exact Heap.get?_push_of_some _ e
  -- the handled exception at the block's start
  have hot3 : HotB X s3 (upd H2 D (.lst [])) fp := by
    obtain ⟨p, h1, hp⟩ := hh
    obtain ⟨p1, p2, p3, p4, p5⟩ := I3.pin p (List.mem_append_left _ hp)
    refine ⟨p, h1, p1, p2, fun hm => ?_, fun hm => (f3 p.1 hm).1.2.2.2.2.2 p (List.mem_append_left _ hp) rfl⟩
    rcases List.mem_cons.mp (I3.stkSub _ hm) with z | z
    · exact p3 z
    · exact p4 z
  have I4 := block_start I3 ok hN f3
  have pg := hg s3 (upd H2 D (.lst [])) s3.heap.objs.size (cellsFrom (s3.heap.objs.size + 1) scope.names (cloFrom X.env.cells scope.names [])) fp hot3
  have pt := ht s3 (upd H2 D (.lst [])) s3.heap.objs.size (cellsFrom (s3.heap.objs.size + 1) scope.names (cloFrom X.env.cells scope.names [])) fp
  have pe := he s3 (upd H2 D (.lst [])) s3.heap.objs.size (cellsFrom (s3.heap.objs.size + 1) scope.names (cloFrom X.env.cells scope.names [])) fp
  show codeAny _ _ (.compStart (.ListComp elt [⟨tg, iter, ifs, 0⟩] scope pos) 0 (.ref it) (.ref D) (compEnvC scope (cellsFrom (s3.heap.objs.size + 1) scope.names (cloFrom X.env.cells scope.names [])) s3.heap.objs.size X.env)) (compPost (model X.prog X.w) X.A X.xe use Qf (.ref D) s3.heap.objs.size) { s3 with heap := pushCells (s3.heap.push { cls := .type "dict", data := .dict #[] }) scope.names }
  have nfp : ∀ b ∈ fp, (upd H2 D (.lst [])) b = none := fun b hb => (f3 b hb).1.1
  generalize hce : compEnvC scope (cellsFrom (s3.heap.objs.size + 1) scope.names (cloFrom X.env.cells scope.names [])) s3.heap.objs.size X.env = ce at I4 pg pt pe ⊢
  have cL : ce.locals = s3.heap.objs.size := by subst hce; rfl
  generalize hH3 : upd H2 D (.lst []) = H3 at I3 I4 pg pt pe w0 nfp f3 hot3
  generalize hs4 : ({ s3 with heap := pushCells (s3.heap.push { cls := .type "dict", data := .dict #[] }) scope.names } : Shared) = s4 at I4 ⊢
  have st4 : tn 0 s4.heap := T.keep _ _ _ st3 fun b _ o e => by rw [← hs4]; exact pushCells_keeps _ _ _ _ (Heap.get?_push_of_some _ e)
  have stat : ∀ {σ' : L2.St} {H' : Hp} {s' : Shared}, Inv (X.blk s3 H3 scope ce fp) [] σ' H' s' → (∀ b ∈ fp, H' b = none) → ∀ b ∈ fp, FpOk (X.blk s3 H3 scope ce fp) [] H' b := fun {σ' H' s'} J' hn b hb =>
    ⟨hn b hb, (J'.ok.exf b hb).1, J'.ok.exfs b hb, .inl hb, fun x c e => (J'.ok.exf b hb).2 x c e, fun p hp => absurd (show p ∈ ([] : List (Addr × Obj)) ++ [] from hp) (by simp)⟩
  have loop : codeAny (model X.prog X.w) X.A (.compLoop (.ListComp elt [⟨tg, iter, ifs, 0⟩] scope pos) 0 (.ref it) (.ref D) ce) (compPost (model X.prog X.w) X.A X.xe use Qf (.ref D) s3.heap.objs.size) s4 := by
    refine compLoop_any (fun n s' => ∃ i H', Inv (X.blk s3 H3 scope ce fp) [] (L2.wipe σ (own.map (·.2))) H' s' ∧ tn i s'.heap ∧ (∀ b ∈ fp, H' b = none) ∧ W i n H') ?_ m0 ⟨0, H3, I4, st4, nfp, w0⟩
    rintro n s5 ⟨i, H5, I5, st5, n5, w5⟩
    rcases turn i n H5 w5 with ⟨stop, qq⟩ | ⟨go, Nx, hNx, step⟩
    · refine thnF (T.done (X.blk s3 H3 scope ce fp) rfl rfl rfl i [] s5 _ H5 (fun _ _ => False) (hot3.at I5) I5 (stat I5 n5) st5 stop) fun r s6 z => ?_
      obtain ⟨rfl, I6⟩ := z
      have I7 : Inv X pins σ H5 s6 := I3.call' (ch := fp) I6.os I6.base I6.hok I6.bare fun b hb => ⟨(f3 b hb).1.2.2.2.1, (f3 b hb).1.2.1, (f3 b hb).1.2.2.2.2.1, (f3 b hb).1.2.2.2.2.2⟩
      have nC : H5 s3.heap.objs.size = none := by
        rw [← cL]
        exact I6.free
      obtain ⟨m, hn, _⟩ := I6.loc
      have hn : s6.heap.Ns ce.locals m := hn
      rw [cL] at hn
      exact hRR D s3.heap.objs.size s6 m H5 I7 qq hn (I3.fpOk (Nat.le_refl _) nC)
    · refine thnF (T.item (X.blk s3 H3 scope ce fp) rfl rfl rfl i [] s5 _ H5 (fun _ _ => False) I5 (stat I5 n5) st5 go) fun r s6 z => ?_
      obtain ⟨u, rfl, h6⟩ := z
      refine thnF h6 fun _ s7 z7 => ?_
      obtain ⟨x, H7, I7, r7, y7, st7, n7⟩ := z7
      have I7' := I7.pinned (stat I7 n7) (T.obj _ _ st7)
      refine thnF (pg.run _ s7 _ H7 x u _ I7' r7 (step x H7 y7)) fun _ s8 z8 => ?_
      obtain ⟨σ8, H8, I8, hw8, q8⟩ := z8
      refine thnF (pt.run _ s8 σ8 H8 _ I8 q8) fun b s9 z9 => ?_
      obtain ⟨H9, I9, q9⟩ := z9
      have fin : ∀ {s' : Shared} {H' : Hp}, Inv (X.blk s3 H3 scope ce fp) ([] ++ pinsAt fp s7.heap) σ8 H' s' → Nx H' → ∃ m, m < n ∧ ∃ i H', Inv (X.blk s3 H3 scope ce fp) [] (L2.wipe σ (own.map (·.2))) H' s' ∧ tn i s'.heap ∧ (∀ b ∈ fp, H' b = none) ∧ W i m H' := fun {s' H'} J' nx => by
        obtain ⟨m', hm, w'⟩ := hNx H' nx
        have pin' : ∀ b ∈ fp, ∀ o, s7.heap.get? b = some o → s'.heap.get? b = some o ∧ H' b = none := fun b hb o e =>
          let z := J'.pin (b, o) (List.mem_append_right _ (List.mem_append_right _ (mem_pinsAt hb e)))
          ⟨z.1, z.2.1⟩
        refine ⟨m', hm, i + 1, H', (J'.unpinned (pins := [])).weak (by rw [← hw8, wipe_length]) (fun j v e => ?_), T.keep _ _ _ st7 fun b hb o e => (pin' b hb o e).1, fun b hb => ?_, w'⟩
        · rw [← hw8] at e
          exact (wipe_some e).1
        · obtain ⟨o, e, _⟩ := T.obj _ _ st7 b hb
          exact (pin' b hb o e).2
      cases b with
      | false =>
        simp only [Bool.false_eq_true, if_false] at q9 ⊢
        exact fin I9 q9
      | true =>
        simp only [if_true] at q9 ⊢
        refine thnF (pe.run _ s9 σ8 H9 _ I9 q9) fun z s10 z10 => ?_
        obtain ⟨yv, H10, I10, r10, acc, hD10, hz10, nx⟩ := z10
        exact app_ok (X := X.blk s3 H3 scope ce fp) I10 hD10 hz10 r10 fun s11 I11 => fin I11 nx
  exact codeAny_compStart_list loop (T.self X.A 0 _ _ _ st4 loop)
/-- name = [..], in a suite -/
theorem ps_setLcN {i : Nat} {y : Str} {py : Pos} {elt tg iter : Expr} {ifs : List Expr} {scope : Scope} {own : List (Str × Nat)} {pos spos : Pos} {wi : TI} {g : TG} {tt : TT} {te : TE} (hh : L2H.HotC X) (hN : X.N.Nodup) (hy : X.N[i]? = some y) (hyl : X.env.scope.names.lookup y = some .local)
    (hsw : swapsWith (.ListComp elt [⟨tg, iter, ifs, 0⟩] scope pos) (some (.Name y py)) spos.line X.env = pure true) (hi : PIN X tg iter wi) (ok : BlkOk X.N X.env.scope scope own)
    (hg : ∀ (s : Shared) (H : Hp) (C : Addr) (cl : List (Str × Addr)) (fp : List Addr), HotB X s H fp → PG (X.blk s H scope (compEnvC scope cl C X.env) fp) tg g)
    (ht : ∀ (s : Shared) (H : Hp) (C : Addr) (cl : List (Str × Addr)) (fp : List Addr), PTs (X.blk s H scope (compEnvC scope cl C X.env) fp) ifs tt)
    (he : ∀ (s : Shared) (H : Hp) (C : Addr) (cl : List (Str × Addr)) (fp : List Addr), PE (X.blk s H scope (compEnvC scope cl C X.env) fp) elt te) (hs : ∀ x, foldedSetIterable iter X.env x = pure x := by intro _; rfl) :
    PS X (.Assign [.Name y py] (.ListComp elt [⟨tg, iter, ifs, 0⟩] scope pos) spos) (tAsg (tLc wi g tt te (own.map (·.2))) (gName i)) := by
  refine ⟨fun pins s σ H D I h => ?_⟩
  rw [exec_Assign_Name_used _ _ _ _ hsw]
  refine wpAny_bind (wpAny_standAt (wpAny_bind ?_))
  show wpAny _ X.A (do let _ ← comprehension (.ListComp elt [⟨tg, iter, ifs, 0⟩] scope pos) scope X.env (firstIterPos [⟨tg, iter, ifs, 0⟩] pos) (newList []) false (eval iter X.env) (some (assign (.Name y py) X.env))) _ _ s
  have h : tLc wi g tt te (own.map (·.2)) σ H (fun x H1 => gName i x σ H1 D.nx) := h
  refine wpAny_bind (thn (lc_hot (Qf := fun _ s' => SP X pins D .next s') hh hN I hi ok hg ht he hs h fun L C s' m H' I' q hn f => ?_) fun _ s' hq => wpAny_pure (wpAny_pure hq))
  show wpAny _ _ (assign (.Name y py) X.env (.ref L)) _ _ _
  refine wpAny_assign_Name (store_ok2 (v := V.ref L) I' hN hy (.inl hyl) rfl (fun s2 I2 z => ?_) (.inr hyl))
  obtain ⟨a, sb, ha⟩ := z
  obtain ⟨f0, f1, f2, f3, f4, f5⟩ := f
  have haC : C ≠ a := ha.elim (fun z => by rw [z]; exact f1) fun z e => f4 y a z e.symm
  exact ⟨m, hn.sameBut sb haC, fun h3 sb3 => ⟨_, H', I2.turned (t' := s2.toks) (fun b o hb e => (sb3.2 b hb).trans e) f0 f1 f3 f4 f5, q⟩⟩
/-! ### told of the layer -/
def DIN (X : Cx) (A : Amb) (tg e : Expr) (fi : Sl → Mm → Res Src) : Prop := ∀ Wx, L2N.Takes X Wx → PIN X tg e (tDI X.K A Wx fi)
theorem din_list {A : Amb} {tg e : Expr} {f : Sl → Mm → Res D} (h : DE X A e f) : DIN X A tg e (sList f) := fun Wx tk => PIN.imp (pi_listN (h Wx tk)) fun _ _ _ q => list_imp q
theorem ds_setLcN {A : Amb} {tg : Expr} {f : Sl → Mm → Res D} {pos : Pos} {i : Nat} {y : Str} {py : Pos} {elt iter : Expr} {ifs : List Expr} {scope : Scope} {own : List (Str × Nat)} {spos : Pos} {g : TG} {fi : Sl → Mm → Res Src} {h : D → Sl → Option Sl} {t : Sl → Mm → Res Bool} (hh : L2H.HotC X) (hN : X.N.Nodup) (hy : X.N[i]? = some y) (hyl : X.env.scope.names.lookup y = some .local)
    (hsw : swapsWith (.ListComp elt [⟨tg, iter, ifs, 0⟩] scope pos) (some (.Name y py)) spos.line X.env = pure true) (hi : DIN X A tg iter fi) (ok : BlkOk X.N X.env.scope scope own)
    (hg : ∀ (s : Shared) (H : Hp) (C : Addr) (cl : List (Str × Addr)) (fp : List Addr), HotB X s H fp → PG (X.blk s H scope (compEnvC scope cl C X.env) fp) tg g) (hc : TgC X.K (own.map (·.2)) g h)
    (ht : ∀ (s : Shared) (H : Hp) (C : Addr) (cl : List (Str × Addr)) (fp : List Addr), DTs (X.blk s H scope (compEnvC scope cl C X.env) fp) A ifs t)
    (he : ∀ (s : Shared) (H : Hp) (C : Addr) (cl : List (Str × Addr)) (fp : List Addr), DE (X.blk s H scope (compEnvC scope cl C X.env) fp) A elt f) (hs : ∀ x, foldedSetIterable iter X.env x = pure x := by intro _; rfl) :
    DS X A (.Assign [.Name y py] (.ListComp elt [⟨tg, iter, ifs, 0⟩] scope pos) spos) (gAsg (dLc fi h t f (own.map (·.2))) (hName i)) := by
  intro Wx tk
  refine PS.imp (ps_setLcN (tt := tDT X.K A wNo t) (te := tD X.K A wNo f) hh hN hy hyl hsw (hi Wx tk) ok hg (fun s H C cl fp => ht s H C cl fp wNo takes_no) (fun s H C cl fp => he s H C cl fp wNo takes_no) hs) fun E σ H q => ?_
  obtain ⟨ρ, W, rfl, ok0, sl, p⟩ := q
  show tLc (tDI X.K A Wx fi) g (tDT X.K A wNo t) (tD X.K A wNo f) (own.map (·.2)) σ W.H (fun x H1 => gName i x σ H1 E.nx)
  exact lc_imp (Wx := Wx) hc ⟨ρ, W, rfl, ok0, sl, PostS.eb ok0 sl p fun d v W1 ok1 l1 r1 p1 => p1 (σ.set i (some v)) W1 ok1 (Le.rfl' _) rfl ((sl.le l1 ok0).set r1 i)⟩
end
end Ny


set_option Elab.async false
set_option linter.all false
set_option maxRecDepth 100000
set_option maxHeartbeats 2000000
/-! NyLam: a lambda without parameters, handed to a def that calls it within a try. -/
namespace Ny
open PySem PySem.Spec PyProof.Rows L2 LamX
/-! ### the tables may grow -/
section
variable {K : PySem.W.Frag} {A : Amb} {W : Wd}
theorem Ok.tabsN (h : Ok K A W) {H1 : Hp} (e : ExtN W.H H1) (t : Tabs A.T H1) : Ok K A ⟨W.al, H1, W.M⟩ ∧ Le W ⟨W.al, H1, W.M⟩ := by
  have le : Le W ⟨W.al, H1, W.M⟩ := by
    refine ⟨Nat.le_refl _, fun _ _ => rfl, fun b o q _ nt => e b o q nt, fun b q o ho => ?_, fun i h1 h2 => absurd h2 (by show ¬ i < W.M.length; omega)⟩
    by_cases nt : ∃ ps, o = .tbl ps
    · exact nt
    · exact q o (e b o ho fun ps z => nt ⟨ps, z⟩)
  have k := le.keep h
  refine ⟨⟨h.inj, fun i mo q => ?_, t, ?_⟩, le⟩
  · obtain ⟨u, eu, hu⟩ := (h.obj i mo q).is
    refine (h.obj i mo q).keep k fun o ho => e _ o ho fun ps z => ?_
    rw [eu] at ho
    cases ho
    rw [z] at hu
    rcases hu with ⟨_, y⟩ | ⟨_, _, _, y⟩ | y <;> cases y
  · rcases h.scr with ⟨r, n⟩ | s
    · refine .inl ⟨?_, n⟩
      rcases r with r | ⟨o, r⟩
      · exact .inl (e _ _ r fun ps z => nomatch z)
      · exact .inr ⟨o, e _ _ r fun ps z => nomatch z⟩
    · exact .inr s
end
/-- the context of a lambda's body: an exception that leaves it has no context -/
abbrev lamN (X : Cx) (A : Around) (outer : List Env) (s : Shared) (H : Hp) (E : XK) (scope : Scope) (f c' : Addr) : Cx :=
  (lamCx X A outer s H E scope f c').wish fun e s' => wpAny (model X.prog X.w) (A.deeper (lamEnv X scope s.heap.objs.size f c')) (leaving (lamEnv X scope s.heap.objs.size f c') e) (fun _ s'' => L2N.CX X.prog X.w outer H s E e s'') (fun e' s'' => L2N.CX X.prog X.w outer H s E e' s'') s'
section
variable {X : Cx} {pins : List (Addr × Obj)} {σ : L2.St} {H HZ : Hp} {s s1 : Shared}
/-- a(), in the def that got the lambda -/
theorem pe_actN {CXg : CXT} {Eg : XK} {Ng : List Str} {qg : Str} {sg : Scope} {g f c' : Addr} {cdg pm ctv : Value} {params : Arguments} {body : Expr} {scope : Scope} {k i : Nat} {a : Str} {pn : List (Addr × Obj)} {xe : Value → Shared → Prop} {W : WX} {tb : XK → TE} {p1 p2 : Pos}
    (I : Inv X pins σ H s) (L : LamS X.env.scope scope) (hf : s.heap.get? f = some (PySem.W.kla_obj "<lambda>" (X.env.qual ++ "<lambda>") params body scope (cloFrom X.env.cells scope.names []) pm c' ctv)) (hfn : H f = none) (hfr : f ∉ frs X.stack)
    (hbind : bindArgs (PySem.W.kla_fn "<lambda>" (X.env.qual ++ "<lambda>") params body scope (cloFrom X.env.cells scope.names []) pm (.ref c') ctv) ⟨[], []⟩ = pure [])
    (tk : L2N.Takes ((cxOf CXg X.prog X.w X.K X.mg X.base Ng qg sg g cdg X.A X.stack s H Eg).tr pn xe) W) (hr : Room (k + 1) (X.A.deeper (envOfC qg sg s.heap.objs.size g cdg)))
    (hbody : ∀ (A : Around) (outer : List Env) (s : Shared) (H : Hp) (E : XK), Room k (A.deeper (lamEnv X scope s.heap.objs.size f c')) → PE (lamN X A outer s H E scope f c') body (tb E))
    (hN : Ng[i]? = some a) (hv : Vis sg a) (hd : (a == ("__debug__" : Str)) = false := by decide) (hcd : (a == ("__classdict__" : Str)) = false := by decide) :
    PE ((cxOf CXg X.prog X.w X.K X.mg X.base Ng qg sg g cdg X.A X.stack s H Eg).tr pn xe) (.Call (.Name a p1) [] [] p2)
      (fun σZ HZ Q => ∃ E : XK, σZ[i]? = some (some (.ref f)) ∧ HZ c' = some (CodeO c' (X.env.qual ++ "<lambda>")) ∧ (∀ cls d H', E cls d H' → W cls d σZ H') ∧ tb E σ HZ Q) := by
  refine ⟨fun pinsZ sZ σZ HZ Q IZ h => ?_⟩
  obtain ⟨E, hs, hc, hW, ht⟩ := h
  refine wpAny_Call_Name_kw (thn ((pe_var (pos := p1) (i := i) hN hv hd hcd).run pinsZ sZ σZ HZ (fun v H1 => v = .ref f ∧ H1 = HZ) IZ ⟨.ref f, hs, rfl, rfl⟩) fun u s1 z => ?_)
  obtain ⟨v, H1, I1, r1, rfl, rfl⟩ := z
  obtain rfl : u = Value.ref f := r1
  have there : s1.heap.get? f = some (PySem.W.kla_obj "<lambda>" (X.env.qual ++ "<lambda>") params body scope (cloFrom X.env.cells scope.names []) pm c' ctv) := I1.base.keep f _ hf hfn hfr (fun z => nomatch (show f ∈ ([] : List Addr) from z))
  refine PySem.W.callWith_F0 ⟨_, _, _, _, there⟩ ?_
  obtain ⟨⟨oc, vs, t, hoc, hdc, hvc⟩, _, _⟩ := I1.hok c' _ hc
  have rc : codeAny (model X.prog X.w) (X.A.deeper (envOfC qg sg s.heap.objs.size g cdg)) (.call (.ref f) ⟨[], []⟩) (CR (L2N.CX X.prog X.w) (envOfC qg sg s.heap.objs.size g cdg :: X.stack) X.prog X.w H1 s1 Q E) s1 := by
    refine PySem.W.kla_callFunE hr.depth there rfl L.co L.gen rfl ⟨c', oc, vs, t, rfl, hoc, hdc, hvc⟩ ?_
    rw [hbind]
    refine wpAny_pure (wpAny_newFunctionEnv (fun y hy => (L.own y hy).2) (fun y hy => absurd hy (by simp)) (fun h₁ hns hsb => ⟨I1.nolimit.fresh _ hsb, ?_⟩) L.kind)
    show codeAny _ _ (.expr body (lamEnv X scope s1.heap.objs.size f c')) _ _
    have kp : ∀ b o, s1.heap.get? b = some o → h₁.get? b = some o := fun b o e => hsb.extBut b o (Nat.ne_of_lt (Heap.lt_size e)) (Heap.get?_push_of_some _ e)
    have J : Inv (lamCx X (X.A.deeper (envOfC qg sg s.heap.objs.size g cdg)) (envOfC qg sg s.heap.objs.size g cdg :: X.stack) s1 H1 E scope f c') [] σ H1 { s1 with heap := h₁, toks := s1.toks + ([] : List (Str × Value)).length } :=
      lam_start2 I L I1.env0 hr.hd I1.base hns kp
    refine PySem.W.kla_codeExpr (wpAny_mono ((hbody _ _ s1 H1 E (hr.deeper _)).run [] _ _ H1 Q (J.wish _) ht) (fun v s' hq => ?_) fun e s' hq => hq)
    obtain ⟨w', H', J', rv, q⟩ := hq
    exact ⟨w', H', J'.os, J'.bare, J'.base, J'.hok, rv, q⟩
  refine wpAny_call (codeAny_mono rc fun r s' hq => ?_)
  cases r with
  | error e => exact tk e s' (L2N.XE.of_call I1 hW hq)
  | ok fl =>
    cases fl with
    | ret u => exact I1.after hq
    | next => exact False.elim hq
    | brk => exact False.elim hq
    | cont => exact False.elim hq
end
/-- the def that calls what it got -/
def GivesN (X : Cx) (Ng : List Str) (x : Str) (sg : Scope) (g : Addr) (cdg : Value) (bg : List Stmt) (a : Str) (q : Str) (TT : (XK → Hp → VK → Prop) → Hp → VK → Prop) : Prop :=
  ∀ (f c' : Addr) (s : Shared) (H : Hp) (Q : VK) (tl : XK → Hp → VK → Prop),
    (∀ (W : WX) (pn : List (Addr × Obj)) (xe : Value → Shared → Prop) (p1 p2 : Pos), L2N.Takes ((cxOf C8.CX0 X.prog X.w X.K X.mg X.base Ng x sg g cdg X.A X.stack s H C8.E0).tr pn xe) W →
      PE ((cxOf C8.CX0 X.prog X.w X.K X.mg X.base Ng x sg g cdg X.A X.stack s H C8.E0).tr pn xe) (.Call (.Name a p1) [] [] p2) (fun σZ HZ Q => ∃ E : XK, σZ[0]? = some (some (.ref f)) ∧ HZ c' = some (CodeO c' q) ∧ (∀ cls d H', E cls d H' → W cls d σZ H') ∧ tl E HZ Q)) →
    H c' = some (CodeO c' q) → TT tl H Q →
    ∃ t, PSs (cxOf C8.CX0 X.prog X.w X.K X.mg X.base Ng x sg g cdg X.A X.stack s H C8.E0).nox bg t ∧ t { nx := fun _ H' => Q .non H', rt := Q } (L2.start Ng [.ref f]) H
section
variable {X : Cx}
/-- x(lambda: body) -/
theorem pe_lamN {T : List (Addr × Str)} {TT : (XK → Hp → VK → Prop) → Hp → VK → Prop} {x a : Str} {g c P : Addr} {k : Nat} {pg : Arguments} {bg : List Stmt} {sg : Scope} {dV kV doc pm cdv ct oc : Value} {an od : Option Addr} {osl : Array (Option Value)} {Ng : List Str}
    {params : Arguments} {body : Expr} {scope : Scope} {t : XK → TE} {p lpos pos : Pos} (hg : Gl X x) (hm : X.mg x = some (.ref g)) (hk : PySem.W.keepIn X.K (.ref g) = true)
    (lk : X.K.lookup g = some ⟨oc, od, .func (PySem.W.fnOf x x pg bg sg dV kV doc pm an cdv ct), osl⟩) (hcg : PySem.W.codeIn X.K cdv x = true) (hb : L2.Binds X.K (PySem.W.fnOf x x pg bg sg dV kV doc pm an cdv ct) [a] []) (Sg : FnScope Ng [a] sg) (hNg : Ng[0]? = some a) (hva : Vis sg a)
    (hG : GivesN X Ng x sg g cdv bg a (X.env.qual ++ "<lambda>") TT)
    (TB : TabB X.base X.mg c P) (hcode : X.env.code = .ref c) (hmT : (P, X.env.qual ++ "<lambda>") ∈ T) (hu : ∀ p ∈ T, p.1 = P → p.2 = X.env.qual ++ "<lambda>") (hr : Room (k + 2) X.A) (L : LamS X.env.scope scope) (hdef : defaultsOf params X.env = ([], []))
    (hbind : ∀ (q : Str) (cl : List (Str × Addr)) (pm cv ctv : Value), bindArgs (PySem.W.kla_fn "<lambda>" q params body scope cl pm cv ctv) ⟨[], []⟩ = pure [])
    (hbody : ∀ (A : Around) (outer : List Env) (s : Shared) (H : Hp) (E : XK) (f c' : Addr), Room k (A.deeper (lamEnv X scope s.heap.objs.size f c')) → PE (lamN X A outer s H E scope f c') body (t E))
    (hdb : (x == ("__debug__" : Str)) = false := by decide) (hd : (a == ("__debug__" : Str)) = false := by decide) (hcd : (a == ("__classdict__" : Str)) = false := by decide) :
    PE X (.Call (.Name x p) [.Lambda params body scope lpos] [] pos) (tLam T TT t) := by
  refine ⟨fun pins s σ H Q I h => ?_⟩
  obtain ⟨hT, h⟩ := h
  refine wpAny_Call_Name_kw (ld_glob I hg hm ?_ hdb)
  refine PySem.W.callWith_K (h₀ := X.base) I.ok.mod.kin hk ?_ (by rfl) (by rfl)
  show wpAny _ _ (spliced ((false, eval (.Lambda params body scope lpos) X.env) :: backTo pos (starEach [] X.env))) _ _ s
  refine Calls.spliced_cons (lam_make2 I TB hcode hmT hu hT hdef (L.has I.ok) fun f c' pm' ctv H1 s' I1 eN T1 hf hfn hfr hco => Calls.spliced_nil ⟨I1.kIn, ?_⟩)
  have rc : codeAny (model X.prog X.w) X.A (.call (.ref g) ⟨[.ref f], []⟩) (CR C8.CX0 X.stack X.prog X.w H1 s' Q C8.E0) s' := by
    refine run_ofS (N := Ng) (ps := [a]) (us := [.ref f]) (vs := [.ref f]) lk hcg Sg hr I1.env0 (hb s' [.ref f] I1.kIn rfl) (.cons rfl .nil) rfl fun hr' => ?_
    obtain ⟨t', ht', hq'⟩ := hG f c' s' H1 Q (fun E H' Q' => t E σ H' Q') (fun W pn xe p1 p2 tk => pe_actN (i := 0) I1 L hf hfn hfr (hbind _ _ _ _ _) tk hr' (fun A outer s H E hr2 => hbody A outer s H E f c' hr2) hNg hva hd hcd) hco (h H1 eN T1)
    exact ⟨t', ht'.nox, hq'⟩
  refine wpAny_call (codeAny_mono rc fun r s2 hq => ?_)
  cases r with
  | error e => exact (show False from hq).elim
  | ok fl =>
    cases fl with
    | ret u => exact I1.after hq
    | next => exact False.elim hq
    | brk => exact False.elim hq
    | cont => exact False.elim hq
end
end Ny


set_option Elab.async false
set_option linter.all false
set_option maxRecDepth 100000
set_option maxHeartbeats 2000000
/-! NyErr: def x(call): try: call() except E as n: suite, then return 'let'. -/
namespace Ny
open PySem PySem.Spec PyProof.Rows L2 LamX
def endR (r : RS) : Res D := match r with
  | .ok (.rt d) _ M => .ok d M
  | _ => .stuck
def TTe (K : PySem.W.Frag) (A : Amb) (cs : List Addr) (ret : Str) (sE : Addr → Mm → Res D) : (XK → Hp → VK → Prop) → Hp → VK → Prop := fun tl H Q =>
  ∃ E : XK, tl E H (fun _ H' => Q (.str ret) H') ∧ ∀ cls d H', E cls d H' → ∃ c W2, cls = .ref c ∧ c ∈ cs ∧ d = none ∧ W2.H = H' ∧ Ok K A W2 ∧ Post K A wNo (Rep K) [] W2 Q (sE c W2.M)
section
variable {X : Cx} {A : Amb}
theorem takes_noN {X : Cx} : L2N.Takes X (fun _ _ _ _ => False) := takes_no
theorem err_gives {Ng : List Str} {x a n e q ret : Str} {sg : Scope} {g CS : Addr} {cdg : Value} {cs : List Addr} {gS : Addr → Addr → Sl → Mm → RS} {sE : Addr → Mm → Res D} {b₀ : Stmt} {suite : List Stmt} {j : Nat} {p1 p2 p3 p4 p5 p6 p7 p8 : Pos}
    (hge : sg.names.lookup e = some .globalImplicit) (hme : X.mg e = some (.ref CS)) (hde : (e == ("__debug__" : Str)) = false) (hN : Ng.Nodup) (h1 : Ng[1]? = some n) (hl : 1 < Ng.length) (hln : sg.names.lookup n = some .local) (hex : ∀ c ∈ cs, PySem.W.exmOne X.K (.ref c) (.ref CS) = some true)
    (hsu : ∀ (s : Shared) (H : Hp) (c : Addr), c ∈ cs → ∀ (a : Addr) (oe : Obj) (pn : List (Addr × Obj)), L2N.Zn (.ref c) none oe → (∃ vs, oe.data = .fields vs) → DSs ((cxOf C8.CX0 X.prog X.w X.K X.mg X.base Ng x sg g cdg X.A X.stack s H C8.E0).nox.suite a ((a, oe) :: pn)) A (b₀ :: suite) (gS a c))
    (hS : ∀ (a f c : Addr) (M : Mm), c ∈ cs → endR (gS a c ((startD Ng [.ext (.ref f)]).set 1 (some (.ext (.ref a)))) M) = sE c M) :
    GivesN X Ng x sg g cdg [.Try [.Expr (.Call (.Name a p1) [] [] p2) p3] [.ExceptHandler (some (.Name e p4)) (some n) (b₀ :: suite) p5] [] [] p6, .Return (some (.Constant (.str ret) j p7)) p8] a q (TTe X.K A cs ret sE) := by
  intro f c' s H Q tl act hc h
  obtain ⟨E, h1', h2'⟩ := h
  have hgl : Gl (cxOf C8.CX0 X.prog X.w X.K X.mg X.base Ng x sg g cdg X.A X.stack s H C8.E0).nox e := hge
  refine ⟨_, pss_cons (L2N.ps_try_as (X := (cxOf C8.CX0 X.prog X.w X.K X.mg X.base Ng x sg g cdg X.A X.stack s H C8.E0).nox) (i := 1) (c := .ref CS)
    (tb := fun W => tDrop (fun σZ HZ Q => ∃ E : XK, σZ[0]? = some (some (.ref f)) ∧ HZ c' = some (CodeO c' q) ∧ (∀ cls d H', E cls d H' → W cls d σZ H') ∧ tl E HZ Q))
    (ts := fun a cls d D σ H => ∃ c, cls = .ref c ∧ c ∈ cs ∧ d = none ∧ tDS X.K A wNo (gS a c) D σ H) (Wout := fun _ _ _ _ => False)
    rfl rfl hN h1 hln ⟨hgl, hde, .inl hme⟩ takes_noN (fun W pn xe tk _ => pss_one (ps_expr (act W pn xe p1 p2 tk))) (fun a oe cls d pn hz hf => ⟨fun pins s' σ H' D I h => ?_⟩)) (pss_one (ps_ret pe_str)), ?_⟩
  · obtain ⟨c, rfl, hcs, rfl, h⟩ := h
    exact (hsu s H c hcs a oe pn hz hf wNo takes_no).run pins s' σ H' D I h
  · refine ⟨E, rfl, hc, fun cls d H' hE => ?_, h1'⟩
    obtain ⟨c, W2, rfl, hcs, rfl, rfl, ok2, p2⟩ := h2' cls d H' hE
    refine ⟨true, hex c hcs, fun _ b hb => ⟨c, rfl, hcs, rfl, (startD Ng [.ext (.ref f)]).set 1 (some (.ext (.ref b))), W2, rfl, ok2, ?_, ?_⟩, fun z => nomatch z⟩
    · have s0 : Slots X.K W2 (L2.start Ng [V.ref f]) (startD Ng [.ext (.ref f)]) := slots_start (Reps.cons (by simp only [Rep]) Reps.nil) Ng
      exact s0.set (d := .ext (.ref b)) (v := .ref b) (by simp only [Rep]) 1
    · rw [← hS b f c W2.M hcs] at p2
      cases q2 : gS b c ((startD Ng [.ext (.ref f)]).set 1 (some (.ext (.ref b)))) W2.M with
      | ok o ρ m =>
        rw [q2] at p2
        cases o with
        | rt d => exact fun v W3 ok3 l3 em rv => p2 v W3 ok3 l3 em rv
        | nx => exact p2.elim
        | bk => exact p2.elim
        | ct => exact p2.elim
      | exc c m => rw [q2] at p2; exact p2.elim
      | stuck => rw [q2] at p2; exact p2.elim
/-- x(lambda: body) -/
def dLam (cs : List Addr) (ret : Str) (sE : Addr → Mm → Res D) (fb : Sl → Mm → Res D) : Sl → Mm → Res D := fun ρ M => match fb ρ M with
  | .ok _ M1 => .ok (.str ret) M1
  | .exc c M1 => if c ∈ cs then sE c M1 else .stuck
  | .stuck => .stuck
theorem lam_imp {T : List (Addr × Str)} {cs : List Addr} {ret : Str} {sE : Addr → Mm → Res D} {fb : Sl → Mm → Res D} {K : PySem.W.Frag} {Wx : WX} {σ : L2.St} {H : Hp} {Q : VK} (hT : A.T = T) (hxc : ∀ c ∈ cs, c ∉ A.xc) (hsE : ∀ c M c' M', sE c M ≠ .exc c' M') (q : tD K A Wx (dLam cs ret sE fb) σ H Q) :
    tLam T (TTe K A cs ret sE) (fun E => tD K A (fun cls d _ H => E cls d H) fb) σ H Q := by
  obtain ⟨ρ, W, rfl, ok, sl, p⟩ := q
  subst hT
  refine ⟨ok.tabs, fun H1 eN T1 => ?_⟩
  obtain ⟨ok1, l1⟩ := ok.tabsN eN T1
  have p1 := Post.le p l1
  refine ⟨fun cls d H' => ∃ c W2, cls = .ref c ∧ c ∈ cs ∧ d = none ∧ W2.H = H' ∧ Ok K A W2 ∧ Post K A wNo (Rep K) [] W2 Q (sE c W2.M), ⟨ρ, ⟨W.al, H1, W.M⟩, rfl, ok1, sl.le l1 ok, ?_⟩, fun cls d H' h => h⟩
  show Post K A _ (Rep K) σ ⟨W.al, H1, W.M⟩ _ (fb ρ W.M)
  unfold dLam at p1
  cases q : fb ρ W.M with
  | ok a m =>
    rw [q] at p1
    exact fun v W2 ok2 l2 em rv => p1 (.str ret) W2 ok2 l2 em (by simp only [Rep])
  | exc c m =>
    rw [q] at p1
    intro dd W2 ok2 l2 em hd
    dsimp only at p1
    split at p1
    · rename_i hcs
      unfold DdOk at hd
      rw [if_neg (hxc c hcs)] at hd
      refine ⟨c, W2, rfl, hcs, hd, rfl, ok2, ?_⟩
      rw [em]
      have p2 := Post.le p1 l2
      cases q3 : sE c m with
      | ok a m3 => rw [q3] at p2; exact p2
      | exc c3 m3 => exact (hsE _ _ _ _ q3).elim
      | stuck => rw [q3] at p2; exact p2.elim
    · exact p1.elim
  | stuck => rw [q] at p1; exact p1.elim
theorem de_lam {x a : Str} {g c P : Addr} {k : Nat} {pg : Arguments} {bg : List Stmt} {sg : Scope} {dV kV doc pm cdv ct oc : Value} {an od : Option Addr} {osl : Array (Option Value)} {Ng : List Str} {cs : List Addr} {ret : Str} {sE : Addr → Mm → Res D} {fb : Sl → Mm → Res D}
    {params : Arguments} {body : Expr} {scope : Scope} {p lpos pos : Pos} (hxc : ∀ c ∈ cs, c ∉ A.xc) (hsE : ∀ c M c' M', sE c M ≠ .exc c' M') (hg : Gl X x) (hm : X.mg x = some (.ref g)) (hk : PySem.W.keepIn X.K (.ref g) = true)
    (lk : X.K.lookup g = some ⟨oc, od, .func (PySem.W.fnOf x x pg bg sg dV kV doc pm an cdv ct), osl⟩) (hcg : PySem.W.codeIn X.K cdv x = true) (hb : L2.Binds X.K (PySem.W.fnOf x x pg bg sg dV kV doc pm an cdv ct) [a] []) (Sg : FnScope Ng [a] sg) (hNg : Ng[0]? = some a) (hva : Vis sg a)
    (hG : GivesN X Ng x sg g cdv bg a (X.env.qual ++ "<lambda>") (TTe X.K A cs ret sE))
    (TB : TabB X.base X.mg c P) (hcode : X.env.code = .ref c) (hmT : (P, X.env.qual ++ "<lambda>") ∈ A.T) (hu : ∀ p ∈ A.T, p.1 = P → p.2 = X.env.qual ++ "<lambda>") (hr : Room (k + 2) X.A) (L : LamS X.env.scope scope) (hdef : defaultsOf params X.env = ([], []))
    (hbind : ∀ (q : Str) (cl : List (Str × Addr)) (pm cv ctv : Value), bindArgs (PySem.W.kla_fn "<lambda>" q params body scope cl pm cv ctv) ⟨[], []⟩ = pure [])
    (hbody : ∀ (A0 : Around) (outer : List Env) (s : Shared) (H : Hp) (E : XK) (f c' : Addr), Room k (A0.deeper (lamEnv X scope s.heap.objs.size f c')) → DE (lamN X A0 outer s H E scope f c') A body fb)
    (hdb : (x == ("__debug__" : Str)) = false := by decide) (hd : (a == ("__debug__" : Str)) = false := by decide) (hcd : (a == ("__classdict__" : Str)) = false := by decide) :
    DE X A (.Call (.Name x p) [.Lambda params body scope lpos] [] pos) (dLam cs ret sE fb) := by
  intro Wx tk
  refine PE.imp (pe_lamN (T := A.T) (t := fun E => tD X.K A (fun cls d _ H => E cls d H) fb) hg hm hk lk hcg hb Sg hNg hva hG TB hcode hmT hu hr L hdef hbind (fun A0 outer s H E f c' hr' => hbody A0 outer s H E f c' hr' _ (L2N.takes_of rfl rfl rfl rfl)) hdb hd hcd) fun σ H Q q => ?_
  exact lam_imp rfl hxc hsE q
end
end Ny


set_option Elab.async false
set_option linter.all false
set_option maxRecDepth 10000
set_option maxHeartbeats 1000000
/-! NyGen: the forms that the printed derivations use. -/
namespace Ny
open PySem PySem.Spec PyProof.Rows L2 LamX
section
variable {X : Cx} {A : Amb} {pos : Pos}
theorem dv (i : Nat) {x : Str} (hN : X.N[i]? = some x := by rfl) (hv : Vis X.env.scope x := by first | exact Or.inl rfl | exact Or.inr (Or.inl rfl) | exact Or.inr (Or.inr rfl)) (hd : (x == ("__debug__" : Str)) = false := by decide) (hcd : (x == ("__classdict__" : Str)) = false := by decide) : DE X A (.Name x pos) (dVar i) :=
  de_var hN hv hd hcd
theorem dgn (i : Nat) {x : Str} (hN : X.N.Nodup) (hi : X.N[i]? = some x := by rfl) (hx : Loc X.env.scope x := by first | exact Or.inl rfl | exact Or.inr rfl) (hf : X.fn x = true ∨ X.env.scope.names.lookup x = some .local := by first | exact .inl rfl | exact .inr rfl) : DG X A (.Name x pos) (hName i) :=
  dg_name hN hi hx hf
theorem pgn (i : Nat) {x : Str} (hN : X.N.Nodup) (hi : X.N[i]? = some x := by rfl) (hx : Loc X.env.scope x := by first | exact Or.inl rfl | exact Or.inr rfl) (hf : X.fn x = true ∨ X.env.scope.names.lookup x = some .local := by first | exact .inl rfl | exact .inr rfl) : PG X (.Name x pos) (gName i) :=
  pg_name hN hi hx hf
end
/-- a def as the top leaves it -/
structure DefT (K : PySem.W.Frag) (at_ : Str × Option Str) (x qual : Str) (st : Stmt) : Prop where
  ex : ∃ fd, FunD K x qual (defArgs st) (defBody st) (defScope st) [] [] (He.fAd K at_) fd
abbrev BindF (x qual : Str) (st : Stmt) (ps : List Str) : Prop := ∀ (kV doc pm : Value) (an : Option Addr) (cdv ct : Value) (us : List Value), us.length = ps.length → bindArgs (PySem.W.fnOf x qual (defArgs st) (defBody st) (defScope st) .none kV doc pm an cdv ct) ⟨us, []⟩ = pure (ps.zip us)
/-- a global def that does what den says -/
structure FOk (P : Program) (w : World) (K : PySem.W.Frag) (mg : Str → Option Value) (base : Heap) (A : Amb) (k : Nat) (x : Str) (ps : List Str) (den : Den) : Prop where
  ex : ∃ f fd, FnOk P w K mg base (L2N.CX P w) k f fd ps (spD K A den) ∧ mg x = some (.ref f) ∧ PySem.W.keepIn K (.ref f) = true ∧ Binds K fd ps []
/-- a class whose instances are made by such an __init__ -/
structure MOk (P : Program) (w : World) (K : PySem.W.Frag) (mg : Str → Option Value) (base : Heap) (A : Amb) (k : Nat) (x : Str) (C : Addr) (ps : List Str) (den : Den) : Prop where
  ex : ∃ f fd, Mk K C f ∧ FnOk P w K mg base (L2N.CX P w) k f fd ps (spD K A den) ∧ mg x = some (.ref C) ∧ Binds K fd ps []
/-- a class with such an __eq__ -/
structure EOk (P : Program) (w : World) (K : PySem.W.Frag) (mg : Str → Option Value) (base : Heap) (A : Amb) (k : Nat) (C : Addr) (ps : List Str) (den : Den) : Prop where
  ex : ∃ f fd, FnOk P w K mg base (L2N.CX P w) k f fd ps (spD K A den) ∧ PySem.W.findIn K (.ref C) "__eq__" = some (some (.ref f)) ∧ PySem.W.isFn K (.ref f) = true ∧ Binds K fd ps [] ∧ PySem.W.notFirst K C (.type "tuple") = true
section
variable {P : Program} {w : World} {K : PySem.W.Frag} {mg : Str → Option Value} {base : Heap} {A : Amb} {k : Nat} {x qual : Str} {N ps : List Str} {st : Stmt} {g : Sl → Mm → RS}
theorem fn_body {at_ : Str × Option Str} (D : DefT K at_ x qual st) (bn : BindF x qual st ps) (S : FnScope N ps (defScope st))
    (hb : ∀ (cdv : Value) (A0 : Around) (outer : List Env) (s : Shared) (H : Hp) (E : XK), Room k (A0.deeper (envOfC qual (defScope st) s.heap.objs.size (He.fAd K at_) cdv)) → DSs (cxOf (L2N.CX P w) P w K mg base N qual (defScope st) (He.fAd K at_) cdv A0 outer s H E) A (defBody st) g) :
    ∃ fd, FnOk P w K mg base (L2N.CX P w) (k + 1) (He.fAd K at_) fd ps (spD K A (bodyD N ps.length g)) ∧ PySem.W.keepIn K (.ref (He.fAd K at_)) = true ∧ Binds K fd ps [] := by
  obtain ⟨fd, F⟩ := D.ex
  exact ⟨fd, def_ok F S hb, F.kp, F.bindsN bn⟩
theorem fok_of (D : DefT K (x, none) x x st) (hg : mg x = some (.ref (He.ga K x))) (bn : BindF x x st ps) (S : FnScope N ps (defScope st))
    (hb : ∀ (cdv : Value) (A0 : Around) (outer : List Env) (s : Shared) (H : Hp) (E : XK), Room k (A0.deeper (envOfC x (defScope st) s.heap.objs.size (He.fAd K (x, none)) cdv)) → DSs (cxOf (L2N.CX P w) P w K mg base N x (defScope st) (He.fAd K (x, none)) cdv A0 outer s H E) A (defBody st) g) :
    FOk P w K mg base A (k + 1) x ps (bodyD N ps.length g) := by
  obtain ⟨fd, h1, h2, h3⟩ := fn_body D bn S hb
  exact ⟨_, fd, h1, hg, h2, h3⟩
/-- as fok_of, for a def that makes lambdas: its code object is known -/
theorem fok_ofC (D : DefT K (x, none) x x st) (hg : mg x = some (.ref (He.ga K x))) (bn : BindF x x st ps) (S : FnScope N ps (defScope st))
    (hb : ∀ (A0 : Around) (outer : List Env) (s : Shared) (H : Hp) (E : XK), Room k (A0.deeper (envOfC x (defScope st) s.heap.objs.size (He.fAd K (x, none)) (.ref (He.codeOf K (x, none))))) → DSs (cxOf (L2N.CX P w) P w K mg base N x (defScope st) (He.fAd K (x, none)) (.ref (He.codeOf K (x, none))) A0 outer s H E) A (defBody st) g) :
    FOk P w K mg base A (k + 1) x ps (bodyD N ps.length g) := by
  obtain ⟨fd, F⟩ := D.ex
  have kp := F.kp
  have bnd := F.bindsN bn
  obtain ⟨oc, od, dV, kV, doc, pm, an, cdv, ct, osl, rfl, lk, hcd, _, _⟩ := F.ex
  obtain ⟨c, rfl⟩ := He.codeIn_ref hcd
  have e := He.codeOf_eq (p := (x, none)) lk rfl
  subst e
  refine ⟨_, _, fn_of lk hcd S (fun vs H Q E h => spD_len h) fun A0 outer s H vs Q E hr h => ?_, hg, kp, bnd⟩
  have hl := spD_len h
  refine ⟨tDS K A (fun cls d _ H => E cls d H) g, hb A0 outer s H E hr _ (L2N.takes_of rfl rfl rfl rfl), ?_⟩
  obtain ⟨ds, W, rfl, ok, r, p⟩ := h
  unfold bodyD at p
  rw [if_pos (by rw [← r.length]; exact hl)] at p
  exact ⟨startD N ds, W, rfl, ok, slots_start r N, post_end p⟩
theorem mok_of {C : Addr} {m : Str} {cl : Str} (D : DefT K (cl, some m) m qual st) (hC : C = He.ga K cl) (hm : m = "__init__") (mk : Mk K C (He.ma K C "__init__")) (hg : mg cl = some (.ref C)) (bn : BindF m qual st ps) (S : FnScope N ps (defScope st))
    (hb : ∀ (cdv : Value) (A0 : Around) (outer : List Env) (s : Shared) (H : Hp) (E : XK), Room k (A0.deeper (envOfC qual (defScope st) s.heap.objs.size (He.fAd K (cl, some m)) cdv)) → DSs (cxOf (L2N.CX P w) P w K mg base N qual (defScope st) (He.fAd K (cl, some m)) cdv A0 outer s H E) A (defBody st) g) :
    MOk P w K mg base A (k + 1) cl C ps (bodyD N ps.length g) := by
  obtain ⟨fd, h1, h2, h3⟩ := fn_body D bn S hb
  subst hC hm
  exact ⟨_, fd, mk, h1, hg, h3⟩
theorem eok_of {C : Addr} {cl : Str} (D : DefT K (cl, some "__eq__") "__eq__" qual st) (hC : C = He.ga K cl) (me : Meth K C "__eq__" (He.ma K C "__eq__")) (ht : PySem.W.notFirst K C (.type "tuple") = true) (bn : BindF "__eq__" qual st ps) (S : FnScope N ps (defScope st))
    (hb : ∀ (cdv : Value) (A0 : Around) (outer : List Env) (s : Shared) (H : Hp) (E : XK), Room k (A0.deeper (envOfC qual (defScope st) s.heap.objs.size (He.fAd K (cl, some "__eq__")) cdv)) → DSs (cxOf (L2N.CX P w) P w K mg base N qual (defScope st) (He.fAd K (cl, some "__eq__")) cdv A0 outer s H E) A (defBody st) g) :
    EOk P w K mg base A (k + 1) C ps (bodyD N ps.length g) := by
  obtain ⟨fd, h1, h2, h3⟩ := fn_body D bn S hb
  subst hC
  exact ⟨_, fd, h1, me.at_, me.fn, h3, ht⟩
end
section
variable {X : Cx} {A : Amb} {k : Nat} {x : Str} {ps : List Str} {den : Den} {e : Expr} {es : List Expr} {fs : Sl → Mm → Res (List D)} {p pos : Pos}
theorem dcl (F : FOk X.prog X.w X.K X.mg X.base A k x ps den) (hr : Room k X.A) (ha : DA X A (e :: es) fs) (hg : Gl X x := by rfl) (hdb : (x == ("__debug__" : Str)) = false := by decide) (he : starEach (e :: es) X.env = (false, eval e X.env) :: starEach es X.env := by rfl) (hpl : (backTo pos (starEach es X.env)).any (·.1) = false := by rfl) :
    DE X A (.Call (.Name x p) (e :: es) [] pos) (dDef den fs) := by
  obtain ⟨f, fd, h1, h2, h3, h4⟩ := F.ex
  exact de_call h1 hr hg h2 h3 h4 ha hdb he hpl
theorem dmk {C : Addr} (F : MOk X.prog X.w X.K X.mg X.base A k x C ps den) (hr : Room (k + 1) X.A) (ha : DA X A (e :: es) fs) (hg : Gl X x := by rfl) (hdb : (x == ("__debug__" : Str)) = false := by decide) (he : starEach (e :: es) X.env = (false, eval e X.env) :: starEach es X.env := by rfl) (hpl : (backTo pos (starEach es X.env)).any (·.1) = false := by rfl) :
    DE X A (.Call (.Name x p) (e :: es) [] pos) (dMake C den fs) := by
  obtain ⟨f, fd, h0, h1, h2, h4⟩ := F.ex
  exact de_make h0 h1 hr hg h2 h4 ha hdb he hpl
theorem od_eqF {C : Addr} (F : EOk X.prog X.w X.K X.mg X.base A k C ps den) (hr : Room k X.A) (hu : X.A.units + 64 < cLine) : OpR X (compareOp .Eq) (fun x y H Q => rEqI X.K A C den x y H Q ∨ rEqD X.K x y H Q) := by
  obtain ⟨f, fd, h1, h2, h3, h4, h5⟩ := F.ex
  exact (op_eqI h1 hr h2 h3 h4 h5).or (op_eqD hu)
end
/-! ### facts of the written part, as Bools -/
def insB (K : PySem.W.Frag) (C : Addr) : Bool := He.eqO (PySem.W.findIn K (.ref C) "__class__") (some (some (.builtin "object.__class__"))) && (He.eqO (PySem.W.specialIn K (.builtin "object.__class__") "__get__") (some (some (.builtin "getset_descriptor.__get__"))) &&
  (decide (PySem.W.takesIn K (.builtin "object.__class__") = some true) && decide (PySem.W.mroIn K C (.type "object") = some true)))
theorem insB_ok {K : PySem.W.Frag} {C : Addr} (c : Cls K C) (h : insB K C = true) : InsC K C := by
  obtain ⟨h1, h⟩ := He.ba h
  obtain ⟨h2, h⟩ := He.ba h
  obtain ⟨h3, h4⟩ := He.ba h
  exact ⟨c, He.eqO_ok h1, He.eqO_ok h2, of_decide_eq_true h3, of_decide_eq_true h4⟩
def excB (K : PySem.W.Frag) (C : Addr) : Bool := insB K C && (He.eqO (PySem.W.findIn K (.ref C) "__getattribute__") (some (some (.builtin "BaseException.__getattribute__"))) && (He.eqO (PySem.W.findIn K (.ref C) "__getattr__") (some none) &&
  (decide (PySem.W.subIn K (.ref C) (.type "BaseException") = some true) && PySem.W.hasDictIn K C)))
theorem excB_ok {K : PySem.W.Frag} {C : Addr} (h : excB K C = true) : ExcC K C := by
  obtain ⟨h0, h⟩ := He.ba h
  obtain ⟨h1, h⟩ := He.ba h
  obtain ⟨h2, h⟩ := He.ba h
  obtain ⟨h3, h4⟩ := He.ba h
  obtain ⟨i1, i⟩ := He.ba h0
  obtain ⟨i2, i⟩ := He.ba i
  obtain ⟨i3, i4⟩ := He.ba i
  exact ⟨He.eqO_ok h1, He.eqO_ok h2, of_decide_eq_true h3, h4, He.eqO_ok i1, He.eqO_ok i2, of_decide_eq_true i3, of_decide_eq_true i4⟩
def basicB (K : PySem.W.Frag) (C : Addr) : Bool := basicTys.all fun T => decide (PySem.W.kitOne K (.type T) (.ref C) = some false)
theorem basicB_ok {K : PySem.W.Frag} {C : Addr} (h : basicB K C = true) : ∀ T ∈ basicTys, PySem.W.kitOne K (.type T) (.ref C) = some false := fun T hT => of_decide_eq_true (List.all_eq_true.mp h T hT)
theorem all_at {l : List Bool} (h : l.all id = true) (i : Nat) {b : Bool} (e : l[i]? = some b) : b = true := List.all_eq_true.mp h b (List.mem_of_getElem? e)
theorem ownX_ok {K : PySem.W.Frag} {h : Heap} {mg : Str → Option Value} {x : Str} (X : K.In h) (G : h.Ns mainGlobals mg) (c1 : (He.Fa.glo x).ok K = true) (c2 : (He.Fa.exc x).ok K = true) : OwnX K mg x (He.ga K x) := by
  obtain ⟨h1, h2, h3, h4⟩ := He.exc_ok c2
  exact ⟨He.glo_ok X G c1, h1, h2, h3, h4⟩
theorem boot_VE : bootBuiltins "ValueError" = some (.type "ValueError") := by decide +kernel
/-! ### == of whole numbers, without room -/
def oEq0 : D → D → Mm → Res D := fun x y M => match x, y with
  | .int i, .int j => .ok (.bl (decide (i = j))) M
  | _, _ => .stuck
theorem od_eq0 {X : Cx} {A : Amb} : OpD X A rEq oEq0 := by
  intro Wx σ W dx dy x y Q ok rx ry p
  unfold oEq0 at p
  split at p
  · rename_i i j
    simp only [Rep] at rx ry
    subst rx ry
    refine ⟨rfl, p.here ok rfl ?_⟩
    simp only [Rep]
    simp
  · exact p.elim
/-! ### isinstance(e, C) in a suite -/
def oIsE (a : Addr) (kit : V → Option Bool) : List D → Mm → Res D
  | [.ext w, .ext u], M => if w = .ref a then match kit u with
    | some b => .ok (.bl b) M
    | none => .stuck else .stuck
  | _, _ => .stuck
theorem cd_isE {X : Cx} {A : Amb} {a c : Addr} {kit : V → Option Bool} (hk : ∀ u b, kit u = some b → ∃ cv, ClsV u cv ∧ PySem.W.kitOne X.K (.ref c) cv = some b) : CallD X A (rIsE X.K c a) (oIsE a kit) := by
  intro Wx σ W ds vs Q ok r p
  unfold oIsE at p
  split at p
  · split at p
    · rename_i hw
      subst hw
      split at p
      · rename_i b hb
        obtain ⟨v, w, rfl, r2, r3⟩ := r.two
        simp only [Rep] at r2 r3
        subst r2 r3
        obtain ⟨cv, h1, h2⟩ := hk _ _ hb
        exact ⟨_, cv, b, rfl, fun u hu => h1.eq hu, h2, p.here ok rfl (by simp only [Rep])⟩
      · exact p.elim
    · exact p.elim
  · exact p.elim
end Ny
namespace Ny
open PySem PySem.Spec PyProof.Rows L2 LamX
def qn (x : Str) : Str := x ++ ".<locals>." ++ "<lambda>"
theorem uniq_fst {T : List (Addr × Str)} (h : (T.map (·.1)).Nodup) {P : Addr} {q : Str} (hm : (P, q) ∈ T) : ∀ p ∈ T, p.1 = P → p.2 = q := by
  induction T with
  | nil => cases hm
  | cons t T ih =>
    intro p hp e
    simp only [List.map_cons, List.nodup_cons] at h
    rcases List.mem_cons.mp hm with z | z
    · rcases List.mem_cons.mp hp with y | y
      · rw [y, ← z]
      · exact absurd (List.mem_map.mpr ⟨p, y, by rw [e, ← z]⟩) h.1
    · rcases List.mem_cons.mp hp with y | y
      · exact absurd (List.mem_map.mpr ⟨(P, q), z, by rw [← e, y]⟩) h.1
      · exact ih h.2 z p y e
/-- what is asked of the run's surroundings -/
structure AmbOk (A : Amb) (T : List (Addr × Str)) : Prop where
  t : A.T = T
  xc : A.xc = []
theorem AmbOk.no {A : Amb} {T : List (Addr × Str)} (h : AmbOk A T) (C : Addr) : C ∉ A.xc := by rw [h.xc]; simp
section
variable {X : Cx} {A : Amb}
theorem de_lamF {x a : Str} {st : Stmt} {c P : Addr} {k : Nat} {Ng : List Str} {cs : List Addr} {ret : Str} {sE : Addr → Mm → Res D} {fb : Sl → Mm → Res D} {T : List (Addr × Str)} {params : Arguments} {body : Expr} {scope : Scope} {p lpos pos : Pos}
    (Dx : DefT X.K (x, none) x x st) (hmx : X.mg x = some (.ref (He.ga X.K x))) (bn : BindF x x st [a]) (Sg : FnScope Ng [a] (defScope st)) (hNg : Ng[0]? = some a) (hva : Vis (defScope st) a) (hA : AmbOk A T) (hsE : ∀ c M c' M', sE c M ≠ .exc c' M') (hg : Gl X x)
    (hG : ∀ cdv, GivesN X Ng x (defScope st) (He.ga X.K x) cdv (defBody st) a (X.env.qual ++ "<lambda>") (TTe X.K A cs ret sE)) (hT : (T.map (·.1)).Nodup)
    (TB : TabB X.base X.mg c P) (hcode : X.env.code = .ref c) (hmT : (P, X.env.qual ++ "<lambda>") ∈ T) (hr : Room (k + 2) X.A) (L : LamS X.env.scope scope) (hdef : defaultsOf params X.env = ([], []))
    (hbind : ∀ (q : Str) (cl : List (Str × Addr)) (pm cv ctv : Value), bindArgs (PySem.W.kla_fn "<lambda>" q params body scope cl pm cv ctv) ⟨[], []⟩ = pure [])
    (hbody : ∀ (A0 : Around) (outer : List Env) (s : Shared) (H : Hp) (E : XK) (f c' : Addr), Room k (A0.deeper (lamEnv X scope s.heap.objs.size f c')) → DE (lamN X A0 outer s H E scope f c') A body fb)
    (hdb : (x == ("__debug__" : Str)) = false := by decide) (hd : (a == ("__debug__" : Str)) = false := by decide) (hcd : (a == ("__classdict__" : Str)) = false := by decide) :
    DE X A (.Call (.Name x p) [.Lambda params body scope lpos] [] pos) (dLam cs ret sE fb) := by
  obtain ⟨fd, F⟩ := Dx.ex
  have kp := F.kp
  have bnd := F.bindsN bn
  obtain ⟨oc, od, dV, kV, doc, pm, an, cdv, ct, osl, rfl, lk, hcd', _, _⟩ := F.ex
  exact de_lam (fun c _ => hA.no c) hsE hg hmx kp lk hcd' bnd Sg hNg hva (hG cdv) TB hcode (by rw [hA.t]; exact hmT) (fun p hp e => uniq_fst hT hmT p (by rw [← hA.t]; exact hp) e) hr L hdef hbind hbody hdb hd hcd
end
end Ny


set_option Elab.async false
set_option linter.all false
set_option maxRecDepth 10000
set_option maxHeartbeats 1000000
/-! NyWp: what a denotation reaches, step by step (plain Lean, no program in sight). -/
namespace Ny
open PySem PySem.Spec PyProof.Rows L2
/-- r ends in Q, or with an exception in E -/
def Wp {α : Type} (r : Res α) (Q : α → Mm → Prop) (E : Addr → Mm → Prop) : Prop := match r with
  | .ok a m => Q a m
  | .exc c m => E c m
  | .stuck => False
def WpS (r : RS) (Q : Out → Sl → Mm → Prop) (E : Addr → Mm → Prop) : Prop := match r with
  | .ok o ρ m => Q o ρ m
  | .exc c _ m => E c m
  | .stuck => False
abbrev noE : Addr → Mm → Prop := fun _ _ => False
section
variable {α β : Type} {Q : α → Mm → Prop} {E E' : Addr → Mm → Prop} {M : Mm} {ρ : Sl}
theorem Wp.imp {r : Res α} {Q' : α → Mm → Prop} (h : Wp r Q E) (k : ∀ a m, Q a m → Q' a m) (ke : ∀ c m, E c m → E' c m := by intro _ _ h; exact h) : Wp r Q' E' := by
  cases r with
  | ok a m => exact k a m h
  | exc c m => exact ke c m h
  | stuck => exact h
theorem Wp.ok {r : Res α} (h : Wp r Q noE) : ∃ a m, r = .ok a m ∧ Q a m := by
  cases r with
  | ok a m => exact ⟨a, m, rfl, h⟩
  | exc c m => exact h.elim
  | stuck => exact h.elim
theorem Wp.any {r : Res α} (h : Wp r Q noE) : Wp r Q E := h.imp (fun _ _ q => q) fun _ _ z => z.elim
theorem WpS.imp {r : RS} {Q Q' : Out → Sl → Mm → Prop} (h : WpS r Q E) (k : ∀ o ρ m, Q o ρ m → Q' o ρ m) (ke : ∀ c m, E c m → E' c m := by intro _ _ h; exact h) : WpS r Q' E' := by
  cases r with
  | ok a ρ m => exact k a ρ m h
  | exc c ρ m => exact ke c m h
  | stuck => exact h
@[simp] theorem wp_ok (a : α) (m : Mm) : Wp (.ok a m) Q E = Q a m := rfl
@[simp] theorem wp_exc (c : Addr) (m : Mm) : Wp (.exc c m : Res α) Q E = E c m := rfl
@[simp] theorem wp_stuck : Wp (.stuck : Res α) Q E = False := rfl
@[simp] theorem wp_bind (r : Res β) (f : β → Mm → Res α) : Wp (r.bind f) Q E = Wp r (fun a m => Wp (f a m) Q E) E := by cases r <;> rfl
@[simp] theorem wp_bindN (r : Res β) (f : β → Mm → Res α) : Wp (r.bindN f) Q E = Wp r (fun a m => Wp (f a m) Q E) noE := by cases r <;> rfl
theorem wp_ite (c : Prop) [Decidable c] (a b : Res α) : Wp (if c then a else b) Q E = if c then Wp a Q E else Wp b Q E := by split <;> rfl
@[simp] theorem wps_ok {Q : Out → Sl → Mm → Prop} (o : Out) (m : Mm) : WpS (.ok o ρ m) Q E = Q o ρ m := rfl
@[simp] theorem wps_exc {Q : Out → Sl → Mm → Prop} (c : Addr) (m : Mm) : WpS (.exc c ρ m) Q E = E c m := rfl
@[simp] theorem wps_stuck {Q : Out → Sl → Mm → Prop} : WpS .stuck Q E = False := rfl
@[simp] theorem wps_eb {Q : Out → Sl → Mm → Prop} (r : Res β) (k : β → Mm → RS) : WpS (eb r ρ k) Q E = Wp r (fun a m => WpS (k a m) Q E) E := by cases r <;> rfl
theorem wps_ite {Q : Out → Sl → Mm → Prop} (c : Prop) [Decidable c] (a b : RS) : WpS (if c then a else b) Q E = if c then WpS a Q E else WpS b Q E := by split <;> rfl
end
section
variable {Q : D → Mm → Prop} {QS : Out → Sl → Mm → Prop} {QL : List D → Mm → Prop} {QB : Bool → Mm → Prop} {E : Addr → Mm → Prop} {M : Mm} {ρ : Sl} {f fa fb fc : Sl → Mm → Res D} {fs : Sl → Mm → Res (List D)} {gc ga gb : Sl → Mm → Res Bool} {g g1 g2 : Sl → Mm → RS} {o : D → D → Mm → Res D}
/-- a truth value, a number -/
def onB (k : Bool → Prop) : D → Prop
  | .bl b => k b
  | _ => False
def onI (k : Int → Prop) : D → Prop
  | .int i => k i
  | _ => False
@[simp] theorem onB_bl (k : Bool → Prop) (b : Bool) : onB k (.bl b) = k b := rfl
@[simp] theorem onI_int (k : Int → Prop) (b : Int) : onI k (.int b) = k b := rfl
/-! ### expressions -/
@[simp] theorem wp_dC (d : D) : Wp (dC d ρ M) Q E = Q d M := rfl
theorem wp_dVar (i : Nat) : Wp (dVar i ρ M) Q E = match ρ[i]? with
  | some (some d) => Q d M
  | _ => False := by
  unfold dVar
  cases ρ[i]? with
  | none => rfl
  | some o => cases o <;> rfl
theorem wp_var {i : Nat} {d : D} (h : ρ[i]? = some (some d)) : Wp (dVar i ρ M) Q E = Q d M := by unfold dVar; rw [h]; rfl
@[simp] theorem wp_dBin : Wp (dBin o fa fb ρ M) Q E = Wp (fa ρ M) (fun x M1 => Wp (fb ρ M1) (fun y M2 => Wp (o x y M2) Q E) E) E := by unfold dBin; simp
@[simp] theorem wp_dCall (o : List D → Mm → Res D) : Wp (dCall o fs ρ M) Q E = Wp (fs ρ M) (fun x M1 => Wp (o x M1) Q E) E := by unfold dCall; simp
@[simp] theorem wp_dDef (o : Den) : Wp (dDef o fs ρ M) Q E = Wp (fs ρ M) (fun x M1 => Wp (o x M1) Q E) E := by unfold dDef; simp
@[simp] theorem wp_nilA : Wp (dNilA ρ M) QL E = QL [] M := rfl
@[simp] theorem wp_consA : Wp (dConsA f fs ρ M) QL E = Wp (f ρ M) (fun x M1 => Wp (fs ρ M1) (fun xs M2 => QL (x :: xs) M2) E) E := by unfold dConsA; simp
@[simp] theorem wp_dTup : Wp (dTup fs ρ M) Q E = Wp (fs ρ M) (fun ds M1 => ds.length ≤ sizeLine ∧ Q (.tup ds) M1) E := by
  unfold dTup; rw [wp_bind]; congr 1; funext ds M1
  unfold newT; rw [wp_ite]
  by_cases h : ds.length ≤ sizeLine <;> simp [h]
@[simp] theorem wp_dLst : Wp (dLst fs ρ M) Q E = Wp (fs ρ M) (fun ds M1 => ds.length ≤ sizeLine ∧ Q (.ref M1.length) (M1 ++ [.lst ds])) E := by
  unfold dLst; rw [wp_bind]; congr 1; funext ds M1
  unfold newL; rw [wp_ite]
  by_cases h : ds.length ≤ sizeLine <;> simp [h]
@[simp] theorem wp_newL (ds : List D) : Wp (newL ds M) Q E = (ds.length ≤ sizeLine ∧ Q (.ref M.length) (M ++ [.lst ds])) := by
  unfold newL; rw [wp_ite]
  by_cases h : ds.length ≤ sizeLine <;> simp [h]
@[simp] theorem wp_dEmp : Wp (dEmp ρ M) Q E = Q (.ref M.length) (M ++ [.emp]) := rfl
@[simp] theorem wp_dNotV : Wp (dNotV f ρ M) Q E = Wp (f ρ M) (fun d M1 => onB (fun k => Q (.bl (!k)) M1) d) E := by
  unfold dNotV; rw [wp_bind]; congr 1; funext d M1; cases d <;> rfl
@[simp] theorem wp_dAndV : Wp (dAndV fa fb ρ M) Q E = Wp (fa ρ M) (fun d M1 => onB (fun k => if k = true then Wp (fb ρ M1) Q E else Q (.bl false) M1) d) E := by
  unfold dAndV; rw [wp_bind]; congr 1; funext d M1; cases d <;> try rfl
  rename_i b; cases b <;> simp
@[simp] theorem wp_dOrV : Wp (dOrV fa fb ρ M) Q E = Wp (fa ρ M) (fun d M1 => onB (fun k => if k = true then Q (.bl true) M1 else Wp (fb ρ M1) Q E) d) E := by
  unfold dOrV; rw [wp_bind]; congr 1; funext d M1; cases d <;> try rfl
  rename_i b; cases b <;> simp
@[simp] theorem wp_dIfE : Wp (dIfE gc fa fb ρ M) Q E = Wp (gc ρ M) (fun k M1 => if k = true then Wp (fa ρ M1) Q E else Wp (fb ρ M1) Q E) E := by
  unfold dIfE; rw [wp_bind]; congr 1; funext k M1; rw [wp_ite]
@[simp] theorem wp_neg : Wp (dUn oNeg f ρ M) Q E = Wp (f ρ M) (fun d M1 => onI (fun i => Q (.int (-i)) M1) d) E := by
  unfold dUn; rw [wp_bind]; congr 1; funext d M1; cases d <;> rfl
@[simp] theorem wp_dChain (o' : D → D → Mm → Res D) : Wp (dChain o o' fa fb fc ρ M) Q E = Wp (fa ρ M) (fun x M1 => Wp (fb ρ M1) (fun y M2 => Wp (o x y M2) (fun d M3 => onB (fun k => if k = true then Wp (fc ρ M3) (fun z M4 => Wp (o' y z M4) Q E) E else Q (.bl false) M3) d) E) E) E := by
  unfold dChain; simp only [wp_bind]; congr 1; funext x M1; congr 1; funext y M2; congr 1; funext d M3; cases d <;> try rfl
  rename_i b; cases b <;> simp
/-! ### tests -/
@[simp] theorem wp_dTest : Wp (dTest f ρ M) QB E = Wp (f ρ M) (fun d M1 => onB (fun k => QB k M1) d) E := by
  unfold dTest; rw [wp_bind]; congr 1; funext d M1; cases d <;> rfl
@[simp] theorem wp_dAndT : Wp (dAndT ga gb ρ M) QB E = Wp (ga ρ M) (fun k M1 => if k = true then Wp (gb ρ M1) QB E else QB false M1) E := by
  unfold dAndT; rw [wp_bind]; congr 1; funext k M1; rw [wp_ite]; rfl
@[simp] theorem wp_dOrT : Wp (dOrT ga gb ρ M) QB E = Wp (ga ρ M) (fun k M1 => if k = true then QB true M1 else Wp (gb ρ M1) QB E) E := by
  unfold dOrT; rw [wp_bind]; congr 1; funext k M1; rw [wp_ite]; rfl
@[simp] theorem wp_dNotT : Wp (dNotT ga ρ M) QB E = Wp (ga ρ M) (fun k M1 => QB (!k) M1) E := by
  unfold dNotT; rw [wp_bind]; congr 1
@[simp] theorem wp_dYes : Wp (dYes ρ M) QB E = QB true M := rfl
/-! ### statements -/
@[simp] theorem wps_nx : WpS (gNx ρ M) QS E = QS .nx ρ M := rfl
@[simp] theorem wps_bk : WpS (gBk ρ M) QS E = QS .bk ρ M := rfl
@[simp] theorem wps_ct : WpS (gCt ρ M) QS E = QS .ct ρ M := rfl
@[simp] theorem wps_never : WpS (gNever ρ M) QS E = False := rfl
@[simp] theorem wps_raise (C : Addr) : WpS (gRaise C ρ M) QS E = E C M := rfl
/-- go on behind a statement -/
def thenS (g : Sl → Mm → RS) (QS : Out → Sl → Mm → Prop) (E : Addr → Mm → Prop) : Out → Sl → Mm → Prop := fun o ρ M => match o with
  | .nx => WpS (g ρ M) QS E
  | o => QS o ρ M
@[simp] theorem thenS_nx : thenS g QS E .nx ρ M = WpS (g ρ M) QS E := rfl
@[simp] theorem thenS_bk : thenS g QS E .bk ρ M = QS .bk ρ M := rfl
@[simp] theorem thenS_ct : thenS g QS E .ct ρ M = QS .ct ρ M := rfl
@[simp] theorem thenS_rt (d : D) : thenS g QS E (.rt d) ρ M = QS (.rt d) ρ M := rfl
@[simp] theorem wps_seq : WpS (gSeq g1 g2 ρ M) QS E = WpS (g1 ρ M) (thenS g2 QS E) E := by
  unfold gSeq
  cases g1 ρ M with
  | ok o ρ1 M1 => cases o <;> rfl
  | exc c ρ1 M1 => rfl
  | stuck => rfl
@[simp] theorem wps_ret : WpS (gRet f ρ M) QS E = Wp (f ρ M) (fun d M1 => QS (.rt d) ρ M1) E := by unfold gRet; simp
@[simp] theorem wps_expr : WpS (gExpr f ρ M) QS E = Wp (f ρ M) (fun d M1 => QS .nx ρ M1) E := by unfold gExpr; simp
@[simp] theorem wps_if : WpS (gIf gc g1 g2 ρ M) QS E = Wp (gc ρ M) (fun k M1 => if k = true then WpS (g1 ρ M1) QS E else WpS (g2 ρ M1) QS E) E := by
  unfold gIf; rw [wps_eb]; congr 1; funext k M1; rw [wps_ite]
@[simp] theorem wps_asg (h : D → Sl → Mm → Res Sl) : WpS (gAsg f h ρ M) QS E = Wp (f ρ M) (fun d M1 => Wp (h d ρ M1) (fun ρ1 M2 => QS .nx ρ1 M2) noE) E := by
  unfold gAsg; rw [wps_eb]; congr 1; funext d M1
  cases h d ρ M1 <;> rfl
def on2 (k : D → D → Prop) : List D → Prop
  | [a, b] => k a b
  | _ => False
def on3 (k : D → D → D → Prop) : List D → Prop
  | [a, b, c] => k a b c
  | _ => False
@[simp] theorem on2_eq (k : D → D → Prop) (a b : D) : on2 k [a, b] = k a b := rfl
@[simp] theorem on3_eq (k : D → D → D → Prop) (a b c : D) : on3 k [a, b, c] = k a b c := rfl
@[simp] theorem wps_par (i j : Nat) : WpS (gPar i j fs ρ M) QS E = Wp (fs ρ M) (fun ds M1 => on2 (fun a b => QS .nx ((ρ.set i (some a)).set j (some b)) M1) ds) E := by
  unfold gPar; rw [wps_eb]; congr 1; funext ds M1
  rcases ds with _ | ⟨a, _ | ⟨b, _ | ⟨c, ds⟩⟩⟩ <;> rfl
@[simp] theorem wps_par3 (i j l : Nat) : WpS (gPar3 i j l fs ρ M) QS E = Wp (fs ρ M) (fun ds M1 => on3 (fun a b c => QS .nx (((ρ.set i (some a)).set j (some b)).set l (some c)) M1) ds) E := by
  unfold gPar3; rw [wps_eb]; congr 1; funext ds M1
  rcases ds with _ | ⟨a, _ | ⟨b, _ | ⟨c, _ | ⟨d, ds⟩⟩⟩⟩ <;> rfl
@[simp] theorem wp_hName (i : Nat) (d : D) {Q : Sl → Mm → Prop} : Wp (hName i d ρ M) Q E = Q (ρ.set i (some d)) M := rfl
/-- the end of a def's body -/
def endQ (Q : D → Mm → Prop) : Out → Sl → Mm → Prop := fun o _ M => match o with
  | .nx => Q .non M
  | .rt d => Q d M
  | _ => False
@[simp] theorem endQ_nx : endQ Q .nx ρ M = Q .non M := rfl
@[simp] theorem endQ_rt (d : D) : endQ Q (.rt d) ρ M = Q d M := rfl
@[simp] theorem endQ_bk : endQ Q .bk ρ M = False := rfl
@[simp] theorem endQ_ct : endQ Q .ct ρ M = False := rfl
theorem wp_body {N : List Str} {n : Nat} {ds : List D} (hl : ds.length = n) : Wp (bodyD N n g ds M) Q E = WpS (g (startD N ds) M) (endQ Q) E := by
  unfold bodyD
  rw [if_pos hl]
  unfold endD
  cases g (startD N ds) M with
  | ok o ρ1 M1 => cases o <;> rfl
  | exc c ρ1 M1 => rfl
  | stuck => rfl
end
/-! ### memory -/
/-- M' comes behind M: but for the objects of S all is as it was -/
structure Gr (S : List Nat) (M M' : Mm) : Prop where
  len : M.length ≤ M'.length
  get : ∀ i, i ∉ S → i < M.length → M'[i]? = M[i]?
theorem Gr.rfl' {S : List Nat} {M : Mm} : Gr S M M := ⟨Nat.le_refl _, fun _ _ _ => rfl⟩
theorem Gr.trans {S : List Nat} {M M1 M2 : Mm} (a : Gr S M M1) (b : Gr S M1 M2) : Gr S M M2 := ⟨Nat.le_trans a.len b.len, fun i hs hi => by rw [b.get i hs (Nat.lt_of_lt_of_le hi a.len), a.get i hs hi]⟩
theorem Gr.mono {S S' : List Nat} {M M' : Mm} (a : Gr S M M') (h : ∀ i ∈ S, i ∈ S') : Gr S' M M' := ⟨a.len, fun i hs hi => a.get i (fun z => hs (h i z)) hi⟩
theorem Gr.any {S : List Nat} {M M' : Mm} (a : Gr [] M M') : Gr S M M' := a.mono fun i h => by simp at h
theorem Gr.at {S : List Nat} {M M' : Mm} (a : Gr S M M') {i : Nat} {mo : MO} (h : M[i]? = some mo) (hs : i ∉ S := by simp) : M'[i]? = some mo := by
  rw [a.get i hs (List.getElem?_eq_some_iff.mp h).1]; exact h
theorem Gr.app {S : List Nat} {M J : Mm} : Gr S M (M ++ J) := ⟨by simp, fun i _ hi => List.getElem?_append_left hi⟩
theorem Gr.set {S : List Nat} {M : Mm} {n : Nat} {mo : MO} (h : n ∈ S) : Gr S M (M.set n mo) := ⟨by simp, fun i hs hi => List.getElem?_set_ne (fun z => hs (by rw [← z]; exact h))⟩
theorem gapp {M : Mm} {i : Nat} {mo : MO} (h : M[i]? = some mo) (J : Mm) : (M ++ J)[i]? = some mo := by
  rw [List.getElem?_append_left (List.getElem?_eq_some_iff.mp h).1]; exact h
theorem gnew {M J : Mm} {x : MO} : (M ++ x :: J)[M.length]? = some x := by simp
theorem glt {M : Mm} {i : Nat} {mo : MO} (h : M[i]? = some mo) : i < M.length := (List.getElem?_eq_some_iff.mp h).1
theorem small {n : Nat} (h : n ≤ 16777216) : n ≤ sizeLine := by rw [sizeLine_eq]; exact h
end Ny


set_option Elab.async false
set_option linter.all false
set_option maxRecDepth 10000
set_option maxHeartbeats 1000000
/-! NyOpW: operators and builtins, as what they reach. -/
namespace Ny
open PySem PySem.Spec PyProof.Rows L2
theorem beq_dec {α : Type} [BEq α] [LawfulBEq α] [DecidableEq α] (a b : α) : (a == b) = decide (a = b) := by
  rw [Bool.eq_iff_iff]; simp
/-! ### data that == compares as the same data -/
mutual
def cm : D → Bool
  | .int _ => true
  | .str x => PyData.strOk x
  | .tup ds => cms ds
  | _ => false
def cms : List D → Bool
  | [] => true
  | d :: ds => cm d && cms ds
end
mutual
def dpt : D → Nat
  | .tup ds => dpts ds + 1
  | _ => 0
def dpts : List D → Nat
  | [] => 0
  | d :: ds => max (dpt d) (dpts ds)
end
mutual
theorem cm_pd : ∀ d : D, cm d = true → ∃ p, pdT d = some p ∧ PyData.canLay0 p = true ∧ PyData.depth p = dpt d
  | .int i, _ => ⟨.int i, by simp only [pdT], by simp only [PyData.canLay0], by simp only [PyData.depth, dpt]⟩
  | .str x, h => ⟨.str x, by simp only [pdT], by simpa only [PyData.canLay0, cm] using h, by simp only [PyData.depth, dpt]⟩
  | .tup ds, h => by
    simp only [cm] at h
    obtain ⟨ps, h1, h2, h3⟩ := cms_pd ds h
    exact ⟨_, by simp only [pdT, h1]; rfl, by simpa only [PyData.canLay0] using h2, by simp only [PyData.depth, dpt, h3]⟩
  | .non, h => by simp [cm] at h
  | .bl _, h => by simp [cm] at h
  | .ref _, h => by simp [cm] at h
  | .err _, h => by simp [cm] at h
  | .ext _, h => by simp [cm] at h
theorem cms_pd : ∀ d : List D, cms d = true → ∃ p, pdTs d = some p ∧ PyData.canLayAll0 p = true ∧ PyData.depthAll p = dpts d
  | [], _ => ⟨[], by simp only [pdTs], by simp only [PyData.canLayAll0], by simp only [PyData.depthAll, dpts]⟩
  | d :: ds, h => by
    simp only [cms, Bool.and_eq_true] at h
    obtain ⟨p, h1, h2, h3⟩ := cm_pd d h.1
    obtain ⟨ps, h4, h5, h6⟩ := cms_pd ds h.2
    exact ⟨p :: ps, by simp only [pdTs, h1, h4]; rfl, by simp only [PyData.canLayAll0, h2, h5, Bool.and_self], by simp only [PyData.depthAll, dpts, h3, h6]⟩
end
mutual
theorem cm_eq : ∀ (d e : D) (p q : PyData), cm d = true → cm e = true → pdT d = some p → pdT e = some q → PyData.eqv p q = beqD d e
  | .int i, e, p, q, _, he, hp, hq => by
    cases e <;> simp only [cm] at he <;> first | (cases he; done) | skip
    all_goals (simp only [pdT] at hp hq)
    · cases hp; cases hq; simp only [PyData.eqv, beqD]
    · cases hp; cases hq; simp only [PyData.eqv, beqD]
    · rename_i ds
      obtain ⟨ps, h1, _⟩ := cms_pd ds he
      rw [h1] at hq
      cases hp; cases hq; simp only [PyData.eqv, beqD]
  | .str x, e, p, q, _, he, hp, hq => by
    cases e <;> simp only [cm] at he <;> first | (cases he; done) | skip
    all_goals (simp only [pdT] at hp hq)
    · cases hp; cases hq; simp only [PyData.eqv, beqD]
    · cases hp; cases hq; simp only [PyData.eqv, beqD]; exact beq_dec _ _
    · rename_i ds
      obtain ⟨ps, h1, _⟩ := cms_pd ds he
      rw [h1] at hq
      cases hp; cases hq; simp only [PyData.eqv, beqD]
  | .tup ds, e, p, q, hd, he, hp, hq => by
    simp only [cm] at hd
    obtain ⟨ps, h1, _⟩ := cms_pd ds hd
    simp only [pdT, h1] at hp
    cases hp
    cases e <;> simp only [cm] at he <;> first | (cases he; done) | skip
    all_goals (simp only [pdT] at hq)
    · cases hq; simp only [PyData.eqv, beqD]
    · cases hq; simp only [PyData.eqv, beqD]
    · rename_i es
      obtain ⟨qs, h2, _⟩ := cms_pd es he
      rw [h2] at hq
      cases hq
      simp only [PyData.eqv, beqD]
      exact cms_eq ds es ps qs hd he h1 h2
  | .non, _, _, _, h, _, _, _ => by simp [cm] at h
  | .bl _, _, _, _, h, _, _, _ => by simp [cm] at h
  | .ref _, _, _, _, h, _, _, _ => by simp [cm] at h
  | .err _, _, _, _, h, _, _, _ => by simp [cm] at h
  | .ext _, _, _, _, h, _, _, _ => by simp [cm] at h
theorem cms_eq : ∀ (d e : List D) (p q : List PyData), cms d = true → cms e = true → pdTs d = some p → pdTs e = some q → PyData.eqvAll p q = beqDs d e
  | [], [], p, q, _, _, hp, hq => by simp only [pdTs] at hp hq; cases hp; cases hq; simp only [PyData.eqvAll, beqDs]
  | [], e :: es, p, q, _, he, hp, hq => by
    obtain ⟨qs, h2, _⟩ := cms_pd (e :: es) he
    rw [hq] at h2
    cases h2
    simp only [pdTs] at hp
    cases hp
    simp only [cms, Bool.and_eq_true] at he
    obtain ⟨p1, h4, _⟩ := cm_pd e he.1
    obtain ⟨p2, h5, _⟩ := cms_pd es he.2
    simp only [pdTs, h4, h5] at hq
    cases hq
    simp only [PyData.eqvAll, beqDs]
  | d :: ds, [], p, q, hd, _, hp, hq => by
    simp only [cms, Bool.and_eq_true] at hd
    obtain ⟨p1, h4, _⟩ := cm_pd d hd.1
    obtain ⟨p2, h5, _⟩ := cms_pd ds hd.2
    simp only [pdTs, h4, h5] at hp
    simp only [pdTs] at hq
    cases hp; cases hq
    simp only [PyData.eqvAll, beqDs]
  | d :: ds, e :: es, p, q, hd, he, hp, hq => by
    simp only [cms, Bool.and_eq_true] at hd he
    obtain ⟨p1, h4, _⟩ := cm_pd d hd.1
    obtain ⟨p2, h5, _⟩ := cms_pd ds hd.2
    obtain ⟨q1, h6, _⟩ := cm_pd e he.1
    obtain ⟨q2, h7, _⟩ := cms_pd es he.2
    simp only [pdTs, h4, h5, h6, h7] at hp hq
    cases hp; cases hq
    simp only [PyData.eqvAll, beqDs]
    rw [cm_eq d e p1 q1 hd.1 he.1 h4 h6, cms_eq ds es p2 q2 hd.2 he.2 h5 h7]
end
theorem shaped_of {p : PyData} (h : PyData.canLay0 p = true) (hd : PyData.depth p ≤ 64) : SeqAt.shaped p = true := by
  unfold SeqAt.shaped
  rw [h, decide_eq_true hd]; rfl
section
variable {Q : D → Mm → Prop} {E : Addr → Mm → Prop} {M : Mm}
theorem pdM_of {d : D} (h : cm d = true) : pdM M d = pdT d := by cases d <;> simp [cm] at h <;> rfl
theorem wp_eqN {neg : Bool} {d e : D} (hd : cm d = true) (he : cm e = true) (h1 : dpt d ≤ 64) (h2 : dpt e ≤ 64) : Wp (oEqN neg d e M) Q E = Q (.bl (if neg then !beqD d e else beqD d e)) M := by
  obtain ⟨p, a1, a2, a3⟩ := cm_pd d hd
  obtain ⟨q, b1, b2, b3⟩ := cm_pd e he
  unfold oEqN
  rw [pdM_of hd, pdM_of he, a1, b1]
  dsimp only
  rw [if_pos ⟨shaped_of a2 (by omega), shaped_of b2 (by omega)⟩, cm_eq d e p q hd he a1 b1]
  rfl
theorem wp_eqL {neg : Bool} {n m : Nat} {ds es : List D} (hn : M[n]? = some (.lst ds)) (hm : M[m]? = some (.lst es)) (hd : cms ds = true) (he : cms es = true) (h1 : dpts ds < 64) (h2 : dpts es < 64) : Wp (oEqN neg (.ref n) (.ref m) M) Q E = Q (.bl (if neg then !beqDs ds es else beqDs ds es)) M := by
  obtain ⟨p, a1, a2, a3⟩ := cms_pd ds hd
  obtain ⟨q, b1, b2, b3⟩ := cms_pd es he
  unfold oEqN
  have e1 : pdM M (.ref n) = some (.list p) := by simp only [pdM, hn, a1]; rfl
  have e2 : pdM M (.ref m) = some (.list q) := by simp only [pdM, hm, b1]; rfl
  rw [e1, e2]
  dsimp only
  rw [if_pos ⟨shaped_of (by simpa only [PyData.canLay0] using a2) (by simp only [PyData.depth]; omega), shaped_of (by simpa only [PyData.canLay0] using b2) (by simp only [PyData.depth]; omega)⟩]
  have e3 : PyData.eqv (.list p) (.list q) = beqDs ds es := by simp only [PyData.eqv]; exact cms_eq ds es p q hd he a1 b1
  rw [e3]
  rfl
theorem cms_ints : ∀ ns : List Int, cms (ns.map D.int) = true
  | [] => by simp [cms]
  | n :: r => by simp only [List.map_cons, cms, cm, cms_ints r, Bool.and_self]
theorem dpts_ints : ∀ ns : List Int, dpts (ns.map D.int) = 0
  | [] => by simp [dpts]
  | n :: r => by simp [dpts, dpt, dpts_ints r]
theorem beq_ints : ∀ ns ms : List Int, beqDs (ns.map D.int) (ms.map D.int) = decide (ns = ms)
  | [], [] => by simp [beqDs]
  | [], _ :: _ => by simp [beqDs]
  | _ :: _, [] => by simp [beqDs]
  | n :: r, m :: s => by
    simp only [List.map_cons, beqDs, beqD, beq_ints r s]
    by_cases h : n = m <;> simp [h]
/-- a word, a rule -/
def dW (w : List Int) : D := .tup (w.map D.int)
def dR (r : List (List Int)) : D := .tup (r.map dW)
theorem cm_W (w : List Int) : cm (dW w) = true := by simp only [dW, cm, cms_ints]
theorem dpt_W (w : List Int) : dpt (dW w) = 1 := by simp only [dW, dpt, dpts_ints]
theorem cms_R : ∀ r : List (List Int), cms (r.map dW) = true
  | [] => by simp [cms]
  | n :: r => by simp only [List.map_cons, cms, cm_W, cms_R r, Bool.and_self]
theorem cm_R (r : List (List Int)) : cm (dR r) = true := by simp only [dR, cm, cms_R]
theorem dpts_R : ∀ r : List (List Int), dpts (r.map dW) ≤ 1
  | [] => by simp [dpts]
  | n :: r => by simp only [List.map_cons, dpts, dpt_W]; have := dpts_R r; omega
theorem dpt_R (r : List (List Int)) : dpt (dR r) ≤ 2 := by simp only [dR, dpt]; have := dpts_R r; omega
theorem beq_W (v w : List Int) : beqD (dW v) (dW w) = decide (v = w) := by simp only [dW, beqD, beq_ints]
theorem beq_Rs : ∀ r s : List (List Int), beqDs (r.map dW) (s.map dW) = decide (r = s)
  | [], [] => by simp [beqDs]
  | [], _ :: _ => by simp [beqDs]
  | _ :: _, [] => by simp [beqDs]
  | n :: r, m :: s => by
    simp only [List.map_cons, beqDs, beq_W, beq_Rs r s]
    by_cases h : n = m <;> simp [h]
theorem beq_R (r s : List (List Int)) : beqD (dR r) (dR s) = decide (r = s) := by simp only [dR, beqD, beq_Rs]
@[simp] theorem wp_eq_int (i j : Int) : Wp (oEq (.int i) (.int j) M) Q E = Q (.bl (decide (i = j))) M := by
  show Wp (oEqN false _ _ _) Q E = _
  rw [wp_eqN (by simp [cm]) (by simp [cm]) (by simp [dpt]) (by simp [dpt])]
  simp [beqD, beq_dec]
@[simp] theorem wp_ne_int (i j : Int) : Wp (oNe (.int i) (.int j) M) Q E = Q (.bl (!decide (i = j))) M := by
  show Wp (oEqN true _ _ _) Q E = _
  rw [wp_eqN (by simp [cm]) (by simp [cm]) (by simp [dpt]) (by simp [dpt])]
  simp [beqD, beq_dec]
@[simp] theorem wp_eq_W (v w : List Int) : Wp (oEq (dW v) (dW w) M) Q E = Q (.bl (decide (v = w))) M := by
  show Wp (oEqN false _ _ _) Q E = _
  rw [wp_eqN (cm_W _) (cm_W _) (by rw [dpt_W]; omega) (by rw [dpt_W]; omega), beq_W]; rfl
@[simp] theorem wp_ne_W (v w : List Int) : Wp (oNe (dW v) (dW w) M) Q E = Q (.bl (!decide (v = w))) M := by
  show Wp (oEqN true _ _ _) Q E = _
  rw [wp_eqN (cm_W _) (cm_W _) (by rw [dpt_W]; omega) (by rw [dpt_W]; omega), beq_W]; rfl
@[simp] theorem wp_eq_R (v w : List (List Int)) : Wp (oEq (dR v) (dR w) M) Q E = Q (.bl (decide (v = w))) M := by
  show Wp (oEqN false _ _ _) Q E = _
  rw [wp_eqN (cm_R _) (cm_R _) (by have := dpt_R v; omega) (by have := dpt_R w; omega), beq_R]; rfl
@[simp] theorem wp_ne_R (v w : List (List Int)) : Wp (oNe (dR v) (dR w) M) Q E = Q (.bl (!decide (v = w))) M := by
  show Wp (oEqN true _ _ _) Q E = _
  rw [wp_eqN (cm_R _) (cm_R _) (by have := dpt_R v; omega) (by have := dpt_R w; omega), beq_R]; rfl
theorem wp_ne_str (x y : Str) (hx : PyData.strOk x = true) (hy : PyData.strOk y = true) : Wp (oNe (.str x) (.str y) M) Q E = Q (.bl (!decide (x = y))) M := by
  show Wp (oEqN true _ _ _) Q E = _
  rw [wp_eqN (by simp [cm, hx]) (by simp [cm, hy]) (by simp [dpt]) (by simp [dpt])]
  simp [beqD]
theorem wp_eq_str (x y : Str) (hx : PyData.strOk x = true) (hy : PyData.strOk y = true) : Wp (oEq (.str x) (.str y) M) Q E = Q (.bl (decide (x = y))) M := by
  show Wp (oEqN false _ _ _) Q E = _
  rw [wp_eqN (by simp [cm, hx]) (by simp [cm, hy]) (by simp [dpt]) (by simp [dpt])]
  simp [beqD]
/-! ### numbers -/
@[simp] theorem wp_add_int (i j : Int) : Wp (oAdd (.int i) (.int j) M) Q E = Q (.int (i + j)) M := rfl
@[simp] theorem wp_sub_int (i j : Int) : Wp (oSub (.int i) (.int j) M) Q E = Q (.int (i - j)) M := rfl
@[simp] theorem wp_mul_int (i j : Int) : Wp (oMul (.int i) (.int j) M) Q E = (CMul i j ∧ Q (.int (i * j)) M) := by
  simp only [oMul]; rw [wp_ite]; by_cases h : CMul i j <;> simp [h]
@[simp] theorem wp_div_int (i j : Int) : Wp (oDiv (.int i) (.int j) M) Q E = (CDiv i j ∧ Q (.int (i / j)) M) := by
  simp only [oDiv, oIntC]; rw [wp_ite]; by_cases h : CDiv i j <;> simp [h]
@[simp] theorem wp_mod_int (i j : Int) : Wp (oMod (.int i) (.int j) M) Q E = (0 < j ∧ Q (.int (i % j)) M) := by
  simp only [oMod, oIntC]; rw [wp_ite]; by_cases h : 0 < j <;> simp [h]
@[simp] theorem wp_pow_int (i j : Int) : Wp (oPow (.int i) (.int j) M) Q E = (CPow i j ∧ Q (.int (i ^ j.toNat)) M) := by
  simp only [oPow, oIntC]; rw [wp_ite]; by_cases h : CPow i j <;> simp [h]
@[simp] theorem wp_lt_int (i j : Int) : Wp (oLt (.int i) (.int j) M) Q E = Q (.bl (decide (i < j))) M := rfl
@[simp] theorem wp_le_int (i j : Int) : Wp (oLe (.int i) (.int j) M) Q E = Q (.bl (decide (i ≤ j))) M := rfl
@[simp] theorem wp_gt_int (i j : Int) : Wp (oGt (.int i) (.int j) M) Q E = Q (.bl (decide (j < i))) M := rfl
@[simp] theorem wp_ge_int (i j : Int) : Wp (oGe (.int i) (.int j) M) Q E = Q (.bl (decide (j ≤ i))) M := rfl
@[simp] theorem wp_is_bl (neg a b : Bool) : Wp (oIsN neg (.bl a) (.bl b) M) Q E = Q (.bl (if neg then !decide (a = b) else decide (a = b))) M := rfl
@[simp] theorem wp_int1 (i : Int) : Wp (oInt1 [.int i] M) Q E = Q (.int i) M := rfl
@[simp] theorem wp_abs (i : Int) : Wp (oAbs [.int i] M) Q E = Q (.int (if i < 0 then -i else i)) M := rfl
@[simp] theorem wp_max2 (i j : Int) : Wp (oMax2 [.int i, .int j] M) Q E = Q (.int (if j > i then j else i)) M := rfl
/-! ### sequences -/
@[simp] theorem wp_len_tup (ds : List D) : Wp (oLen [.tup ds] M) Q E = Q (.int ds.length) M := rfl
@[simp] theorem wp_len_W (w : List Int) : Wp (oLen [dW w] M) Q E = Q (.int w.length) M := by simp [dW]
@[simp] theorem wp_len_R (w : List (List Int)) : Wp (oLen [dR w] M) Q E = Q (.int w.length) M := by simp [dR]
theorem wp_len_lst {n : Nat} {ds : List D} (h : M[n]? = some (.lst ds)) : Wp (oLen [.ref n] M) Q E = Q (.int ds.length) M := by simp only [oLen, h]; rfl
theorem atI_of {α : Type} {xs : List α} {i : Int} {j : Nat} {x : α} (h : i = (j : Int)) (hx : xs[j]? = some x) : atI xs i = some x := by
  have hl : j < xs.length := (List.getElem?_eq_some_iff.mp hx).1
  unfold atI ixN
  rw [if_pos (by omega), if_pos (by omega), h]
  simpa using hx
theorem wp_ix_tup {ds : List D} {i : Int} {d : D} (h : atI ds i = some d) : Wp (oIx (.tup ds) (.int i) M) Q E = Q d M := by simp only [oIx, h]; rfl
theorem wp_ix_lst {n : Nat} {ds : List D} {i : Int} {d : D} (hn : M[n]? = some (.lst ds)) (h : atI ds i = some d) : Wp (oIx (.ref n) (.int i) M) Q E = Q d M := by simp only [oIx, hn, h]; rfl
theorem wp_ix_W {w : List Int} {i : Int} {j : Nat} {x : Int} (h : i = (j : Int)) (hx : w[j]? = some x) : Wp (oIx (dW w) (.int i) M) Q E = Q (.int x) M := by
  unfold dW
  exact wp_ix_tup (atI_of h (by rw [List.getElem?_map, hx]; rfl))
theorem wp_ix_R {r : List (List Int)} {i : Int} {j : Nat} {x : List Int} (h : i = (j : Int)) (hx : r[j]? = some x) : Wp (oIx (dR r) (.int i) M) Q E = Q (dW x) M := by
  unfold dR
  exact wp_ix_tup (atI_of h (by rw [List.getElem?_map, hx]; rfl))
theorem wp_all {n : Nat} {bs : List Bool} (h : M[n]? = some (.lst (bs.map D.bl))) : Wp (oAll [.ref n] M) Q E = Q (.bl (bs.all id)) M := by simp only [oAll, oFoldB, h, toBls_of]; rfl
theorem wp_sum {n : Nat} {is : List Int} (h : M[n]? = some (.lst (is.map D.int))) : Wp (oSum [.ref n] M) Q E = Q (.int is.sum) M := by simp only [oSum, h, toInts_of]; rfl
theorem wp_tuple {n : Nat} {ds : List D} (h : M[n]? = some (.lst ds)) : Wp (oTuple [.ref n] M) Q E = Q (.tup ds) M := by simp only [oTuple, h]; rfl
@[simp] theorem wp_list_tup (ds : List D) : Wp (oList [.tup ds] M) Q E = Q (.ref M.length) (M ++ [.lst ds]) := rfl
theorem wp_meth {o : D → List D → Mm → Res D} {fo : Sl → Mm → Res D} {fs : Sl → Mm → Res (List D)} {ρ : Sl} : Wp (dMeth o fo fs ρ M) Q E = Wp (fo ρ M) (fun x M1 => ∃ n ds, x = .ref n ∧ M1[n]? = some (.lst ds) ∧ Wp (fs ρ M1) (fun xs M2 => Wp (o x xs M2) Q E) E) E := by
  unfold dMeth
  rw [wp_bind]; congr 1; funext x M1
  split
  · rename_i n ds h
    rw [wp_bind]
    apply propext
    constructor
    · intro z; exact ⟨_, _, rfl, h, z⟩
    · rintro ⟨_, _, e, _, z⟩; cases e; exact z
  · rename_i h
    apply propext
    constructor
    · intro z; exact z.elim
    · rintro ⟨n, ds, e, h2, z⟩
      subst e
      exact (h n ds rfl h2).elim
theorem wp_app {n : Nat} {ds : List D} {d : D} (h : M[n]? = some (.lst ds)) : Wp (oApp (.ref n) [d] M) Q E = (ds.length < sizeLine ∧ Q .non (M.set n (.lst (ds ++ [d])))) := by
  simp only [oApp, h]; rw [wp_ite]; by_cases q : ds.length < sizeLine <;> simp [q]
theorem wp_ext_tup {n : Nat} {ds es : List D} (h : M[n]? = some (.lst ds)) : Wp (oExt (.ref n) [.tup es] M) Q E = (ds.length + es.length ≤ sizeLine ∧ Q .non (M.set n (.lst (ds ++ es)))) := by
  simp only [oExt, h]; rw [wp_ite]; by_cases q : ds.length + es.length ≤ sizeLine <;> simp [q]
theorem wp_fld {C : Addr} {f : Str} {n : Nat} {fs : List (Str × D)} {d : D} (h : M[n]? = some (.ins C fs)) (hf : fs.lookup f = some d) : Wp (getF C f (.ref n) M) Q E = Q d M := by simp only [getF, h, if_pos, hf]; rfl
@[simp] theorem wp_dFld {C : Addr} {f : Str} {fe : Sl → Mm → Res D} {ρ : Sl} : Wp (dFld C f fe ρ M) Q E = Wp (fe ρ M) (fun d M1 => Wp (getF C f d M1) Q E) E := by unfold dFld; simp
end
end Ny


set_option Elab.async false
set_option linter.all false
set_option maxRecDepth 10000
set_option maxHeartbeats 1000000
/-! NyLoopW: loops, comprehensions, calls, instances, as what they reach. -/
namespace Ny
open PySem PySem.Spec PyProof.Rows L2
section
variable {Q : D → Mm → Prop} {QS : Out → Sl → Mm → Prop} {E : Addr → Mm → Prop} {M : Mm} {ρ : Sl}
/-- how a turn may end -/
def trn (I : Sl → Mm → Prop) (QS : Out → Sl → Mm → Prop) : Out → Sl → Mm → Prop := fun o ρ M => match o with
  | .nx => I ρ M
  | .ct => I ρ M
  | .bk => QS .nx ρ M
  | .rt d => QS (.rt d) ρ M
@[simp] theorem trn_nx (I : Sl → Mm → Prop) : trn I QS .nx ρ M = I ρ M := rfl
@[simp] theorem trn_ct (I : Sl → Mm → Prop) : trn I QS .ct ρ M = I ρ M := rfl
@[simp] theorem trn_bk (I : Sl → Mm → Prop) : trn I QS .bk ρ M = QS .nx ρ M := rfl
@[simp] theorem trn_rt (I : Sl → Mm → Prop) (d : D) : trn I QS (.rt d) ρ M = QS (.rt d) ρ M := rfl
theorem wp_forL {ck : Ck} {h : D → Sl → Mm → Res Sl} {b : Sl → Mm → RS} (I : List D → Sl → Mm → Prop) (sm : ∀ r ρ M, I r ρ M → sameL ck M = true) (step : ∀ x r ρ M, I (x :: r) ρ M → Wp (h x ρ M) (fun ρ1 M1 => WpS (b ρ1 M1) (trn (I r) QS) E) noE) (fin : ∀ ρ M, I [] ρ M → QS .nx ρ M) :
    ∀ (xs : List D) (ρ : Sl) (M : Mm), I xs ρ M → WpS (forL ck h b xs ρ M) QS E
  | [], ρ, M, hI => fin ρ M hI
  | x :: xs, ρ, M, hI => by
    have s := step x xs ρ M hI
    simp only [forL]
    cases q : h x ρ M with
    | exc c m => rw [q] at s; exact s.elim
    | stuck => rw [q] at s; exact s.elim
    | ok ρ1 M1 =>
      rw [q, wp_ok] at s
      dsimp only
      cases q2 : b ρ1 M1 with
      | exc c ρ2 m => rw [q2] at s; exact s
      | stuck => rw [q2] at s; exact s
      | ok o ρ2 M2 =>
        rw [q2] at s
        cases o with
        | nx =>
          have s' : I xs ρ2 M2 := s
          dsimp only
          rw [if_pos (sm xs ρ2 M2 s')]
          exact wp_forL I sm step fin xs ρ2 M2 s'
        | ct =>
          have s' : I xs ρ2 M2 := s
          dsimp only
          rw [if_pos (sm xs ρ2 M2 s')]
          exact wp_forL I sm step fin xs ρ2 M2 s'
        | bk => exact s
        | rt d => exact s
@[simp] theorem wps_for {fi : Sl → Mm → Res Src} {h : D → Sl → Mm → Res Sl} {b : Sl → Mm → RS} : WpS (gFor fi h b ρ M) QS E = Wp (fi ρ M) (fun s M1 => WpS (forL s.1 h b s.2 ρ M1) QS E) E := by unfold gFor; simp
theorem wp_whileL {c : Sl → Mm → Res Bool} {b : Sl → Mm → RS} (I : Nat → Sl → Mm → Prop) (step : ∀ n ρ M, I n ρ M → Wp (c ρ M) (fun k M1 => if k = true then WpS (b ρ M1) (trn (fun ρ2 M2 => ∃ m, m < n ∧ I m ρ2 M2) QS) E else QS .nx ρ M1) E) :
    ∀ (fuel n : Nat) (ρ : Sl) (M : Mm), n < fuel → I n ρ M → WpS (whileL c b fuel ρ M) QS E
  | 0, n, ρ, M, hn, _ => by omega
  | fuel + 1, n, ρ, M, hn, hI => by
    have s := step n ρ M hI
    simp only [whileL, wps_eb]
    refine s.imp fun k M1 s1 => ?_
    cases k with
    | false =>
      rw [if_neg (by decide)] at s1
      rw [if_neg (by decide)]
      exact s1
    | true =>
      rw [if_pos rfl] at s1
      rw [if_pos rfl]
      cases q2 : b ρ M1 with
      | exc c ρ2 m => rw [q2] at s1; exact s1
      | stuck => rw [q2] at s1; exact s1
      | ok o ρ2 M2 =>
        rw [q2] at s1
        cases o with
        | nx =>
          obtain ⟨m, hm, hI'⟩ := s1
          exact wp_whileL I step fuel m ρ2 M2 (by omega) hI'
        | ct =>
          obtain ⟨m, hm, hI'⟩ := s1
          exact wp_whileL I step fuel m ρ2 M2 (by omega) hI'
        | bk => exact s1
        | rt d => exact s1
theorem wps_while {c : Sl → Mm → Res Bool} {b : Sl → Mm → RS} (I : Nat → Sl → Mm → Prop) (n : Nat) (hn : n < 1000000) (hI : I n ρ M) (step : ∀ n ρ M, I n ρ M → Wp (c ρ M) (fun k M1 => if k = true then WpS (b ρ M1) (trn (fun ρ2 M2 => ∃ m, m < n ∧ I m ρ2 M2) QS) E else QS .nx ρ M1) E) : WpS (gWhile c b ρ M) QS E :=
  wp_whileL I step fuelN n ρ M hn hI
@[simp] theorem sameL_new {xs : List D} {J : Mm} : sameL [(M.length, xs)] (M ++ MO.lst xs :: J) = true := sameL_of gnew
@[simp] theorem atI_zero {α : Type} (x : α) (xs : List α) : atI (x :: xs) 0 = some x := atI_of (j := 0) rfl rfl
/-! ### sources -/
def rng1Of (ds : List D) (M1 : Mm) : Res Src := match ds with
  | [.int j] => if -(2 ^ 62) ≤ j ∧ j < 2 ^ 62 then .ok ([], rangeD 0 j.toNat) M1 else .stuck
  | _ => .stuck
def rng2Of (ds : List D) (M1 : Mm) : Res Src := match ds with
  | [.int i, .int j] => if -(2 ^ 62) ≤ i ∧ i < 2 ^ 62 ∧ -(2 ^ 62) ≤ j ∧ j < 2 ^ 62 then .ok ([], rangeD i (j - i).toNat) M1 else .stuck
  | _ => .stuck
def rngDOf (ds : List D) (M1 : Mm) : Res Src := match ds with
  | [.int i, .int j, .int c] => if c = -1 ∧ -(2 ^ 62) ≤ i ∧ i < 2 ^ 62 ∧ -(2 ^ 62) ≤ j ∧ j < 2 ^ 62 then .ok ([], downD i (i - j).toNat) M1 else .stuck
  | _ => .stuck
@[simp] theorem wp_sRng1 {fs : Sl → Mm → Res (List D)} {QR : Src → Mm → Prop} : Wp (sRng1 fs ρ M) QR E = Wp (fs ρ M) (fun ds M1 => Wp (rng1Of ds M1) QR E) E := by
  show Wp ((fs ρ M).bind rng1Of) QR E = _
  rw [wp_bind]
@[simp] theorem wp_sRng2 {fs : Sl → Mm → Res (List D)} {QR : Src → Mm → Prop} : Wp (sRng2 fs ρ M) QR E = Wp (fs ρ M) (fun ds M1 => Wp (rng2Of ds M1) QR E) E := by
  show Wp ((fs ρ M).bind rng2Of) QR E = _
  rw [wp_bind]
@[simp] theorem wp_sRngD {fs : Sl → Mm → Res (List D)} {QR : Src → Mm → Prop} : Wp (sRngD fs ρ M) QR E = Wp (fs ρ M) (fun ds M1 => Wp (rngDOf ds M1) QR E) E := by
  show Wp ((fs ρ M).bind rngDOf) QR E = _
  rw [wp_bind]
theorem wp_rng1 {j : Int} {QR : Src → Mm → Prop} (h : -(2 ^ 62) ≤ j ∧ j < 2 ^ 62) : Wp (rng1Of [.int j] M) QR E = QR ([], rangeD 0 j.toNat) M := by
  show Wp (if _ then _ else _) QR E = _
  rw [if_pos h]; rfl
theorem wp_rng2 {i j : Int} {QR : Src → Mm → Prop} (h : -(2 ^ 62) ≤ i ∧ i < 2 ^ 62 ∧ -(2 ^ 62) ≤ j ∧ j < 2 ^ 62) : Wp (rng2Of [.int i, .int j] M) QR E = QR ([], rangeD i (j - i).toNat) M := by
  show Wp (if _ then _ else _) QR E = _
  rw [if_pos h]; rfl
theorem wp_rngD {i j : Int} {QR : Src → Mm → Prop} (h : -(2 ^ 62) ≤ i ∧ i < 2 ^ 62 ∧ -(2 ^ 62) ≤ j ∧ j < 2 ^ 62) : Wp (rngDOf [.int i, .int j, .int (-1)] M) QR E = QR ([], downD i (i - j).toNat) M := by
  show Wp (if _ then _ else _) QR E = _
  rw [if_pos ⟨rfl, h⟩]; rfl
@[simp] theorem wp_sSeq {f : Sl → Mm → Res D} {QR : Src → Mm → Prop} : Wp (sSeq f ρ M) QR E = Wp (f ρ M) (fun d M1 => Wp (srcOf d M1) QR E) E := by unfold sSeq; simp
@[simp] theorem wp_src_tup {ds : List D} {QR : Src → Mm → Prop} : Wp (srcOf (.tup ds) M) QR E = QR ([], ds) M := rfl
theorem wp_src_W {w : List Int} {QR : Src → Mm → Prop} : Wp (srcOf (dW w) M) QR E = QR ([], w.map D.int) M := rfl
theorem wp_src_R {w : List (List Int)} {QR : Src → Mm → Prop} : Wp (srcOf (dR w) M) QR E = QR ([], w.map dW) M := rfl
theorem wp_src_lst {n : Nat} {ds : List D} {QR : Src → Mm → Prop} (h : M[n]? = some (.lst ds)) : Wp (srcOf (.ref n) M) QR E = QR ([(n, ds)], ds) M := by simp only [srcOf, h]; rfl
theorem wp_sEnum_tup {fs : Sl → Mm → Res (List D)} {QR : Src → Mm → Prop} {ds : List D} {M1 : Mm} (h : fs ρ M = .ok [.tup ds] M1) : Wp (sEnum fs ρ M) QR E = QR ([], numF 0 ds) M1 := by unfold sEnum; rw [h]; rfl
def enumOf (ds : List D) (M1 : Mm) : Res Src := match ds with
  | [.tup ds] => .ok ([], numF 0 ds) M1
  | [.ref n] => match M1[n]? with
    | some (.lst ds) => .ok ([(n, ds)], numF 0 ds) M1
    | _ => .stuck
  | _ => .stuck
@[simp] theorem wp_sEnum {fs : Sl → Mm → Res (List D)} {QR : Src → Mm → Prop} : Wp (sEnum fs ρ M) QR E = Wp (fs ρ M) (fun ds M1 => Wp (enumOf ds M1) QR E) E := by
  show Wp ((fs ρ M).bind enumOf) QR E = _
  rw [wp_bind]
@[simp] theorem wp_enum_tup {ds : List D} {QR : Src → Mm → Prop} : Wp (enumOf [.tup ds] M) QR E = QR ([], numF 0 ds) M := rfl
theorem wp_enum_W {w : List Int} {QR : Src → Mm → Prop} : Wp (enumOf [dW w] M) QR E = QR ([], numF 0 (w.map D.int)) M := rfl
/-! ### comprehensions -/
@[simp] theorem wp_dLc {fi : Sl → Mm → Res Src} {h : D → Sl → Option Sl} {t : Sl → Mm → Res Bool} {f : Sl → Mm → Res D} {vs : List Nat} : Wp (dLc fi h t f vs ρ M) Q E = Wp (fi ρ M) (fun s M1 => Wp (lcL s.1 h t f (wipeD ρ vs) s.2 M1) (fun ys M2 => ys.length ≤ sizeLine ∧ Q (.ref M2.length) (M2 ++ [.lst ys])) noE) E := by
  unfold dLc
  rw [wp_bind]; congr 1; funext s M1
  rw [wp_bindN]
  cases lcL s.1 h t f (wipeD ρ vs) s.2 M1 with
  | ok ys m => simp
  | exc c m => rfl
  | stuck => rfl
/-- every item is worth v of it -/
theorem wp_lcM {ck : Ck} {h : D → Sl → Option Sl} {t : Sl → Mm → Res Bool} {f : Sl → Mm → Res D} {ρw : Sl} {v : D → D} {QL : List D → Mm → Prop} {E : Addr → Mm → Prop} (P : Mm → Prop) (hs : ∀ M, P M → sameL ck M = true) :
    ∀ (xs : List D) (M : Mm), P M → (∀ x ∈ xs, ∀ M, P M → ∃ ρ1, h x ρw = some ρ1 ∧ Wp (t ρ1 M) (fun k M2 => k = true ∧ Wp (f ρ1 M2) (fun y M3 => P M3 ∧ y = v x) noE) noE) → (∀ M', P M' → QL (xs.map v) M') → Wp (lcL ck h t f ρw xs M) QL E
  | [], M, hP, _, fin => by simpa [lcL] using fin M hP
  | x :: xs, M, hP, step, fin => by
    obtain ⟨ρ1, e1, s⟩ := step x List.mem_cons_self M hP
    simp only [lcL, e1]
    rw [wp_bindN]
    refine (s.imp (fun k M2 z => ?_)).any
    obtain ⟨rfl, z⟩ := z
    rw [if_pos rfl, wp_bindN]
    refine z.imp fun y M3 z3 => ?_
    obtain ⟨p3, rfl⟩ := z3
    rw [if_pos (hs M3 p3), wp_bindN]
    exact wp_lcM (QL := fun ys M4 => QL (v x :: ys) M4) P hs xs M3 p3 (fun x' hx => step x' (List.mem_cons_of_mem _ hx)) (fun M' hP' => by simpa using fin M' hP')
/-- every item's worth has S -/
theorem wp_lcA {ck : Ck} {h : D → Sl → Option Sl} {t : Sl → Mm → Res Bool} {f : Sl → Mm → Res D} {ρw : Sl} {S : D → Prop} {QL : List D → Mm → Prop} {E : Addr → Mm → Prop} (P : Mm → Prop) (hs : ∀ M, P M → sameL ck M = true) :
    ∀ (xs : List D) (M : Mm), P M → (∀ x ∈ xs, ∀ M, P M → ∃ ρ1, h x ρw = some ρ1 ∧ Wp (t ρ1 M) (fun k M2 => k = true ∧ Wp (f ρ1 M2) (fun y M3 => P M3 ∧ S y) noE) noE) → (∀ ys M', P M' → ys.length = xs.length → (∀ y ∈ ys, S y) → QL ys M') → Wp (lcL ck h t f ρw xs M) QL E
  | [], M, hP, _, fin => by simpa [lcL] using fin [] M hP rfl (fun y hy => by simp at hy)
  | x :: xs, M, hP, step, fin => by
    obtain ⟨ρ1, e1, s⟩ := step x List.mem_cons_self M hP
    simp only [lcL, e1]
    rw [wp_bindN]
    refine (s.imp (fun k M2 z => ?_)).any
    obtain ⟨rfl, z⟩ := z
    rw [if_pos rfl, wp_bindN]
    refine z.imp fun y M3 z3 => ?_
    obtain ⟨p3, sy⟩ := z3
    rw [if_pos (hs M3 p3), wp_bindN]
    refine wp_lcA (QL := fun ys M4 => QL (y :: ys) M4) P hs xs M3 p3 (fun x' hx => step x' (List.mem_cons_of_mem _ hx)) (fun ys M' hP' hl hy => fin (y :: ys) M' hP' (by simp [hl]) fun z hz => ?_)
    rcases List.mem_cons.mp hz with e | e
    · rw [e]; exact sy
    · exact hy z e
/-! ### instances, lambdas -/
def madeOf (n : Nat) (r : D) (M2 : Mm) : Res D := match r with
  | .non => .ok (.ref n) M2
  | _ => .stuck
@[simp] theorem wp_made (n : Nat) : Wp (madeOf n .non M) Q E = Q (.ref n) M := rfl
@[simp] theorem wp_dMake {C : Addr} {den : Den} {fs : Sl → Mm → Res (List D)} : Wp (dMake C den fs ρ M) Q E = Wp (fs ρ M) (fun ds M1 => Wp (den (.ref M1.length :: ds) (M1 ++ [.ins C []])) (fun r M2 => Wp (madeOf M1.length r M2) Q E) E) E := by
  show Wp ((fs ρ M).bind fun ds M1 => (den (.ref M1.length :: ds) (M1 ++ [.ins C []])).bind (madeOf M1.length)) Q E = _
  simp only [wp_bind]
/-- an expression handed as a lambda: its value's end, its exception's end -/
theorem wp_dLam {cs : List Addr} {ret : Str} {sE : Addr → Mm → Res D} {fb : Sl → Mm → Res D} (h : Wp (fb ρ M) (fun _ m => Q (.str ret) m) (fun c m => c ∈ cs ∧ Wp (sE c m) Q E)) : Wp (dLam cs ret sE fb ρ M) Q E := by
  unfold dLam
  cases q : fb ρ M with
  | ok a m => rw [q] at h; exact h
  | exc c m =>
    rw [q] at h
    obtain ⟨h1, h2⟩ := h
    dsimp only
    rw [if_pos h1]
    exact h2
  | stuck => rw [q] at h; exact h
end
theorem endR_of {r : RS} {d : D} {M' : Mm} (h : WpS r (fun o _ m => o = .rt d ∧ m = M') noE) : endR r = .ok d M' := by
  cases r with
  | ok o ρ m => obtain ⟨rfl, rfl⟩ := h; rfl
  | exc c ρ m => exact h.elim
  | stuck => exact h.elim
theorem wp_isE {a : Addr} {kit : V → Option Bool} {u : V} {b : Bool} {Q : D → Mm → Prop} {E : Addr → Mm → Prop} {M : Mm} (h : kit u = some b) : Wp (oIsE a kit [.ext (.ref a), .ext u] M) Q E = Q (.bl b) M := by
  simp only [oIsE, if_pos, h]; rfl
theorem wp_sList {f : Sl → Mm → Res D} {QR : Src → Mm → Prop} {E : Addr → Mm → Prop} {ρ : Sl} {M : Mm} : Wp (sList f ρ M) QR E = Wp (f ρ M) (fun d M1 => ∃ n ds, d = .ref n ∧ M1[n]? = some (.lst ds) ∧ QR ([(n, ds)], ds) M1) E := by
  unfold sList
  rw [wp_bind]; congr 1; funext d M1
  split
  · rename_i n
    split
    · rename_i ds h
      apply propext
      exact ⟨fun z => ⟨n, ds, rfl, h, z⟩, fun ⟨n', ds', e, h', z⟩ => by cases e; rw [h] at h'; cases h'; exact z⟩
    · rename_i h
      apply propext
      exact ⟨fun z => z.elim, fun ⟨n', ds', e, h', z⟩ => by cases e; exact (h _ h').elim⟩
  · rename_i h
    apply propext
    exact ⟨fun z => z.elim, fun ⟨n', ds', e, h', z⟩ => (h n' e).elim⟩
section
variable {Q : D → Mm → Prop} {E : Addr → Mm → Prop} {M : Mm} {N : List Str} {g : Sl → Mm → RS} {a b d : D}
theorem wp_b1 : Wp (bodyD N 1 g [a] M) Q E = WpS (g (startD N [a]) M) (endQ Q) E := wp_body rfl
theorem wp_b2 : Wp (bodyD N 2 g [a, b] M) Q E = WpS (g (startD N [a, b]) M) (endQ Q) E := wp_body rfl
theorem wp_b3 : Wp (bodyD N 3 g [a, b, d] M) Q E = WpS (g (startD N [a, b, d]) M) (endQ Q) E := wp_body rfl
end
section
variable {Q : D → Mm → Prop} {QS : Out → Sl → Mm → Prop} {E : Addr → Mm → Prop} {M : Mm} {ρ : Sl}
def setFOf (C : Addr) (f : Str) (x d : D) (M2 : Mm) : Res Unit := match x with
  | .ref n => match M2[n]? with
    | some (.ins C' fs) => if C' = C ∧ fs.length < 1000 then .ok () (M2.set n (.ins C (putD f d fs))) else .stuck
    | _ => .stuck
  | _ => .stuck
@[simp] theorem wps_fld {C : Addr} {f : Str} {fo fv : Sl → Mm → Res D} : WpS (gFld C f fo fv ρ M) QS E = Wp (fv ρ M) (fun d M1 => Wp (fo ρ M1) (fun x M2 => Wp (setFOf C f x d M2) (fun _ M3 => QS .nx ρ M3) E) E) E := by
  unfold gFld
  rw [wps_eb]; congr 1; funext d M1
  rw [wps_eb]; congr 1; funext x M2
  unfold setFOf
  cases x with
  | ref n =>
    dsimp only
    cases M2[n]? with
    | none => rfl
    | some mo =>
      cases mo with
      | lst ds => rfl
      | emp => rfl
      | ins C' fs =>
        dsimp only
        by_cases h : C' = C ∧ fs.length < 1000
        · rw [if_pos h, if_pos h]; rfl
        · rw [if_neg h, if_neg h]; rfl
  | _ => rfl
theorem wp_setF {C : Addr} {f : Str} {n : Nat} {d : D} {fs : List (Str × D)} {QU : Unit → Mm → Prop} (h : M[n]? = some (.ins C fs)) (hl : fs.length < 1000) : Wp (setFOf C f (.ref n) d M) QU E = QU () (M.set n (.ins C (putD f d fs))) := by
  simp only [setFOf, h]
  rw [if_pos ⟨trivial, hl⟩]; rfl
end
end Ny


set_option Elab.async false
set_option linter.all false
set_option maxRecDepth 100000
set_option maxHeartbeats 4000000
/-! K76: printed by mkny.py: what each def of the law's row does, and that it does so. -/
namespace K76
open PySem PySem.Spec PyProof.Rows L2 LamX Ny
abbrev Pg : Program := PySem.Challenge.pw_anynumeral_k76_whole_endless_rows_and_th
def top (i : Nat) : Stmt := Pg.main.body.getD i (.Pass ⟨0, 0, 0, 0⟩)
def meth (i j : Nat) : Stmt := match top i with
  | .ClassDef _ _ _ b _ _ _ _ _ _ _ => b.getD j (.Pass ⟨0, 0, 0, 0⟩)
  | _ => .Pass ⟨0, 0, 0, 0⟩
/-- where the classes stand -/
structure Cs where
  Grown : Addr
  NoNumber : Addr
  NoRule : Addr
  NoSigns : Addr
  NoStart : Addr
  NoGrown : Addr
def csK (K : PySem.W.Frag) : Cs := ⟨He.ga K "Grown", He.ga K "NoNumber", He.ga K "NoRule", He.ga K "NoSigns", He.ga K "NoStart", He.ga K "NoGrown"⟩
structure Dis (c : Cs) : Prop where
  nd : [c.NoRule, c.NoStart, c.NoGrown, c.NoNumber, c.NoSigns].Nodup
/-- the classes whose instances come to the catching def -/
def e_cs (c : Cs) : List Addr := [c.NoRule, c.NoStart, c.NoGrown, c.NoNumber, c.NoSigns]
def s_kit (c : Cs) (cc : Addr) (u : V) : Option Bool := if u = .ty "ValueError" then some true else if u = .ref c.NoRule then some (decide (cc = c.NoRule)) else if u = .ref c.NoStart then some (decide (cc = c.NoStart)) else if u = .ref c.NoGrown then some (decide (cc = c.NoGrown)) else if u = .ref c.NoNumber then some (decide (cc = c.NoNumber)) else none
/-- the tables of the code objects whose defs make lambdas -/
def tabsK (K : PySem.W.Frag) : List (Addr × Str) := [((He.cT K ("_law_fields_right", none)).2, qn "_law_fields_right"), ((He.cT K ("_law_starts_right", none)).2, qn "_law_starts_right")]
def lamsN : List Str := ["_law_fields_right", "_law_starts_right"]
/-- what the top has left -/
structure Txt (K : PySem.W.Frag) (mg : Str → Option Value) : Prop where
  d_is_integer : DefT K ("is_integer", none) "is_integer" "is_integer" (top 9)
  m_is_integer : mg "is_integer" = some (.ref (He.ga K "is_integer"))
  d_is_within : DefT K ("is_within", none) "is_within" "is_within" (top 10)
  m_is_within : mg "is_within" = some (.ref (He.ga K "is_within"))
  d_are_signs : DefT K ("are_signs", none) "are_signs" "are_signs" (top 18)
  m_are_signs : mg "are_signs" = some (.ref (He.ga K "are_signs"))
  d_is_rule : DefT K ("is_rule", none) "is_rule" "is_rule" (top 19)
  m_is_rule : mg "is_rule" = some (.ref (He.ga K "is_rule"))
  d_check_rule : DefT K ("check_rule", none) "check_rule" "check_rule" (top 20)
  m_check_rule : mg "check_rule" = some (.ref (He.ga K "check_rule"))
  d_check_signs : DefT K ("check_signs", none) "check_signs" "check_signs" (top 21)
  m_check_signs : mg "check_signs" = some (.ref (He.ga K "check_signs"))
  d_check_times : DefT K ("check_times", none) "check_times" "check_times" (top 22)
  m_check_times : mg "check_times" = some (.ref (He.ga K "check_times"))
  d_raw_grow : DefT K ("raw_grow", none) "raw_grow" "raw_grow" (top 23)
  m_raw_grow : mg "raw_grow" = some (.ref (He.ga K "raw_grow"))
  d_grow_often : DefT K ("grow_often", none) "grow_often" "grow_often" (top 24)
  m_grow_often : mg "grow_often" = some (.ref (He.ga K "grow_often"))
  d_Grown_init : DefT K ("Grown", some "__init__") "__init__" "Grown.__init__" (meth 25 0)
  d_Grown_eq : DefT K ("Grown", some "__eq__") "__eq__" "Grown.__eq__" (meth 25 1)
  d_is_grown : DefT K ("is_grown", none) "is_grown" "is_grown" (top 26)
  m_is_grown : mg "is_grown" = some (.ref (He.ga K "is_grown"))
  d_check_grown : DefT K ("check_grown", none) "check_grown" "check_grown" (top 27)
  m_check_grown : mg "check_grown" = some (.ref (He.ga K "check_grown"))
  d_check_number : DefT K ("check_number", none) "check_number" "check_number" (top 28)
  m_check_number : mg "check_number" = some (.ref (He.ga K "check_number"))
  d_raw_first_signs : DefT K ("raw_first_signs", none) "raw_first_signs" "raw_first_signs" (top 29)
  m_raw_first_signs : mg "raw_first_signs" = some (.ref (He.ga K "raw_first_signs"))
  d_first_signs : DefT K ("first_signs", none) "first_signs" "first_signs" (top 30)
  m_first_signs : mg "first_signs" = some (.ref (He.ga K "first_signs"))
  d_worths_grown : DefT K ("worths_grown", none) "worths_grown" "worths_grown" (top 31)
  m_worths_grown : mg "worths_grown" = some (.ref (He.ga K "worths_grown"))
  d_raw_road : DefT K ("raw_road", none) "raw_road" "raw_road" (top 32)
  m_raw_road : mg "raw_road" = some (.ref (He.ga K "raw_road"))
  d_raw_sign_by : DefT K ("raw_sign_by", none) "raw_sign_by" "raw_sign_by" (top 33)
  m_raw_sign_by : mg "raw_sign_by" = some (.ref (He.ga K "raw_sign_by"))
  d_road_of : DefT K ("road_of", none) "road_of" "road_of" (top 34)
  m_road_of : mg "road_of" = some (.ref (He.ga K "road_of"))
  d_sign_at : DefT K ("sign_at", none) "sign_at" "sign_at" (top 35)
  m_sign_at : mg "sign_at" = some (.ref (He.ga K "sign_at"))
  d__law_hand : DefT K ("_law_hand", none) "_law_hand" "_law_hand" (top 37)
  m__law_hand : mg "_law_hand" = some (.ref (He.ga K "_law_hand"))
  d__law_draw : DefT K ("_law_draw", none) "_law_draw" "_law_draw" (top 38)
  m__law_draw : mg "_law_draw" = some (.ref (He.ga K "_law_draw"))
  d__law_any : DefT K ("_law_any", none) "_law_any" "_law_any" (top 39)
  m__law_any : mg "_law_any" = some (.ref (He.ga K "_law_any"))
  d__law_rule : DefT K ("_law_rule", none) "_law_rule" "_law_rule" (top 40)
  m__law_rule : mg "_law_rule" = some (.ref (He.ga K "_law_rule"))
  d__law_row : DefT K ("_law_row", none) "_law_row" "_law_row" (top 41)
  m__law_row : mg "_law_row" = some (.ref (He.ga K "_law_row"))
  d__law_error : DefT K ("_law_error", none) "_law_error" "_law_error" (top 42)
  m__law_error : mg "_law_error" = some (.ref (He.ga K "_law_error"))
  d__law_fields_right : DefT K ("_law_fields_right", none) "_law_fields_right" "_law_fields_right" (top 43)
  m__law_fields_right : mg "_law_fields_right" = some (.ref (He.ga K "_law_fields_right"))
  d__law_starts_right : DefT K ("_law_starts_right", none) "_law_starts_right" "_law_starts_right" (top 44)
  m__law_starts_right : mg "_law_starts_right" = some (.ref (He.ga K "_law_starts_right"))
  d__law_signs_right : DefT K ("_law_signs_right", none) "_law_signs_right" "_law_signs_right" (top 45)
  m__law_signs_right : mg "_law_signs_right" = some (.ref (He.ga K "_law_signs_right"))
  d_law : DefT K ("law", none) "law" "law" (top 46)
  m_law : mg "law" = some (.ref (He.ga K "law"))
  m_Grown : mg "Grown" = some (.ref (He.ga K "Grown"))
  cl_Grown : Cls K (He.ga K "Grown")
  mk_Grown : Mk K (He.ga K "Grown") (He.ma K (He.ga K "Grown") "__init__")
  in_Grown : InsC K (He.ga K "Grown")
  ba_Grown : ∀ T ∈ basicTys, PySem.W.kitOne K (.type T) (.ref (He.ga K "Grown")) = some false
  me_Grown : Meth K (He.ga K "Grown") "__eq__" (He.ma K (He.ga K "Grown") "__eq__")
  nf_Grown : PySem.W.notFirst K (He.ga K "Grown") (.type "tuple") = true
  na_Grown_rule : NoAttr K (He.ga K "Grown") "rule"
  na_Grown_start : NoAttr K (He.ga K "Grown") "start"
  x_NoNumber : OwnX K mg "NoNumber" (He.ga K "NoNumber")
  m_NoNumber : mg "NoNumber" = some (.ref (He.ga K "NoNumber"))
  x_NoRule : OwnX K mg "NoRule" (He.ga K "NoRule")
  m_NoRule : mg "NoRule" = some (.ref (He.ga K "NoRule"))
  x_NoSigns : OwnX K mg "NoSigns" (He.ga K "NoSigns")
  m_NoSigns : mg "NoSigns" = some (.ref (He.ga K "NoSigns"))
  x_NoStart : OwnX K mg "NoStart" (He.ga K "NoStart")
  m_NoStart : mg "NoStart" = some (.ref (He.ga K "NoStart"))
  x_NoGrown : OwnX K mg "NoGrown" (He.ga K "NoGrown")
  m_NoGrown : mg "NoGrown" = some (.ref (He.ga K "NoGrown"))
  i_MOST_SIGNS : ∃ t, mg "MOST_SIGNS" = some (.int 40 t)
  i_MOST_PUT : ∃ t, mg "MOST_PUT" = some (.int 4 t)
  i_MOST_ROW : ∃ t, mg "MOST_ROW" = some (.int 400 t)
  i_MOST_GROWN : ∃ t, mg "MOST_GROWN" = some (.int 20000 t)
  i_MOST_TIMES : ∃ t, mg "MOST_TIMES" = some (.int 200 t)
  i_MOST_ROAD : ∃ t, mg "MOST_ROAD" = some (.int 400 t)
  f_ValueError : mg "ValueError" = none
  f_abs : mg "abs" = none
  f_all : mg "all" = none
  f_bool : mg "bool" = none
  f_enumerate : mg "enumerate" = none
  f_int : mg "int" = none
  f_isinstance : mg "isinstance" = none
  f_len : mg "len" = none
  f_list : mg "list" = none
  f_max : mg "max" = none
  f_range : mg "range" = none
  f_sum : mg "sum" = none
  f_tuple : mg "tuple" = none
  t_uq : ((tabsK K).map (·.1)).Nodup
  e_exc : ∀ cc ∈ e_cs (csK K), ExcC K cc
  e_kit : ∀ cc ∈ e_cs (csK K), ∀ u b, s_kit (csK K) cc u = some b → ∃ cv, ClsV u cv ∧ PySem.W.kitOne K (.ref cc) cv = some b
  e_exm : ∀ cc ∈ e_cs (csK K), PySem.W.exmOne K (.ref cc) (.ref (He.ga K "NumeralError")) = some true
  e_dis : Dis (csK K)
  m_NumeralError : mg "NumeralError" = some (.ref (He.ga K "NumeralError"))
abbrev ps_is_integer : List Str := ["thing"]
abbrev N_is_integer : List Str := ["thing"]
theorem sc_is_integer : FnScope N_is_integer ps_is_integer (defScope (top 9)) := ⟨rfl, rfl, rfl, by decide +kernel, rfl, by decide +kernel, by decide +kernel⟩
def g_is_integer (c : Cs) : Sl → Mm → RS := gRet (dAndV (dCall (oIsi (.ty "int") (kitTy "int")) (dConsA (dVar 0) (dConsA (dC (.ext (.ty "int"))) (dNilA)))) (dNotV (dCall (oIsi (.ty "bool") (kitTy "bool")) (dConsA (dVar 0) (dConsA (dC (.ext (.ty "bool"))) (dNilA))))))
def den_is_integer (c : Cs) : Den := bodyD N_is_integer 1 (g_is_integer c)
abbrev ps_is_within : List Str := ["thing", "low", "high"]
abbrev N_is_within : List Str := ["thing", "low", "high"]
theorem sc_is_within : FnScope N_is_within ps_is_within (defScope (top 10)) := ⟨rfl, rfl, rfl, by decide +kernel, rfl, by decide +kernel, by decide +kernel⟩
def g_is_within (c : Cs) : Sl → Mm → RS := gRet (dAndV (dDef (den_is_integer c) (dConsA (dVar 0) (dNilA))) (dChain oLe oLe (dVar 1) (dVar 0) (dVar 2)))
def den_is_within (c : Cs) : Den := bodyD N_is_within 3 (g_is_within c)
abbrev ps_are_signs : List Str := ["many", "most", "thing"]
abbrev N_are_signs : List Str := ["many", "most", "thing", "sign"]
theorem sc_are_signs : FnScope N_are_signs ps_are_signs (defScope (top 18)) := ⟨rfl, rfl, rfl, by decide +kernel, rfl, by decide +kernel, by decide +kernel⟩
def g_are_signs (c : Cs) : Sl → Mm → RS := gSeq (gIf (dOrT (dNotT (dTest (dCall (oIsi (.ty "tuple") (kitTy "tuple")) (dConsA (dVar 2) (dConsA (dC (.ext (.ty "tuple"))) (dNilA)))))) (dTest (dBin oGt (dCall oLen (dConsA (dVar 2) (dNilA))) (dVar 1)))) (gRet (dC (.bl false))) (gNx)) (gRet (dCall oAll (dConsA (dLc (sSeq (dVar 2)) (cName 3) (dYes) (dDef (den_is_within c) (dConsA (dVar 3) (dConsA (dC (.int 1)) (dConsA (dVar 0) (dNilA))))) [3]) (dNilA))))
def den_are_signs (c : Cs) : Den := bodyD N_are_signs 3 (g_are_signs c)
abbrev ps_is_rule : List Str := ["thing"]
abbrev N_is_rule : List Str := ["thing", "word"]
theorem sc_is_rule : FnScope N_is_rule ps_is_rule (defScope (top 19)) := ⟨rfl, rfl, rfl, by decide +kernel, rfl, by decide +kernel, by decide +kernel⟩
def g_is_rule (c : Cs) : Sl → Mm → RS := gSeq (gIf (dOrT (dNotT (dTest (dCall (oIsi (.ty "tuple") (kitTy "tuple")) (dConsA (dVar 0) (dConsA (dC (.ext (.ty "tuple"))) (dNilA)))))) (dNotT (dTest (dChain oLe oLe (dC (.int 1)) (dCall oLen (dConsA (dVar 0) (dNilA))) (dC (.int 40)))))) (gRet (dC (.bl false))) (gNx)) (gRet (dCall oAll (dConsA (dLc (sSeq (dVar 0)) (cName 1) (dYes) (dAndV (dDef (den_are_signs c) (dConsA (dCall oLen (dConsA (dVar 0) (dNilA))) (dConsA (dC (.int 4)) (dConsA (dVar 1) (dNilA))))) (dBin oGt (dCall oLen (dConsA (dVar 1) (dNilA))) (dC (.int 0)))) [1]) (dNilA))))
def den_is_rule (c : Cs) : Den := bodyD N_is_rule 1 (g_is_rule c)
abbrev ps_check_rule : List Str := ["rule"]
abbrev N_check_rule : List Str := ["rule"]
theorem sc_check_rule : FnScope N_check_rule ps_check_rule (defScope (top 20)) := ⟨rfl, rfl, rfl, by decide +kernel, rfl, by decide +kernel, by decide +kernel⟩
def g_check_rule (c : Cs) : Sl → Mm → RS := gIf (dNotT (dTest (dDef (den_is_rule c) (dConsA (dVar 0) (dNilA))))) (gRaise c.NoRule) (gNx)
def den_check_rule (c : Cs) : Den := bodyD N_check_rule 1 (g_check_rule c)
abbrev ps_check_signs : List Str := ["rule", "signs"]
abbrev N_check_signs : List Str := ["rule", "signs"]
theorem sc_check_signs : FnScope N_check_signs ps_check_signs (defScope (top 21)) := ⟨rfl, rfl, rfl, by decide +kernel, rfl, by decide +kernel, by decide +kernel⟩
def g_check_signs (c : Cs) : Sl → Mm → RS := gSeq (gExpr (dDef (den_check_rule c) (dConsA (dVar 0) (dNilA)))) (gIf (dNotT (dTest (dDef (den_are_signs c) (dConsA (dCall oLen (dConsA (dVar 0) (dNilA))) (dConsA (dC (.int 400)) (dConsA (dVar 1) (dNilA))))))) (gRaise c.NoSigns) (gNx))
def den_check_signs (c : Cs) : Den := bodyD N_check_signs 2 (g_check_signs c)
abbrev ps_check_times : List Str := ["times"]
abbrev N_check_times : List Str := ["times"]
theorem sc_check_times : FnScope N_check_times ps_check_times (defScope (top 22)) := ⟨rfl, rfl, rfl, by decide +kernel, rfl, by decide +kernel, by decide +kernel⟩
def g_check_times (c : Cs) : Sl → Mm → RS := gIf (dNotT (dTest (dDef (den_is_within c) (dConsA (dVar 0) (dConsA (dC (.int 0)) (dConsA (dC (.int 200)) (dNilA))))))) (gRaise c.NoNumber) (gNx)
def den_check_times (c : Cs) : Den := bodyD N_check_times 1 (g_check_times c)
abbrev ps_raw_grow : List Str := ["rule", "signs"]
abbrev N_raw_grow : List Str := ["rule", "signs", "found", "sign"]
theorem sc_raw_grow : FnScope N_raw_grow ps_raw_grow (defScope (top 23)) := ⟨rfl, rfl, rfl, by decide +kernel, rfl, by decide +kernel, by decide +kernel⟩
def g_raw_grow (c : Cs) : Sl → Mm → RS := gSeq (gAsg (dLst (dNilA)) (hName 2)) (gSeq (gFor (sSeq (dVar 1)) (hName 3) (gExpr (dMeth oExt (dVar 2) (dConsA (dBin oIx (dVar 0) (dBin oSub (dVar 3) (dC (.int 1)))) (dNilA))))) (gRet (dCall oTuple (dConsA (dVar 2) (dNilA)))))
def den_raw_grow (c : Cs) : Den := bodyD N_raw_grow 2 (g_raw_grow c)
abbrev ps_grow_often : List Str := ["rule", "signs", "times"]
abbrev N_grow_often : List Str := ["rule", "signs", "times", "found", "turn", "sign"]
theorem sc_grow_often : FnScope N_grow_often ps_grow_often (defScope (top 24)) := ⟨rfl, rfl, rfl, by decide +kernel, rfl, by decide +kernel, by decide +kernel⟩
def g_grow_often (c : Cs) : Sl → Mm → RS := gSeq (gExpr (dDef (den_check_signs c) (dConsA (dVar 0) (dConsA (dVar 1) (dNilA))))) (gSeq (gExpr (dDef (den_check_times c) (dConsA (dVar 2) (dNilA)))) (gSeq (gAsg (dVar 1) (hName 3)) (gSeq (gFor (sRng1 (dConsA (dVar 2) (dNilA))) (hName 4) (gSeq (gIf (dTest (dBin oGt (dCall oSum (dConsA (dLc (sSeq (dVar 3)) (cName 5) (dYes) (dCall oLen (dConsA (dBin oIx (dVar 0) (dBin oSub (dVar 5) (dC (.int 1)))) (dNilA))) [5]) (dNilA))) (dC (.int 20000)))) (gNever) (gNx)) (gAsg (dDef (den_raw_grow c) (dConsA (dVar 0) (dConsA (dVar 3) (dNilA)))) (hName 3)))) (gRet (dVar 3)))))
def den_grow_often (c : Cs) : Den := bodyD N_grow_often 3 (g_grow_often c)
abbrev ps_Grown_init : List Str := ["self", "rule", "start"]
abbrev N_Grown_init : List Str := ["self", "rule", "start"]
theorem sc_Grown_init : FnScope N_Grown_init ps_Grown_init (defScope (meth 25 0)) := ⟨rfl, rfl, rfl, by decide +kernel, rfl, by decide +kernel, by decide +kernel⟩
def g_Grown_init (c : Cs) : Sl → Mm → RS := gSeq (gExpr (dDef (den_check_rule c) (dConsA (dVar 1) (dNilA)))) (gSeq (gIf (dOrT (dNotT (dTest (dDef (den_is_within c) (dConsA (dVar 2) (dConsA (dC (.int 1)) (dConsA (dCall oLen (dConsA (dVar 1) (dNilA))) (dNilA))))))) (dOrT (dTest (dBin oLt (dCall oLen (dConsA (dBin oIx (dVar 1) (dBin oSub (dVar 2) (dC (.int 1)))) (dNilA))) (dC (.int 2)))) (dTest (dBin oNe (dBin oIx (dBin oIx (dVar 1) (dBin oSub (dVar 2) (dC (.int 1)))) (dC (.int 0))) (dVar 2))))) (gRaise c.NoStart) (gNx)) (gSeq (gFld c.Grown "rule" (dVar 0) (dVar 1)) (gFld c.Grown "start" (dVar 0) (dVar 2))))
def den_Grown_init (c : Cs) : Den := bodyD N_Grown_init 3 (g_Grown_init c)
abbrev ps_Grown_eq : List Str := ["self", "other"]
abbrev N_Grown_eq : List Str := ["self", "other"]
theorem sc_Grown_eq : FnScope N_Grown_eq ps_Grown_eq (defScope (meth 25 1)) := ⟨rfl, rfl, rfl, by decide +kernel, rfl, by decide +kernel, by decide +kernel⟩
def g_Grown_eq (c : Cs) : Sl → Mm → RS := gRet (dAndV (dCall (oIsi (.ref c.Grown) (kitOwn c.Grown)) (dConsA (dVar 1) (dConsA (dC (.ext (.ref c.Grown))) (dNilA)))) (dAndV (dBin oEq (dFld c.Grown "rule" (dVar 0)) (dFld c.Grown "rule" (dVar 1))) (dBin oEq (dFld c.Grown "start" (dVar 0)) (dFld c.Grown "start" (dVar 1)))))
def den_Grown_eq (c : Cs) : Den := bodyD N_Grown_eq 2 (g_Grown_eq c)
abbrev ps_is_grown : List Str := ["thing"]
abbrev N_is_grown : List Str := ["thing"]
theorem sc_is_grown : FnScope N_is_grown ps_is_grown (defScope (top 26)) := ⟨rfl, rfl, rfl, by decide +kernel, rfl, by decide +kernel, by decide +kernel⟩
def g_is_grown (c : Cs) : Sl → Mm → RS := gRet (dCall (oIsi (.ref c.Grown) (kitOwn c.Grown)) (dConsA (dVar 0) (dConsA (dC (.ext (.ref c.Grown))) (dNilA))))
def den_is_grown (c : Cs) : Den := bodyD N_is_grown 1 (g_is_grown c)
abbrev ps_check_grown : List Str := ["grown"]
abbrev N_check_grown : List Str := ["grown"]
theorem sc_check_grown : FnScope N_check_grown ps_check_grown (defScope (top 27)) := ⟨rfl, rfl, rfl, by decide +kernel, rfl, by decide +kernel, by decide +kernel⟩
def g_check_grown (c : Cs) : Sl → Mm → RS := gIf (dNotT (dTest (dDef (den_is_grown c) (dConsA (dVar 0) (dNilA))))) (gRaise c.NoGrown) (gNx)
def den_check_grown (c : Cs) : Den := bodyD N_check_grown 1 (g_check_grown c)
abbrev ps_check_number : List Str := ["n"]
abbrev N_check_number : List Str := ["n"]
theorem sc_check_number : FnScope N_check_number ps_check_number (defScope (top 28)) := ⟨rfl, rfl, rfl, by decide +kernel, rfl, by decide +kernel, by decide +kernel⟩
def g_check_number (c : Cs) : Sl → Mm → RS := gIf (dOrT (dNotT (dTest (dDef (den_is_integer c) (dConsA (dVar 0) (dNilA))))) (dTest (dBin oLt (dVar 0) (dC (.int 0))))) (gRaise c.NoNumber) (gNx)
def den_check_number (c : Cs) : Den := bodyD N_check_number 1 (g_check_number c)
abbrev ps_raw_first_signs : List Str := ["grown", "many"]
abbrev N_raw_first_signs : List Str := ["grown", "many", "found", "at"]
theorem sc_raw_first_signs : FnScope N_raw_first_signs ps_raw_first_signs (defScope (top 29)) := ⟨rfl, rfl, rfl, by decide +kernel, rfl, by decide +kernel, by decide +kernel⟩
def g_raw_first_signs (c : Cs) : Sl → Mm → RS := gSeq (gPar 2 3 (dConsA (dCall oList (dConsA (dBin oIx (dFld c.Grown "rule" (dVar 0)) (dBin oSub (dFld c.Grown "start" (dVar 0)) (dC (.int 1)))) (dNilA))) (dConsA (dC (.int 1)) (dNilA)))) (gSeq (gWhile (dTest (dBin oLt (dCall oLen (dConsA (dVar 2) (dNilA))) (dVar 1))) (gSeq (gExpr (dMeth oExt (dVar 2) (dConsA (dBin oIx (dFld c.Grown "rule" (dVar 0)) (dBin oSub (dBin oIx (dVar 2) (dVar 3)) (dC (.int 1)))) (dNilA)))) (gAsg (dBin oAdd (dVar 3) (dC (.int 1))) (hName 3)))) (gRet (dCall oTuple (dConsA (dSl (dVar 2) (dPart none) (dPart (some (dVar 1)))) (dNilA)))))
def den_raw_first_signs (c : Cs) : Den := bodyD N_raw_first_signs 2 (g_raw_first_signs c)
abbrev ps_first_signs : List Str := ["grown", "many"]
abbrev N_first_signs : List Str := ["grown", "many"]
theorem sc_first_signs : FnScope N_first_signs ps_first_signs (defScope (top 30)) := ⟨rfl, rfl, rfl, by decide +kernel, rfl, by decide +kernel, by decide +kernel⟩
def g_first_signs (c : Cs) : Sl → Mm → RS := gSeq (gExpr (dDef (den_check_grown c) (dConsA (dVar 0) (dNilA)))) (gSeq (gIf (dNotT (dTest (dDef (den_is_within c) (dConsA (dVar 1) (dConsA (dC (.int 0)) (dConsA (dC (.int 20000)) (dNilA))))))) (gRaise c.NoNumber) (gNx)) (gRet (dDef (den_raw_first_signs c) (dConsA (dVar 0) (dConsA (dVar 1) (dNilA))))))
def den_first_signs (c : Cs) : Den := bodyD N_first_signs 2 (g_first_signs c)
abbrev ps_worths_grown : List Str := ["rule", "worths"]
abbrev N_worths_grown : List Str := ["rule", "worths", "word", "sign"]
theorem sc_worths_grown : FnScope N_worths_grown ps_worths_grown (defScope (top 31)) := ⟨rfl, rfl, rfl, by decide +kernel, rfl, by decide +kernel, by decide +kernel⟩
def g_worths_grown (c : Cs) : Sl → Mm → RS := gRet (dLc (sSeq (dVar 0)) (cName 2) (dYes) (dCall oSum (dConsA (dLc (sSeq (dVar 2)) (cName 3) (dYes) (dBin oIx (dVar 1) (dBin oSub (dVar 3) (dC (.int 1)))) [3]) (dNilA))) [2])
def den_worths_grown (c : Cs) : Den := bodyD N_worths_grown 2 (g_worths_grown c)
abbrev ps_raw_road : List Str := ["grown", "n"]
abbrev N_raw_road : List Str := ["grown", "n", "sizes", "found", "sign", "rest", "left", "at", "one"]
theorem sc_raw_road : FnScope N_raw_road ps_raw_road (defScope (top 32)) := ⟨rfl, rfl, rfl, by decide +kernel, rfl, by decide +kernel, by decide +kernel⟩
def g_raw_road (c : Cs) : Sl → Mm → RS := gSeq (gAsg (dLst (dConsA (dBin oMul (dLst (dConsA (dC (.int 1)) (dNilA))) (dCall oLen (dConsA (dFld c.Grown "rule" (dVar 0)) (dNilA)))) (dNilA))) (hName 2)) (gSeq (gWhile (dTest (dBin oLe (dBin oIx (dBin oIx (dVar 2) (dUn oNeg (dC (.int 1)))) (dBin oSub (dFld c.Grown "start" (dVar 0)) (dC (.int 1)))) (dVar 1))) (gSeq (gIf (dTest (dBin oGt (dCall oLen (dConsA (dVar 2) (dNilA))) (dC (.int 400)))) (gNever) (gNx)) (gExpr (dMeth oApp (dVar 2) (dConsA (dDef (den_worths_grown c) (dConsA (dFld c.Grown "rule" (dVar 0)) (dConsA (dBin oIx (dVar 2) (dUn oNeg (dC (.int 1)))) (dNilA)))) (dNilA)))))) (gSeq (gPar3 3 4 5 (dConsA (dLst (dNilA)) (dConsA (dFld c.Grown "start" (dVar 0)) (dConsA (dVar 1) (dNilA))))) (gSeq (gFor (sRngD (dConsA (dBin oSub (dCall oLen (dConsA (dVar 2) (dNilA))) (dC (.int 2))) (dConsA (dUn oNeg (dC (.int 1))) (dConsA (dUn oNeg (dC (.int 1))) (dNilA))))) (hName 6) (gFor (sEnum (dConsA (dBin oIx (dFld c.Grown "rule" (dVar 0)) (dBin oSub (dVar 4) (dC (.int 1)))) (dNilA))) (hTup 2 (hCons (hName 7) (hCons (hName 8) (hNil)))) (gSeq (gIf (dTest (dBin oLt (dVar 5) (dBin oIx (dBin oIx (dVar 2) (dVar 6)) (dBin oSub (dVar 8) (dC (.int 1)))))) (gSeq (gExpr (dMeth oApp (dVar 3) (dConsA (dBin oAdd (dVar 7) (dC (.int 1))) (dNilA)))) (gSeq (gAsg (dVar 8) (hName 4)) (gBk))) (gNx)) (gAsg (dBin oSub (dVar 5) (dBin oIx (dBin oIx (dVar 2) (dVar 6)) (dBin oSub (dVar 8) (dC (.int 1))))) (hName 5))))) (gRet (dCall oTuple (dConsA (dVar 3) (dNilA)))))))
def den_raw_road (c : Cs) : Den := bodyD N_raw_road 2 (g_raw_road c)
abbrev ps_raw_sign_by : List Str := ["grown", "road"]
abbrev N_raw_sign_by : List Str := ["grown", "road", "sign", "letter"]
theorem sc_raw_sign_by : FnScope N_raw_sign_by ps_raw_sign_by (defScope (top 33)) := ⟨rfl, rfl, rfl, by decide +kernel, rfl, by decide +kernel, by decide +kernel⟩
def g_raw_sign_by (c : Cs) : Sl → Mm → RS := gSeq (gAsg (dFld c.Grown "start" (dVar 0)) (hName 2)) (gSeq (gFor (sSeq (dVar 1)) (hName 3) (gAsg (dBin oIx (dBin oIx (dFld c.Grown "rule" (dVar 0)) (dBin oSub (dVar 2) (dC (.int 1)))) (dBin oSub (dVar 3) (dC (.int 1)))) (hName 2))) (gRet (dVar 2)))
def den_raw_sign_by (c : Cs) : Den := bodyD N_raw_sign_by 2 (g_raw_sign_by c)
abbrev ps_road_of : List Str := ["grown", "n"]
abbrev N_road_of : List Str := ["grown", "n"]
theorem sc_road_of : FnScope N_road_of ps_road_of (defScope (top 34)) := ⟨rfl, rfl, rfl, by decide +kernel, rfl, by decide +kernel, by decide +kernel⟩
def g_road_of (c : Cs) : Sl → Mm → RS := gSeq (gExpr (dDef (den_check_grown c) (dConsA (dVar 0) (dNilA)))) (gSeq (gExpr (dDef (den_check_number c) (dConsA (dVar 1) (dNilA)))) (gRet (dDef (den_raw_road c) (dConsA (dVar 0) (dConsA (dVar 1) (dNilA))))))
def den_road_of (c : Cs) : Den := bodyD N_road_of 2 (g_road_of c)
abbrev ps_sign_at : List Str := ["grown", "n"]
abbrev N_sign_at : List Str := ["grown", "n"]
theorem sc_sign_at : FnScope N_sign_at ps_sign_at (defScope (top 35)) := ⟨rfl, rfl, rfl, by decide +kernel, rfl, by decide +kernel, by decide +kernel⟩
def g_sign_at (c : Cs) : Sl → Mm → RS := gRet (dDef (den_raw_sign_by c) (dConsA (dVar 0) (dConsA (dDef (den_road_of c) (dConsA (dVar 0) (dConsA (dVar 1) (dNilA)))) (dNilA))))
def den_sign_at (c : Cs) : Den := bodyD N_sign_at 2 (g_sign_at c)
abbrev ps__law_hand : List Str := ["script"]
abbrev N__law_hand : List Str := ["script", "cells", "cell"]
theorem sc__law_hand : FnScope N__law_hand ps__law_hand (defScope (top 37)) := ⟨rfl, rfl, rfl, by decide +kernel, rfl, by decide +kernel, by decide +kernel⟩
def g__law_hand (A : Amb) (c : Cs) : Sl → Mm → RS := gSeq (gAsg (dLc (sSeq (dSlS A (dVar 0) (dPart none) (dPart (some (dC (.int 60)))))) (cName 2) (dYes) (dBin oMod (dCall oInt1 (dConsA (dCall oAbs (dConsA (dCall oInt1 (dConsA (dVar 2) (dNilA))) (dNilA))) (dNilA))) (dBin oPow (dC (.int 10)) (dC (.int 36)))) [2]) (hName 1)) (gRet (dLst (dConsA (dVar 1) (dConsA (dC (.int 0)) (dConsA (dC (.int 0)) (dConsA (dBin oAdd (dC (.int 29)) (dBin oMul (dC (.int 3)) (dCall oLen (dConsA (dVar 1) (dNilA))))) (dConsA (dC (.int 0)) (dNilA))))))))
def den__law_hand (A : Amb) (c : Cs) : Den := bodyD N__law_hand 1 (g__law_hand A c)
abbrev ps__law_draw : List Str := ["hand", "amount"]
abbrev N__law_draw : List Str := ["hand", "amount", "cell", "digit", "number"]
theorem sc__law_draw : FnScope N__law_draw ps__law_draw (defScope (top 38)) := ⟨rfl, rfl, rfl, by decide +kernel, rfl, by decide +kernel, by decide +kernel⟩
def g__law_draw (c : Cs) : Sl → Mm → RS := gSeq (gIf (dAndT (dTest (dBin oEq (dBin oIx (dVar 0) (dC (.int 2))) (dC (.int 0)))) (dTest (dBin oLt (dBin oIx (dVar 0) (dC (.int 1))) (dCall oLen (dConsA (dBin oIx (dVar 0) (dC (.int 0))) (dNilA)))))) (gSeq (gAsg (dBin oIx (dBin oIx (dVar 0) (dC (.int 0))) (dBin oIx (dVar 0) (dC (.int 1)))) (hName 2)) (gSeq (gAsg (dBin oAdd (dBin oIx (dVar 0) (dC (.int 1))) (dC (.int 1))) (hSub (dVar 0) (dC (.int 1)))) (gSeq (gAsg (dBin oMod (dCall oInt1 (dConsA (dBin oAdd (dBin oAdd (dCall oInt1 (dConsA (dBin oMul (dBin oIx (dVar 0) (dC (.int 3))) (dC (.int 48271))) (dNilA))) (dVar 2)) (dC (.int 17))) (dNilA))) (dC (.int 2147483647))) (hSub (dVar 0) (dC (.int 3)))) (gAsg (dIfE (dTest (dBin oGe (dVar 2) (dBin oPow (dC (.int 10)) (dC (.int 18))))) (dVar 2) (dC (.int 0))) (hSub (dVar 0) (dC (.int 2))))))) (gNx)) (gSeq (gIf (dTest (dBin oGt (dBin oIx (dVar 0) (dC (.int 2))) (dC (.int 0)))) (gSeq (gAsg (dBin oMod (dCall oInt1 (dConsA (dBin oIx (dVar 0) (dC (.int 2))) (dNilA))) (dVar 1)) (hName 3)) (gSeq (gAsg (dBin oDiv (dBin oIx (dVar 0) (dC (.int 2))) (dCall oMax2 (dConsA (dC (.int 2)) (dConsA (dVar 1) (dNilA))))) (hSub (dVar 0) (dC (.int 2)))) (gRet (dVar 3)))) (gNx)) (gSeq (gAsg (dBin oAdd (dBin oIx (dVar 0) (dC (.int 4))) (dC (.int 1))) (hSub (dVar 0) (dC (.int 4)))) (gSeq (gAsg (dBin oMod (dCall oInt1 (dConsA (dBin oMul (dCall oInt1 (dConsA (dBin oAdd (dBin oIx (dVar 0) (dC (.int 3))) (dBin oMul (dC (.int 7919)) (dBin oIx (dVar 0) (dC (.int 4))))) (dNilA))) (dC (.int 48271))) (dNilA))) (dC (.int 2147483647))) (hName 4)) (gSeq (gAsg (dBin oMod (dCall oInt1 (dConsA (dBin oMul (dVar 4) (dBin oAdd (dBin oDiv (dVar 4) (dC (.int 1009))) (dC (.int 69621)))) (dNilA))) (dC (.int 2147483647))) (hName 4)) (gRet (dBin oMod (dCall oInt1 (dConsA (dBin oDiv (dVar 4) (dC (.int 16))) (dNilA))) (dVar 1)))))))
def den__law_draw (c : Cs) : Den := bodyD N__law_draw 2 (g__law_draw c)
abbrev ps__law_any : List Str := ["hand", "some"]
abbrev N__law_any : List Str := ["hand", "some"]
theorem sc__law_any : FnScope N__law_any ps__law_any (defScope (top 39)) := ⟨rfl, rfl, rfl, by decide +kernel, rfl, by decide +kernel, by decide +kernel⟩
def g__law_any (c : Cs) : Sl → Mm → RS := gRet (dBin oIx (dVar 1) (dDef (den__law_draw c) (dConsA (dVar 0) (dConsA (dCall oLen (dConsA (dVar 1) (dNilA))) (dNilA)))))
def den__law_any (c : Cs) : Den := bodyD N__law_any 2 (g__law_any c)
abbrev ps__law_rule : List Str := ["hand", "most"]
abbrev N__law_rule : List Str := ["hand", "most", "size", "start", "rule", "sign_here", "text", "turn"]
theorem sc__law_rule : FnScope N__law_rule ps__law_rule (defScope (top 40)) := ⟨rfl, rfl, rfl, by decide +kernel, rfl, by decide +kernel, by decide +kernel⟩
def g__law_rule (c : Cs) : Sl → Mm → RS := gSeq (gAsg (dBin oAdd (dC (.int 1)) (dDef (den__law_draw c) (dConsA (dVar 0) (dConsA (dVar 1) (dNilA))))) (hName 2)) (gSeq (gPar 3 4 (dConsA (dBin oAdd (dC (.int 1)) (dDef (den__law_draw c) (dConsA (dVar 0) (dConsA (dVar 2) (dNilA))))) (dConsA (dLst (dNilA)) (dNilA)))) (gSeq (gFor (sRng2 (dConsA (dC (.int 1)) (dConsA (dBin oAdd (dVar 2) (dC (.int 1))) (dNilA)))) (hName 5) (gSeq (gAsg (dLc (sRng1 (dConsA (dBin oAdd (dC (.int 1)) (dDef (den__law_draw c) (dConsA (dVar 0) (dConsA (dC (.int 3)) (dNilA))))) (dNilA))) (cName 7) (dYes) (dBin oAdd (dC (.int 1)) (dDef (den__law_draw c) (dConsA (dVar 0) (dConsA (dVar 2) (dNilA))))) [7]) (hName 6)) (gSeq (gIf (dTest (dBin oEq (dVar 5) (dVar 3))) (gAsg (dBin oAdd (dLst (dConsA (dVar 3) (dNilA))) (dIfE (dTest (dBin oLt (dCall oLen (dConsA (dVar 6) (dNilA))) (dC (.int 3)))) (dVar 6) (dSl (dVar 6) (dPart none) (dPart (some (dC (.int 2))))))) (hName 6)) (gNx)) (gExpr (dMeth oApp (dVar 4) (dConsA (dCall oTuple (dConsA (dVar 6) (dNilA))) (dNilA))))))) (gRet (dTup (dConsA (dCall oTuple (dConsA (dVar 4) (dNilA))) (dConsA (dVar 3) (dNilA)))))))
def den__law_rule (c : Cs) : Den := bodyD N__law_rule 2 (g__law_rule c)
abbrev ps__law_row : List Str := ["rule", "start", "size"]
abbrev N__law_row : List Str := ["rule", "start", "size", "found", "at"]
theorem sc__law_row : FnScope N__law_row ps__law_row (defScope (top 41)) := ⟨rfl, rfl, rfl, by decide +kernel, rfl, by decide +kernel, by decide +kernel⟩
def g__law_row (c : Cs) : Sl → Mm → RS := gSeq (gAsg (dCall oList (dConsA (dBin oIx (dVar 0) (dBin oSub (dVar 1) (dC (.int 1)))) (dNilA))) (hName 3)) (gSeq (gFor (sRng1 (dConsA (dVar 2) (dNilA))) (hName 4) (gIf (dTest (dBin oLt (dCall oLen (dConsA (dVar 3) (dNilA))) (dVar 2))) (gExpr (dMeth oExt (dVar 3) (dConsA (dBin oIx (dVar 0) (dBin oSub (dBin oIx (dVar 3) (dBin oAdd (dVar 4) (dC (.int 1)))) (dC (.int 1)))) (dNilA)))) (gNx))) (gRet (dCall oTuple (dConsA (dSl (dVar 3) (dPart none) (dPart (some (dVar 2)))) (dNilA)))))
def den__law_row (c : Cs) : Den := bodyD N__law_row 3 (g__law_row c)
def N__law_error : List Str := ["call", "error", "some", "found", "name", "is_it"]
theorem sc__law_error : FnScope N__law_error ["call"] (defScope (top 42)) := ⟨rfl, rfl, rfl, by decide +kernel, rfl, by decide +kernel, by decide +kernel⟩
def e_g (c : Cs) (a cc : Addr) : Sl → Mm → RS := gSeq (gAsg (dLst (dConsA (dTup (dConsA (dC (.str "rule")) (dConsA (dCall (oIsE a (s_kit c cc)) (dConsA (dVar 1) (dConsA (dC (.ext (.ref c.NoRule))) (dNilA)))) (dNilA)))) (dConsA (dTup (dConsA (dC (.str "start")) (dConsA (dCall (oIsE a (s_kit c cc)) (dConsA (dVar 1) (dConsA (dC (.ext (.ref c.NoStart))) (dNilA)))) (dNilA)))) (dConsA (dTup (dConsA (dC (.str "grown")) (dConsA (dCall (oIsE a (s_kit c cc)) (dConsA (dVar 1) (dConsA (dC (.ext (.ref c.NoGrown))) (dNilA)))) (dNilA)))) (dConsA (dTup (dConsA (dC (.str "number")) (dConsA (dCall (oIsE a (s_kit c cc)) (dConsA (dVar 1) (dConsA (dC (.ext (.ref c.NoNumber))) (dNilA)))) (dNilA)))) (dNilA)))))) (hName 2)) (gSeq (gAsg (dLc (sList (dVar 2)) (cTup 2 (cCons (cName 4) (cCons (cName 5) (cNil)))) (dTest (dVar 5)) (dVar 4) [4, 5]) (hName 3)) (gRet (dIfE (dAndT (dTest (dBin oEq0 (dCall oLen (dConsA (dVar 3) (dNilA))) (dC (.int 1)))) (dTest (dCall (oIsE a (s_kit c cc)) (dConsA (dVar 1) (dConsA (dC (.ext (.ty "ValueError"))) (dNilA)))))) (dBin oIx (dVar 3) (dC (.int 0))) (dC (.str "other")))))
def suiteOf (st : Stmt) : List Stmt := match defBody st with
  | [.Try _ [.ExceptHandler _ _ b _] _ _ _, _] => b
  | _ => []
def e_some (c : Cs) (cc : Addr) : List D := [.tup [.str "rule", .bl (decide (cc = c.NoRule))], .tup [.str "start", .bl (decide (cc = c.NoStart))], .tup [.str "grown", .bl (decide (cc = c.NoGrown))], .tup [.str "number", .bl (decide (cc = c.NoNumber))]]
def e_found (c : Cs) (cc : Addr) : List D := if cc = c.NoRule then [.str "rule"] else if cc = c.NoStart then [.str "start"] else if cc = c.NoGrown then [.str "grown"] else if cc = c.NoNumber then [.str "number"] else []
def e_name (c : Cs) (cc : Addr) : Str := if cc = c.NoRule then "rule" else if cc = c.NoStart then "start" else if cc = c.NoGrown then "grown" else if cc = c.NoNumber then "number" else "other"
def e_res (c : Cs) (cc : Addr) (M : Mm) : Res D := .ok (.str (e_name c cc)) (M ++ [.lst (e_some c cc)] ++ [.lst (e_found c cc)])
theorem kit1 {c : Cs} (h : Dis c) (cc : Addr) : s_kit c cc (.ref c.NoRule) = some (decide (cc = c.NoRule)) ∧ s_kit c cc (.ref c.NoStart) = some (decide (cc = c.NoStart)) ∧ s_kit c cc (.ref c.NoGrown) = some (decide (cc = c.NoGrown)) ∧ s_kit c cc (.ref c.NoNumber) = some (decide (cc = c.NoNumber)) ∧ s_kit c cc (.ty "ValueError") = some true := by
  have hd := h.nd
  simp only [List.nodup_cons, List.mem_cons, List.not_mem_nil, or_false, not_or] at hd
  obtain ⟨⟨h1, h2, h3, h4⟩, ⟨h5, h6, h7⟩, ⟨h8, h9⟩, h10, _⟩ := hd
  simp [s_kit, Ne.symm h1, Ne.symm h2, Ne.symm h3, Ne.symm h5, Ne.symm h6, Ne.symm h8]
theorem e_eval {c : Cs} (h : Dis c) (a f cc : Addr) (M : Mm) (hc : cc ∈ e_cs c) : endR (e_g c a cc ((startD N__law_error [.ext (.ref f)]).set 1 (some (.ext (.ref a)))) M) = e_res c cc M := by
  refine endR_of ?_
  obtain ⟨k1, k2, k3, k4, k5⟩ := kit1 h cc
  have sz : ∀ n, n ≤ 4 → n ≤ sizeLine := fun n h => small (by omega)
  have z2 := sz 2 (by omega)
  have z4 := sz 4 (by omega)
  have z0 := sz 0 (by omega)
  have z1 := sz 1 (by omega)
  have hd := h.nd
  simp only [List.nodup_cons, List.mem_cons, List.not_mem_nil, or_false, not_or] at hd
  obtain ⟨⟨h1, h2, h3, h4⟩, ⟨h5, h6, h7⟩, ⟨h8, h9⟩, h10, _⟩ := hd
  simp only [e_cs, List.mem_cons, List.not_mem_nil, or_false] at hc
  unfold e_g
  simp [startD, N__law_error, wp_dVar, wp_isE k1, wp_isE k2, wp_isE k3, wp_isE k4, wp_isE k5, z2, z4, wp_sList]
  rcases hc with rfl | rfl | rfl | rfl | rfl <;>
    simp [lcL, cTup, cCons, cName, cNil, wipeD, wp_dVar, wp_ite, sameL_of, gnew, oLen, oEq0, oIx, e_name, e_found, e_some, z0, z1, h1, h2, h3, h4, h5, h6, h7, h8, h9, h10, Ne.symm h1, Ne.symm h2, Ne.symm h3, Ne.symm h5, Ne.symm h6, Ne.symm h8, Ne.symm h4, Ne.symm h7, Ne.symm h9, Ne.symm h10]
abbrev ps__law_fields_right : List Str := ["hand", "rule", "start"]
abbrev N__law_fields_right : List Str := ["hand", "rule", "start", "words_met", "grown", "thing"]
theorem sc__law_fields_right : FnScope N__law_fields_right ps__law_fields_right (defScope (top 43)) := ⟨rfl, rfl, rfl, by decide +kernel, rfl, by decide +kernel, by decide +kernel⟩
def g__law_fields_right (c : Cs) : Sl → Mm → RS := gSeq (gAsg (dMake c.Grown (den_Grown_init c) (dConsA (dVar 1) (dConsA (dVar 2) (dNilA)))) (hName 4)) (gSeq (gIf (dOrT (dTest (dBin oNe (dFld c.Grown "rule" (dVar 4)) (dVar 1))) (dOrT (dTest (dBin oNe (dFld c.Grown "start" (dVar 4)) (dVar 2))) (dTest (dBin (oIsN true) (dDef (den_is_grown c) (dConsA (dVar 4) (dNilA))) (dC (.bl true)))))) (gRet (dC (.bl false))) (gNx)) (gSeq (gIf (dOrT (dNotT (dTest (dBin (oEqI c.Grown (den_Grown_eq c) oEq) (dVar 4) (dMake c.Grown (den_Grown_init c) (dConsA (dVar 1) (dConsA (dVar 2) (dNilA))))))) (dOrT (dTest (dBin (oEqI c.Grown (den_Grown_eq c) oEq) (dVar 4) (dMake c.Grown (den_Grown_init c) (dConsA (dBin oAdd (dVar 1) (dTup (dConsA (dTup (dConsA (dC (.int 1)) (dNilA))) (dNilA)))) (dConsA (dVar 2) (dNilA)))))) (dTest (dBin (oEqI c.Grown (den_Grown_eq c) oEq) (dVar 4) (dTup (dConsA (dVar 1) (dConsA (dVar 2) (dNilA)))))))) (gRet (dC (.bl false))) (gNx)) (gSeq (gAsg (dDef (den__law_any c) (dConsA (dVar 0) (dConsA (dLst (dConsA (dC .non) (dConsA (dVar 1) (dConsA (dTup (dConsA (dVar 1) (dConsA (dVar 2) (dNilA)))) (dConsA (dVar 2) (dConsA (dC (.str "grown")) (dConsA (dLst (dConsA (dVar 4) (dNilA))) (dConsA (dEmp) (dNilA))))))))) (dNilA)))) (hName 5)) (gSeq (gIf (dTest (dBin (oIsN true) (dDef (den_is_grown c) (dConsA (dVar 5) (dNilA))) (dC (.bl false)))) (gRet (dC (.bl false))) (gNx)) (gSeq (gAsg (dLst (dConsA (dLam (e_cs c) "let" (e_res c) (dDef (den_first_signs c) (dConsA (dVar 5) (dConsA (dUn oNeg (dC (.int 1))) (dNilA))))) (dNilA))) (hName 3)) (gSeq (gExpr (dMeth oApp (dVar 3) (dConsA (dLam (e_cs c) "let" (e_res c) (dDef (den_sign_at c) (dConsA (dVar 5) (dConsA (dUn oNeg (dC (.int 1))) (dNilA))))) (dNilA)))) (gSeq (gExpr (dMeth oApp (dVar 3) (dConsA (dLam (e_cs c) "let" (e_res c) (dDef (den_first_signs c) (dConsA (dVar 4) (dConsA (dDef (den__law_any c) (dConsA (dVar 0) (dConsA (dLst (dConsA (dUn oNeg (dC (.int 1))) (dConsA (dC (.int 20001)) (dConsA (dC .non) (dConsA (dC (.bl true)) (dConsA (dC (.str "1")) (dNilA))))))) (dNilA)))) (dNilA))))) (dNilA)))) (gSeq (gExpr (dMeth oApp (dVar 3) (dConsA (dLam (e_cs c) "let" (e_res c) (dDef (den_sign_at c) (dConsA (dVar 4) (dConsA (dDef (den__law_any c) (dConsA (dVar 0) (dConsA (dLst (dConsA (dUn oNeg (dC (.int 1))) (dConsA (dC .non) (dConsA (dC (.bl true)) (dConsA (dC (.str "1")) (dConsA (dTup (dConsA (dC (.int 0)) (dNilA))) (dNilA))))))) (dNilA)))) (dNilA))))) (dNilA)))) (gRet (dBin (oEqI c.Grown (den_Grown_eq c) oEq) (dVar 3) (dLst (dConsA (dC (.str "grown")) (dConsA (dC (.str "grown")) (dConsA (dC (.str "number")) (dConsA (dC (.str "number")) (dNilA))))))))))))))))
def den__law_fields_right (c : Cs) : Den := bodyD N__law_fields_right 3 (g__law_fields_right c)
abbrev ps__law_starts_right : List Str := ["hand", "rule"]
abbrev N__law_starts_right : List Str := ["hand", "rule", "due", "bad", "sign_here"]
theorem sc__law_starts_right : FnScope N__law_starts_right ps__law_starts_right (defScope (top 44)) := ⟨rfl, rfl, rfl, by decide +kernel, rfl, by decide +kernel, by decide +kernel⟩
def g__law_starts_right (c : Cs) : Sl → Mm → RS := gSeq (gFor (sRng2 (dConsA (dC (.int 1)) (dConsA (dBin oAdd (dCall oLen (dConsA (dVar 1) (dNilA))) (dC (.int 1))) (dNilA)))) (hName 4) (gSeq (gAsg (dIfE (dAndT (dTest (dBin oEq (dBin oIx (dBin oIx (dVar 1) (dBin oSub (dVar 4) (dC (.int 1)))) (dC (.int 0))) (dVar 4))) (dTest (dBin oGt (dCall oLen (dConsA (dBin oIx (dVar 1) (dBin oSub (dVar 4) (dC (.int 1)))) (dNilA))) (dC (.int 1))))) (dC (.str "let")) (dC (.str "start"))) (hName 2)) (gIf (dTest (dBin oNe (dLam (e_cs c) "let" (e_res c) (dMake c.Grown (den_Grown_init c) (dConsA (dVar 1) (dConsA (dVar 4) (dNilA))))) (dVar 2))) (gRet (dC (.bl false))) (gNx)))) (gSeq (gAsg (dDef (den__law_any c) (dConsA (dVar 0) (dConsA (dLst (dConsA (dC (.int 0)) (dConsA (dBin oAdd (dCall oLen (dConsA (dVar 1) (dNilA))) (dC (.int 1))) (dConsA (dC .non) (dConsA (dC (.bl true)) (dConsA (dC (.str "1")) (dConsA (dTup (dConsA (dC (.int 1)) (dNilA))) (dNilA)))))))) (dNilA)))) (hName 3)) (gSeq (gIf (dTest (dBin oNe (dLam (e_cs c) "let" (e_res c) (dMake c.Grown (den_Grown_init c) (dConsA (dVar 1) (dConsA (dVar 3) (dNilA))))) (dC (.str "start")))) (gRet (dC (.bl false))) (gNx)) (gRet (dBin oEq (dLam (e_cs c) "let" (e_res c) (dMake c.Grown (den_Grown_init c) (dConsA (dDef (den__law_any c) (dConsA (dVar 0) (dConsA (dLst (dConsA (dC .non) (dConsA (dTup (dNilA)) (dConsA (dTup (dConsA (dTup (dConsA (dC (.int 0)) (dNilA))) (dNilA))) (dConsA (dLst (dConsA (dTup (dConsA (dC (.int 1)) (dConsA (dC (.int 1)) (dNilA)))) (dNilA))) (dConsA (dTup (dConsA (dTup (dConsA (dC (.int 1)) (dConsA (dC (.int 2)) (dNilA)))) (dNilA))) (dNilA))))))) (dNilA)))) (dConsA (dVar 3) (dNilA))))) (dC (.str "rule"))))))
def den__law_starts_right (c : Cs) : Den := bodyD N__law_starts_right 2 (g__law_starts_right c)
abbrev ps__law_signs_right : List Str := ["hand", "rule", "start"]
abbrev N__law_signs_right : List Str := ["hand", "rule", "start", "grown", "size", "due", "turn", "turns_due", "row", "places", "at"]
theorem sc__law_signs_right : FnScope N__law_signs_right ps__law_signs_right (defScope (top 45)) := ⟨rfl, rfl, rfl, by decide +kernel, rfl, by decide +kernel, by decide +kernel⟩
def g__law_signs_right (c : Cs) : Sl → Mm → RS := gSeq (gAsg (dTup (dConsA (dMake c.Grown (den_Grown_init c) (dConsA (dVar 1) (dConsA (dVar 2) (dNilA)))) (dConsA (dDef (den__law_draw c) (dConsA (dVar 0) (dConsA (dC (.int 400)) (dNilA)))) (dNilA)))) (hTup 2 (hCons (hName 3) (hCons (hName 4) (hNil))))) (gSeq (gAsg (dDef (den__law_row c) (dConsA (dVar 1) (dConsA (dVar 2) (dConsA (dVar 4) (dNilA))))) (hName 5)) (gSeq (gIf (dTest (dBin oNe (dDef (den_first_signs c) (dConsA (dVar 3) (dConsA (dVar 4) (dNilA)))) (dVar 5))) (gRet (dC (.bl false))) (gNx)) (gSeq (gFor (sRng1 (dConsA (dC (.int 3)) (dNilA))) (hName 6) (gSeq (gAsg (dDef (den__law_draw c) (dConsA (dVar 0) (dConsA (dC (.int 6)) (dNilA)))) (hName 7)) (gSeq (gAsg (dDef (den_grow_often c) (dConsA (dVar 1) (dConsA (dTup (dConsA (dVar 2) (dNilA))) (dConsA (dVar 7) (dNilA))))) (hName 8)) (gIf (dTest (dBin oNe (dDef (den_first_signs c) (dConsA (dVar 3) (dConsA (dCall oLen (dConsA (dVar 8) (dNilA))) (dNilA)))) (dVar 8))) (gRet (dC (.bl false))) (gNx))))) (gSeq (gAsg (dLc (sRng1 (dConsA (dC (.int 5)) (dNilA))) (cName 6) (dYes) (dDef (den__law_draw c) (dConsA (dVar 0) (dConsA (dC (.int 400)) (dNilA)))) [6]) (hName 9)) (gSeq (gAsg (dDef (den__law_row c) (dConsA (dVar 1) (dConsA (dVar 2) (dConsA (dC (.int 400)) (dNilA))))) (hName 8)) (gSeq (gIf (dTest (dBin oNe (dLc (sSeq (dVar 9)) (cName 10) (dYes) (dDef (den_sign_at c) (dConsA (dVar 3) (dConsA (dVar 10) (dNilA)))) [10]) (dLc (sSeq (dVar 9)) (cName 10) (dYes) (dBin oIx (dVar 8) (dVar 10)) [10]))) (gRet (dC (.bl false))) (gNx)) (gRet (dBin oEq (dDef (den_first_signs c) (dConsA (dVar 3) (dConsA (dC (.int 0)) (dNilA)))) (dTup (dNilA))))))))))
def den__law_signs_right (c : Cs) : Den := bodyD N__law_signs_right 3 (g__law_signs_right c)
abbrev ps_law : List Str := ["script"]
abbrev N_law : List Str := ["script", "hand", "turn", "rule", "start"]
theorem sc_law : FnScope N_law ps_law (defScope (top 46)) := ⟨rfl, rfl, rfl, by decide +kernel, rfl, by decide +kernel, by decide +kernel⟩
def g_law (A : Amb) (c : Cs) : Sl → Mm → RS := gSeq (gAsg (dDef (den__law_hand A c) (dConsA (dVar 0) (dNilA))) (hName 1)) (gSeq (gIf (dTest (dBin oNe (dDef (den_first_signs c) (dConsA (dMake c.Grown (den_Grown_init c) (dConsA (dTup (dConsA (dTup (dConsA (dC (.int 1)) (dConsA (dC (.int 2)) (dNilA)))) (dConsA (dTup (dConsA (dC (.int 1)) (dNilA))) (dNilA)))) (dConsA (dC (.int 1)) (dNilA)))) (dConsA (dC (.int 5)) (dNilA)))) (dTup (dConsA (dC (.int 1)) (dConsA (dC (.int 2)) (dConsA (dC (.int 1)) (dConsA (dC (.int 1)) (dConsA (dC (.int 2)) (dNilA))))))))) (gRet (dC (.bl false))) (gNx)) (gSeq (gFor (sRng1 (dConsA (dC (.int 4)) (dNilA))) (hName 2) (gSeq (gAsg (dDef (den__law_rule c) (dConsA (dVar 1) (dConsA (dC (.int 5)) (dNilA)))) (hTup 2 (hCons (hName 3) (hCons (hName 4) (hNil))))) (gSeq (gIf (dOrT (dNotT (dTest (dDef (den__law_fields_right c) (dConsA (dVar 1) (dConsA (dVar 3) (dConsA (dVar 4) (dNilA))))))) (dNotT (dTest (dDef (den__law_starts_right c) (dConsA (dVar 1) (dConsA (dVar 3) (dNilA))))))) (gRet (dC (.bl false))) (gNx)) (gIf (dNotT (dTest (dDef (den__law_signs_right c) (dConsA (dVar 1) (dConsA (dVar 3) (dConsA (dVar 4) (dNilA))))))) (gRet (dC (.bl false))) (gNx))))) (gRet (dC (.bl true)))))
def den_law (A : Amb) (c : Cs) : Den := bodyD N_law 1 (g_law A c)
theorem kit_of_all {K : PySem.W.Frag} {cc : Addr} (h0 : PySem.W.kitOne K (.ref cc) (.type "ValueError") = some true) (h1 : PySem.W.kitOne K (.ref cc) (.ref (He.ga K "NoRule")) = some (decide (cc = He.ga K "NoRule"))) (h2 : PySem.W.kitOne K (.ref cc) (.ref (He.ga K "NoStart")) = some (decide (cc = He.ga K "NoStart")))
    (h3 : PySem.W.kitOne K (.ref cc) (.ref (He.ga K "NoGrown")) = some (decide (cc = He.ga K "NoGrown"))) (h4 : PySem.W.kitOne K (.ref cc) (.ref (He.ga K "NoNumber")) = some (decide (cc = He.ga K "NoNumber"))) {u : V} {b : Bool} (hb : s_kit (csK K) cc u = some b) : ∃ cv, ClsV u cv ∧ PySem.W.kitOne K (.ref cc) cv = some b := by
  unfold s_kit csK at hb
  split at hb
  · rename_i e; subst e; cases hb; exact ⟨_, .ty _, h0⟩
  · split at hb
    · rename_i e; subst e; cases hb; exact ⟨_, .own _, h1⟩
    · split at hb
      · rename_i e; subst e; cases hb; exact ⟨_, .own _, h2⟩
      · split at hb
        · rename_i e; subst e; cases hb; exact ⟨_, .own _, h3⟩
        · split at hb
          · rename_i e; subst e; cases hb; exact ⟨_, .own _, h4⟩
          · cases hb
section
variable {P : Program} {w : World} {K : PySem.W.Frag} {mg : Str → Option Value} {base : Heap} {A : Amb}
theorem e_suite {X : Cx} (T : Txt X.K X.mg) (g : Addr) (cdg : Value) (s : Shared) (H : Hp) (cc : Addr) (hcc : cc ∈ e_cs (csK X.K)) (a : Addr) (oe : Obj) (pn : List (Addr × Obj)) (hz : L2N.Zn (.ref cc) none oe) (hf : ∃ vs, oe.data = .fields vs) :
    DSs ((cxOf C8.CX0 X.prog X.w X.K X.mg X.base N__law_error "_law_error" (defScope (top 42)) g cdg X.A X.stack s H C8.E0).nox.suite a ((a, oe) :: pn)) A (suiteOf (top 42)) (e_g (csK X.K) a cc) := by
  have hf2 := hf
  obtain ⟨vs, hv⟩ := hf2
  exact dss_cons (ds_asg (de_lst (da_cons (de_tup (da_cons (de_str) (da_cons (de_callB (call_isE (T.e_exc cc hcc) (show Zc (.ref _) none _ from hz.zc) hf) (cd_isE (T.e_kit cc hcc)) rfl T.f_isinstance boot_isinstance (da_cons (dv 1) (da_cons (de_globR rfl T.m_NoRule) (da_nil)))) (da_nil)))) (da_cons (de_tup (da_cons (de_str) (da_cons (de_callB (call_isE (T.e_exc cc hcc) (show Zc (.ref _) none _ from hz.zc) hf) (cd_isE (T.e_kit cc hcc)) rfl T.f_isinstance boot_isinstance (da_cons (dv 1) (da_cons (de_globR rfl T.m_NoStart) (da_nil)))) (da_nil)))) (da_cons (de_tup (da_cons (de_str) (da_cons (de_callB (call_isE (T.e_exc cc hcc) (show Zc (.ref _) none _ from hz.zc) hf) (cd_isE (T.e_kit cc hcc)) rfl T.f_isinstance boot_isinstance (da_cons (dv 1) (da_cons (de_globR rfl T.m_NoGrown) (da_nil)))) (da_nil)))) (da_cons (de_tup (da_cons (de_str) (da_cons (de_callB (call_isE (T.e_exc cc hcc) (show Zc (.ref _) none _ from hz.zc) hf) (cd_isE (T.e_kit cc hcc)) rfl T.f_isinstance boot_isinstance (da_cons (dv 1) (da_cons (de_globR rfl T.m_NoNumber) (da_nil)))) (da_nil)))) (da_nil)))))) (dgn 2 sc__law_error.nd)) (dss_cons (ds_setLcN (own := [("name", 4), ("is_it", 5)]) (i := 3) ⟨_, ⟨rfl, _, hv, (hz.2.2 _ hv)⟩, List.mem_cons_self⟩ sc__law_error.nd rfl rfl (sw_true rfl rfl rfl rfl) (din_list (dv 2)) (blkOk_by (by kernel_rfl)) (fun _ _ _ _ _ hb => pg_tupN hb (pgs_cons (pgn 4 sc__law_error.nd) (pgs_cons (pgn 5 sc__law_error.nd) (pgs_nil)))) (tgc_tup (tgcs_cons (tgc_name (by decide)) (tgcs_cons (tgc_name (by decide)) (tgcs_nil)))) (fun _ _ _ _ _ => dts_one (dt_val (dv 5))) (fun _ _ _ _ _ => dv 4)) (dss_one (ds_ret (de_if (dt_of (dw_and (dt_cmp op_eq od_eq0 (de_callB call_len cd_len rfl T.f_len boot_len (da_cons (dv 3) (da_nil))) (de_int) (nomark _)) (dw_and1 (dt_val (de_callB (call_isE (T.e_exc cc hcc) (show Zc (.ref _) none _ from hz.zc) hf) (cd_isE (T.e_kit cc hcc)) rfl T.f_isinstance boot_isinstance (da_cons (dv 1) (da_cons (de_bty rfl T.f_ValueError boot_VE) (da_nil)))))))) (de_ix (dv 3) (de_int) (fun _ _ => rfl)) (de_str)))))
theorem e_lam {X : Cx} {A : Amb} {k : Nat} {c P : Addr} {params : Arguments} {body : Expr} {scope : Scope} {p lpos pos : Pos} {fb : Sl → Mm → Res D} (T : Txt X.K X.mg) (hA : AmbOk A (tabsK X.K)) (TB : TabB X.base X.mg c P) (hmT : (P, X.env.qual ++ "<lambda>") ∈ tabsK X.K) (hcode : X.env.code = .ref c) (hg : Gl X "_law_error") (hr : Room (k + 2) X.A)
    (hbody : ∀ (A0 : Around) (outer : List Env) (s : Shared) (H : Hp) (E : XK) (f c' : Addr), Room k (A0.deeper (lamEnv X scope s.heap.objs.size f c')) → DE (lamN X A0 outer s H E scope f c') A body fb)
    (L : LamS X.env.scope scope := by exact lamS_by (by kernel_rfl)) (hdef : defaultsOf params X.env = ([], []) := by rfl)
    (hbind : ∀ (q : Str) (cl : List (Str × Addr)) (pm cv ctv : Value), bindArgs (PySem.W.kla_fn "<lambda>" q params body scope cl pm cv ctv) ⟨[], []⟩ = pure [] := by intro _ _ _ _ _; rfl) :
    DE X A (.Call (.Name "_law_error" p) [.Lambda params body scope lpos] [] pos) (dLam (e_cs (csK X.K)) "let" (e_res (csK X.K)) fb) :=
  de_lamF T.d__law_error T.m__law_error (fun _ _ _ _ _ _ us hl => match us, hl with | [_], _ => rfl) sc__law_error rfl (.inl rfl) hA (fun _ _ _ _ z => by unfold e_res at z; cases z) hg
    (fun cdv => err_gives (n := "error") (e := "NumeralError") (gS := e_g (csK X.K)) rfl T.m_NumeralError (by decide) sc__law_error.nd rfl (by decide) rfl T.e_exm (fun s H cc hcc a oe pn hz hf => e_suite T _ cdv s H cc hcc a oe pn hz hf) fun a f cc M hcc => e_eval T.e_dis a f cc M hcc)
    T.t_uq TB hcode hmT hr L hdef hbind hbody
theorem ok_is_integer (T : Txt K mg) (hA : AmbOk A (tabsK K)) : FOk P w K mg base A 1 "is_integer" ps_is_integer (den_is_integer (csK K)) :=
  fok_of T.d_is_integer T.m_is_integer (fun _ _ _ _ _ _ us hl => match us, hl with | [_], _ => rfl) sc_is_integer (fun cdv A0 outer s H E hr => dss_one (ds_ret (de_and (de_callB call_isi (cd_isiTy "int") rfl T.f_isinstance boot_isinstance (da_cons (dv 0) (da_cons (de_bty rfl T.f_int PyProof.Rows.boot_int) (da_nil)))) (de_one (de_not (de_callB call_isi (cd_isiTy "bool") rfl T.f_isinstance boot_isinstance (da_cons (dv 0) (da_cons (de_bty rfl T.f_bool PyProof.Rows.boot_bool) (da_nil)))))))))
theorem ok_is_within (T : Txt K mg) (hA : AmbOk A (tabsK K)) (F_is_integer : FOk P w K mg base A 1 "is_integer" ps_is_integer (den_is_integer (csK K))) : FOk P w K mg base A 2 "is_within" ps_is_within (den_is_within (csK K)) :=
  fok_of T.d_is_within T.m_is_within (fun _ _ _ _ _ _ us hl => match us, hl with | [_, _, _], _ => rfl) sc_is_within (fun cdv A0 outer s H E hr => dss_one (ds_ret (de_and (dcl F_is_integer (hr.mono (by decide)) (da_cons (dv 0) (da_nil))) (de_one (de_chain op_le od_le op_le od_le (dv 1) (dv 0) (dv 2))))))
theorem ok_are_signs (T : Txt K mg) (hA : AmbOk A (tabsK K)) (F_is_within : FOk P w K mg base A 2 "is_within" ps_is_within (den_is_within (csK K))) : FOk P w K mg base A 3 "are_signs" ps_are_signs (den_are_signs (csK K)) :=
  fok_of T.d_are_signs T.m_are_signs (fun _ _ _ _ _ _ us hl => match us, hl with | [_, _, _], _ => rfl) sc_are_signs (fun cdv A0 outer s H E hr => dss_cons (ds_if (dt_of (dw_or (dt_not (dt_val (de_callB call_isi (cd_isiTy "tuple") rfl T.f_isinstance boot_isinstance (da_cons (dv 2) (da_cons (de_bty rfl T.f_tuple PyProof.Rows.boot_tuple) (da_nil)))))) (dw_or1 (dt_cmp op_gt od_gt (de_callB call_len cd_len rfl T.f_len boot_len (da_cons (dv 2) (da_nil))) (dv 1) (nomark _))))) (dss_one (ds_ret (de_bl))) (dss_nil)) (dss_one (ds_ret (de_callB (cr_all rfl) cd_all rfl T.f_all boot_all (da_cons (de_lc (own := [("sign", 3)]) rfl sc_are_signs.nd (di_seq (dv 2)) (blkOk_by (by kernel_rfl)) (fun _ _ _ _ _ => pgn 3 sc_are_signs.nd) (tgc_name (by decide)) (fun _ _ _ _ _ => dts_nil) (fun _ _ _ _ _ => dcl F_is_within (hr.mono (by decide)) (da_cons (dv 3) (da_cons (de_int) (da_cons (dv 0) (da_nil)))))) (da_nil))))))
theorem ok_is_rule (T : Txt K mg) (hA : AmbOk A (tabsK K)) (F_are_signs : FOk P w K mg base A 3 "are_signs" ps_are_signs (den_are_signs (csK K))) : FOk P w K mg base A 4 "is_rule" ps_is_rule (den_is_rule (csK K)) :=
  fok_of T.d_is_rule T.m_is_rule (fun _ _ _ _ _ _ us hl => match us, hl with | [_], _ => rfl) sc_is_rule (fun cdv A0 outer s H E hr => dss_cons (ds_if (dt_of (dw_or (dt_not (dt_val (de_callB call_isi (cd_isiTy "tuple") rfl T.f_isinstance boot_isinstance (da_cons (dv 0) (da_cons (de_bty rfl T.f_tuple PyProof.Rows.boot_tuple) (da_nil)))))) (dw_or1 (dt_not (dt_chain op_le od_le op_le od_le (de_int) (de_callB call_len cd_len rfl T.f_len boot_len (da_cons (dv 0) (da_nil))) (de_globI rfl T.i_MOST_SIGNS)))))) (dss_one (ds_ret (de_bl))) (dss_nil)) (dss_one (ds_ret (de_callB (cr_all rfl) cd_all rfl T.f_all boot_all (da_cons (de_lc (own := [("word", 1)]) rfl sc_is_rule.nd (di_seq (dv 0)) (blkOk_by (by kernel_rfl)) (fun _ _ _ _ _ => pgn 1 sc_is_rule.nd) (tgc_name (by decide)) (fun _ _ _ _ _ => dts_nil) (fun _ _ _ _ _ => de_and (dcl F_are_signs (hr.mono (by decide)) (da_cons (de_callB call_len cd_len rfl T.f_len boot_len (da_cons (dv 0) (da_nil))) (da_cons (de_globI rfl T.i_MOST_PUT) (da_cons (dv 1) (da_nil))))) (de_one (de_cmp op_gt od_gt (de_callB call_len cd_len rfl T.f_len boot_len (da_cons (dv 1) (da_nil))) (de_int) (nomark _))))) (da_nil))))))
theorem ok_check_rule (T : Txt K mg) (hA : AmbOk A (tabsK K)) (F_is_rule : FOk P w K mg base A 4 "is_rule" ps_is_rule (den_is_rule (csK K))) : FOk P w K mg base A 5 "check_rule" ps_check_rule (den_check_rule (csK K)) :=
  fok_of T.d_check_rule T.m_check_rule (fun _ _ _ _ _ _ us hl => match us, hl with | [_], _ => rfl) sc_check_rule (fun cdv A0 outer s H E hr => dss_one (ds_if (dt_not (dt_val (dcl F_is_rule (hr.mono (by decide)) (da_cons (dv 0) (da_nil))))) (dss_one (ds_raise rfl (hA.no _) T.x_NoRule rfl)) (dss_nil)))
theorem ok_check_signs (T : Txt K mg) (hA : AmbOk A (tabsK K)) (F_check_rule : FOk P w K mg base A 5 "check_rule" ps_check_rule (den_check_rule (csK K))) (F_are_signs : FOk P w K mg base A 3 "are_signs" ps_are_signs (den_are_signs (csK K))) : FOk P w K mg base A 6 "check_signs" ps_check_signs (den_check_signs (csK K)) :=
  fok_of T.d_check_signs T.m_check_signs (fun _ _ _ _ _ _ us hl => match us, hl with | [_, _], _ => rfl) sc_check_signs (fun cdv A0 outer s H E hr => dss_cons (ds_expr (dcl F_check_rule (hr.mono (by decide)) (da_cons (dv 0) (da_nil)))) (dss_one (ds_if (dt_not (dt_val (dcl F_are_signs (hr.mono (by decide)) (da_cons (de_callB call_len cd_len rfl T.f_len boot_len (da_cons (dv 0) (da_nil))) (da_cons (de_globI rfl T.i_MOST_ROW) (da_cons (dv 1) (da_nil))))))) (dss_one (ds_raise rfl (hA.no _) T.x_NoSigns rfl)) (dss_nil))))
theorem ok_check_times (T : Txt K mg) (hA : AmbOk A (tabsK K)) (F_is_within : FOk P w K mg base A 2 "is_within" ps_is_within (den_is_within (csK K))) : FOk P w K mg base A 3 "check_times" ps_check_times (den_check_times (csK K)) :=
  fok_of T.d_check_times T.m_check_times (fun _ _ _ _ _ _ us hl => match us, hl with | [_], _ => rfl) sc_check_times (fun cdv A0 outer s H E hr => dss_one (ds_if (dt_not (dt_val (dcl F_is_within (hr.mono (by decide)) (da_cons (dv 0) (da_cons (de_int) (da_cons (de_globI rfl T.i_MOST_TIMES) (da_nil))))))) (dss_one (ds_raise rfl (hA.no _) T.x_NoNumber rfl)) (dss_nil)))
theorem ok_raw_grow (T : Txt K mg) (hA : AmbOk A (tabsK K)) : FOk P w K mg base A 1 "raw_grow" ps_raw_grow (den_raw_grow (csK K)) :=
  fok_of T.d_raw_grow T.m_raw_grow (fun _ _ _ _ _ _ us hl => match us, hl with | [_, _], _ => rfl) sc_raw_grow (fun cdv A0 outer s H E hr => dss_cons (ds_asg (de_lst (da_nil)) (dgn 2 sc_raw_grow.nd)) (dss_cons (ds_for (L2.passes_of rfl) rfl (di_seq (dv 1)) (dgn 3 sc_raw_grow.nd) (dss_one (ds_expr (de_ext (dv 2) (da_cons (de_ix (dv 0) (de_bin op_sub od_sub (dv 3) (de_int)) (fun _ _ => rfl)) (da_nil)))))) (dss_one (ds_ret (de_callTy cr_tupOf cd_tuple rfl T.f_tuple boot_tuple (da_cons (dv 2) (da_nil)))))))
theorem ok_grow_often (T : Txt K mg) (hA : AmbOk A (tabsK K)) (F_check_signs : FOk P w K mg base A 6 "check_signs" ps_check_signs (den_check_signs (csK K))) (F_check_times : FOk P w K mg base A 3 "check_times" ps_check_times (den_check_times (csK K))) (F_raw_grow : FOk P w K mg base A 1 "raw_grow" ps_raw_grow (den_raw_grow (csK K))) : FOk P w K mg base A 7 "grow_often" ps_grow_often (den_grow_often (csK K)) :=
  fok_of T.d_grow_often T.m_grow_often (fun _ _ _ _ _ _ us hl => match us, hl with | [_, _, _], _ => rfl) sc_grow_often (fun cdv A0 outer s H E hr => dss_cons (ds_expr (dcl F_check_signs (hr.mono (by decide)) (da_cons (dv 0) (da_cons (dv 1) (da_nil))))) (dss_cons (ds_expr (dcl F_check_times (hr.mono (by decide)) (da_cons (dv 2) (da_nil)))) (dss_cons (ds_asg (dv 1) (dgn 3 sc_grow_often.nd)) (dss_cons (ds_for (L2.passes_of rfl) rfl (di_rng1 rfl T.f_range (da_cons (dv 2) (da_nil))) (dgn 4 sc_grow_often.nd) (dss_cons (ds_if (dt_cmp op_gt od_gt (de_callB (cr_sum rfl) cd_sum rfl T.f_sum boot_sum (da_cons (de_lc (own := [("sign", 5)]) rfl sc_grow_often.nd (di_seq (dv 3)) (blkOk_by (by kernel_rfl)) (fun _ _ _ _ _ => pgn 5 sc_grow_often.nd) (tgc_name (by decide)) (fun _ _ _ _ _ => dts_nil) (fun _ _ _ _ _ => de_callB call_len cd_len rfl T.f_len boot_len (da_cons (de_ix (dv 0) (de_bin op_sub od_sub (dv 5) (de_int)) (fun _ _ => rfl)) (da_nil)))) (da_nil))) (de_globI rfl T.i_MOST_GROWN) (nomark _)) (dss_one (ds_never)) (dss_nil)) (dss_one (ds_asg (dcl F_raw_grow (hr.mono (by decide)) (da_cons (dv 0) (da_cons (dv 3) (da_nil)))) (dgn 3 sc_grow_often.nd))))) (dss_one (ds_ret (dv 3)))))))
theorem ok_Grown_init (T : Txt K mg) (hA : AmbOk A (tabsK K)) (F_check_rule : FOk P w K mg base A 5 "check_rule" ps_check_rule (den_check_rule (csK K))) (F_is_within : FOk P w K mg base A 2 "is_within" ps_is_within (den_is_within (csK K))) : MOk P w K mg base A 6 "Grown" (csK K).Grown ps_Grown_init (den_Grown_init (csK K)) :=
  mok_of T.d_Grown_init rfl rfl T.mk_Grown T.m_Grown (fun _ _ _ _ _ _ us hl => match us, hl with | [_, _, _], _ => rfl) sc_Grown_init (fun cdv A0 outer s H E hr => dss_cons (ds_expr (dcl F_check_rule (hr.mono (by decide)) (da_cons (dv 1) (da_nil)))) (dss_cons (ds_if (dt_of (dw_or (dt_not (dt_val (dcl F_is_within (hr.mono (by decide)) (da_cons (dv 2) (da_cons (de_int) (da_cons (de_callB call_len cd_len rfl T.f_len boot_len (da_cons (dv 1) (da_nil))) (da_nil))))))) (dw_or (dt_cmp op_lt od_lt (de_callB call_len cd_len rfl T.f_len boot_len (da_cons (de_ix (dv 1) (de_bin op_sub od_sub (dv 2) (de_int)) (fun _ _ => rfl)) (da_nil))) (de_int) (nomark _)) (dw_or1 (dt_cmp (op_neD hr.units) od_ne (de_ix (de_ix (dv 1) (de_bin op_sub od_sub (dv 2) (de_int)) (fun _ _ => rfl)) (de_int) (fun _ _ => rfl)) (dv 2) (nomark _)))))) (dss_one (ds_raise rfl (hA.no _) T.x_NoStart rfl)) (dss_nil)) (dss_cons (ds_fld T.cl_Grown T.na_Grown_rule (dv 0) (dv 1)) (dss_one (ds_fld T.cl_Grown T.na_Grown_start (dv 0) (dv 2))))))
theorem ok_Grown_eq (T : Txt K mg) (hA : AmbOk A (tabsK K)) : EOk P w K mg base A 1 (csK K).Grown ps_Grown_eq (den_Grown_eq (csK K)) :=
  eok_of T.d_Grown_eq rfl T.me_Grown T.nf_Grown (fun _ _ _ _ _ _ us hl => match us, hl with | [_, _], _ => rfl) sc_Grown_eq (fun cdv A0 outer s H E hr => dss_one (ds_ret (de_and (de_callB call_isi (cd_isiOwn T.in_Grown T.ba_Grown) rfl T.f_isinstance boot_isinstance (da_cons (dv 1) (da_cons (de_globR rfl T.m_Grown) (da_nil)))) (de_and (de_cmp (op_eqD hr.units) od_eq (de_fld T.cl_Grown T.na_Grown_rule (dv 0)) (de_fld T.cl_Grown T.na_Grown_rule (dv 1)) (nomark _)) (de_one (de_cmp (op_eqD hr.units) od_eq (de_fld T.cl_Grown T.na_Grown_start (dv 0)) (de_fld T.cl_Grown T.na_Grown_start (dv 1)) (nomark _)))))))
theorem ok_is_grown (T : Txt K mg) (hA : AmbOk A (tabsK K)) : FOk P w K mg base A 1 "is_grown" ps_is_grown (den_is_grown (csK K)) :=
  fok_of T.d_is_grown T.m_is_grown (fun _ _ _ _ _ _ us hl => match us, hl with | [_], _ => rfl) sc_is_grown (fun cdv A0 outer s H E hr => dss_one (ds_ret (de_callB call_isi (cd_isiOwn T.in_Grown T.ba_Grown) rfl T.f_isinstance boot_isinstance (da_cons (dv 0) (da_cons (de_globR rfl T.m_Grown) (da_nil))))))
theorem ok_check_grown (T : Txt K mg) (hA : AmbOk A (tabsK K)) (F_is_grown : FOk P w K mg base A 1 "is_grown" ps_is_grown (den_is_grown (csK K))) : FOk P w K mg base A 2 "check_grown" ps_check_grown (den_check_grown (csK K)) :=
  fok_of T.d_check_grown T.m_check_grown (fun _ _ _ _ _ _ us hl => match us, hl with | [_], _ => rfl) sc_check_grown (fun cdv A0 outer s H E hr => dss_one (ds_if (dt_not (dt_val (dcl F_is_grown (hr.mono (by decide)) (da_cons (dv 0) (da_nil))))) (dss_one (ds_raise rfl (hA.no _) T.x_NoGrown rfl)) (dss_nil)))
theorem ok_check_number (T : Txt K mg) (hA : AmbOk A (tabsK K)) (F_is_integer : FOk P w K mg base A 1 "is_integer" ps_is_integer (den_is_integer (csK K))) : FOk P w K mg base A 2 "check_number" ps_check_number (den_check_number (csK K)) :=
  fok_of T.d_check_number T.m_check_number (fun _ _ _ _ _ _ us hl => match us, hl with | [_], _ => rfl) sc_check_number (fun cdv A0 outer s H E hr => dss_one (ds_if (dt_of (dw_or (dt_not (dt_val (dcl F_is_integer (hr.mono (by decide)) (da_cons (dv 0) (da_nil))))) (dw_or1 (dt_cmp op_lt od_lt (dv 0) (de_int) (nomark _))))) (dss_one (ds_raise rfl (hA.no _) T.x_NoNumber rfl)) (dss_nil)))
theorem ok_raw_first_signs (T : Txt K mg) (hA : AmbOk A (tabsK K)) : FOk P w K mg base A 1 "raw_first_signs" ps_raw_first_signs (den_raw_first_signs (csK K)) :=
  fok_of T.d_raw_first_signs T.m_raw_first_signs (fun _ _ _ _ _ _ us hl => match us, hl with | [_, _], _ => rfl) sc_raw_first_signs (fun cdv A0 outer s H E hr => dss_cons (ds_par (i := 2) (j := 3) rfl sc_raw_first_signs.nd rfl rfl (by decide) rfl rfl (da_cons (de_callTy cr_listOf cd_list rfl T.f_list boot_list (da_cons (de_ix (de_fld T.cl_Grown T.na_Grown_rule (dv 0)) (de_bin op_sub od_sub (de_fld T.cl_Grown T.na_Grown_start (dv 0)) (de_int)) (fun _ _ => rfl)) (da_nil))) (da_cons (de_int) (da_nil))) rfl) (dss_cons (ds_while (L2.passes_of rfl) (dt_cmp op_lt od_lt (de_callB call_len cd_len rfl T.f_len boot_len (da_cons (dv 2) (da_nil))) (dv 1) (nomark _)) (dss_cons (ds_expr (de_ext (dv 2) (da_cons (de_ix (de_fld T.cl_Grown T.na_Grown_rule (dv 0)) (de_bin op_sub od_sub (de_ix (dv 2) (dv 3) (fun _ _ => rfl)) (de_int)) (fun _ _ => rfl)) (da_nil)))) (dss_one (ds_asg (de_bin op_add4 od_add (dv 3) (de_int)) (dgn 3 sc_raw_first_signs.nd))))) (dss_one (ds_ret (de_callTy cr_tupOf cd_tuple rfl T.f_tuple boot_tuple (da_cons (de_slice (dv 2) (do_none) (do_some (dv 1))) (da_nil)))))))
theorem ok_first_signs (T : Txt K mg) (hA : AmbOk A (tabsK K)) (F_check_grown : FOk P w K mg base A 2 "check_grown" ps_check_grown (den_check_grown (csK K))) (F_is_within : FOk P w K mg base A 2 "is_within" ps_is_within (den_is_within (csK K))) (F_raw_first_signs : FOk P w K mg base A 1 "raw_first_signs" ps_raw_first_signs (den_raw_first_signs (csK K))) : FOk P w K mg base A 3 "first_signs" ps_first_signs (den_first_signs (csK K)) :=
  fok_of T.d_first_signs T.m_first_signs (fun _ _ _ _ _ _ us hl => match us, hl with | [_, _], _ => rfl) sc_first_signs (fun cdv A0 outer s H E hr => dss_cons (ds_expr (dcl F_check_grown (hr.mono (by decide)) (da_cons (dv 0) (da_nil)))) (dss_cons (ds_if (dt_not (dt_val (dcl F_is_within (hr.mono (by decide)) (da_cons (dv 1) (da_cons (de_int) (da_cons (de_globI rfl T.i_MOST_GROWN) (da_nil))))))) (dss_one (ds_raise rfl (hA.no _) T.x_NoNumber rfl)) (dss_nil)) (dss_one (ds_ret (dcl F_raw_first_signs (hr.mono (by decide)) (da_cons (dv 0) (da_cons (dv 1) (da_nil))))))))
theorem ok_worths_grown (T : Txt K mg) (hA : AmbOk A (tabsK K)) : FOk P w K mg base A 1 "worths_grown" ps_worths_grown (den_worths_grown (csK K)) :=
  fok_of T.d_worths_grown T.m_worths_grown (fun _ _ _ _ _ _ us hl => match us, hl with | [_, _], _ => rfl) sc_worths_grown (fun cdv A0 outer s H E hr => dss_one (ds_ret (de_lc (own := [("word", 2)]) rfl sc_worths_grown.nd (di_seq (dv 0)) (blkOk_by (by kernel_rfl)) (fun _ _ _ _ _ => pgn 2 sc_worths_grown.nd) (tgc_name (by decide)) (fun _ _ _ _ _ => dts_nil) (fun _ _ _ _ _ => de_callB (cr_sum rfl) cd_sum rfl T.f_sum boot_sum (da_cons (de_lc (own := [("sign", 3)]) rfl sc_worths_grown.nd (di_seq (dv 2)) (blkOk_by (by kernel_rfl)) (fun _ _ _ _ _ => pgn 3 sc_worths_grown.nd) (tgc_name (by decide)) (fun _ _ _ _ _ => dts_nil) (fun _ _ _ _ _ => de_ix (dv 1) (de_bin op_sub od_sub (dv 3) (de_int)) (fun _ _ => rfl))) (da_nil))))))
theorem ok_raw_road (T : Txt K mg) (hA : AmbOk A (tabsK K)) (F_worths_grown : FOk P w K mg base A 1 "worths_grown" ps_worths_grown (den_worths_grown (csK K))) : FOk P w K mg base A 2 "raw_road" ps_raw_road (den_raw_road (csK K)) :=
  fok_of T.d_raw_road T.m_raw_road (fun _ _ _ _ _ _ us hl => match us, hl with | [_, _], _ => rfl) sc_raw_road (fun cdv A0 outer s H E hr => dss_cons (ds_asg (de_lst (da_cons (de_bin op_mul2 od_mul (de_lst (da_cons (de_int) (da_nil))) (de_callB call_len cd_len rfl T.f_len boot_len (da_cons (de_fld T.cl_Grown T.na_Grown_rule (dv 0)) (da_nil)))) (da_nil))) (dgn 2 sc_raw_road.nd)) (dss_cons (ds_while (L2.passes_of rfl) (dt_cmp op_le od_le (de_ix (de_ix (dv 2) (de_neg (de_int)) (fun _ _ => rfl)) (de_bin op_sub od_sub (de_fld T.cl_Grown T.na_Grown_start (dv 0)) (de_int)) (fun _ _ => rfl)) (dv 1) (nomark _)) (dss_cons (ds_if (dt_cmp op_gt od_gt (de_callB call_len cd_len rfl T.f_len boot_len (da_cons (dv 2) (da_nil))) (de_globI rfl T.i_MOST_ROAD) (nomark _)) (dss_one (ds_never)) (dss_nil)) (dss_one (ds_expr (de_app (dv 2) (da_cons (dcl F_worths_grown (hr.mono (by decide)) (da_cons (de_fld T.cl_Grown T.na_Grown_rule (dv 0)) (da_cons (de_ix (dv 2) (de_neg (de_int)) (fun _ _ => rfl)) (da_nil)))) (da_nil))))))) (dss_cons (ds_par3 (i := 3) (j := 4) (l := 5) rfl sc_raw_road.nd rfl rfl rfl (by decide) (by decide) (by decide) rfl rfl rfl (da_cons (de_lst (da_nil)) (da_cons (de_fld T.cl_Grown T.na_Grown_start (dv 0)) (da_cons (dv 1) (da_nil)))) rfl) (dss_cons (ds_for (L2.passes_of rfl) rfl (di_rngD rfl T.f_range (da_cons (de_bin op_sub od_sub (de_callB call_len cd_len rfl T.f_len boot_len (da_cons (dv 2) (da_nil))) (de_int)) (da_cons (de_neg (de_int)) (da_cons (de_neg (de_int)) (da_nil))))) (dgn 6 sc_raw_road.nd) (dss_one (ds_for (L2.passes_of rfl) rfl (di_enum rfl T.f_enumerate (da_cons (de_ix (de_fld T.cl_Grown T.na_Grown_rule (dv 0)) (de_bin op_sub od_sub (dv 4) (de_int)) (fun _ _ => rfl)) (da_nil))) (dg_tup rfl (dgs_cons (dgn 7 sc_raw_road.nd) (dgs_cons (dgn 8 sc_raw_road.nd) (dgs_nil)))) (dss_cons (ds_if (dt_cmp op_lt od_lt (dv 5) (de_ix (de_ix (dv 2) (dv 6) (fun _ _ => rfl)) (de_bin op_sub od_sub (dv 8) (de_int)) (fun _ _ => rfl)) (nomark _)) (dss_cons (ds_expr (de_app (dv 3) (da_cons (de_bin op_add4 od_add (dv 7) (de_int)) (da_nil)))) (dss_cons (ds_asg (dv 8) (dgn 4 sc_raw_road.nd)) (dss_one (ds_break)))) (dss_nil)) (dss_one (ds_asg (de_bin op_sub od_sub (dv 5) (de_ix (de_ix (dv 2) (dv 6) (fun _ _ => rfl)) (de_bin op_sub od_sub (dv 8) (de_int)) (fun _ _ => rfl))) (dgn 5 sc_raw_road.nd))))))) (dss_one (ds_ret (de_callTy cr_tupOf cd_tuple rfl T.f_tuple boot_tuple (da_cons (dv 3) (da_nil)))))))))
theorem ok_raw_sign_by (T : Txt K mg) (hA : AmbOk A (tabsK K)) : FOk P w K mg base A 1 "raw_sign_by" ps_raw_sign_by (den_raw_sign_by (csK K)) :=
  fok_of T.d_raw_sign_by T.m_raw_sign_by (fun _ _ _ _ _ _ us hl => match us, hl with | [_, _], _ => rfl) sc_raw_sign_by (fun cdv A0 outer s H E hr => dss_cons (ds_asg (de_fld T.cl_Grown T.na_Grown_start (dv 0)) (dgn 2 sc_raw_sign_by.nd)) (dss_cons (ds_for (L2.passes_of rfl) rfl (di_seq (dv 1)) (dgn 3 sc_raw_sign_by.nd) (dss_one (ds_asg (de_ix (de_ix (de_fld T.cl_Grown T.na_Grown_rule (dv 0)) (de_bin op_sub od_sub (dv 2) (de_int)) (fun _ _ => rfl)) (de_bin op_sub od_sub (dv 3) (de_int)) (fun _ _ => rfl)) (dgn 2 sc_raw_sign_by.nd)))) (dss_one (ds_ret (dv 2)))))
theorem ok_road_of (T : Txt K mg) (hA : AmbOk A (tabsK K)) (F_check_grown : FOk P w K mg base A 2 "check_grown" ps_check_grown (den_check_grown (csK K))) (F_check_number : FOk P w K mg base A 2 "check_number" ps_check_number (den_check_number (csK K))) (F_raw_road : FOk P w K mg base A 2 "raw_road" ps_raw_road (den_raw_road (csK K))) : FOk P w K mg base A 3 "road_of" ps_road_of (den_road_of (csK K)) :=
  fok_of T.d_road_of T.m_road_of (fun _ _ _ _ _ _ us hl => match us, hl with | [_, _], _ => rfl) sc_road_of (fun cdv A0 outer s H E hr => dss_cons (ds_expr (dcl F_check_grown (hr.mono (by decide)) (da_cons (dv 0) (da_nil)))) (dss_cons (ds_expr (dcl F_check_number (hr.mono (by decide)) (da_cons (dv 1) (da_nil)))) (dss_one (ds_ret (dcl F_raw_road (hr.mono (by decide)) (da_cons (dv 0) (da_cons (dv 1) (da_nil))))))))
theorem ok_sign_at (T : Txt K mg) (hA : AmbOk A (tabsK K)) (F_road_of : FOk P w K mg base A 3 "road_of" ps_road_of (den_road_of (csK K))) (F_raw_sign_by : FOk P w K mg base A 1 "raw_sign_by" ps_raw_sign_by (den_raw_sign_by (csK K))) : FOk P w K mg base A 4 "sign_at" ps_sign_at (den_sign_at (csK K)) :=
  fok_of T.d_sign_at T.m_sign_at (fun _ _ _ _ _ _ us hl => match us, hl with | [_, _], _ => rfl) sc_sign_at (fun cdv A0 outer s H E hr => dss_one (ds_ret (dcl F_raw_sign_by (hr.mono (by decide)) (da_cons (dv 0) (da_cons (dcl F_road_of (hr.mono (by decide)) (da_cons (dv 0) (da_cons (dv 1) (da_nil)))) (da_nil))))))
theorem ok__law_hand (T : Txt K mg) (hA : AmbOk A (tabsK K)) : FOk P w K mg base A 1 "_law_hand" ps__law_hand (den__law_hand A (csK K)) :=
  fok_of T.d__law_hand T.m__law_hand (fun _ _ _ _ _ _ us hl => match us, hl with | [_], _ => rfl) sc__law_hand (fun cdv A0 outer s H E hr => dss_cons (ds_setLc (own := [("cell", 2)]) (i := 1) rfl sc__law_hand.nd rfl rfl (sw_true rfl rfl rfl rfl) (di_seq (de_sliceS (dv 0) (do_none) (do_some (de_int)))) (blkOk_by (by kernel_rfl)) (fun _ _ _ _ _ => pgn 2 sc__law_hand.nd) (tgc_name (by decide)) (fun _ _ _ _ _ => dts_nil) (fun _ _ _ _ _ => de_bin op_mod od_mod (de_callTy call_int1 cd_int1 rfl T.f_int boot_int (da_cons (de_callB call_abs cd_abs rfl T.f_abs boot_abs (da_cons (de_callTy call_int1 cd_int1 rfl T.f_int boot_int (da_cons (dv 2) (da_nil))) (da_nil))) (da_nil))) (de_bin op_pow od_pow (de_int) (de_int)))) (dss_one (ds_ret (de_lst (da_cons (dv 1) (da_cons (de_int) (da_cons (de_int) (da_cons (de_bin op_add4 od_add (de_int) (de_bin op_mul2 od_mul (de_int) (de_callB call_len cd_len rfl T.f_len boot_len (da_cons (dv 1) (da_nil))))) (da_cons (de_int) (da_nil))))))))))
theorem ok__law_draw (T : Txt K mg) (hA : AmbOk A (tabsK K)) : FOk P w K mg base A 1 "_law_draw" ps__law_draw (den__law_draw (csK K)) :=
  fok_of T.d__law_draw T.m__law_draw (fun _ _ _ _ _ _ us hl => match us, hl with | [_, _], _ => rfl) sc__law_draw (fun cdv A0 outer s H E hr => dss_cons (ds_if (dt_of (dw_and (dt_cmp (op_eqD hr.units) od_eq (de_ix (dv 0) (de_int) (fun _ _ => rfl)) (de_int) (nomark _)) (dw_and1 (dt_cmp op_lt od_lt (de_ix (dv 0) (de_int) (fun _ _ => rfl)) (de_callB call_len cd_len rfl T.f_len boot_len (da_cons (de_ix (dv 0) (de_int) (fun _ _ => rfl)) (da_nil))) (nomark _))))) (dss_cons (ds_asg (de_ix (de_ix (dv 0) (de_int) (fun _ _ => rfl)) (de_ix (dv 0) (de_int) (fun _ _ => rfl)) (fun _ _ => rfl)) (dgn 2 sc__law_draw.nd)) (dss_cons (ds_asg (de_bin op_add4 od_add (de_ix (dv 0) (de_int) (fun _ _ => rfl)) (de_int)) (dg_sub (dv 0) (de_int))) (dss_cons (ds_asg (de_bin op_mod od_mod (de_callTy call_int1 cd_int1 rfl T.f_int boot_int (da_cons (de_bin op_add4 od_add (de_bin op_add4 od_add (de_callTy call_int1 cd_int1 rfl T.f_int boot_int (da_cons (de_bin op_mul2 od_mul (de_ix (dv 0) (de_int) (fun _ _ => rfl)) (de_int)) (da_nil))) (dv 2)) (de_int)) (da_nil))) (de_int)) (dg_sub (dv 0) (de_int))) (dss_one (ds_asg (de_if (dt_cmp op_ge od_ge (dv 2) (de_bin op_pow od_pow (de_int) (de_int)) (nomark _)) (dv 2) (de_int)) (dg_sub (dv 0) (de_int))))))) (dss_nil)) (dss_cons (ds_if (dt_cmp op_gt od_gt (de_ix (dv 0) (de_int) (fun _ _ => rfl)) (de_int) (nomark _)) (dss_cons (ds_asg (de_bin op_mod od_mod (de_callTy call_int1 cd_int1 rfl T.f_int boot_int (da_cons (de_ix (dv 0) (de_int) (fun _ _ => rfl)) (da_nil))) (dv 1)) (dgn 3 sc__law_draw.nd)) (dss_cons (ds_asg (de_bin op_fdiv od_div (de_ix (dv 0) (de_int) (fun _ _ => rfl)) (de_callB (call_max2 rfl) cd_max2 rfl T.f_max boot_max (da_cons (de_int) (da_cons (dv 1) (da_nil))))) (dg_sub (dv 0) (de_int))) (dss_one (ds_ret (dv 3))))) (dss_nil)) (dss_cons (ds_asg (de_bin op_add4 od_add (de_ix (dv 0) (de_int) (fun _ _ => rfl)) (de_int)) (dg_sub (dv 0) (de_int))) (dss_cons (ds_asg (de_bin op_mod od_mod (de_callTy call_int1 cd_int1 rfl T.f_int boot_int (da_cons (de_bin op_mul2 od_mul (de_callTy call_int1 cd_int1 rfl T.f_int boot_int (da_cons (de_bin op_add4 od_add (de_ix (dv 0) (de_int) (fun _ _ => rfl)) (de_bin op_mul2 od_mul (de_int) (de_ix (dv 0) (de_int) (fun _ _ => rfl)))) (da_nil))) (de_int)) (da_nil))) (de_int)) (dgn 4 sc__law_draw.nd)) (dss_cons (ds_asg (de_bin op_mod od_mod (de_callTy call_int1 cd_int1 rfl T.f_int boot_int (da_cons (de_bin op_mul2 od_mul (dv 4) (de_bin op_add4 od_add (de_bin op_fdiv od_div (dv 4) (de_int)) (de_int))) (da_nil))) (de_int)) (dgn 4 sc__law_draw.nd)) (dss_one (ds_ret (de_bin op_mod od_mod (de_callTy call_int1 cd_int1 rfl T.f_int boot_int (da_cons (de_bin op_fdiv od_div (dv 4) (de_int)) (da_nil))) (dv 1)))))))))
theorem ok__law_any (T : Txt K mg) (hA : AmbOk A (tabsK K)) (F__law_draw : FOk P w K mg base A 1 "_law_draw" ps__law_draw (den__law_draw (csK K))) : FOk P w K mg base A 2 "_law_any" ps__law_any (den__law_any (csK K)) :=
  fok_of T.d__law_any T.m__law_any (fun _ _ _ _ _ _ us hl => match us, hl with | [_, _], _ => rfl) sc__law_any (fun cdv A0 outer s H E hr => dss_one (ds_ret (de_ix (dv 1) (dcl F__law_draw (hr.mono (by decide)) (da_cons (dv 0) (da_cons (de_callB call_len cd_len rfl T.f_len boot_len (da_cons (dv 1) (da_nil))) (da_nil)))) (fun _ _ => rfl))))
theorem ok__law_rule (T : Txt K mg) (hA : AmbOk A (tabsK K)) (F__law_draw : FOk P w K mg base A 1 "_law_draw" ps__law_draw (den__law_draw (csK K))) : FOk P w K mg base A 2 "_law_rule" ps__law_rule (den__law_rule (csK K)) :=
  fok_of T.d__law_rule T.m__law_rule (fun _ _ _ _ _ _ us hl => match us, hl with | [_, _], _ => rfl) sc__law_rule (fun cdv A0 outer s H E hr => dss_cons (ds_asg (de_bin op_add4 od_add (de_int) (dcl F__law_draw (hr.mono (by decide)) (da_cons (dv 0) (da_cons (dv 1) (da_nil))))) (dgn 2 sc__law_rule.nd)) (dss_cons (ds_par (i := 3) (j := 4) rfl sc__law_rule.nd rfl rfl (by decide) rfl rfl (da_cons (de_bin op_add4 od_add (de_int) (dcl F__law_draw (hr.mono (by decide)) (da_cons (dv 0) (da_cons (dv 2) (da_nil))))) (da_cons (de_lst (da_nil)) (da_nil))) rfl) (dss_cons (ds_for (L2.passes_of rfl) rfl (di_rng2 rfl T.f_range (da_cons (de_int) (da_cons (de_bin op_add4 od_add (dv 2) (de_int)) (da_nil)))) (dgn 5 sc__law_rule.nd) (dss_cons (ds_setLc (own := [("turn", 7)]) (i := 6) rfl sc__law_rule.nd rfl rfl (sw_true rfl rfl rfl rfl) (di_rng1 rfl T.f_range (da_cons (de_bin op_add4 od_add (de_int) (dcl F__law_draw (hr.mono (by decide)) (da_cons (dv 0) (da_cons (de_int) (da_nil))))) (da_nil))) (blkOk_by (by kernel_rfl)) (fun _ _ _ _ _ => pgn 7 sc__law_rule.nd) (tgc_name (by decide)) (fun _ _ _ _ _ => dts_nil) (fun _ _ _ _ _ => de_bin op_add4 od_add (de_int) (dcl F__law_draw (hr.mono (by decide)) (da_cons (dv 0) (da_cons (dv 2) (da_nil)))))) (dss_cons (ds_if (dt_cmp (op_eqD hr.units) od_eq (dv 5) (dv 3) (nomark _)) (dss_one (ds_asg (de_bin op_add4 od_add (de_lst (da_cons (dv 3) (da_nil))) (de_if (dt_cmp op_lt od_lt (de_callB call_len cd_len rfl T.f_len boot_len (da_cons (dv 6) (da_nil))) (de_int) (nomark _)) (dv 6) (de_slice (dv 6) (do_none) (do_some (de_int))))) (dgn 6 sc__law_rule.nd))) (dss_nil)) (dss_one (ds_expr (de_app (dv 4) (da_cons (de_callTy cr_tupOf cd_tuple rfl T.f_tuple boot_tuple (da_cons (dv 6) (da_nil))) (da_nil)))))))) (dss_one (ds_ret (de_tup (da_cons (de_callTy cr_tupOf cd_tuple rfl T.f_tuple boot_tuple (da_cons (dv 4) (da_nil))) (da_cons (dv 3) (da_nil)))))))))
theorem ok__law_row (T : Txt K mg) (hA : AmbOk A (tabsK K)) : FOk P w K mg base A 1 "_law_row" ps__law_row (den__law_row (csK K)) :=
  fok_of T.d__law_row T.m__law_row (fun _ _ _ _ _ _ us hl => match us, hl with | [_, _, _], _ => rfl) sc__law_row (fun cdv A0 outer s H E hr => dss_cons (ds_asg (de_callTy cr_listOf cd_list rfl T.f_list boot_list (da_cons (de_ix (dv 0) (de_bin op_sub od_sub (dv 1) (de_int)) (fun _ _ => rfl)) (da_nil))) (dgn 3 sc__law_row.nd)) (dss_cons (ds_for (L2.passes_of rfl) rfl (di_rng1 rfl T.f_range (da_cons (dv 2) (da_nil))) (dgn 4 sc__law_row.nd) (dss_one (ds_if (dt_cmp op_lt od_lt (de_callB call_len cd_len rfl T.f_len boot_len (da_cons (dv 3) (da_nil))) (dv 2) (nomark _)) (dss_one (ds_expr (de_ext (dv 3) (da_cons (de_ix (dv 0) (de_bin op_sub od_sub (de_ix (dv 3) (de_bin op_add4 od_add (dv 4) (de_int)) (fun _ _ => rfl)) (de_int)) (fun _ _ => rfl)) (da_nil))))) (dss_nil)))) (dss_one (ds_ret (de_callTy cr_tupOf cd_tuple rfl T.f_tuple boot_tuple (da_cons (de_slice (dv 3) (do_none) (do_some (dv 2))) (da_nil)))))))
theorem ok__law_fields_right (T : Txt K mg) (hA : AmbOk A (tabsK K)) (M_Grown : MOk P w K mg base A 6 "Grown" (csK K).Grown ps_Grown_init (den_Grown_init (csK K))) (F_is_grown : FOk P w K mg base A 1 "is_grown" ps_is_grown (den_is_grown (csK K))) (E_Grown : EOk P w K mg base A 1 (csK K).Grown ps_Grown_eq (den_Grown_eq (csK K))) (F__law_any : FOk P w K mg base A 2 "_law_any" ps__law_any (den__law_any (csK K))) (F_first_signs : FOk P w K mg base A 3 "first_signs" ps_first_signs (den_first_signs (csK K))) (F_sign_at : FOk P w K mg base A 4 "sign_at" ps_sign_at (den_sign_at (csK K))) (TB : TabB base mg (He.cT K ("_law_fields_right", none)).1 (He.cT K ("_law_fields_right", none)).2) : FOk P w K mg base A 8 "_law_fields_right" ps__law_fields_right (den__law_fields_right (csK K)) :=
  fok_ofC T.d__law_fields_right T.m__law_fields_right (fun _ _ _ _ _ _ us hl => match us, hl with | [_, _, _], _ => rfl) sc__law_fields_right (fun A0 outer s H E hr => dss_cons (ds_asg (dmk M_Grown (hr.mono (by decide)) (da_cons (dv 1) (da_cons (dv 2) (da_nil)))) (dgn 4 sc__law_fields_right.nd)) (dss_cons (ds_if (dt_of (dw_or (dt_cmp (op_neD hr.units) od_ne (de_fld T.cl_Grown T.na_Grown_rule (dv 4)) (dv 1) (nomark _)) (dw_or (dt_cmp (op_neD hr.units) od_ne (de_fld T.cl_Grown T.na_Grown_start (dv 4)) (dv 2) (nomark _)) (dw_or1 (dt_cmp op_isnot2 (od_isN (neg := true)) (dcl F_is_grown (hr.mono (by decide)) (da_cons (dv 4) (da_nil))) (de_bl) (nomark _)))))) (dss_one (ds_ret (de_bl))) (dss_nil)) (dss_cons (ds_if (dt_of (dw_or (dt_not (dt_cmp (od_eqF E_Grown (hr.mono (by decide)) hr.units) (od_eqI od_eq) (dv 4) (dmk M_Grown (hr.mono (by decide)) (da_cons (dv 1) (da_cons (dv 2) (da_nil)))) (nomark _))) (dw_or (dt_cmp (od_eqF E_Grown (hr.mono (by decide)) hr.units) (od_eqI od_eq) (dv 4) (dmk M_Grown (hr.mono (by decide)) (da_cons (de_bin op_add4 od_add (dv 1) (de_tup (da_cons (de_tup (da_cons (de_int) (da_nil))) (da_nil)))) (da_cons (dv 2) (da_nil)))) (nomark _)) (dw_or1 (dt_cmp (od_eqF E_Grown (hr.mono (by decide)) hr.units) (od_eqI od_eq) (dv 4) (de_tup (da_cons (dv 1) (da_cons (dv 2) (da_nil)))) (nomark _)))))) (dss_one (ds_ret (de_bl))) (dss_nil)) (dss_cons (ds_asg (dcl F__law_any (hr.mono (by decide)) (da_cons (dv 0) (da_cons (de_lst (da_cons (de_non) (da_cons (dv 1) (da_cons (de_tup (da_cons (dv 1) (da_cons (dv 2) (da_nil)))) (da_cons (dv 2) (da_cons (de_str) (da_cons (de_lst (da_cons (dv 4) (da_nil))) (da_cons (de_emp) (da_nil))))))))) (da_nil)))) (dgn 5 sc__law_fields_right.nd)) (dss_cons (ds_if (dt_cmp op_isnot2 (od_isN (neg := true)) (dcl F_is_grown (hr.mono (by decide)) (da_cons (dv 5) (da_nil))) (de_bl) (nomark _)) (dss_one (ds_ret (de_bl))) (dss_nil)) (dss_cons (ds_asg (de_lst (da_cons (e_lam (k := 3) T hA TB (by first | exact .head _ | exact .tail _ (.head _) | exact .tail _ (.tail _ (.head _)) | exact .tail _ (.tail _ (.tail _ (.head _)))) rfl rfl (hr.mono (by decide)) (fun A0 outer s H E f c0 hr2 => dcl F_first_signs (hr2.mono (by decide)) (da_cons (dv 5) (da_cons (de_neg (de_int)) (da_nil))))) (da_nil))) (dgn 3 sc__law_fields_right.nd)) (dss_cons (ds_expr (de_app (dv 3) (da_cons (e_lam (k := 4) T hA TB (by first | exact .head _ | exact .tail _ (.head _) | exact .tail _ (.tail _ (.head _)) | exact .tail _ (.tail _ (.tail _ (.head _)))) rfl rfl (hr.mono (by decide)) (fun A0 outer s H E f c0 hr2 => dcl F_sign_at (hr2.mono (by decide)) (da_cons (dv 5) (da_cons (de_neg (de_int)) (da_nil))))) (da_nil)))) (dss_cons (ds_expr (de_app (dv 3) (da_cons (e_lam (k := 3) T hA TB (by first | exact .head _ | exact .tail _ (.head _) | exact .tail _ (.tail _ (.head _)) | exact .tail _ (.tail _ (.tail _ (.head _)))) rfl rfl (hr.mono (by decide)) (fun A0 outer s H E f c0 hr2 => dcl F_first_signs (hr2.mono (by decide)) (da_cons (dv 4) (da_cons (dcl F__law_any (hr2.mono (by decide)) (da_cons (dv 0) (da_cons (de_lst (da_cons (de_neg (de_int)) (da_cons (de_int) (da_cons (de_non) (da_cons (de_bl) (da_cons (de_str) (da_nil))))))) (da_nil)))) (da_nil))))) (da_nil)))) (dss_cons (ds_expr (de_app (dv 3) (da_cons (e_lam (k := 4) T hA TB (by first | exact .head _ | exact .tail _ (.head _) | exact .tail _ (.tail _ (.head _)) | exact .tail _ (.tail _ (.tail _ (.head _)))) rfl rfl (hr.mono (by decide)) (fun A0 outer s H E f c0 hr2 => dcl F_sign_at (hr2.mono (by decide)) (da_cons (dv 4) (da_cons (dcl F__law_any (hr2.mono (by decide)) (da_cons (dv 0) (da_cons (de_lst (da_cons (de_neg (de_int)) (da_cons (de_non) (da_cons (de_bl) (da_cons (de_str) (da_cons (de_tup (da_cons (de_int) (da_nil))) (da_nil))))))) (da_nil)))) (da_nil))))) (da_nil)))) (dss_one (ds_ret (de_cmp (od_eqF E_Grown (hr.mono (by decide)) hr.units) (od_eqI od_eq) (dv 3) (de_lst (da_cons (de_str) (da_cons (de_str) (da_cons (de_str) (da_cons (de_str) (da_nil)))))) (nomark _)))))))))))))
theorem ok__law_starts_right (T : Txt K mg) (hA : AmbOk A (tabsK K)) (M_Grown : MOk P w K mg base A 6 "Grown" (csK K).Grown ps_Grown_init (den_Grown_init (csK K))) (F__law_any : FOk P w K mg base A 2 "_law_any" ps__law_any (den__law_any (csK K))) (TB : TabB base mg (He.cT K ("_law_starts_right", none)).1 (He.cT K ("_law_starts_right", none)).2) : FOk P w K mg base A 10 "_law_starts_right" ps__law_starts_right (den__law_starts_right (csK K)) :=
  fok_ofC T.d__law_starts_right T.m__law_starts_right (fun _ _ _ _ _ _ us hl => match us, hl with | [_, _], _ => rfl) sc__law_starts_right (fun A0 outer s H E hr => dss_cons (ds_for (L2.passes_of rfl) rfl (di_rng2 rfl T.f_range (da_cons (de_int) (da_cons (de_bin op_add4 od_add (de_callB call_len cd_len rfl T.f_len boot_len (da_cons (dv 1) (da_nil))) (de_int)) (da_nil)))) (dgn 4 sc__law_starts_right.nd) (dss_cons (ds_asg (de_if (dt_of (dw_and (dt_cmp (op_eqD hr.units) od_eq (de_ix (de_ix (dv 1) (de_bin op_sub od_sub (dv 4) (de_int)) (fun _ _ => rfl)) (de_int) (fun _ _ => rfl)) (dv 4) (nomark _)) (dw_and1 (dt_cmp op_gt od_gt (de_callB call_len cd_len rfl T.f_len boot_len (da_cons (de_ix (dv 1) (de_bin op_sub od_sub (dv 4) (de_int)) (fun _ _ => rfl)) (da_nil))) (de_int) (nomark _))))) (de_str) (de_str)) (dgn 2 sc__law_starts_right.nd)) (dss_one (ds_if (dt_cmp (op_neD hr.units) od_ne (e_lam (k := 7) T hA TB (by first | exact .head _ | exact .tail _ (.head _) | exact .tail _ (.tail _ (.head _)) | exact .tail _ (.tail _ (.tail _ (.head _)))) rfl rfl (hr.mono (by decide)) (fun A0 outer s H E f c0 hr2 => dmk M_Grown (hr2.mono (by decide)) (da_cons (dv 1) (da_cons (dv 4) (da_nil))))) (dv 2) (nomark _)) (dss_one (ds_ret (de_bl))) (dss_nil))))) (dss_cons (ds_asg (dcl F__law_any (hr.mono (by decide)) (da_cons (dv 0) (da_cons (de_lst (da_cons (de_int) (da_cons (de_bin op_add4 od_add (de_callB call_len cd_len rfl T.f_len boot_len (da_cons (dv 1) (da_nil))) (de_int)) (da_cons (de_non) (da_cons (de_bl) (da_cons (de_str) (da_cons (de_tup (da_cons (de_int) (da_nil))) (da_nil)))))))) (da_nil)))) (dgn 3 sc__law_starts_right.nd)) (dss_cons (ds_if (dt_cmp (op_neD hr.units) od_ne (e_lam (k := 7) T hA TB (by first | exact .head _ | exact .tail _ (.head _) | exact .tail _ (.tail _ (.head _)) | exact .tail _ (.tail _ (.tail _ (.head _)))) rfl rfl (hr.mono (by decide)) (fun A0 outer s H E f c0 hr2 => dmk M_Grown (hr2.mono (by decide)) (da_cons (dv 1) (da_cons (dv 3) (da_nil))))) (de_str) (nomark _)) (dss_one (ds_ret (de_bl))) (dss_nil)) (dss_one (ds_ret (de_cmp (op_eqD hr.units) od_eq (e_lam (k := 7) T hA TB (by first | exact .head _ | exact .tail _ (.head _) | exact .tail _ (.tail _ (.head _)) | exact .tail _ (.tail _ (.tail _ (.head _)))) rfl rfl (hr.mono (by decide)) (fun A0 outer s H E f c0 hr2 => dmk M_Grown (hr2.mono (by decide)) (da_cons (dcl F__law_any (hr2.mono (by decide)) (da_cons (dv 0) (da_cons (de_lst (da_cons (de_non) (da_cons (de_tup (da_nil)) (da_cons (de_tup (da_cons (de_tup (da_cons (de_int) (da_nil))) (da_nil))) (da_cons (de_lst (da_cons (de_tup (da_cons (de_int) (da_cons (de_int) (da_nil)))) (da_nil))) (da_cons (de_tup (da_cons (de_tup (da_cons (de_int) (da_cons (de_int) (da_nil)))) (da_nil))) (da_nil))))))) (da_nil)))) (da_cons (dv 3) (da_nil))))) (de_str) (nomark _)))))))
theorem ok__law_signs_right (T : Txt K mg) (hA : AmbOk A (tabsK K)) (M_Grown : MOk P w K mg base A 6 "Grown" (csK K).Grown ps_Grown_init (den_Grown_init (csK K))) (F__law_draw : FOk P w K mg base A 1 "_law_draw" ps__law_draw (den__law_draw (csK K))) (F__law_row : FOk P w K mg base A 1 "_law_row" ps__law_row (den__law_row (csK K))) (F_first_signs : FOk P w K mg base A 3 "first_signs" ps_first_signs (den_first_signs (csK K))) (F_grow_often : FOk P w K mg base A 7 "grow_often" ps_grow_often (den_grow_often (csK K))) (F_sign_at : FOk P w K mg base A 4 "sign_at" ps_sign_at (den_sign_at (csK K))) : FOk P w K mg base A 8 "_law_signs_right" ps__law_signs_right (den__law_signs_right (csK K)) :=
  fok_of T.d__law_signs_right T.m__law_signs_right (fun _ _ _ _ _ _ us hl => match us, hl with | [_, _, _], _ => rfl) sc__law_signs_right (fun cdv A0 outer s H E hr => dss_cons (ds_asg (de_tup (da_cons (dmk M_Grown (hr.mono (by decide)) (da_cons (dv 1) (da_cons (dv 2) (da_nil)))) (da_cons (dcl F__law_draw (hr.mono (by decide)) (da_cons (dv 0) (da_cons (de_int) (da_nil)))) (da_nil)))) (dg_tup rfl (dgs_cons (dgn 3 sc__law_signs_right.nd) (dgs_cons (dgn 4 sc__law_signs_right.nd) (dgs_nil))))) (dss_cons (ds_asg (dcl F__law_row (hr.mono (by decide)) (da_cons (dv 1) (da_cons (dv 2) (da_cons (dv 4) (da_nil))))) (dgn 5 sc__law_signs_right.nd)) (dss_cons (ds_if (dt_cmp (op_neD hr.units) od_ne (dcl F_first_signs (hr.mono (by decide)) (da_cons (dv 3) (da_cons (dv 4) (da_nil)))) (dv 5) (nomark _)) (dss_one (ds_ret (de_bl))) (dss_nil)) (dss_cons (ds_for (L2.passes_of rfl) rfl (di_rng1 rfl T.f_range (da_cons (de_int) (da_nil))) (dgn 6 sc__law_signs_right.nd) (dss_cons (ds_asg (dcl F__law_draw (hr.mono (by decide)) (da_cons (dv 0) (da_cons (de_int) (da_nil)))) (dgn 7 sc__law_signs_right.nd)) (dss_cons (ds_asg (dcl F_grow_often (hr.mono (by decide)) (da_cons (dv 1) (da_cons (de_tup (da_cons (dv 2) (da_nil))) (da_cons (dv 7) (da_nil))))) (dgn 8 sc__law_signs_right.nd)) (dss_one (ds_if (dt_cmp (op_neD hr.units) od_ne (dcl F_first_signs (hr.mono (by decide)) (da_cons (dv 3) (da_cons (de_callB call_len cd_len rfl T.f_len boot_len (da_cons (dv 8) (da_nil))) (da_nil)))) (dv 8) (nomark _)) (dss_one (ds_ret (de_bl))) (dss_nil)))))) (dss_cons (ds_setLc (own := [("turn", 6)]) (i := 9) rfl sc__law_signs_right.nd rfl rfl (sw_true rfl rfl rfl rfl) (di_rng1 rfl T.f_range (da_cons (de_int) (da_nil))) (blkOk_by (by kernel_rfl)) (fun _ _ _ _ _ => pgn 6 sc__law_signs_right.nd) (tgc_name (by decide)) (fun _ _ _ _ _ => dts_nil) (fun _ _ _ _ _ => dcl F__law_draw (hr.mono (by decide)) (da_cons (dv 0) (da_cons (de_int) (da_nil))))) (dss_cons (ds_asg (dcl F__law_row (hr.mono (by decide)) (da_cons (dv 1) (da_cons (dv 2) (da_cons (de_int) (da_nil))))) (dgn 8 sc__law_signs_right.nd)) (dss_cons (ds_if (dt_cmp (op_neD hr.units) od_ne (de_lc (own := [("at", 10)]) rfl sc__law_signs_right.nd (di_seq (dv 9)) (blkOk_by (by kernel_rfl)) (fun _ _ _ _ _ => pgn 10 sc__law_signs_right.nd) (tgc_name (by decide)) (fun _ _ _ _ _ => dts_nil) (fun _ _ _ _ _ => dcl F_sign_at (hr.mono (by decide)) (da_cons (dv 3) (da_cons (dv 10) (da_nil))))) (de_lc (own := [("at", 10)]) rfl sc__law_signs_right.nd (di_seq (dv 9)) (blkOk_by (by kernel_rfl)) (fun _ _ _ _ _ => pgn 10 sc__law_signs_right.nd) (tgc_name (by decide)) (fun _ _ _ _ _ => dts_nil) (fun _ _ _ _ _ => de_ix (dv 8) (dv 10) (fun _ _ => rfl))) (nomark _)) (dss_one (ds_ret (de_bl))) (dss_nil)) (dss_one (ds_ret (de_cmp (op_eqD hr.units) od_eq (dcl F_first_signs (hr.mono (by decide)) (da_cons (dv 3) (da_cons (de_int) (da_nil)))) (de_tup (da_nil)) (nomark _)))))))))))
theorem ok_law (T : Txt K mg) (hA : AmbOk A (tabsK K)) (F__law_hand : FOk P w K mg base A 1 "_law_hand" ps__law_hand (den__law_hand A (csK K))) (M_Grown : MOk P w K mg base A 6 "Grown" (csK K).Grown ps_Grown_init (den_Grown_init (csK K))) (F_first_signs : FOk P w K mg base A 3 "first_signs" ps_first_signs (den_first_signs (csK K))) (F__law_rule : FOk P w K mg base A 2 "_law_rule" ps__law_rule (den__law_rule (csK K))) (F__law_starts_right : FOk P w K mg base A 10 "_law_starts_right" ps__law_starts_right (den__law_starts_right (csK K))) (F__law_fields_right : FOk P w K mg base A 8 "_law_fields_right" ps__law_fields_right (den__law_fields_right (csK K))) (F__law_signs_right : FOk P w K mg base A 8 "_law_signs_right" ps__law_signs_right (den__law_signs_right (csK K))) : FOk P w K mg base A 11 "law" ps_law (den_law A (csK K)) :=
  fok_of T.d_law T.m_law (fun _ _ _ _ _ _ us hl => match us, hl with | [_], _ => rfl) sc_law (fun cdv A0 outer s H E hr => dss_cons (ds_asg (dcl F__law_hand (hr.mono (by decide)) (da_cons (dv 0) (da_nil))) (dgn 1 sc_law.nd)) (dss_cons (ds_if (dt_cmp (op_neD hr.units) od_ne (dcl F_first_signs (hr.mono (by decide)) (da_cons (dmk M_Grown (hr.mono (by decide)) (da_cons (de_tup (da_cons (de_tup (da_cons (de_int) (da_cons (de_int) (da_nil)))) (da_cons (de_tup (da_cons (de_int) (da_nil))) (da_nil)))) (da_cons (de_int) (da_nil)))) (da_cons (de_int) (da_nil)))) (de_tup (da_cons (de_int) (da_cons (de_int) (da_cons (de_int) (da_cons (de_int) (da_cons (de_int) (da_nil))))))) (nomark _)) (dss_one (ds_ret (de_bl))) (dss_nil)) (dss_cons (ds_for (L2.passes_of rfl) rfl (di_rng1 rfl T.f_range (da_cons (de_int) (da_nil))) (dgn 2 sc_law.nd) (dss_cons (ds_asg (dcl F__law_rule (hr.mono (by decide)) (da_cons (dv 1) (da_cons (de_int) (da_nil)))) (dg_tup rfl (dgs_cons (dgn 3 sc_law.nd) (dgs_cons (dgn 4 sc_law.nd) (dgs_nil))))) (dss_cons (ds_if (dt_of (dw_or (dt_not (dt_val (dcl F__law_fields_right (hr.mono (by decide)) (da_cons (dv 1) (da_cons (dv 3) (da_cons (dv 4) (da_nil))))))) (dw_or1 (dt_not (dt_val (dcl F__law_starts_right (hr.mono (by decide)) (da_cons (dv 1) (da_cons (dv 3) (da_nil))))))))) (dss_one (ds_ret (de_bl))) (dss_nil)) (dss_one (ds_if (dt_not (dt_val (dcl F__law_signs_right (hr.mono (by decide)) (da_cons (dv 1) (da_cons (dv 3) (da_cons (dv 4) (da_nil))))))) (dss_one (ds_ret (de_bl))) (dss_nil)))))) (dss_one (ds_ret (de_bl))))))
theorem fn_top {fd : FuncData} (F : FunD K "law" "law" (defArgs (top 46)) (defBody (top 46)) (defScope (top 46)) [] [] (He.fAd K ("law", none)) fd) (T : Txt K mg) (hA : AmbOk A (tabsK K)) (F__law_hand : FOk P w K mg base A 1 "_law_hand" ps__law_hand (den__law_hand A (csK K))) (M_Grown : MOk P w K mg base A 6 "Grown" (csK K).Grown ps_Grown_init (den_Grown_init (csK K))) (F_first_signs : FOk P w K mg base A 3 "first_signs" ps_first_signs (den_first_signs (csK K))) (F__law_rule : FOk P w K mg base A 2 "_law_rule" ps__law_rule (den__law_rule (csK K))) (F__law_starts_right : FOk P w K mg base A 10 "_law_starts_right" ps__law_starts_right (den__law_starts_right (csK K))) (F__law_fields_right : FOk P w K mg base A 8 "_law_fields_right" ps__law_fields_right (den__law_fields_right (csK K))) (F__law_signs_right : FOk P w K mg base A 8 "_law_signs_right" ps__law_signs_right (den__law_signs_right (csK K))) : FnOk P w K mg base (L2N.CX P w) 11 (He.fAd K ("law", none)) fd ps_law (spD K A (den_law A (csK K))) :=
  def_ok F sc_law (fun cdv A0 outer s H E hr => dss_cons (ds_asg (dcl F__law_hand (hr.mono (by decide)) (da_cons (dv 0) (da_nil))) (dgn 1 sc_law.nd)) (dss_cons (ds_if (dt_cmp (op_neD hr.units) od_ne (dcl F_first_signs (hr.mono (by decide)) (da_cons (dmk M_Grown (hr.mono (by decide)) (da_cons (de_tup (da_cons (de_tup (da_cons (de_int) (da_cons (de_int) (da_nil)))) (da_cons (de_tup (da_cons (de_int) (da_nil))) (da_nil)))) (da_cons (de_int) (da_nil)))) (da_cons (de_int) (da_nil)))) (de_tup (da_cons (de_int) (da_cons (de_int) (da_cons (de_int) (da_cons (de_int) (da_cons (de_int) (da_nil))))))) (nomark _)) (dss_one (ds_ret (de_bl))) (dss_nil)) (dss_cons (ds_for (L2.passes_of rfl) rfl (di_rng1 rfl T.f_range (da_cons (de_int) (da_nil))) (dgn 2 sc_law.nd) (dss_cons (ds_asg (dcl F__law_rule (hr.mono (by decide)) (da_cons (dv 1) (da_cons (de_int) (da_nil)))) (dg_tup rfl (dgs_cons (dgn 3 sc_law.nd) (dgs_cons (dgn 4 sc_law.nd) (dgs_nil))))) (dss_cons (ds_if (dt_of (dw_or (dt_not (dt_val (dcl F__law_fields_right (hr.mono (by decide)) (da_cons (dv 1) (da_cons (dv 3) (da_cons (dv 4) (da_nil))))))) (dw_or1 (dt_not (dt_val (dcl F__law_starts_right (hr.mono (by decide)) (da_cons (dv 1) (da_cons (dv 3) (da_nil))))))))) (dss_one (ds_ret (de_bl))) (dss_nil)) (dss_one (ds_if (dt_not (dt_val (dcl F__law_signs_right (hr.mono (by decide)) (da_cons (dv 1) (da_cons (dv 3) (da_cons (dv 4) (da_nil))))))) (dss_one (ds_ret (de_bl))) (dss_nil)))))) (dss_one (ds_ret (de_bl))))))
theorem all_top {fd : FuncData} (F : FunD K "law" "law" (defArgs (top 46)) (defBody (top 46)) (defScope (top 46)) [] [] (He.fAd K ("law", none)) fd) (T : Txt K mg) (hA : AmbOk A (tabsK K)) (TB : ∀ x ∈ lamsN, TabB base mg (He.cT K (x, none)).1 (He.cT K (x, none)).2) : FnOk P w K mg base (L2N.CX P w) 11 (He.fAd K ("law", none)) fd ps_law (spD K A (den_law A (csK K))) := by
  have F_is_integer := ok_is_integer (P := P) (w := w) (base := base) (A := A) T hA 
  have F_is_within := ok_is_within (P := P) (w := w) (base := base) (A := A) T hA F_is_integer
  have F_are_signs := ok_are_signs (P := P) (w := w) (base := base) (A := A) T hA F_is_within
  have F_is_rule := ok_is_rule (P := P) (w := w) (base := base) (A := A) T hA F_are_signs
  have F_check_rule := ok_check_rule (P := P) (w := w) (base := base) (A := A) T hA F_is_rule
  have F_check_signs := ok_check_signs (P := P) (w := w) (base := base) (A := A) T hA F_check_rule F_are_signs
  have F_check_times := ok_check_times (P := P) (w := w) (base := base) (A := A) T hA F_is_within
  have F_raw_grow := ok_raw_grow (P := P) (w := w) (base := base) (A := A) T hA 
  have F_grow_often := ok_grow_often (P := P) (w := w) (base := base) (A := A) T hA F_check_signs F_check_times F_raw_grow
  have M_Grown := ok_Grown_init (P := P) (w := w) (base := base) (A := A) T hA F_check_rule F_is_within
  have E_Grown := ok_Grown_eq (P := P) (w := w) (base := base) (A := A) T hA 
  have F_is_grown := ok_is_grown (P := P) (w := w) (base := base) (A := A) T hA 
  have F_check_grown := ok_check_grown (P := P) (w := w) (base := base) (A := A) T hA F_is_grown
  have F_check_number := ok_check_number (P := P) (w := w) (base := base) (A := A) T hA F_is_integer
  have F_raw_first_signs := ok_raw_first_signs (P := P) (w := w) (base := base) (A := A) T hA 
  have F_first_signs := ok_first_signs (P := P) (w := w) (base := base) (A := A) T hA F_check_grown F_is_within F_raw_first_signs
  have F_worths_grown := ok_worths_grown (P := P) (w := w) (base := base) (A := A) T hA 
  have F_raw_road := ok_raw_road (P := P) (w := w) (base := base) (A := A) T hA F_worths_grown
  have F_raw_sign_by := ok_raw_sign_by (P := P) (w := w) (base := base) (A := A) T hA 
  have F_road_of := ok_road_of (P := P) (w := w) (base := base) (A := A) T hA F_check_grown F_check_number F_raw_road
  have F_sign_at := ok_sign_at (P := P) (w := w) (base := base) (A := A) T hA F_road_of F_raw_sign_by
  have F__law_hand := ok__law_hand (P := P) (w := w) (base := base) (A := A) T hA 
  have F__law_draw := ok__law_draw (P := P) (w := w) (base := base) (A := A) T hA 
  have F__law_any := ok__law_any (P := P) (w := w) (base := base) (A := A) T hA F__law_draw
  have F__law_rule := ok__law_rule (P := P) (w := w) (base := base) (A := A) T hA F__law_draw
  have F__law_row := ok__law_row (P := P) (w := w) (base := base) (A := A) T hA 
  have F__law_fields_right := ok__law_fields_right (P := P) (w := w) (base := base) (A := A) T hA M_Grown F_is_grown E_Grown F__law_any F_first_signs F_sign_at (TB _ (by decide))
  have F__law_starts_right := ok__law_starts_right (P := P) (w := w) (base := base) (A := A) T hA M_Grown F__law_any (TB _ (by decide))
  have F__law_signs_right := ok__law_signs_right (P := P) (w := w) (base := base) (A := A) T hA M_Grown F__law_draw F__law_row F_first_signs F_grow_often F_sign_at
  exact fn_top F T hA F__law_hand M_Grown F_first_signs F__law_rule F__law_starts_right F__law_fields_right F__law_signs_right
end
end K76


set_option Elab.async false
set_option linter.all false
set_option maxRecDepth 100000
set_option maxHeartbeats 4000000
namespace K76
open PySem PySem.Spec PyProof.Rows L2 Ny
variable {c : Cs} {Q : D → Mm → Prop} {E : Addr → Mm → Prop} {M : Mm}
/-! ### kinds -/
/-- plain data: no object is named -/
def Pl : D → Prop
  | .ref _ => False
  | .err _ => False
  | .ext _ => False
  | _ => True
def isI : D → Bool
  | .int _ => true
  | _ => false
theorem wp_isi {u : V} {kit : Value → Option Bool} {d : D} {t : Value} {b : Bool} (h1 : tyD M d = some t) (h2 : kit t = some b) : Wp (oIsi u kit [d, .ext u] M) Q E = Q (.bl b) M := by
  simp only [oIsi, if_pos, h1, h2]; rfl
theorem wp_is_integer {d : D} (h : Pl d) : Wp (den_is_integer c [d] M) Q E = Q (.bl (isI d)) M := by
  rw [den_is_integer, wp_b1]
  unfold g_is_integer
  cases d with
  | non => simp [startD, wp_dVar, wp_isi (d := .non) (M := M) (u := .ty "int") (kit := kitTy "int") (t := .type "NoneType") (b := false) rfl rfl, isI]
  | bl b => simp [startD, wp_dVar, wp_isi (d := .bl b) (M := M) (u := .ty "int") (kit := kitTy "int") (t := .type "bool") (b := true) rfl rfl, wp_isi (d := .bl b) (M := M) (u := .ty "bool") (kit := kitTy "bool") (t := .type "bool") (b := true) rfl rfl, isI]
  | int i => simp [startD, wp_dVar, wp_isi (d := .int i) (M := M) (u := .ty "int") (kit := kitTy "int") (t := .type "int") (b := true) rfl rfl, wp_isi (d := .int i) (M := M) (u := .ty "bool") (kit := kitTy "bool") (t := .type "int") (b := false) rfl rfl, isI]
  | str x => simp [startD, wp_dVar, wp_isi (d := .str x) (M := M) (u := .ty "int") (kit := kitTy "int") (t := .type "str") (b := false) rfl rfl, isI]
  | tup ds => simp [startD, wp_dVar, wp_isi (d := .tup ds) (M := M) (u := .ty "int") (kit := kitTy "int") (t := .type "tuple") (b := false) rfl rfl, isI]
  | ref n => exact h.elim
  | err n => exact h.elim
  | ext n => exact h.elim
def wiI (lo hi : Int) : D → Bool
  | .int i => decide (lo ≤ i) && decide (i ≤ hi)
  | _ => false
theorem wp_is_within {d : D} {lo hi : Int} (h : Pl d) : Wp (den_is_within c [d, .int lo, .int hi] M) Q E = Q (.bl (wiI lo hi d)) M := by
  rw [den_is_within, wp_b3]
  unfold g_is_within
  cases d with
  | int i =>
    by_cases h1 : lo ≤ i <;> simp [startD, wp_dVar, wp_is_integer (d := .int i) trivial, isI, wiI, h1]
  | _ => first | exact h.elim | (simp [startD, wp_dVar, wp_is_integer, h, isI, wiI]; done) | simp [startD, wp_dVar, wp_is_integer h, isI, wiI]
/-! ### rules -/
/-- no tuple -/
def NT (M : Mm) (d : D) : Prop := ∃ t, tyD M d = some t ∧ kitTy "tuple" t = some false
theorem wp_isi_tup {ds : List D} : Wp (oIsi (.ty "tuple") (kitTy "tuple") [.tup ds, .ext (.ty "tuple")] M) Q E = Q (.bl true) M := wp_isi (t := .type "tuple") rfl rfl
theorem wp_isi_nt {d : D} (h : NT M d) : Wp (oIsi (.ty "tuple") (kitTy "tuple") [d, .ext (.ty "tuple")] M) Q E = Q (.bl false) M := by
  obtain ⟨t, h1, h2⟩ := h
  exact wp_isi h1 h2
def sgB (many most : Int) (ds : List D) : Bool := decide ((ds.length : Int) ≤ most) && ds.all (wiI 1 many)
theorem wp_are_signs {ds : List D} {many most : Int} (h : ∀ d ∈ ds, Pl d) (hm : most ≤ 10000) (q : ∀ J, Q (.bl (sgB many most ds)) (M ++ J)) : Wp (den_are_signs c [.int many, .int most, .tup ds] M) Q E := by
  rw [den_are_signs, wp_b3]
  unfold g_are_signs
  by_cases hl : most < (ds.length : Int)
  · have z := q []
    simp [startD, wp_dVar, wp_isi_tup, hl]
    simpa [sgB, show ¬ ((ds.length : Int) ≤ most) by omega] using z
  · simp [startD, wp_dVar, wp_isi_tup, hl]
    refine wp_lcM (v := fun d => .bl (wiI 1 many d)) (fun M' => M' = M) (fun _ _ => rfl) ds M rfl (fun x hx M' hM => ?_) (fun M' hM => ?_)
    · subst hM
      refine ⟨_, rfl, ?_⟩
      simp [wipeD, wp_dVar, wp_is_within (h x hx)]
    · subst hM
      have e : ds.map (fun d => D.bl (wiI 1 many d)) = (ds.map (wiI 1 many)).map D.bl := by rw [List.map_map]; rfl
      refine ⟨small (by rw [List.length_map]; omega), ?_⟩
      rw [e, wp_all (bs := ds.map (wiI 1 many)) gnew]
      have z := q [.lst ((ds.map (wiI 1 many)).map D.bl)]
      simp only [sgB, show ((ds.length : Int) ≤ most) by omega, decide_true, Bool.true_and] at z
      rw [List.all_map]
      exact z
def wdB (many : Int) : D → Bool
  | .tup es => sgB many 4 es && decide (0 < es.length)
  | _ => false
def ruB (ds : List D) : Bool := decide (1 ≤ ds.length ∧ ds.length ≤ 40) && ds.all (wdB ds.length)
/-- plain words -/
def PW (d : D) : Prop := ∃ es, d = .tup es ∧ ∀ e ∈ es, Pl e
theorem wp_is_rule {ds : List D} (h : ∀ d ∈ ds, PW d) (q : ∀ J, Q (.bl (ruB ds)) (M ++ J)) : Wp (den_is_rule c [.tup ds] M) Q E := by
  rw [den_is_rule, wp_b1]
  unfold g_is_rule
  by_cases hl : 1 ≤ ds.length ∧ ds.length ≤ 40
  · have h1 : (1 : Int) ≤ (ds.length : Int) := by omega
    have h2 : (ds.length : Int) ≤ 40 := by omega
    simp [startD, wp_dVar, wp_isi_tup, h1, h2]
    refine wp_lcM (v := fun d => .bl (wdB ds.length d)) (fun M' => ∃ J, M' = M ++ J) (fun _ _ => rfl) ds M ⟨[], by simp⟩ (fun x hx M' hM => ?_) (fun M' hM => ?_)
    · obtain ⟨J, rfl⟩ := hM
      refine ⟨_, rfl, ?_⟩
      obtain ⟨es, rfl, he⟩ := h x hx
      simp [wipeD, wp_dVar]
      refine wp_are_signs he (by omega) fun J' => ?_
      by_cases hs : sgB ds.length 4 es = true
      · simp [hs, wdB]
      · simp [hs, wdB]
    · obtain ⟨J, rfl⟩ := hM
      have e : ds.map (fun d => D.bl (wdB ds.length d)) = (ds.map (wdB ds.length)).map D.bl := by rw [List.map_map]; rfl
      refine ⟨small (by rw [List.length_map]; omega), ?_⟩
      rw [e, wp_all (bs := ds.map (wdB ds.length)) gnew]
      have z := q (J ++ [.lst ((ds.map (wdB ds.length)).map D.bl)])
      simp only [ruB, hl, and_self, decide_true, Bool.true_and] at z
      rw [List.all_map, List.append_assoc]
      exact z
  · have z := q []
    have e : (decide ((1 : Int) ≤ (ds.length : Int)) && decide ((ds.length : Int) ≤ 40)) = false := by
      rw [Bool.and_eq_false_iff]
      by_cases h1 : (1 : Int) ≤ (ds.length : Int)
      · exact .inr (decide_eq_false (by omega))
      · exact .inl (decide_eq_false h1)
    by_cases h1 : (1 : Int) ≤ (ds.length : Int)
    · have h2 : ¬ ((ds.length : Int) ≤ 40) := by omega
      simp [startD, wp_dVar, wp_isi_tup, h1, h2]
      simpa [ruB, hl] using z
    · simp [startD, wp_dVar, wp_isi_tup, h1]
      simpa [ruB, hl] using z
theorem wp_is_rule_nt {d : D} (h : NT M d) (q : Q (.bl false) M) : Wp (den_is_rule c [d] M) Q E := by
  rw [den_is_rule, wp_b1]
  unfold g_is_rule
  simp [startD, wp_dVar, wp_isi_nt h]
  exact q
/-! ### the rule as numbers -/
def ruR (r : List (List Int)) : Prop := (1 ≤ r.length ∧ r.length ≤ 40) ∧ ∀ w ∈ r, (w.length ≤ 4 ∧ 0 < w.length) ∧ ∀ x ∈ w, 1 ≤ x ∧ x ≤ r.length
instance (r : List (List Int)) : Decidable (ruR r) := by unfold ruR; infer_instance
theorem PW_R (r : List (List Int)) : ∀ d ∈ r.map dW, PW d := fun d hd => by
  obtain ⟨w, _, rfl⟩ := List.mem_map.mp hd
  refine ⟨w.map D.int, rfl, fun e he => ?_⟩
  obtain ⟨x, _, rfl⟩ := List.mem_map.mp he
  trivial
theorem ruB_R (r : List (List Int)) : ruB (r.map dW) = decide (ruR r) := by
  rw [Bool.eq_iff_iff]
  simp [ruB, ruR, wdB, dW, sgB, wiI, and_assoc]
  intro h1 h2
  constructor
  · intro h w hw
    obtain ⟨a, b, d⟩ := h w hw
    exact ⟨by omega, d, b⟩
  · intro h w hw
    obtain ⟨a, b, d⟩ := h w hw
    exact ⟨by omega, d, b⟩
theorem wp_check_rule {r : List (List Int)} (q : ruR r → ∀ J, Q .non (M ++ J)) (e : ¬ ruR r → ∀ J, E c.NoRule (M ++ J)) : Wp (den_check_rule c [dR r] M) Q E := by
  rw [den_check_rule, wp_b1]
  unfold g_check_rule
  simp [startD, wp_dVar]
  refine wp_is_rule (PW_R r) fun J => ?_
  rw [ruB_R]
  by_cases h : ruR r
  · simp [h, q h J]
  · simp [h, e h J]
theorem wp_check_rule_nt {d : D} (h : NT M d) (e : E c.NoRule M) : Wp (den_check_rule c [d] M) Q E := by
  rw [den_check_rule, wp_b1]
  unfold g_check_rule
  simp [startD, wp_dVar]
  refine wp_is_rule_nt h ?_
  simp [e]
/-- the start is one -/
def stR (r : List (List Int)) : D → Prop
  | .int s => ∃ w, 1 ≤ s ∧ r[(s - 1).toNat]? = some w ∧ 2 ≤ w.length ∧ w[0]? = some s
  | _ => False
theorem wp_init {r : List (List Int)} {d : D} {n : Nat} (hd : Pl d) (hn : M[n]? = some (.ins c.Grown [])) (q : ruR r → stR r d → ∀ J, Q .non ((M ++ J).set n (.ins c.Grown [("rule", dR r), ("start", d)]))) (e1 : ¬ ruR r → ∀ J, E c.NoRule (M ++ J)) (e2 : ruR r → ¬ stR r d → ∀ J, E c.NoStart (M ++ J)) :
    Wp (den_Grown_init c [.ref n, dR r, d] M) Q E := by
  rw [den_Grown_init, wp_b3]
  unfold g_Grown_init
  simp [startD, wp_dVar]
  refine wp_check_rule (fun hr J => ?_) (fun hr J => e1 hr J)
  simp [wp_is_within hd]
  have fin : stR r d → Wp (setFOf c.Grown "rule" (.ref n) (dR r) (M ++ J)) (fun _ m => Wp (setFOf c.Grown "start" (.ref n) d m) (fun _ m => Q .non m) E) E := fun hs => by
    have h1 := gapp hn J
    rw [wp_setF h1 (by simp), wp_setF (fs := [("rule", dR r)]) (by rw [List.getElem?_set_self (glt h1)]; rfl) (by simp)]
    have z := q hr hs J
    rw [List.set_set]
    exact z
  cases d with
  | int s =>
    simp only [wiI]
    by_cases h1 : 1 ≤ s ∧ s ≤ r.length
    · have hlt : (s - 1).toNat < r.length := by omega
      have hw : r[(s - 1).toNat]? = some r[(s - 1).toNat] := List.getElem?_eq_getElem hlt
      have hi := wp_ix_R (M := M ++ J) (Q := Q) (E := E) (i := s - 1) (j := (s - 1).toNat) (by omega) hw
      simp [h1.1, h1.2]
      generalize r[(s - 1).toNat] = w at hw
      rw [wp_ix_R (j := (s - 1).toNat) (by omega) hw]
      simp
      have h0 := (hr.2 w (List.mem_of_getElem? hw)).1.2
      by_cases h2 : w.length < 2
      · have : ((w.length : Int) < 2) := by omega
        simp [this]
        exact e2 hr (fun ⟨w', _, hw', h3, _⟩ => by rw [hw] at hw'; cases hw'; omega) J
      · have : ¬ ((w.length : Int) < 2) := by omega
        simp [this]
        rw [wp_ix_R (j := (s - 1).toNat) (by omega) hw]
        have h00 : w[0]? = some w[0] := List.getElem?_eq_getElem h0
        rw [wp_ix_W (i := 0) (j := 0) rfl h00]
        simp
        by_cases h3 : w[0] = s
        · simp [h3]
          exact fin ⟨w, h1.1, hw, by omega, by rw [h00, h3]⟩
        · simp [h3]
          exact e2 hr (fun ⟨w', _, hw', _, h4⟩ => by rw [hw] at hw'; cases hw'; rw [h00] at h4; exact h3 (Option.some.inj h4)) J
    · have h2 : (decide (1 ≤ s) && decide (s ≤ (r.length : Int))) = false := by
        rw [← Bool.decide_and]; exact decide_eq_false h1
      simp [h2]
      refine e2 hr (fun ⟨w', h3, hw', _, _⟩ => ?_) J
      have := (List.getElem?_eq_some_iff.mp hw').1
      exact h1 ⟨h3, by omega⟩
  | ref _ => exact hd.elim
  | err _ => exact hd.elim
  | ext _ => exact hd.elim
  | _ =>
    simp [wiI]
    exact e2 hr (fun h => h) J
theorem set_new {M J : Mm} {x y : MO} : (M ++ x :: J).set M.length y = M ++ y :: J := by
  rw [List.set_append_right _ _ (Nat.le_refl _)]; simp
theorem wp_make {r : List (List Int)} {d : D} (hd : Pl d) (q : ruR r → stR r d → ∀ J, Q (.ref M.length) (M ++ .ins c.Grown [("rule", dR r), ("start", d)] :: J)) (e1 : ¬ ruR r → ∀ J, E c.NoRule (M ++ J)) (e2 : ruR r → ¬ stR r d → ∀ J, E c.NoStart (M ++ J)) :
    Wp (den_Grown_init c [.ref M.length, dR r, d] (M ++ [.ins c.Grown []])) (fun x M2 => Wp (madeOf M.length x M2) Q E) E := by
  refine wp_init hd gnew (fun h1 h2 J => ?_) (fun h J => ?_) (fun h1 h2 J => ?_)
  · rw [wp_made, List.append_assoc, List.singleton_append, set_new]
    exact q h1 h2 J
  · rw [List.append_assoc]; exact e1 h _
  · rw [List.append_assoc]; exact e2 h1 h2 _
theorem wp_make_nt {d e : D} (h : ∀ J, NT (M ++ J) d) (e1 : ∀ J, E c.NoRule (M ++ J)) : Wp (den_Grown_init c [.ref M.length, d, e] (M ++ [.ins c.Grown []])) (fun x M2 => Wp (madeOf M.length x M2) Q E) E := by
  rw [den_Grown_init, wp_b3]
  unfold g_Grown_init
  simp [startD, wp_dVar]
  exact wp_check_rule_nt (h _) (e1 _)
/-! ### grown things -/
theorem wp_isi_own {C : Addr} {d : D} {t : Value} {b : Bool} (h1 : tyD M d = some t) (h2 : kitOwn C t = some b) : Wp (oIsi (.ref C) (kitOwn C) [d, .ext (.ref C)] M) Q E = Q (.bl b) M := wp_isi h1 h2
theorem wp_is_grown {d : D} {t : Value} {b : Bool} (h1 : tyD M d = some t) (h2 : kitOwn c.Grown t = some b) : Wp (den_is_grown c [d] M) Q E = Q (.bl b) M := by
  rw [den_is_grown, wp_b1]
  unfold g_is_grown
  simp [startD, wp_dVar, wp_isi_own h1 h2]
theorem wp_check_grown {d : D} {t : Value} {b : Bool} (h1 : tyD M d = some t) (h2 : kitOwn c.Grown t = some b) : Wp (den_check_grown c [d] M) Q E = if b = true then Q .non M else E c.NoGrown M := by
  rw [den_check_grown, wp_b1]
  unfold g_check_grown
  simp [startD, wp_dVar, wp_is_grown h1 h2]
def nat0 : D → Prop
  | .int i => 0 ≤ i
  | _ => False
theorem wp_check_number {d : D} (h : Pl d) (q : nat0 d → Q .non M) (e : ¬ nat0 d → E c.NoNumber M) : Wp (den_check_number c [d] M) Q E := by
  rw [den_check_number, wp_b1]
  unfold g_check_number
  cases d with
  | int i =>
    simp [startD, wp_dVar, wp_is_integer (d := .int i) trivial, isI]
    by_cases hi : i < 0
    · simp [hi]; exact e (fun z => by simp only [nat0] at z; omega)
    · simp [hi]; exact q (by simp only [nat0]; omega)
  | _ => first
    | exact h.elim
    | (simp [startD, wp_dVar, wp_is_integer, h, isI]; exact e (fun z => z))
    | (simp [startD, wp_dVar, wp_is_integer h, isI]; exact e (fun z => z))
/-- a grown thing -/
def GrAt (c : Cs) (r : List (List Int)) (s : Int) (g : Nat) (M : Mm) : Prop := M[g]? = some (.ins c.Grown [("rule", dR r), ("start", .int s)])
theorem GrAt.ty {r : List (List Int)} {s : Int} {g : Nat} (h : GrAt c r s g M) : tyD M (.ref g) = some (.ref c.Grown) := by
  simp only [tyD, show M[g]? = _ from h]
theorem kitOwn_self {C : Addr} : kitOwn C (.ref C) = some true := by simp [kitOwn]
theorem wp_rule {r : List (List Int)} {s : Int} {g : Nat} (h : GrAt c r s g M) : Wp (getF c.Grown "rule" (.ref g) M) Q E = Q (dR r) M := wp_fld h rfl
theorem wp_start {r : List (List Int)} {s : Int} {g : Nat} (h : GrAt c r s g M) : Wp (getF c.Grown "start" (.ref g) M) Q E = Q (.int s) M := wp_fld h (by
  have e : (("start" : Str) == ("rule" : Str)) = false := by decide
  simp [List.lookup, e])
end K76


set_option Elab.async false
set_option linter.all false
set_option maxRecDepth 100000
set_option maxHeartbeats 4000000
/-! K76p: words grown by a rule (plain Lean). -/
namespace K76
/-- the word of a sign -/
def nxw (r : List (List Int)) (x : Int) : List Int := (r[(x - 1).toNat]?).getD []
def LR (r : List (List Int)) (w : List Int) : Prop := ∀ x ∈ w, 1 ≤ x ∧ x ≤ (r.length : Int)
/-- the row behind k turns -/
def Fw (r : List (List Int)) (s : Int) : Nat → List Int
  | 0 => nxw r s
  | k + 1 => Fw r s k ++ nxw r ((Fw r s k).getD (k + 1) 0)
structure Gd (r : List (List Int)) (s : Int) : Prop where
  ru : ruR r
  st : stR r (.int s)
section
variable {r : List (List Int)} {s : Int}
theorem ruR.get (h : ruR r) {x : Int} (h1 : 1 ≤ x) (h2 : x ≤ (r.length : Int)) : r[(x - 1).toNat]? = some (nxw r x) ∧ nxw r x ∈ r := by
  have hl : (x - 1).toNat < r.length := by omega
  have e : r[(x - 1).toNat]? = some r[(x - 1).toNat] := List.getElem?_eq_getElem hl
  have q : nxw r x = r[(x - 1).toNat] := by unfold nxw; rw [e]; rfl
  exact ⟨by rw [q]; exact e, by rw [q]; exact List.getElem_mem hl⟩
theorem ruR.len (h : ruR r) {x : Int} (h1 : 1 ≤ x) (h2 : x ≤ (r.length : Int)) : 1 ≤ (nxw r x).length ∧ (nxw r x).length ≤ 4 := by
  have z := (h.2 _ (h.get h1 h2).2).1
  omega
theorem ruR.lr (h : ruR r) {x : Int} (h1 : 1 ≤ x) (h2 : x ≤ (r.length : Int)) : LR r (nxw r x) := fun y hy => (h.2 _ (h.get h1 h2).2).2 y hy
theorem Gd.s1 (h : Gd r s) : 1 ≤ s ∧ s ≤ (r.length : Int) := by
  obtain ⟨w, h1, h2, _⟩ := h.st
  have := (List.getElem?_eq_some_iff.mp h2).1
  exact ⟨h1, by omega⟩
theorem Gd.first (h : Gd r s) : 2 ≤ (nxw r s).length ∧ (nxw r s)[0]? = some s := by
  obtain ⟨w, h1, h2, h3, h4⟩ := h.st
  have e : nxw r s = w := by unfold nxw; rw [h2]; rfl
  rw [e]; exact ⟨h3, h4⟩
theorem LR.app {v w : List Int} (a : LR r v) (b : LR r w) : LR r (v ++ w) := fun x hx => (List.mem_append.mp hx).elim (a x) (b x)
theorem Fw_len (h : Gd r s) : ∀ k, k + 2 ≤ (Fw r s k).length ∧ LR r (Fw r s k)
  | 0 => ⟨h.first.1, h.ru.lr h.s1.1 h.s1.2⟩
  | k + 1 => by
    obtain ⟨h1, h2⟩ := Fw_len h k
    have e : (Fw r s k).getD (k + 1) 0 = (Fw r s k)[k + 1] := by simp [List.getD, List.getElem?_eq_getElem (show k + 1 < (Fw r s k).length by omega)]
    have hx := h2 _ (List.getElem_mem (show k + 1 < (Fw r s k).length by omega))
    have hl := h.ru.len hx.1 hx.2
    refine ⟨?_, ?_⟩
    · unfold Fw; rw [List.length_append, e]; omega
    · unfold Fw; rw [e]; exact h2.app (h.ru.lr hx.1 hx.2)
theorem Fw_at (h : Gd r s) (k : Nat) : ∃ x, (Fw r s k)[k + 1]? = some x ∧ (1 ≤ x ∧ x ≤ (r.length : Int)) ∧ Fw r s (k + 1) = Fw r s k ++ nxw r x := by
  obtain ⟨h1, h2⟩ := Fw_len h k
  have hk : k + 1 < (Fw r s k).length := by omega
  refine ⟨(Fw r s k)[k + 1], List.getElem?_eq_getElem hk, h2 _ (List.getElem_mem hk), ?_⟩
  show Fw r s k ++ _ = _
  simp [List.getD, List.getElem?_eq_getElem hk]
theorem Fw_pre (h : Gd r s) : ∀ {k m : Nat}, k ≤ m → Fw r s k <+: Fw r s m
  | k, m, hk => by
    induction m with
    | zero =>
      have : k = 0 := by omega
      rw [this]; exact List.prefix_rfl
    | succ m ih =>
      by_cases e : k = m + 1
      · rw [e]; exact List.prefix_rfl
      · exact (ih (by omega)).trans (List.prefix_append _ _)
/-- the first n signs -/
def Up (r : List (List Int)) (s : Int) (n : Nat) : List Int := (Fw r s n).take n
theorem take_pre {v w : List Int} {n : Nat} (h : v <+: w) (hn : n ≤ v.length) : w.take n = v.take n := by
  obtain ⟨t, rfl⟩ := h
  rw [List.take_append_of_le_length hn]
theorem take_Fw (h : Gd r s) {k n : Nat} (hn : n ≤ (Fw r s k).length) : (Fw r s k).take n = Up r s n := by
  unfold Up
  by_cases hk : k ≤ n
  · rw [take_pre (Fw_pre h hk) hn]
  · rw [take_pre (Fw_pre h (show n ≤ k by omega)) (by have := (Fw_len h n).1; omega)]
theorem Up_len (h : Gd r s) (n : Nat) : (Up r s n).length = n := by
  unfold Up
  rw [List.length_take]
  have := (Fw_len h n).1
  omega
theorem Up_get (h : Gd r s) {n i : Nat} (hi : i < n) {k : Nat} (hk : i < (Fw r s k).length) : (Up r s n)[i]? = (Fw r s k)[i]? := by
  have e1 : (Up r s n)[i]? = (Fw r s n)[i]? := by unfold Up; rw [List.getElem?_take_of_lt hi]
  rw [e1]
  have h2 : i < (Fw r s n).length := by have := (Fw_len h n).1; omega
  rcases Nat.le_total k n with q | q
  · obtain ⟨t, e⟩ := Fw_pre h q
    rw [← e, List.getElem?_append_left hk]
  · obtain ⟨t, e⟩ := Fw_pre h q
    rw [← e, List.getElem?_append_left h2]
/-! ### all signs exchanged at once -/
def exw (r : List (List Int)) (w : List Int) : List Int := w.flatMap (nxw r)
theorem ex_app (v w : List Int) : exw r (v ++ w) = exw r v ++ exw r w := by simp [exw]
theorem Fw_ex (h : Gd r s) : ∀ k, exw r ((Fw r s k).take (k + 1)) = Fw r s k
  | 0 => by
    have e : (Fw r s 0).take 1 = [s] := by
      have h1 := h.first
      show (nxw r s).take 1 = [s]
      cases q : nxw r s with
      | nil => rw [q] at h1; simp at h1
      | cons a l => rw [q] at h1; simp at h1; simp [h1.2]
    rw [e]
    simp [exw, Fw]
  | k + 1 => by
    obtain ⟨x, h1, h2, h3⟩ := Fw_at h k
    have hl := (Fw_len h k).1
    have e : (Fw r s (k + 1)).take (k + 1 + 1) = (Fw r s k).take (k + 1) ++ [x] := by
      rw [h3, List.take_append_of_le_length hl, List.take_succ, h1]; rfl
    rw [e, ex_app, Fw_ex h k, h3]
    simp [exw]
theorem ex_pre {v w : List Int} (h : v <+: w) : exw r v <+: exw r w := by
  obtain ⟨t, rfl⟩ := h
  rw [ex_app]
  exact List.prefix_append _ _
/-- a sign grown t times -/
def Gt (r : List (List Int)) (s : Int) : Nat → List Int
  | 0 => [s]
  | t + 1 => exw r (Gt r s t)
theorem Gt_pre (h : Gd r s) : ∀ t, ∃ k, Gt r s t <+: Fw r s k
  | 0 => ⟨0, by
    have h1 := h.first
    show [s] <+: nxw r s
    cases q : nxw r s with
    | nil => rw [q] at h1; simp at h1
    | cons a l =>
      rw [q] at h1
      simp at h1
      rw [h1.2]
      exact ⟨l, rfl⟩⟩
  | t + 1 => by
    obtain ⟨k, hk⟩ := Gt_pre h t
    have hK : Gt r s t <+: Fw r s (max k (Gt r s t).length) := hk.trans (Fw_pre h (Nat.le_max_left _ _))
    refine ⟨max k (Gt r s t).length, ?_⟩
    have h2 : Gt r s t <+: (Fw r s (max k (Gt r s t).length)).take (max k (Gt r s t).length + 1) := by
      obtain ⟨u, e⟩ := hK
      rw [← e, List.take_append]
      rw [List.take_of_length_le (by have := Nat.le_max_right k (Gt r s t).length; omega)]
      exact List.prefix_append _ _
    have h3 := ex_pre (r := r) h2
    rw [Fw_ex h] at h3
    exact h3
theorem Gt_up (h : Gd r s) (t : Nat) : Gt r s t = Up r s (Gt r s t).length := by
  obtain ⟨k, hk⟩ := Gt_pre h t
  have hl := hk.length_le
  rw [← take_Fw h hl, take_pre hk (Nat.le_refl _), List.take_length]
end
end K76


set_option Elab.async false
set_option linter.all false
set_option maxRecDepth 100000
set_option maxHeartbeats 4000000
/-! K76q: the rows that the defs make. -/
namespace K76
open PySem PySem.Spec PyProof.Rows L2 Ny
section
variable {c : Cs} {Q : D → Mm → Prop} {E : Addr → Mm → Prop} {M : Mm} {r : List (List Int)} {s : Int}
theorem ix_rule (h : ruR r) {x i : Int} (h1 : 1 ≤ x) (h2 : x ≤ (r.length : Int)) (hi : i = x - 1) {Q : D → Mm → Prop} {M : Mm} : Wp (oIx (dR r) (.int i) M) Q E = Q (dW (nxw r x)) M :=
  wp_ix_R (j := (x - 1).toNat) (by omega) (h.get h1 h2).1
theorem src_list {w : List Int} {Q : D → Mm → Prop} {M : Mm} : Wp (oList [dW w] M) Q E = Q (.ref M.length) (M ++ [.lst (w.map D.int)]) := rfl
theorem wp_slice {n : Nat} {ds : List D} {k : Int} (h : M[n]? = some (.lst ds)) (hk : 0 ≤ k) (hl : k ≤ ds.length) : Wp (oSl (.ref n) none (some k) M) Q E = Q (.ref M.length) (M ++ [.lst (ds.take k.toNat)]) := by
  simp only [oSl, h]
  have e : Ny.cutD ds none (some k) = ds.take k.toNat := by
    unfold Ny.cutD HT.sIx
    dsimp only
    rw [if_neg (by omega), Nat.min_eq_left (by omega)]
    simp
  rw [e]; rfl
@[simp] theorem wp_dSl {f : Sl → Mm → Res D} {fl fh : Sl → Mm → Res (Option Int)} {ρ : Sl} : Wp (dSl f fl fh ρ M) Q E = Wp (f ρ M) (fun x M1 => Wp (fl ρ M1) (fun l M2 => Wp (fh ρ M2) (fun h M3 => Wp (oSl x l h M3) Q E) E) E) E := by unfold dSl; simp
@[simp] theorem wp_partN {ρ : Sl} {QO : Option Int → Mm → Prop} : Wp (dPart none ρ M) QO E = QO none M := rfl
@[simp] theorem wp_partS {f : Sl → Mm → Res D} {ρ : Sl} {QO : Option Int → Mm → Prop} : Wp (dPart (some f) ρ M) QO E = Wp (f ρ M) (fun d M1 => onI (fun i => QO (some i) M1) d) E := by
  unfold dPart
  rw [wp_bind]; congr 1; funext d M1; cases d <;> rfl
theorem wp_raw_first {g : Nat} {n : Int} (hg : GrAt c r s g M) (h : Gd r s) (h0 : 0 ≤ n) (h1 : n ≤ 20000) (q : ∀ J, Q (dW (Up r s n.toNat)) (M ++ J)) : Wp (den_raw_first_signs c [.ref g, .int n] M) Q E := by
  rw [den_raw_first_signs, wp_b2]
  unfold g_raw_first_signs
  simp [startD, wp_dVar, wp_rule hg, wp_start hg, ix_rule h.ru h.s1.1 h.s1.2, src_list]
  refine wps_while (I := fun m ρ M' => ∃ k, m + k = n.toNat ∧ ρ = [some (.ref g), some (.int n), some (.ref M.length), some (.int ((k : Int) + 1))] ∧ M' = M ++ [.lst ((Fw r s k).map D.int)] ∧ ((Fw r s k).length ≤ n.toNat + 4)) n.toNat (by omega) ⟨0, by omega, rfl, rfl, by have := (h.ru.len h.s1.1 h.s1.2).2; show (nxw r s).length ≤ _; omega⟩ ?_
  rintro m ρ M' ⟨k, hm, rfl, rfl, hb⟩
  have hl := (Fw_len h k).1
  simp [wp_dVar, wp_len_lst gnew]
  by_cases hlt : ((Fw r s k).length : Int) < n
  · simp [hlt]
    obtain ⟨x, hx, hx2, he⟩ := Fw_at h k
    have hx3 : ((Fw r s k).map D.int)[k + 1]? = some (.int x) := by rw [List.getElem?_map, hx]; rfl
    have hxl := h.ru.len hx2.1 hx2.2
    rw [wp_meth]
    simp [wp_dVar]
    rw [wp_rule (show GrAt c r s g _ from gapp hg _), wp_ix_lst gnew (atI_of (j := k + 1) (by omega) hx3)]
    simp
    rw [ix_rule h.ru hx2.1 hx2.2 rfl]
    unfold dW
    rw [wp_ext_tup gnew, set_new]
    refine ⟨small (by rw [List.length_map, List.length_map]; omega), m - 1, by omega, k + 1, by omega, ?_, ?_, ?_⟩
    · simp
    · rw [he, List.map_append]
    · rw [he, List.length_append]; omega
  · simp [hlt]
    rw [wp_slice gnew h0 (by rw [List.length_map]; omega)]
    have e : (Fw r s k).take n.toNat = Up r s n.toNat := take_Fw h (by omega)
    rw [← List.map_take, e]
    have z := q [.lst ((Fw r s k).map D.int), .lst ((Up r s n.toNat).map D.int)]
    rw [wp_tuple (ds := (Up r s n.toNat).map D.int) (by simp)]
    simpa [dW] using z
theorem wp_first {g : Nat} {d : D} (hg : GrAt c r s g M) (h : Gd r s) (hd : Pl d) (q : ∀ n, d = .int n → 0 ≤ n → n ≤ 20000 → ∀ J, Q (dW (Up r s n.toNat)) (M ++ J)) (e : wiI 0 20000 d = false → E c.NoNumber M) : Wp (den_first_signs c [.ref g, d] M) Q E := by
  rw [den_first_signs, wp_b2]
  unfold g_first_signs
  simp [startD, wp_dVar, wp_check_grown (GrAt.ty hg) kitOwn_self, wp_is_within hd]
  cases hw : wiI 0 20000 d with
  | false => simp [e hw]
  | true =>
    cases d with
    | int n =>
      simp only [wiI, Bool.and_eq_true, decide_eq_true_eq] at hw
      simp
      exact wp_raw_first hg h hw.1 hw.2 (q n rfl hw.1 hw.2)
    | _ => simp [wiI] at hw
theorem wp_first_nt {d e : D} {t : Value} (h1 : tyD M d = some t) (h2 : kitOwn c.Grown t = some false) (he : E c.NoGrown M) : Wp (den_first_signs c [d, e] M) Q E := by
  rw [den_first_signs, wp_b2]
  unfold g_first_signs
  simp [startD, wp_dVar, wp_check_grown h1 h2, he]
theorem rangeD_succ (lo : Int) (m : Nat) : rangeD lo (m + 1) = .int lo :: rangeD (lo + 1) m := by
  unfold rangeD
  rw [List.range_succ_eq_map, List.map_cons, List.map_map]
  congr 1
  · simp
  · apply List.map_congr_left
    intro i _
    simp only [Function.comp]
    congr 1
    omega
theorem rangeD_zero (lo : Int) : rangeD lo 0 = [] := rfl
theorem wp_row {n : Int} (h : Gd r s) (h0 : 0 ≤ n) (h1 : n ≤ 20000) (q : ∀ J, Q (dW (Up r s n.toNat)) (M ++ J)) : Wp (den__law_row c [dR r, .int s, .int n] M) Q E := by
  rw [den__law_row, wp_b3]
  unfold g__law_row
  simp [startD, wp_dVar, ix_rule h.ru h.s1.1 h.s1.2, src_list]
  rw [wp_rng1 ⟨by omega, by omega⟩]
  refine wp_forL (I := fun xs ρ M' => ∃ (i m k : Nat) (X : Option D), xs = rangeD i m ∧ i + m = n.toNat ∧ k ≤ i ∧ (k = i ∨ n.toNat ≤ (Fw r s k).length) ∧ ρ = [some (dR r), some (.int s), some (.int n), some (.ref M.length), X] ∧ M' = M ++ [.lst ((Fw r s k).map D.int)] ∧ ((Fw r s k).length ≤ n.toNat + 4))
    (fun _ _ _ _ => rfl) ?_ ?_ _ _ _ ⟨0, n.toNat, 0, none, rfl, by omega, by omega, .inl rfl, rfl, rfl, by have := (h.ru.len h.s1.1 h.s1.2).2; show (nxw r s).length ≤ _; omega⟩
  · rintro x xs ρ M' ⟨i, m, k, X, hx, him, hki, hk, rfl, rfl, hb⟩
    cases m with
    | zero => rw [rangeD_zero] at hx; cases hx
    | succ m =>
      rw [rangeD_succ] at hx
      cases hx
      have hl := (Fw_len h k).1
      simp [wp_dVar, wp_len_lst gnew]
      by_cases hlt : ((Fw r s k).length : Int) < n
      · have hki' : k = i := by
          rcases hk with q | q
          · exact q
          · omega
        subst hki'
        simp [hlt]
        obtain ⟨x, hx, hx2, he⟩ := Fw_at h k
        have hx3 : ((Fw r s k).map D.int)[k + 1]? = some (.int x) := by rw [List.getElem?_map, hx]; rfl
        have hxl := h.ru.len hx2.1 hx2.2
        rw [wp_meth]
        simp [wp_dVar]
        rw [wp_ix_lst gnew (atI_of (j := k + 1) (by omega) hx3)]
        simp
        rw [ix_rule h.ru hx2.1 hx2.2 rfl]
        unfold dW
        rw [wp_ext_tup gnew, set_new]
        refine ⟨small (by rw [List.length_map, List.length_map]; omega), k + 1, m, ?_, by omega, k + 1, by omega, by omega, ?_, ?_⟩
        · simp
        · rw [he, List.map_append]
        · rw [he, List.length_append]; omega
      · simp [hlt]
        refine ⟨i + 1, m, ?_, by omega, k, by omega, ?_, rfl, hb⟩
        · simp
        · exact .inr (by omega)
  · rintro ρ M' ⟨i, m, k, X, hx, him, hki, hk, rfl, rfl, hb⟩
    have hm : m = 0 := by
      cases m with
      | zero => rfl
      | succ m => rw [rangeD_succ] at hx; cases hx
    have hl := (Fw_len h k).1
    simp [wp_dVar]
    rw [wp_slice gnew h0 (by rw [List.length_map]; omega)]
    have e : (Fw r s k).take n.toNat = Up r s n.toNat := take_Fw h (by omega)
    rw [← List.map_take, e]
    have z := q [.lst ((Fw r s k).map D.int), .lst ((Up r s n.toNat).map D.int)]
    rw [wp_tuple (ds := (Up r s n.toNat).map D.int) (by simp)]
    simpa [dW] using z
end
end K76


set_option Elab.async false
set_option linter.all false
set_option maxRecDepth 100000
set_option maxHeartbeats 4000000
/-! K76r: rows grown at once. -/
namespace K76
open PySem PySem.Spec PyProof.Rows L2 Ny
section
variable {c : Cs} {Q : D → Mm → Prop} {E : Addr → Mm → Prop} {M : Mm} {r : List (List Int)} {s : Int}
theorem Pl_ints (w : List Int) : ∀ d ∈ w.map D.int, Pl d := fun d hd => by
  obtain ⟨x, _, rfl⟩ := List.mem_map.mp hd
  trivial
theorem sgB_ok {w : List Int} {most : Int} (h : LR r w) (hl : (w.length : Int) ≤ most) : sgB r.length most (w.map D.int) = true := by
  simp only [sgB, List.length_map, hl, decide_true, Bool.true_and, List.all_map, List.all_eq_true]
  intro x hx
  have z := h x hx
  simp [wiI, z.1, z.2]
theorem wp_check_signs {w : List Int} (hr : ruR r) (h : LR r w) (hl : w.length ≤ 400) (q : ∀ J, Q .non (M ++ J)) : Wp (den_check_signs c [dR r, dW w] M) Q E := by
  rw [den_check_signs, wp_b2]
  unfold g_check_signs
  simp [startD, wp_dVar]
  refine wp_check_rule (fun _ J => ?_) (fun z => absurd hr z)
  unfold dW
  refine wp_are_signs (Pl_ints w) (by omega) fun J' => ?_
  rw [sgB_ok h (by omega)]
  simp
  exact q _
theorem wp_check_times {t : Int} (h0 : 0 ≤ t) (h1 : t ≤ 200) (q : Q .non M) : Wp (den_check_times c [.int t] M) Q E := by
  rw [den_check_times, wp_b1]
  unfold g_check_times
  simp [startD, wp_dVar, wp_is_within (d := .int t) trivial, wiI, h0, h1, q]
theorem ex_len (hr : ruR r) : ∀ {w : List Int}, LR r w → (exw r w).length ≤ 4 * w.length ∧ LR r (exw r w)
  | [], _ => ⟨by simp [exw], fun x hx => by simp [exw] at hx⟩
  | x :: w, h => by
    have hx := h x List.mem_cons_self
    obtain ⟨h1, h2⟩ := ex_len hr (w := w) fun y hy => h y (List.mem_cons_of_mem _ hy)
    have e : exw r (x :: w) = nxw r x ++ exw r w := by simp [exw]
    rw [e]
    have z := hr.len hx.1 hx.2
    refine ⟨by rw [List.length_append, List.length_cons]; omega, (hr.lr hx.1 hx.2).app h2⟩
theorem wp_raw_grow {w : List Int} (hr : ruR r) (h : LR r w) (hl : w.length ≤ 20000) (q : ∀ J, Q (dW (exw r w)) (M ++ J)) : Wp (den_raw_grow c [dR r, dW w] M) Q E := by
  rw [den_raw_grow, wp_b2]
  unfold g_raw_grow
  simp [startD, wp_dVar, wp_src_W, small]
  refine wp_forL (I := fun xs ρ M' => ∃ (dn rs : List Int) (X : Option D), w = dn ++ rs ∧ xs = rs.map D.int ∧ ρ = [some (dR r), some (dW w), some (.ref M.length), X] ∧ M' = M ++ [.lst ((exw r dn).map D.int)]) (fun _ _ _ _ => rfl) ?_ ?_ _ _ _ ⟨[], w, none, rfl, rfl, rfl, by simp [exw]⟩
  · rintro x xs ρ M' ⟨dn, rs, X, rfl, hx, rfl, rfl⟩
    cases rs with
    | nil => cases hx
    | cons y rs =>
      rw [List.map_cons] at hx
      cases hx
      have hy := h y (by simp)
      have hdn := (ex_len hr (w := dn) fun z hz => h z (by simp [hz])).1
      have hyl := hr.len hy.1 hy.2
      simp
      rw [wp_meth]
      simp [wp_dVar]
      rw [ix_rule hr hy.1 hy.2 rfl]
      conv in dW (nxw r y) => unfold dW
      rw [wp_ext_tup gnew, set_new]
      refine ⟨small (by simp at hl ⊢; omega), dn ++ [y], rs, ?_, rfl, ?_⟩
      · simp
      · simp [exw]
  · rintro ρ M' ⟨dn, rs, X, rfl, hx, rfl, rfl⟩
    have : rs = [] := by cases rs with
      | nil => rfl
      | cons y rs => cases hx
    subst this
    simp [wp_dVar]
    rw [wp_tuple gnew]
    have z := q [.lst ((exw r (dn ++ [])).map D.int)]
    simpa [dW] using z
theorem Gt_len (h : Gd r s) : ∀ t, (Gt r s t).length ≤ 4 ^ t ∧ LR r (Gt r s t)
  | 0 => ⟨by simp [Gt], fun x hx => by
    have e : x = s := by simpa [Gt] using hx
    rw [e]; exact h.s1⟩
  | t + 1 => by
    obtain ⟨h1, h2⟩ := Gt_len h t
    obtain ⟨h3, h4⟩ := ex_len h.ru h2
    refine ⟨?_, h4⟩
    show (exw r (Gt r s t)).length ≤ _
    rw [Nat.pow_succ]; omega
theorem flat_len (w : List Int) : ((w.map fun x => ((nxw r x).length : Int)).sum) = ((exw r w).length : Int) := by
  induction w with
  | nil => simp [exw]
  | cons x w ih =>
    have e : exw r (x :: w) = nxw r x ++ exw r w := by simp [exw]
    rw [List.map_cons, List.sum_cons, ih, e, List.length_append]
    omega
theorem wp_grow_often {t : Int} (h : Gd r s) (h0 : 0 ≤ t) (h1 : t ≤ 5) (q : ∀ J, Q (dW (Gt r s t.toNat)) (M ++ J)) : Wp (den_grow_often c [dR r, dW [s], .int t] M) Q E := by
  rw [den_grow_often, wp_b3]
  unfold g_grow_often
  simp [startD, wp_dVar]
  refine wp_check_signs h.ru (fun x hx => by have e : x = s := by simpa using hx
                                             rw [e]; exact h.s1) (by simp) fun J0 => ?_
  refine wp_check_times h0 (by omega) ?_
  rw [wp_rng1 ⟨by omega, by omega⟩]
  refine wp_forL (I := fun xs ρ M' => ∃ (i m : Nat) (X : Option D) (J : Mm), xs = rangeD i m ∧ i + m = t.toNat ∧ ρ = [some (dR r), some (dW [s]), some (.int t), some (dW (Gt r s i)), X, none] ∧ M' = M ++ J) (fun _ _ _ _ => rfl) ?_ ?_ _ _ _ ⟨0, t.toNat, none, J0, rfl, by omega, rfl, rfl⟩
  · rintro x xs ρ M' ⟨i, m, X, J, hx, him, rfl, rfl⟩
    cases m with
    | zero => rw [rangeD_zero] at hx; cases hx
    | succ m =>
      rw [rangeD_succ] at hx
      cases hx
      obtain ⟨hl, hlr⟩ := Gt_len h i
      have hi : 4 ^ i ≤ 256 := Nat.pow_le_pow_right (by omega) (show i ≤ 4 by omega)
      simp [wp_dVar, wp_src_W]
      refine wp_lcM (v := fun d => match d with
        | .int x => .int ((nxw r x).length : Int)
        | d => d) (fun M' => M' = M ++ J) (fun _ _ => rfl) _ _ rfl (fun x hx M' hM => ?_) (fun M' hM => ?_)
      · subst hM
        obtain ⟨y, hy, rfl⟩ := List.mem_map.mp hx
        have hy2 := hlr y hy
        refine ⟨_, rfl, ?_⟩
        simp [wipeD, wp_dVar]
        rw [ix_rule h.ru hy2.1 hy2.2 rfl]
        simp
      · subst hM
        have e : ((Gt r s i).map D.int).map (fun d => match d with
          | .int x => D.int ((nxw r x).length : Int)
          | d => d) = ((Gt r s i).map fun x => ((nxw r x).length : Int)).map D.int := by
          rw [List.map_map, List.map_map]; rfl
        rw [e]
        refine ⟨small (by simp; omega), ?_⟩
        rw [wp_sum gnew, flat_len]
        have hx4 := (ex_len h.ru hlr).1
        have hng : ¬ (20000 : Int) < ((exw r (Gt r s i)).length : Int) := by omega
        simp [hng]
        refine wp_raw_grow h.ru hlr (by omega) fun J' => ?_
        refine ⟨i + 1, m, ?_, by omega, rfl, _, by rw [List.append_assoc, List.append_assoc]⟩
        simp
  · rintro ρ M' ⟨i, m, X, J, hx, him, rfl, rfl⟩
    have hm : m = 0 := by
      cases m with
      | zero => rfl
      | succ m => rw [rangeD_succ] at hx; cases hx
    have hi : i = t.toNat := by omega
    subst hi
    simp [wp_dVar]
    exact q J
end
end K76


set_option Elab.async false
set_option linter.all false
set_option maxRecDepth 100000
set_option maxHeartbeats 4000000
/-! K76s: places and roads (plain Lean). -/
namespace K76
open PySem PySem.Spec PyProof.Rows L2 Ny
/-- a sign grown j times, word by word -/
def pw (r : List (List Int)) : Nat → Int → List Int
  | 0, x => [x]
  | j + 1, x => (nxw r x).flatMap (pw r j)
def wl (r : List (List Int)) (j : Nat) (x : Int) : Int := ((pw r j x).length : Int)
section
variable {r : List (List Int)} {s : Int}
theorem len_flat (p : Int → List Int) (w : List Int) : ((w.flatMap p).length : Int) = (w.map fun x => ((p x).length : Int)).sum := by
  induction w with
  | nil => simp
  | cons x w ih => rw [List.flatMap_cons, List.length_append, List.map_cons, List.sum_cons]; push_cast; rw [ih]
theorem wl_succ (j : Nat) (x : Int) : wl r (j + 1) x = ((nxw r x).map (wl r j)).sum := by
  unfold wl
  rw [pw, len_flat]
theorem pw_pos (h : ruR r) : ∀ (j : Nat) {x : Int}, 1 ≤ x → x ≤ (r.length : Int) → 1 ≤ (pw r j x).length
  | 0, x, _, _ => by simp [pw]
  | j + 1, x, h1, h2 => by
    rw [pw]
    have hl := (h.len h1 h2).1
    have hlr := h.lr h1 h2
    cases q : nxw r x with
    | nil => rw [q] at hl; simp at hl
    | cons y w =>
      have hy := hlr y (by rw [q]; simp)
      have := pw_pos h j hy.1 hy.2
      rw [List.flatMap_cons, List.length_append]
      omega
theorem pw_start (h : Gd r s) : ∀ j, j + 1 ≤ (pw r j s).length
  | 0 => by simp [pw]
  | j + 1 => by
    have ih := pw_start h j
    obtain ⟨h1, h2⟩ := h.first
    have hlr := h.ru.lr h.s1.1 h.s1.2
    rw [pw]
    cases q : nxw r s with
    | nil => rw [q] at h1; simp at h1
    | cons a w =>
      rw [q] at h1 h2
      simp at h2
      subst h2
      cases w with
      | nil => simp at h1
      | cons y w =>
        have hy := hlr y (by rw [q]; simp)
        have := pw_pos h.ru j hy.1 hy.2
        rw [List.flatMap_cons, List.flatMap_cons, List.length_append, List.length_append]
        omega
theorem ex_pw : ∀ (j : Nat) (x : Int), exw r (pw r j x) = pw r (j + 1) x
  | 0, x => by simp [exw, pw]
  | j + 1, x => by
    show (((nxw r x).flatMap (pw r j)).flatMap (nxw r)) = (nxw r x).flatMap (pw r (j + 1))
    rw [List.flatMap_assoc]
    congr 1
    funext y
    exact ex_pw j y
theorem pw_Gt : ∀ t, pw r t s = Gt r s t
  | 0 => rfl
  | t + 1 => by rw [← ex_pw, pw_Gt t]; rfl
/-- where the n-th sign of a word's growth lies -/
theorem pick (p : Int → List Int) : ∀ (w : List Int) (n : Nat), n < (w.flatMap p).length → ∃ (i : Nat) (y : Int) (m : Nat), w[i]? = some y ∧ m < (p y).length ∧ (w.flatMap p)[n]? = (p y)[m]?
  | [], n, h => by simp at h
  | x :: w, n, h => by
    rw [List.flatMap_cons] at h ⊢
    by_cases hn : n < (p x).length
    · exact ⟨0, x, n, rfl, hn, List.getElem?_append_left hn⟩
    · rw [List.length_append] at h
      obtain ⟨i, y, m, h1, h2, h3⟩ := pick p w (n - (p x).length) (by omega)
      exact ⟨i + 1, y, m, by simpa using h1, h2, by rw [List.getElem?_append_right (by omega)]; exact h3⟩
/-- letters lead from x to y -/
def Pth (r : List (List Int)) : Int → List Int → Int → Prop
  | x, [], y => x = y
  | x, l :: ls, y => ∃ z, (1 ≤ l ∧ (nxw r x)[(l - 1).toNat]? = some z) ∧ Pth r z ls y
theorem Pth.snoc : ∀ {ls : List Int} {x y z l : Int}, Pth r x ls y → 1 ≤ l → (nxw r y)[(l - 1).toNat]? = some z → Pth r x (ls ++ [l]) z
  | [], x, y, z, l, h, h1, h2 => by
    have e : x = y := h
    subst e
    exact ⟨z, ⟨h1, h2⟩, rfl⟩
  | m :: ls, x, y, z, l, h, h1, h2 => by
    obtain ⟨u, h3, h4⟩ := h
    exact ⟨u, h3, Pth.snoc h4 h1 h2⟩
/-- a table of sizes -/
def rowD (r : List (List Int)) (j : Nat) : List D := (List.range r.length).map fun (i : Nat) => D.int (wl r j ((i : Int) + 1))
theorem rowD_get (j : Nat) {x : Int} (h1 : 1 ≤ x) (h2 : x ≤ (r.length : Int)) : (rowD r j)[(x - 1).toNat]? = some (.int (wl r j x)) := by
  unfold rowD
  rw [List.getElem?_map, List.getElem?_range (by omega)]
  show some (D.int (wl r j (((x - 1).toNat : Int) + 1))) = _
  rw [show (((x - 1).toNat : Int) + 1) = x by omega]
theorem rowD_len (j : Nat) : (rowD r j).length = r.length := by simp [rowD]
theorem rowD_zero : rowD r 0 = (List.replicate r.length (1 : Int)).map D.int := by
  unfold rowD
  apply List.ext_getElem?
  intro i
  rw [List.getElem?_map, List.getElem?_map]
  by_cases h : i < r.length
  · rw [List.getElem?_range h, List.getElem?_replicate, if_pos h]; simp [wl, pw]
  · rw [List.getElem?_eq_none (by simpa using h), List.getElem?_eq_none (by simpa using h)]; rfl
theorem rowD_succ (j : Nat) : rowD r (j + 1) = (r.map fun w => ((w.map (wl r j)).sum)).map D.int := by
  unfold rowD
  apply List.ext_getElem?
  intro i
  rw [List.getElem?_map, List.getElem?_map, List.getElem?_map]
  by_cases h : i < r.length
  · rw [List.getElem?_range h, List.getElem?_eq_getElem h]
    show some (D.int (wl r (j + 1) ((i : Int) + 1))) = _
    rw [wl_succ]
    have e : nxw r ((i : Int) + 1) = r[i] := by
      unfold nxw
      rw [show (((i : Int) + 1) - 1).toNat = i by omega, List.getElem?_eq_getElem h]; rfl
    rw [e]; rfl
  · rw [List.getElem?_eq_none (by simpa using h), List.getElem?_eq_none (by simpa using h)]; rfl
end
end K76


set_option Elab.async false
set_option linter.all false
set_option maxRecDepth 100000
set_option maxHeartbeats 4000000
/-! K76t: roads, as the defs make them. -/
namespace K76
open PySem PySem.Spec PyProof.Rows L2 Ny
section
variable {c : Cs} {Q : D → Mm → Prop} {E : Addr → Mm → Prop} {M : Mm} {r : List (List Int)} {s : Int}
theorem wp_lcI {ι : Type} {emb v : ι → D} {ck : Ck} {h : D → Sl → Option Sl} {t : Sl → Mm → Res Bool} {f : Sl → Mm → Res D} {ρw : Sl} {QL : List D → Mm → Prop} {E : Addr → Mm → Prop} (P : Mm → Prop) (hs : ∀ M, P M → sameL ck M = true) :
    ∀ (xs : List ι) (M : Mm), P M → (∀ x ∈ xs, ∀ M, P M → ∃ ρ1, h (emb x) ρw = some ρ1 ∧ Wp (t ρ1 M) (fun k M2 => k = true ∧ Wp (f ρ1 M2) (fun y M3 => P M3 ∧ y = v x) noE) noE) → (∀ M', P M' → QL (xs.map v) M') → Wp (lcL ck h t f ρw (xs.map emb) M) QL E
  | [], M, hP, _, fin => by simpa [lcL] using fin M hP
  | x :: xs, M, hP, step, fin => by
    obtain ⟨ρ1, e1, s⟩ := step x List.mem_cons_self M hP
    simp only [List.map_cons, lcL, e1]
    rw [wp_bindN]
    refine (s.imp (fun k M2 z => ?_)).any
    obtain ⟨rfl, z⟩ := z
    rw [if_pos rfl, wp_bindN]
    refine z.imp fun y M3 z3 => ?_
    obtain ⟨p3, rfl⟩ := z3
    rw [if_pos (hs M3 p3), wp_bindN]
    exact wp_lcI (QL := fun ys M4 => QL (v x :: ys) M4) P hs xs M3 p3 (fun x' hx => step x' (List.mem_cons_of_mem _ hx)) (fun M' hP' => by simpa using fin M' hP')
theorem wp_worths {a j : Nat} (hr : ruR r) (ha : M[a]? = some (.lst (rowD r j))) (q : ∀ J, Q (.ref (M ++ J).length) (M ++ J ++ [.lst (rowD r (j + 1))])) : Wp (den_worths_grown c [dR r, .ref a] M) Q E := by
  rw [den_worths_grown, wp_b2]
  unfold g_worths_grown
  simp [startD, wp_dVar, wp_src_R]
  refine wp_lcI (emb := dW) (v := fun w => .int ((w.map (wl r j)).sum)) (fun M' => ∃ J, M' = M ++ J) (fun _ _ => rfl) r M ⟨[], by simp⟩ (fun w hw M' hM => ?_) (fun M' hM => ?_)
  · obtain ⟨J, rfl⟩ := hM
    refine ⟨_, rfl, ?_⟩
    simp [wipeD, wp_dVar, wp_src_W]
    refine wp_lcI (emb := D.int) (v := fun x => .int (wl r j x)) (fun M' => M' = M ++ J) (fun _ _ => rfl) w _ rfl (fun x hx M' hM => ?_) (fun M' hM => ?_)
    · subst hM
      refine ⟨_, rfl, ?_⟩
      have hx2 := (hr.2 w hw).2 x hx
      simp [wipeD, wp_dVar]
      rw [wp_ix_lst (gapp ha J) (atI_of (j := (x - 1).toNat) (by omega) (rowD_get j hx2.1 hx2.2))]
      simp
    · subst hM
      have e : w.map (fun x => D.int (wl r j x)) = (w.map (wl r j)).map D.int := by rw [List.map_map]; rfl
      have hl := (hr.2 w hw).1
      refine ⟨small (by rw [List.length_map]; omega), ?_⟩
      rw [e, wp_sum gnew]
      exact ⟨⟨_, by rw [List.append_assoc]⟩, rfl⟩
  · obtain ⟨J, rfl⟩ := hM
    have e : r.map (fun w => D.int ((w.map (wl r j)).sum)) = rowD r (j + 1) := by rw [rowD_succ, List.map_map]; rfl
    rw [e]
    refine ⟨small (by rw [rowD_len]; have := hr.1; omega), ?_⟩
    have z := q J
    simpa using z
/-- the list of sizes stands at z, all its tables below B -/
def SzAt (r : List (List Int)) (k z B : Nat) (M : Mm) : Prop := ∃ refs : List D, M[z]? = some (.lst refs) ∧ z < B ∧ refs.length = k + 1 ∧ ∀ j, j ≤ k → ∃ a, refs[j]? = some (.ref a) ∧ a < B ∧ a ≠ z ∧ M[a]? = some (.lst (rowD r j))
theorem SzAt.app {k z B : Nat} (h : SzAt r k z B M) (J : Mm) : SzAt r k z B (M ++ J) := by
  obtain ⟨refs, h1, h2, h3, h4⟩ := h
  exact ⟨refs, gapp h1 J, h2, h3, fun j hj => let ⟨a, e1, e2, e3, e4⟩ := h4 j hj; ⟨a, e1, e2, e3, gapp e4 J⟩⟩
theorem SzAt.mono {k z B B' : Nat} (h : SzAt r k z B M) (hB : B ≤ B') : SzAt r k z B' M := by
  obtain ⟨refs, h1, h2, h3, h4⟩ := h
  exact ⟨refs, h1, by omega, h3, fun j hj => let ⟨a, e1, e2, e3, e4⟩ := h4 j hj; ⟨a, e1, by omega, e3, e4⟩⟩
theorem SzAt.set {k z B f : Nat} {v : MO} (h : SzAt r k z B M) (hf : B ≤ f) : SzAt r k z B (M.set f v) := by
  obtain ⟨refs, h1, h2, h3, h4⟩ := h
  refine ⟨refs, by rw [List.getElem?_set_ne (by omega)]; exact h1, h2, h3, fun j hj => ?_⟩
  obtain ⟨a, e1, e2, e3, e4⟩ := h4 j hj
  exact ⟨a, e1, e2, e3, by rw [List.getElem?_set_ne (by omega)]; exact e4⟩
/-- one more table, at a -/
theorem SzAt.more {k z B a : Nat} {refs : List D} (h : SzAt r k z B M) (hr : M[z]? = some (.lst refs)) (ha : M[a]? = some (.lst (rowD r (k + 1)))) (hB : B ≤ a) : SzAt r (k + 1) z (a + 1) (M.set z (.lst (refs ++ [.ref a]))) := by
  obtain ⟨refs', h1, h2, h3, h4⟩ := h
  rw [hr] at h1
  cases h1
  refine ⟨_, by rw [List.getElem?_set_self (glt hr)], by omega, by simp [h3], fun j hj => ?_⟩
  by_cases hjk : j ≤ k
  · obtain ⟨b, e1, e2, e3, e4⟩ := h4 j hjk
    exact ⟨b, by rw [List.getElem?_append_left (by omega)]; exact e1, by omega, e3, by rw [List.getElem?_set_ne (Ne.symm e3)]; exact e4⟩
  · have : j = k + 1 := by omega
    subst this
    refine ⟨a, by rw [← h3, List.getElem?_concat_length], by omega, by omega, ?_⟩
    rw [List.getElem?_set_ne (by omega)]; exact ha
theorem wp_sz {k z B j : Nat} {i : Int} {x y : Int} (h : SzAt r k z B M) (hj : j ≤ k) (hi : atI (List.range (k + 1)) i = some j) (h1 : 1 ≤ x) (h2 : x ≤ (r.length : Int)) (hy : y = x - 1) : Wp (oIx (.ref z) (.int i) M) (fun d M1 => Wp (oIx d (.int y) M1) Q E) E = Q (.int (wl r j x)) M := by
  obtain ⟨refs, e1, e2, e3, e4⟩ := h
  obtain ⟨a, f1, f2, f3, f4⟩ := e4 j hj
  have hat : atI refs i = some (.ref a) := by
    unfold atI at hi ⊢
    rw [List.length_range] at hi
    rw [e3]
    cases q : ixN (k + 1) i with
    | none => rw [q] at hi; cases hi
    | some n =>
      rw [q] at hi
      have hn : n < k + 1 := by
        have := (List.getElem?_eq_some_iff.mp (show (List.range (k + 1))[n]? = some j from hi)).1
        simpa using this
      have e : (List.range (k + 1))[n]? = some n := List.getElem?_range hn
      have e' : n = j := by
        have z := e.symm.trans (show (List.range (k + 1))[n]? = some j from hi)
        exact Option.some.inj z
      subst e'
      exact f1
  rw [wp_ix_lst e1 hat, wp_ix_lst f4 (atI_of (j := (x - 1).toNat) (by omega) (rowD_get j h1 h2))]
end
end K76


set_option Elab.async false
set_option linter.all false
set_option maxRecDepth 100000
set_option maxHeartbeats 4000000
/-! K76u: the road to a place, the sign at its end. -/
namespace K76
open PySem PySem.Spec PyProof.Rows L2 Ny
section
variable {c : Cs} {Q : D → Mm → Prop} {E : Addr → Mm → Prop} {M : Mm} {r : List (List Int)} {s : Int}
theorem SzAt.facts {k z B j : Nat} (h : SzAt r k z B M) (hj : j ≤ k) : ∃ refs a, M[z]? = some (.lst refs) ∧ refs.length = k + 1 ∧ refs[j]? = some (.ref a) ∧ M[a]? = some (.lst (rowD r j)) := by
  obtain ⟨refs, h1, h2, h3, h4⟩ := h
  obtain ⟨a, e1, e2, e3, e4⟩ := h4 j hj
  exact ⟨refs, a, h1, h3, e1, e4⟩
theorem atI_last {α : Type} {xs : List α} {k : Nat} {x : α} (hl : xs.length = k + 1) (h : xs[k]? = some x) : atI xs (-1) = some x := by
  unfold atI ixN
  rw [if_neg (by decide), if_pos (by omega)]
  show xs[((-1 : Int) + (xs.length : Int)).toNat]? = some x
  rw [show ((-1 : Int) + (xs.length : Int)).toNat = k by omega]
  exact h
theorem wp_mul_lst {m : Nat} {a : List D} {k : Int} (h : M[m]? = some (.lst a)) (h1 : 0 ≤ k) (h2 : k ≤ 100) (h3 : a.length ≤ 100) : Wp (oMul (.ref m) (.int k) M) Q E = Q (.ref M.length) (M ++ [.lst (List.replicate k.toNat a).flatten]) := by
  have hs : a.length * k.toNat ≤ sizeLine := small (Nat.le_trans (Nat.mul_le_mul h3 (show k.toNat ≤ 100 by omega)) (by decide))
  simp only [oMul, h]
  rw [if_pos ⟨by omega, by omega, hs⟩]; rfl
@[simp] theorem wp_hTup2 {i j : Nat} {a b : D} {ρ : Sl} {QS : Sl → Mm → Prop} : Wp (hTup 2 (hCons (hName i) (hCons (hName j) hNil)) (.tup [a, b]) ρ M) QS E = QS ((ρ.set i (some a)).set j (some b)) M := rfl
theorem ones (n : Nat) : (List.replicate n [D.int 1]).flatten = (List.replicate n (1 : Int)).map D.int := by
  induction n with
  | zero => rfl
  | succ n ih => rw [List.replicate_succ, List.flatten_cons, ih, List.replicate_succ]; rfl
theorem downD_succ (hi : Int) (m : Nat) : downD hi (m + 1) = .int hi :: downD (hi - 1) m := by
  unfold downD
  rw [List.range_succ_eq_map, List.map_cons, List.map_map]
  congr 1
  · simp
  · apply List.map_congr_left
    intro i _
    simp only [Function.comp]
    congr 1
    omega
theorem set_app {M X : Mm} {z : Nat} {v : MO} (h : M.length ≤ z) : (M ++ X).set z v = M ++ X.set (z - M.length) v := List.set_append_right _ _ h
theorem wp_raw_road {g : Nat} {n : Int} (hg : GrAt c r s g M) (h : Gd r s) (h0 : 0 ≤ n) (h1 : n ≤ 399) (q : ∀ J ls x k, Pth r s ls x → (pw r k s)[n.toNat]? = some x → Q (dW ls) (M ++ J)) : Wp (den_raw_road c [.ref g, .int n] M) Q E := by
  have hr := h.ru
  have hs1 := h.s1
  rw [den_raw_road, wp_b2]
  unfold g_raw_road
  have hlen : (r.length : Int) ≤ 40 := by have := hr.1; omega
  simp [startD, wp_dVar, small]
  rw [wp_rule (show GrAt c r s g _ from gapp hg _)]
  simp
  rw [wp_mul_lst gnew (by omega) (by omega) (by simp)]
  simp [small, ones]
  refine wps_while (I := fun m ρ M' => ∃ k, m + k = 400 ∧ ρ = [some (.ref g), some (.int n), some (.ref (M.length + 2)), none, none, none, none, none, none] ∧ (∃ J, M' = M ++ J) ∧ ∃ B, SzAt r k (M.length + 2) B M' ∧ B ≤ M'.length) 400 (by omega) ⟨0, rfl, by simp, ⟨_, rfl⟩, M.length + 3, ?_, by simp⟩ ?_
  · refine ⟨[.ref (M.length + 1)], by simp, by omega, rfl, fun j hj => ?_⟩
    have : j = 0 := by omega
    subst this
    refine ⟨M.length + 1, rfl, by omega, by omega, ?_⟩
    rw [rowD_zero]; simp
  · rintro m ρ M' ⟨k, hm, rfl, ⟨J, rfl⟩, B, hz, hB⟩
    obtain ⟨refs, a, f1, f2, f3, f4⟩ := hz.facts (Nat.le_refl k)
    have hst := pw_start h k
    simp [wp_dVar]
    rw [wp_ix_lst f1 (atI_last f2 f3), wp_start (show GrAt c r s g _ from gapp hg _)]
    simp
    rw [wp_ix_lst f4 (atI_of (j := (s - 1).toNat) (by omega) (rowD_get k hs1.1 hs1.2))]
    simp
    by_cases hc : wl r k s ≤ n
    · have hk : k + 1 ≤ 399 := by unfold wl at hc; omega
      simp [hc, wp_dVar, wp_len_lst f1, f2, show ¬ ((400 : Int) < (k : Int) + 1) by omega]
      rw [wp_meth]
      simp [wp_dVar]
      refine ⟨⟨refs, f1⟩, ?_⟩
      rw [wp_rule (show GrAt c r s g _ from gapp hg _), wp_ix_lst f1 (atI_last f2 f3)]
      refine wp_worths hr f4 fun J' => ?_
      have e1 : ((M ++ J) ++ J' ++ [MO.lst (rowD r (k + 1))])[M.length + 2]? = some (.lst refs) := gapp (gapp f1 J') _
      rw [wp_app e1]
      refine ⟨by rw [f2]; have := @small (k + 2) (by omega); omega, m - 1, by omega, k + 1, by omega, ?_, ((M ++ J) ++ J').length + 1, ?_, ?_⟩
      · rw [List.append_assoc, List.append_assoc, set_app (by omega)]; exact ⟨_, rfl⟩
      · exact SzAt.more ((hz.app J').app _) e1 (by rw [List.getElem?_concat_length]) (by simp at hB ⊢; omega)
      · rw [List.length_set, List.length_append (as := M ++ J ++ J')]; exact Nat.le_refl _
    · simp [hc, small]
      have hf : ∀ v, ((M ++ (J ++ [v]))[M.length + J.length]? : Option MO) = some v := fun v => by rw [← List.append_assoc, ← List.length_append, List.getElem?_concat_length]
      have hset : ∀ v w : MO, (M ++ (J ++ [v])).set (M.length + J.length) w = M ++ (J ++ [w]) := fun v w => by rw [← List.append_assoc, ← List.length_append, set_new, List.append_assoc]
      have hgr : ∀ X, GrAt c r s g (M ++ X) := fun X => gapp hg X
      have hzs : ∀ v, SzAt r k (M.length + 2) B (M ++ (J ++ [v])) := fun v => by rw [← List.append_assoc]; exact hz.app _
      have hn : n.toNat < (pw r k s).length := by unfold wl at hc; omega
      rw [wp_start (hgr _)]
      rw [wp_len_lst (ds := refs) (by rw [← List.append_assoc]; exact gapp f1 _)]
      simp [f2]
      rw [wp_rngD ⟨by omega, by omega, by omega, by omega⟩]
      rw [show ((k : Int) + 1 - 2 - -1).toNat = k by omega, show ((k : Int) + 1 - 2) = (k : Int) - 1 by omega]
      refine wp_forL (I := fun xs ρ M' => ∃ (i : Nat) (x : Int) (m : Nat) (ls : List Int) (X6 X7 X8 : Option D), xs = downD ((i : Int) - 1) i ∧ i ≤ k ∧ ρ = [some (.ref g), some (.int n), some (.ref (M.length + 2)), some (.ref (M.length + J.length)), some (.int x), some (.int m), X6, X7, X8] ∧ M' = M ++ (J ++ [.lst (ls.map D.int)]) ∧ (1 ≤ x ∧ x ≤ (r.length : Int)) ∧ m < (pw r i x).length ∧ (pw r k s)[n.toNat]? = (pw r i x)[m]? ∧ Pth r s ls x ∧ ls.length + i = k) (fun _ _ _ _ => rfl) ?_ ?_ _ _ _
        ⟨k, s, n.toNat, [], none, none, none, rfl, Nat.le_refl _, by simp; omega, by simp, hs1, hn, rfl, rfl, by simp⟩
      · rintro x0 xs ρ M' ⟨i, x, m', ls, X6, X7, X8, hx, hik, rfl, rfl, hx1, hm', hp, hP, hls⟩
        cases i with
        | zero => cases hx
        | succ j =>
          rw [show (((j + 1 : Nat) : Int) - 1) = (j : Int) by omega, downD_succ] at hx
          cases hx
          simp [wp_dVar]
          rw [wp_rule (hgr _), ix_rule hr hx1.1 hx1.2 rfl, wp_enum_W]
          refine wp_forL (I := fun xs ρ M' => ∃ (t : Nat) (pre rest : List Int) (m : Nat) (X7 X8 : Option D), xs = numF t (rest.map D.int) ∧ nxw r x = pre ++ rest ∧ pre.length = t ∧ ρ = [some (.ref g), some (.int n), some (.ref (M.length + 2)), some (.ref (M.length + J.length)), some (.int x), some (.int m), some (.int j), X7, X8] ∧ M' = M ++ (J ++ [.lst (ls.map D.int)]) ∧ m < (rest.flatMap (pw r j)).length ∧ (pw r k s)[n.toNat]? = (rest.flatMap (pw r j))[m]?) (fun _ _ _ _ => rfl) ?_ ?_ _ _ _
            ⟨0, [], nxw r x, m', X7, X8, rfl, rfl, rfl, by simp, rfl, hm', hp⟩
          · rintro x0 xs ρ M' ⟨t, pre, rest, m, Y7, Y8, hx, hpr, hpl, rfl, rfl, hm, hpm⟩
            cases rest with
            | nil => cases hx
            | cons y rest =>
              rw [List.map_cons, numF] at hx
              cases hx
              have hy1 : 1 ≤ y ∧ y ≤ (r.length : Int) := hr.lr hx1.1 hx1.2 y (by rw [hpr]; simp)
              obtain ⟨refs', a', f1', f2', f3', f4'⟩ := (hzs (.lst (ls.map D.int))).facts (show j ≤ k by omega)
              rw [List.flatMap_cons, List.length_append] at hm
              rw [List.flatMap_cons] at hpm
              simp [wp_dVar]
              rw [wp_ix_lst f1' (atI_of (j := j) rfl f3'), wp_ix_lst f4' (atI_of (j := (y - 1).toNat) (by omega) (rowD_get j hy1.1 hy1.2))]
              simp
              have hv : wl r j y = ((pw r j y).length : Int) := rfl
              by_cases hc : m < (pw r j y).length
              · simp [hv, hc, wp_dVar]
                rw [wp_meth]
                simp [wp_dVar]
                have ht : (nxw r x)[t]? = some y := by rw [hpr, ← hpl, List.getElem?_append_right (Nat.le_refl _)]; simp
                rw [wp_app (hf _)]
                refine ⟨by rw [List.length_map]; have := @small (ls.length + 1) (by omega); omega, j, rfl, by omega, y, m, ⟨rfl, rfl⟩, ls ++ [(t : Int) + 1], by rw [hset]; simp, hy1, hc, by rw [hpm, List.getElem?_append_left hc], Pth.snoc hP (by omega) (by rw [show ((t : Int) + 1 - 1).toNat = t by omega]; exact ht), by rw [List.length_append]; simp; omega⟩
              · simp [hv, hc, wp_dVar]
                rw [wp_ix_lst f1' (atI_of (j := j) rfl f3'), wp_ix_lst f4' (atI_of (j := (y - 1).toNat) (by omega) (rowD_get j hy1.1 hy1.2))]
                simp [hv]
                refine ⟨t + 1, pre ++ [y], rest, rfl, by rw [hpr]; simp, by simp [hpl], m - (pw r j y).length, by omega, ?_, by rw [hpm, List.getElem?_append_right (by omega)]⟩
                rw [List.length_flatMap] at hm
                have : m - (pw r j y).length < (rest.map fun a => (pw r j a).length).sum := by omega
                simpa using this
          · rintro ρ M' ⟨t, pre, rest, m, Y7, Y8, hx, hpr, hpl, rfl, rfl, hm, hpm⟩
            cases rest with
            | nil => simp at hm
            | cons y rest => cases hx
      · rintro ρ M' ⟨i, x, m', ls, X6, X7, X8, hx, hik, rfl, rfl, hx1, hm', hp, hP, _⟩
        have hi : i = 0 := by
          cases i with
          | zero => rfl
          | succ i => rw [show (((i + 1 : Nat) : Int) - 1) = (i : Int) by omega, downD_succ] at hx; cases hx
        subst hi
        have hm0 : m' = 0 := by simp [pw] at hm'; exact hm'
        subst hm0
        simp [wp_dVar]
        rw [wp_tuple (hf _)]
        have z := q (J ++ [.lst (ls.map D.int)]) ls x k hP (by rw [hp]; simp [pw])
        simpa [dW] using z
end
end K76


set_option Elab.async false
set_option linter.all false
set_option maxRecDepth 100000
set_option maxHeartbeats 4000000
/-! K76v: the sign at a place; equal grown things; the hand and its draws. -/
namespace K76
open PySem PySem.Spec PyProof.Rows L2 Ny
section
variable {c : Cs} {Q : D → Mm → Prop} {E : Addr → Mm → Prop} {M : Mm} {r : List (List Int)} {s : Int}
theorem wp_raw_sign_by {g : Nat} {ls : List Int} {x : Int} (hg : GrAt c r s g M) (h : Gd r s) (hp : Pth r s ls x) (q : Q (.int x) M) : Wp (den_raw_sign_by c [.ref g, dW ls] M) Q E := by
  have hr := h.ru
  rw [den_raw_sign_by, wp_b2]
  unfold g_raw_sign_by
  simp [startD, wp_dVar, wp_start hg, wp_src_W]
  refine wp_forL (I := fun xs ρ M' => ∃ (rest : List Int) (y : Int) (X : Option D), xs = rest.map D.int ∧ ρ = [some (.ref g), some (dW ls), some (.int y), X] ∧ M' = M ∧ (1 ≤ y ∧ y ≤ (r.length : Int)) ∧ Pth r y rest x) (fun _ _ _ _ => rfl) ?_ ?_ _ _ _ ⟨ls, s, none, rfl, rfl, rfl, h.s1, hp⟩
  · rintro x0 xs ρ M' ⟨rest, y, X, hx, rfl, rfl, hy, hP⟩
    cases rest with
    | nil => cases hx
    | cons l rest =>
      rw [List.map_cons] at hx
      cases hx
      obtain ⟨z, ⟨h1, h2⟩, h3⟩ := hP
      have hz := hr.lr hy.1 hy.2 z (List.mem_of_getElem? h2)
      simp [wp_dVar, wp_rule hg]
      rw [ix_rule hr hy.1 hy.2 rfl, wp_ix_W (j := (l - 1).toNat) (by omega) h2]
      exact ⟨rest, rfl, z, rfl, rfl, hz, h3⟩
  · rintro ρ M' ⟨rest, y, X, hx, rfl, rfl, hy, hP⟩
    cases rest with
    | nil =>
      have e : y = x := hP
      subst e
      simp [wp_dVar]
      exact q
    | cons l rest => cases hx
theorem Up_any (h : Gd r s) {n a b : Nat} (ha : n < a) (hb : n < b) : (Up r s a)[n]? = (Up r s b)[n]? := by
  have := (Fw_len h n).1
  rw [Up_get h ha (k := n) (by omega), Up_get h hb (k := n) (by omega)]
theorem wp_sign_at {g : Nat} {n : Int} (hg : GrAt c r s g M) (h : Gd r s) (h0 : 0 ≤ n) (h1 : n ≤ 399) (q : ∀ J x, (Up r s 400)[n.toNat]? = some x → Q (.int x) (M ++ J)) : Wp (den_sign_at c [.ref g, .int n] M) Q E := by
  rw [den_sign_at, wp_b2]
  unfold g_sign_at
  simp [startD, wp_dVar]
  rw [den_road_of, wp_b2]
  unfold g_road_of
  simp [startD, wp_dVar, wp_check_grown (GrAt.ty hg) kitOwn_self]
  refine wp_check_number (d := .int n) trivial (fun _ => ?_) (fun z => absurd h0 z)
  refine wp_raw_road hg h h0 h1 fun J ls x k hp hx => ?_
  refine wp_raw_sign_by (gapp hg J) h hp (q J x ?_)
  rw [pw_Gt, Gt_up h] at hx
  have hl := (List.getElem?_eq_some_iff.mp hx).1
  rw [Up_len h] at hl
  rw [← hx]
  exact Up_any h (by omega) hl
theorem wp_sign_nt {d e : D} {t : Value} (h1 : tyD M d = some t) (h2 : kitOwn c.Grown t = some false) (he : E c.NoGrown M) : Wp (den_sign_at c [d, e] M) Q E := by
  rw [den_sign_at, wp_b2]
  unfold g_sign_at
  simp [startD, wp_dVar]
  rw [den_road_of, wp_b2]
  unfold g_road_of
  simp [startD, wp_dVar, wp_check_grown h1 h2, he]
theorem wp_sign_nn {g : Nat} {d : D} (hg : GrAt c r s g M) (hd : Pl d) (hn : ¬ nat0 d) (he : E c.NoNumber M) : Wp (den_sign_at c [.ref g, d] M) Q E := by
  rw [den_sign_at, wp_b2]
  unfold g_sign_at
  simp [startD, wp_dVar]
  rw [den_road_of, wp_b2]
  unfold g_road_of
  simp [startD, wp_dVar, wp_check_grown (GrAt.ty hg) kitOwn_self]
  exact wp_check_number hd (fun z => absurd z hn) fun _ => he
/-! ### equal grown things -/
theorem wp_Grown_eq {g g2 : Nat} {r2 : List (List Int)} {s2 : Int} (h1 : GrAt c r s g M) (h2 : GrAt c r2 s2 g2 M) : Wp (den_Grown_eq c [.ref g, .ref g2] M) Q E = Q (.bl (decide (r = r2) && decide (s = s2))) M := by
  rw [den_Grown_eq, wp_b2]
  unfold g_Grown_eq
  simp [startD, wp_dVar, wp_isi_own (GrAt.ty h2) kitOwn_self, wp_rule h1, wp_rule h2]
  by_cases e : r = r2
  · subst e; simp [wp_start h1, wp_start h2]
  · simp [e]
theorem wp_eqI2 {g g2 : Nat} {r2 : List (List Int)} {s2 : Int} (h1 : GrAt c r s g M) (h2 : GrAt c r2 s2 g2 M) : Wp (oEqI c.Grown (den_Grown_eq c) oEq (.ref g) (.ref g2) M) Q E = Q (.bl (decide (r = r2) && decide (s = s2))) M := by
  have e1 : M[g]? = some (.ins c.Grown [("rule", dR r), ("start", .int s)]) := h1
  have e2 : M[g2]? = some (.ins c.Grown [("rule", dR r2), ("start", .int s2)]) := h2
  simp only [oEqI, e1, tyC, e2, beq_self_eq_true, and_self, if_true, wp_bindN]
  rw [wp_Grown_eq h1 h2]; rfl
theorem wp_eqI_tup {g : Nat} {ds : List D} (h1 : GrAt c r s g M) : Wp (oEqI c.Grown (den_Grown_eq c) oEq (.ref g) (.tup ds) M) Q E = Q (.bl false) M := by
  have e1 : M[g]? = some (.ins c.Grown [("rule", dR r), ("start", .int s)]) := h1
  have e3 : tyD M (.tup ds) = some (.type "tuple") := rfl
  have e4 : kitOwn c.Grown (.type "tuple") = some false := by simp [kitOwn, basicTys]
  simp only [oEqI, e1, tyC, and_self, if_true, wp_bindN]
  rw [den_Grown_eq, wp_b2]
  unfold g_Grown_eq
  simp [startD, wp_dVar, wp_isi_own e3 e4]
/-! ### the hand -/
def Hnd (h hc : Nat) (M : Mm) : Prop := ∃ (cells : List Int) (i a b t : Int), M[h]? = some (.lst [.ref hc, .int i, .int a, .int b, .int t]) ∧ M[hc]? = some (.lst (cells.map D.int)) ∧ 0 ≤ i ∧ hc ≠ h
theorem Hnd.app {h hc : Nat} (H : Hnd h hc M) (J : Mm) : Hnd h hc (M ++ J) := by
  obtain ⟨cells, i, a, b, t, h1, h2, h3, h4⟩ := H
  exact ⟨cells, i, a, b, t, gapp h1 J, gapp h2 J, h3, h4⟩
def subOf (d : D) (ρ : Sl) (o i : D) (M2 : Mm) : Res Sl := match o, i with
  | .ref n, .int k => match M2[n]? with
    | some (.lst ds) => match ixN ds.length k with
      | some j => .ok ρ (M2.set n (.lst (ds.set j d)))
      | none => .stuck
    | _ => .stuck
  | _, _ => .stuck
@[simp] theorem wp_hSub {fo fi : Sl → Mm → Res D} {d : D} {ρ : Sl} {QS : Sl → Mm → Prop} : Wp (hSub fo fi d ρ M) QS E = Wp (fo ρ M) (fun o M1 => Wp (fi ρ M1) (fun i M2 => Wp (subOf d ρ o i M2) QS E) E) E := by
  show Wp ((fo ρ M).bind fun o M1 => (fi ρ M1).bind fun i M2 => subOf d ρ o i M2) QS E = _
  simp only [wp_bind]
theorem wp_sub {h : Nat} {ds : List D} {d : D} {k : Int} {j : Nat} {ρ : Sl} {QS : Sl → Mm → Prop} (hM : M[h]? = some (.lst ds)) (hk : k = (j : Int)) (hj : j < ds.length) : Wp (subOf d ρ (.ref h) (.int k) M) QS E = QS ρ (M.set h (.lst (ds.set j d))) := by
  have e : ixN ds.length k = some j := by
    unfold ixN
    rw [if_pos (by omega), hk]
    simp [hj]
  simp only [subOf, hM, e]; rfl
theorem set_get {h : Nat} {mo x : MO} (hM : M[h]? = some x) : (M.set h mo)[h]? = some mo := List.getElem?_set_self (glt hM)
section
variable {h : Nat} {x0 x1 x2 x3 x4 : D} (hM : M[h]? = some (.lst [x0, x1, x2, x3, x4]))
include hM
theorem hl0 : Wp (oIx (.ref h) (.int 0) M) Q E = Q x0 M := wp_ix_lst hM (atI_of (j := 0) rfl rfl)
theorem hl1 : Wp (oIx (.ref h) (.int 1) M) Q E = Q x1 M := wp_ix_lst hM (atI_of (j := 1) rfl rfl)
theorem hl2 : Wp (oIx (.ref h) (.int 2) M) Q E = Q x2 M := wp_ix_lst hM (atI_of (j := 2) rfl rfl)
theorem hl3 : Wp (oIx (.ref h) (.int 3) M) Q E = Q x3 M := wp_ix_lst hM (atI_of (j := 3) rfl rfl)
theorem hl4 : Wp (oIx (.ref h) (.int 4) M) Q E = Q x4 M := wp_ix_lst hM (atI_of (j := 4) rfl rfl)
variable {d : D} {ρ : Sl} {QS : Sl → Mm → Prop}
theorem hs1 : Wp (subOf d ρ (.ref h) (.int 1) M) QS E = QS ρ (M.set h (.lst [x0, d, x2, x3, x4])) := wp_sub hM (j := 1) rfl (by simp)
theorem hs2 : Wp (subOf d ρ (.ref h) (.int 2) M) QS E = QS ρ (M.set h (.lst [x0, x1, d, x3, x4])) := wp_sub hM (j := 2) rfl (by simp)
theorem hs3 : Wp (subOf d ρ (.ref h) (.int 3) M) QS E = QS ρ (M.set h (.lst [x0, x1, x2, d, x4])) := wp_sub hM (j := 3) rfl (by simp)
theorem hs4 : Wp (subOf d ρ (.ref h) (.int 4) M) QS E = QS ρ (M.set h (.lst [x0, x1, x2, x3, d])) := wp_sub hM (j := 4) rfl (by simp)
end
theorem wp_draw {h hc : Nat} {n : Int} (H : Hnd h hc M) (h1 : 1 ≤ n) (h2 : n < 1073741824) (q : ∀ k M', 0 ≤ k → k < n → Hnd h hc M' → Gr [h] M M' → Q (.int k) M') : Wp (den__law_draw c [.ref h, .int n] M) Q E := by
  obtain ⟨cells, i, a, b, t, hM, hc1, hi, hne⟩ := H
  rw [den__law_draw, wp_b2]
  unfold g__law_draw
  rw [wps_seq]
  refine WpS.imp (E := E) (Q := fun o ρ M' => o = .nx ∧ ∃ (i a b : Int) (X : Option D), ρ = [some (.ref h), some (.int n), X, none, none] ∧ 0 ≤ i ∧ M'[h]? = some (.lst [.ref hc, .int i, .int a, .int b, .int t]) ∧ M'[hc]? = some (.lst (cells.map D.int)) ∧ Gr [h] M M') ?_ ?_
  · simp [startD, wp_dVar]
    rw [hl2 hM]
    simp
    by_cases ha : a = 0
    · simp only [ha, if_true]
      rw [hl1 hM, hl0 hM, wp_len_lst hc1]
      simp
      by_cases hlt : i < cells.length
      · simp only [hlt, if_true]
        rw [hl0 hM, hl1 hM]
        have hcell : (cells.map D.int)[i.toNat]? = some (.int (cells[i.toNat]'(by omega))) := by rw [List.getElem?_map, List.getElem?_eq_getElem (by omega)]; rfl
        rw [wp_ix_lst hc1 (atI_of (j := i.toNat) (by omega) hcell)]
        rw [hl1 hM]
        simp
        rw [hs1 hM]
        simp only [List.getElem?_cons_zero, List.getElem?_cons_succ]
        rw [hl3 (set_get hM)]
        simp
        refine ⟨.inr (by omega), ?_⟩
        rw [hs3 (set_get hM)]
        simp
        have hset : ∀ v w : MO, (M.set h v).set h w = M.set h w := fun v w => List.set_set ..
        have hfin : ∀ (x y : Int), Hnd h hc M → (M.set h (.lst [.ref hc, .int (i + 1), .int x, .int y, .int t]))[h]? = some (.lst [.ref hc, .int (i + 1), .int x, .int y, .int t]) ∧ (M.set h (.lst [.ref hc, .int (i + 1), .int x, .int y, .int t]))[hc]? = some (.lst (cells.map D.int)) := fun x y _ => ⟨set_get hM, by rw [List.getElem?_set_ne (Ne.symm hne)]; exact hc1⟩
        have H : Hnd h hc M := ⟨cells, i, a, b, t, hM, hc1, hi, hne⟩
        refine ⟨⟨by omega, by omega, by decide⟩, ?_⟩
        split
        · rw [hs2 (set_get hM), hset]
          exact ⟨by simp, i + 1, by omega, ⟨_, _, (hfin _ _ H).1⟩, (hfin _ _ H).2, Gr.set (by simp)⟩
        · rw [hs2 (set_get hM), hset]
          exact ⟨by simp, i + 1, by omega, ⟨_, _, (hfin _ _ H).1⟩, (hfin _ _ H).2, Gr.set (by simp)⟩
      · simp only [hlt, if_false]
        exact ⟨i, hi, ⟨a, b, hM⟩, hc1, Gr.rfl'⟩
    · simp only [ha, if_false]
      exact ⟨i, hi, ⟨a, b, hM⟩, hc1, Gr.rfl'⟩
  · rintro o ρ M' ⟨rfl, i, a, b, X, rfl, hi, hM, hc1, G⟩
    rw [thenS_nx]
    simp [wp_dVar]
    rw [hl2 hM]
    simp
    by_cases ha : 0 < a
    · simp only [ha, if_true]
      rw [hl2 hM]
      simp
      refine ⟨by omega, ?_⟩
      rw [hl2 hM]
      simp
      refine ⟨by unfold CDiv; split <;> omega, ?_⟩
      rw [hs2 hM]
      simp
      exact q _ _ (Int.emod_nonneg _ (by omega)) (Int.emod_lt_of_pos _ (by omega)) ⟨cells, i, _, b, t, set_get hM, by rw [List.getElem?_set_ne (Ne.symm hne)]; exact hc1, hi, hne⟩ (G.trans (Gr.set (by simp)))
    · simp only [ha, if_false]
      rw [hl4 hM]
      simp
      rw [hs4 hM]
      simp
      rw [hl3 (set_get hM), hl4 (set_get hM)]
      simp
      have z1 := Int.emod_nonneg ((b + 7919 * (t + 1)) * 48271) (show (2147483647 : Int) ≠ 0 by omega)
      have z2 := Int.emod_lt_of_pos ((b + 7919 * (t + 1)) * 48271) (show (0 : Int) < 2147483647 by omega)
      refine ⟨.inl (by omega), .inr (by omega), ⟨by omega, by omega⟩, .inl (by omega), ⟨by omega, by omega⟩, by omega, ?_⟩
      exact q _ _ (Int.emod_nonneg _ (by omega)) (Int.emod_lt_of_pos _ (by omega)) ⟨cells, i, a, b, _, set_get hM, by rw [List.getElem?_set_ne (Ne.symm hne)]; exact hc1, hi, hne⟩ (G.trans (Gr.set (by simp)))
end
end K76


set_option Elab.async false
set_option linter.all false
set_option maxRecDepth 100000
set_option maxHeartbeats 4000000
/-! K76x: the hand made; something drawn; a rule drawn. -/
namespace K76
open PySem PySem.Spec PyProof.Rows L2 Ny
section
variable {c : Cs} {Q : D → Mm → Prop} {E : Addr → Mm → Prop} {M : Mm} {r : List (List Int)} {s : Int}
theorem Hnd.lt {h hc : Nat} (H : Hnd h hc M) : h < M.length := by
  obtain ⟨cells, i, a, b, t, h1, h2, h3, h4⟩ := H
  exact glt h1
theorem Hnd.lt2 {h hc : Nat} (H : Hnd h hc M) : hc < M.length := by
  obtain ⟨cells, i, a, b, t, h1, h2, h3, h4⟩ := H
  exact glt h2
theorem Hnd.set {h hc l : Nat} {v : MO} (H : Hnd h hc M) (h1 : l ≠ h) (h2 : l ≠ hc) : Hnd h hc (M.set l v) := by
  obtain ⟨cells, i, a, b, t, f1, f2, f3, f4⟩ := H
  exact ⟨cells, i, a, b, t, by rw [List.getElem?_set_ne h1]; exact f1, by rw [List.getElem?_set_ne h2]; exact f2, f3, f4⟩
theorem grBig {S : List Nat} {M M' : Mm} {n : Nat} {v : MO} (G : Gr S M M') (hn : M.length ≤ n) : Gr S M (M'.set n v) := ⟨by rw [List.length_set]; exact G.len, fun i hs hi => by rw [List.getElem?_set_ne (by omega)]; exact G.get i hs hi⟩
theorem wp_any {h hc l : Nat} {ds : List D} (H : Hnd h hc M) (hl : M[l]? = some (.lst ds)) (hlh : l ≠ h) (h1 : 1 ≤ ds.length) (h2 : ds.length < 1000000) (q : ∀ d M', d ∈ ds → Hnd h hc M' → Gr [h] M M' → Q d M') : Wp (den__law_any c [.ref h, .ref l] M) Q E := by
  rw [den__law_any, wp_b2]
  unfold g__law_any
  simp [startD, wp_dVar, wp_len_lst hl]
  refine wp_draw H (by omega) (by omega) fun k M' h0 hk H' G => ?_
  have e : ds[k.toNat]? = some (ds[k.toNat]'(by omega)) := List.getElem?_eq_getElem _
  rw [wp_ix_lst (G.at hl (by simpa using hlh)) (atI_of (j := k.toNat) (by omega) e)]
  exact q _ _ (List.mem_of_getElem? e) H' G
def cellOf (x : Int) : Int := (if x < 0 then -x else x) % 1000000000000000000000000000000000000
theorem cut60 (ds : List D) : Ny.cutD ds none (some 60) = ds.take 60 := by
  unfold Ny.cutD HT.sIx
  dsimp only
  rw [if_neg (by decide), Nat.sub_zero, List.drop_zero]
  show ds.take (min 60 ds.length) = _
  rw [← List.take_eq_take_min]
theorem wp_hand {A : Amb} (q : ∀ h hc M', Hnd h hc M' → Gr [] M M' → Q (.ref h) M') : Wp (den__law_hand A c [.ext (.ref A.sa)] M) Q E := by
  rw [den__law_hand, wp_b1]
  unfold g__law_hand dSlS
  simp [startD, wp_dVar, oSlScr, cut60]
  rw [wp_src_lst gnew, ← List.map_take]
  refine wp_lcI (emb := D.int) (v := fun x => .int (cellOf x)) (fun M' => M' = M ++ [.lst ((A.sn.take 60).map D.int)]) (fun M' h => by subst h; simp) _ _ rfl (fun x hx M' hM => ?_) (fun M' hM => ?_)
  · subst hM
    refine ⟨_, rfl, ?_⟩
    simp [wipeD, wp_dVar, CPow, cellOf]
  · subst hM
    have e : (A.sn.take 60).map (fun x => D.int (cellOf x)) = ((A.sn.take 60).map cellOf).map D.int := by rw [List.map_map]; rfl
    rw [e]
    have hsz : ((A.sn.take 60).map cellOf).length ≤ 60 := by simp; omega
    simp [wp_dVar]
    refine ⟨small (by omega), ?_⟩
    have hl1 : (M ++ [MO.lst (List.take 60 (List.map D.int A.sn)), MO.lst (List.take 60 (List.map (D.int ∘ cellOf) A.sn))])[M.length + 1]? = some (MO.lst (List.take 60 (List.map (D.int ∘ cellOf) A.sn))) := by simp
    rw [wp_len_lst hl1]
    simp
    refine ⟨.inl (by omega), small (by omega), ?_⟩
    have z := q (M.length + 2) (M.length + 1) (M ++ [MO.lst (List.take 60 (List.map D.int A.sn)), MO.lst (List.take 60 (List.map (D.int ∘ cellOf) A.sn)), MO.lst [D.ref (List.length M + 1), D.int 0, D.int 0, D.int (29 + 3 * ↑(min 60 A.sn.length)), D.int 0]]) ⟨(A.sn.take 60).map cellOf, 0, 0, _, 0, by simp; rfl, by simp [List.map_take], by omega, by omega⟩ Gr.app
    exact z
theorem ints_of {P : Int → Prop} : ∀ {ys : List D}, (∀ y ∈ ys, ∃ x, y = .int x ∧ P x) → ∃ T : List Int, ys = T.map D.int ∧ ∀ x ∈ T, P x
  | [], _ => ⟨[], rfl, fun x hx => by simp at hx⟩
  | y :: ys, h => by
    obtain ⟨x, rfl, hx⟩ := h y List.mem_cons_self
    obtain ⟨T, rfl, hT⟩ := ints_of fun z hz => h z (List.mem_cons_of_mem _ hz)
    exact ⟨x :: T, rfl, fun z hz => (List.mem_cons.mp hz).elim (fun e => e ▸ hx) (hT z)⟩
theorem wp_add_lst {m n : Nat} {a b : List D} (h1 : M[m]? = some (.lst a)) (h2 : M[n]? = some (.lst b)) : Wp (oAdd (.ref m) (.ref n) M) Q E = (a.length + b.length ≤ sizeLine ∧ Q (.ref M.length) (M ++ [.lst (a ++ b)])) := by
  simp only [oAdd, h1, h2]; rw [wp_ite]; by_cases h : a.length + b.length ≤ sizeLine <;> simp [h]
def wOk (size : Int) (w : List Int) : Prop := (1 ≤ w.length ∧ w.length ≤ 3) ∧ ∀ x ∈ w, 1 ≤ x ∧ x ≤ size
theorem app_text {L p : Nat} {w : List Int} {ρ : Sl} (h4 : ρ[4]? = some (some (.ref L))) (h6 : ρ[6]? = some (some (.ref p))) (hL : M[L]? = some (.lst (r.map dW))) (hp : M[p]? = some (.lst (w.map D.int))) (hr : r.length ≤ 5) : Wp (dMeth oApp (dVar 4) (dConsA (dCall oTuple (dConsA (dVar 6) dNilA)) dNilA) ρ M) Q E = Q .non (M.set L (.lst ((r ++ [w]).map dW))) := by
  rw [wp_meth, wp_var h4]
  apply propext
  constructor
  · rintro ⟨n, ds, e, h1, h2⟩
    cases e
    simp only [wp_consA, wp_dCall, wp_nilA, wp_var h6, wp_tuple hp, wp_app hL] at h2
    simpa [dW] using h2.2
  · intro h
    refine ⟨L, _, rfl, hL, ?_⟩
    simp only [wp_consA, wp_dCall, wp_nilA, wp_var h6, wp_tuple hp, wp_app hL]
    exact ⟨by have := @small (r.length + 1) (by omega); simp; omega, by simpa [dW] using h⟩
theorem wp_law_rule {h hc : Nat} (H : Hnd h hc M) (q : ∀ r s M', Gd r s → r.length ≤ 5 → Hnd h hc M' → Gr [h] M M' → Q (.tup [dR r, .int s]) M') : Wp (den__law_rule c [.ref h, .int 5] M) Q E := by
  rw [den__law_rule, wp_b2]
  unfold g__law_rule
  simp [startD, wp_dVar]
  refine wp_draw H (by omega) (by omega) fun k0 M1 hk0 hk1 H1 G1 => ?_
  simp [wp_dVar]
  refine wp_draw H1 (by omega) (by omega) fun k2 M2 hk2 hk3 H2 G2 => ?_
  have G12 := G1.trans G2
  have hlt := H2.lt
  simp [small, wp_dVar]
  rw [wp_rng2 ⟨by omega, by omega, by omega, by omega⟩]
  rw [show ((1 + k0 + 1 - 1 : Int)).toNat = (1 + k0).toNat by omega]
  refine wp_forL (I := fun xs ρ M' => ∃ (i m : Nat) (r : List (List Int)) (X5 X6 X7 : Option D), xs = rangeD ((i : Int) + 1) m ∧ i + m = (1 + k0).toNat ∧ ρ = [some (.ref h), some (.int 5), some (.int (1 + k0)), some (.int (1 + k2)), some (.ref M2.length), X5, X6, X7] ∧ M'[M2.length]? = some (.lst (r.map dW)) ∧ r.length = i ∧ (∀ w ∈ r, wOk (1 + k0) w) ∧ (∀ w, 1 + k2 ≤ (i : Int) → r[k2.toNat]? = some w → 2 ≤ w.length ∧ w[0]? = some (1 + k2)) ∧ Hnd h hc M' ∧ Gr [h] M M') (fun _ _ _ _ => rfl) ?_ ?_ _ _ _ ⟨0, (1 + k0).toNat, [], none, none, none, rfl, by omega, by simp, by simp, rfl, by simp, by simp, H2.app _, G12.trans Gr.app⟩
  · rintro x0 xs ρ M' ⟨i, m, r, X5, X6, X7, hx, him, rfl, hL, hrl, hw, hst, HM, GM⟩
    cases m with
    | zero => rw [rangeD_zero] at hx; cases hx
    | succ m =>
      rw [rangeD_succ] at hx
      cases hx
      simp [wp_dVar]
      refine wp_draw HM (by omega) (by omega) fun k4 M4 hk4 hk5 H4 G4 => ?_
      simp
      rw [wp_rng1 ⟨by omega, by omega⟩]
      have hL4 := G4.at hL (by simp; omega)
      refine wp_lcA (S := fun y => ∃ x, y = .int x ∧ 1 ≤ x ∧ x ≤ 1 + k0) (fun N => Hnd h hc N ∧ Gr [h] M4 N) (fun _ _ => rfl) _ _ ⟨H4, Gr.rfl'⟩ (fun x hx N hN => ?_) (fun ys N hN hyl hys => ?_)
      · refine ⟨_, rfl, ?_⟩
        simp [wipeD, wp_dVar]
        refine wp_draw hN.1 (by omega) (by omega) fun k6 M6 hk6 hk7 H6 G6 => ?_
        simp
        exact ⟨⟨H6, hN.2.trans G6⟩, by omega, by omega⟩
      · obtain ⟨T, rfl, hT⟩ := ints_of hys
        simp [rangeD_length] at hyl
        have hTl : 1 ≤ T.length ∧ T.length ≤ 3 := by omega
        obtain ⟨HN, GN⟩ := hN
        have hLN := GN.at hL4 (by simp; omega)
        have hltN := HN.lt
        have hi0 : (i : Int) + 1 ≤ 1 + k0 := by omega
        have inv : ∀ (N' : Mm) (w : List Int), Gr [h] M4 N' → Hnd h hc N' → wOk (1 + k0) w → ((i : Int) + 1 = 1 + k2 → 2 ≤ w.length ∧ w[0]? = some (1 + k2)) → ∃ (i_1 : Nat) (m_1 : Nat), rangeD ((i : Int) + 1 + 1) m = rangeD ((i_1 : Int) + 1) m_1 ∧ i_1 + m_1 = (1 + k0).toNat ∧ ∃ x : List (List Int), (N'.set M2.length (.lst ((r ++ [w]).map dW)))[M2.length]? = some (MO.lst (List.map dW x)) ∧ x.length = i_1 ∧ (∀ (w : List Int), w ∈ x → wOk (1 + k0) w) ∧ (∀ (w : List Int), 1 + k2 ≤ (i_1 : Int) → x[k2.toNat]? = some w → 2 ≤ w.length ∧ w[0]? = some (1 + k2)) ∧ Hnd h hc (N'.set M2.length (.lst ((r ++ [w]).map dW))) ∧ Gr [h] M (N'.set M2.length (.lst ((r ++ [w]).map dW))) := by
          intro N' w G' H' hw' hs'
          refine ⟨i + 1, m, by push_cast; rfl, by omega, r ++ [w], set_get (G'.at hL4 (by simp; omega)), by simp [hrl], ?_, ?_, ?_, ?_⟩
          · intro v hv
            rcases List.mem_append.mp hv with z | z
            · exact hw v z
            · have : v = w := by simpa using z
              rw [this]; exact hw'
          · intro v hv1 hv2
            by_cases hk : 1 + k2 ≤ (i : Int)
            · rw [List.getElem?_append_left (by omega)] at hv2
              exact hst v hk hv2
            · have e : k2.toNat = r.length := by omega
              rw [e, List.getElem?_concat_length] at hv2
              cases hv2
              exact hs' (by omega)
          · exact H'.set (by omega) (by have := H2.lt2; omega)
          · exact grBig ((GM.trans G4).trans G') G12.len
        refine ⟨small (by rw [List.length_map]; omega), ?_⟩
        have hlst : (N ++ [MO.lst (T.map D.int)])[N.length]? = some (MO.lst (T.map D.int)) := gnew
        split
        · rename_i hst1
          have z1 : 1 ≤ sizeLine := small (by omega)
          refine ⟨z1, ?_⟩
          have hl1 : (N ++ [MO.lst (T.map D.int), MO.lst [D.int (1 + k2)]])[N.length]? = some (MO.lst (T.map D.int)) := gnew
          have hl2 : (N ++ [MO.lst (T.map D.int), MO.lst [D.int (1 + k2)]])[N.length + 1]? = some (MO.lst [D.int (1 + k2)]) := by simp
          rw [wp_len_lst hl1]
          simp
          split
          · rw [wp_add_lst hl2 hl1]
            refine ⟨small (by simp; omega), ?_⟩
            rw [app_text (r := r) (w := (1 + k2) :: T) rfl rfl (gapp (gapp hLN _) _) (by simp) (by omega)]
            exact inv _ _ ((GN.trans Gr.app).trans Gr.app) ((HN.app _).app _) ⟨⟨by simp, by simp; omega⟩, fun x hx => (List.mem_cons.mp hx).elim (fun e => by rw [e]; omega) (hT x)⟩ fun _ => ⟨by simp; omega, rfl⟩
          · rw [wp_slice hl1 (by omega) (by rw [List.length_map]; omega), wp_add_lst (gapp hl2 _) gnew]
            refine ⟨small (by simp; omega), ?_⟩
            rw [app_text (r := r) (w := (1 + k2) :: T.take 2) rfl rfl (gapp (gapp (gapp hLN _) _) _) (by simp [List.map_take]) (by omega)]
            exact inv _ _ (((GN.trans Gr.app).trans Gr.app).trans Gr.app) (((HN.app _).app _).app _) ⟨⟨by simp, by simp; omega⟩, fun x hx => (List.mem_cons.mp hx).elim (fun e => by rw [e]; omega) (fun z => hT x (List.mem_of_mem_take z))⟩ fun _ => ⟨by simp; omega, rfl⟩
        · rename_i hst1
          rw [app_text (r := r) (w := T) rfl rfl (gapp hLN _) gnew (by omega)]
          exact inv _ _ (GN.trans Gr.app) (HN.app _) ⟨hTl, hT⟩ fun e => absurd e hst1
  · rintro ρ M' ⟨i, m, r, X5, X6, X7, hx, him, rfl, hL, hrl, hw, hst, HM, GM⟩
    have hm : m = 0 := by
      cases m with
      | zero => rfl
      | succ m => rw [rangeD_succ] at hx; cases hx
    simp [wp_dVar]
    rw [wp_tuple hL]
    refine ⟨small (by decide), ?_⟩
    refine q r (1 + k2) M' ⟨⟨⟨by omega, by omega⟩, fun w hwr => ?_⟩, ?_⟩ (by omega) HM GM
    · obtain ⟨⟨a1, a2⟩, a3⟩ := hw w hwr
      exact ⟨⟨by omega, by omega⟩, fun x hx => by have := a3 x hx; omega⟩
    · have hk : k2.toNat < r.length := by omega
      refine ⟨r[k2.toNat], by omega, by rw [show (1 + k2 - 1).toNat = k2.toNat by omega]; exact List.getElem?_eq_getElem hk, ?_⟩
      exact hst _ (by omega) (List.getElem?_eq_getElem hk)
end
end K76


set_option Elab.async false
set_option linter.all false
set_option maxRecDepth 100000
set_option maxHeartbeats 4000000
/-! K76y: the fields are right. -/
namespace K76
open PySem PySem.Spec PyProof.Rows L2 Ny
section
variable {c : Cs} {Q : D → Mm → Prop} {E : Addr → Mm → Prop} {M : Mm} {r : List (List Int)} {s : Int}
theorem wp_grown (h : Gd r s) (q : ∀ g M', GrAt c r s g M' → Gr [] M M' → M.length ≤ g → Q (.ref g) M') : Wp (den_Grown_init c [.ref M.length, dR r, .int s] (M ++ [.ins c.Grown []])) (fun x M2 => Wp (madeOf M.length x M2) Q E) E :=
  wp_make (d := .int s) trivial (fun _ _ J => q _ _ gnew Gr.app (Nat.le_refl _)) (fun z => absurd h.ru z) (fun _ z => absurd h.st z)
theorem Hnd.gr {h hc : Nat} {M' : Mm} (H : Hnd h hc M) (G : Gr [] M M') : Hnd h hc M' := by
  obtain ⟨cells, i, a, b, t, h1, h2, h3, h4⟩ := H
  exact ⟨cells, i, a, b, t, G.at h1, G.at h2, h3, h4⟩
theorem GrAt.gr {S : List Nat} {g : Nat} {M' : Mm} (H : GrAt c r s g M) (G : Gr S M M') (hg : g ∉ S := by simp) : GrAt c r s g M' := G.at H hg
theorem nm {c : Cs} (h : Dis c) : e_name c c.NoRule = "rule" ∧ e_name c c.NoStart = "start" ∧ e_name c c.NoGrown = "grown" ∧ e_name c c.NoNumber = "number" := by
  have hd := h.nd
  simp only [List.nodup_cons, List.mem_cons, List.not_mem_nil, or_false, not_or] at hd
  obtain ⟨⟨h1, h2, h3, h4⟩, ⟨h5, h6, h7⟩, ⟨h8, h9⟩, h10, _⟩ := hd
  simp [e_name, Ne.symm h1, Ne.symm h2, Ne.symm h3, Ne.symm h5, Ne.symm h6, Ne.symm h8]
theorem wp_met {cc : Addr} {x : Str} (hc : cc ∈ e_cs c) (hn : e_name c cc = x) (q : ∀ M', Gr [] M M' → Q (.str x) M') : cc ∈ e_cs c ∧ Wp (e_res c cc M) Q E := by
  refine ⟨hc, ?_⟩
  unfold e_res
  rw [hn]
  exact q _ (Gr.app.trans Gr.app)
theorem Gd.more (h : Gd r s) (hl : r.length ≤ 5) : Gd (r ++ [[1]]) s := by
  obtain ⟨⟨h1, h2⟩, w, h3, h4, h5, h6⟩ := h
  refine ⟨⟨by simp; omega, fun v hv => ?_⟩, w, h3, ?_, h5, h6⟩
  · rcases List.mem_append.mp hv with z | z
    · obtain ⟨a, b⟩ := h2 v z
      exact ⟨a, fun x hx => ⟨(b x hx).1, by have := (b x hx).2; simp; omega⟩⟩
    · have e : v = [1] := by simpa using z
      subst e
      exact ⟨⟨by simp, by simp⟩, fun x hx => (by
        have e : x = 1 := by simpa using hx
        subst e; simp; omega)⟩
  · have := (List.getElem?_eq_some_iff.mp h4).1
    rw [List.getElem?_append_left (by omega)]; exact h4
theorem add_R (h : r ≠ []) (hl : r.length ≤ 5) : Wp (oAdd (dR r) (.tup [.tup [.int 1]]) M) Q E = Q (dR (r ++ [[1]])) M := by
  have z := @small (r.length + 1) (by omega)
  have e : r.map dW ≠ [] := by simpa using h
  simp only [dR, oAdd]
  rw [if_pos ⟨e, by simpa using z⟩]
  simp [dW]
theorem eqI_lst {n : Nat} {ds : List D} {y : D} {den : Den} {C : Addr} (h : M[n]? = some (.lst ds)) : Wp (oEqI C den oEq (.ref n) y M) Q E = Wp (oEq (.ref n) y M) Q E := by simp only [oEqI, h]
theorem kit_ty {C : Addr} {x : String} (h : x ∈ basicTys) : kitOwn C (.type x) = some false := by simp [kitOwn, h]
theorem ty_gr {d : D} {t : Value} {M' : Mm} (h : tyD M d = some t) (G : Gr [] M M') : tyD M' d = some t := by
  cases d with
  | ref n =>
    simp only [tyD] at h ⊢
    cases q : M[n]? with
    | none => rw [q] at h; cases h
    | some mo => rw [G.at q]; rw [q] at h; exact h
  | _ => exact h
theorem grDrop {M M' : Mm} {h w : Nat} (G : Gr [h, w] M M') (hw : M.length ≤ w) : Gr [h] M M' := ⟨G.len, fun i hs hi => G.get i (by simp at hs ⊢; exact ⟨hs, by omega⟩) hi⟩
theorem wp_law_fields {h hc : Nat} (D0 : Dis c) (H : Hnd h hc M) (hG : Gd r s) (h5 : r.length ≤ 5) (q : ∀ M', Hnd h hc M' → Gr [h] M M' → Q (.bl true) M') : Wp (den__law_fields_right c [.ref h, dR r, .int s] M) Q E := by
  have hne : r ≠ [] := fun e => by have := hG.ru.1.1; rw [e] at this; simp at this
  obtain ⟨n1, n2, n3, n4⟩ := nm D0
  have c3 : c.NoGrown ∈ e_cs c := by simp [e_cs]
  have c4 : c.NoNumber ∈ e_cs c := by simp [e_cs]
  rw [den__law_fields_right, wp_b3]
  unfold g__law_fields_right
  simp [startD, wp_dVar]
  refine wp_grown hG fun g M1 hg G1 hgl => ?_
  have H1 := H.gr G1
  have hgh : g ≠ h := by have := H.lt; omega
  simp [wp_dVar, wp_rule hg, wp_start hg, wp_is_grown (GrAt.ty hg) kitOwn_self]
  refine wp_grown hG fun g2 M2 hg2 G2 hgl2 => ?_
  have hg' := hg.gr G2
  rw [wp_eqI2 hg' hg2]
  have z1 : 1 ≤ sizeLine := small (by omega)
  have z2 : 2 ≤ sizeLine := small (by omega)
  have z4 : 4 ≤ sizeLine := small (by omega)
  have z5 : 5 ≤ sizeLine := small (by omega)
  have z7 : 7 ≤ sizeLine := small (by omega)
  simp [wp_dVar, z1, z2, z4, z5, z7]
  rw [add_R hne h5]
  refine wp_grown (hG.more h5) fun g3 M3 hg3 G3 hgl3 => ?_
  have hg3' := hg'.gr G3
  rw [wp_eqI2 hg3' hg3]
  simp [wp_dVar]
  rw [wp_eqI_tup hg3']
  simp [wp_dVar]
  have H3 := (H1.gr G2).gr G3
  have HL := H3.lt
  refine wp_any (H3.app _) (l := M3.length + 2) (ds := [D.non, dR r, D.tup [dR r, D.int s], D.int s, D.str (Str.ofString "grown"), D.ref M3.length, D.ref (M3.length + 1)]) (by simp) (by omega) (by simp) (by simp) fun d M5 hd H5 G5 => ?_
  have hty : ∃ t, tyD M5 d = some t ∧ kitOwn c.Grown t = some false := by
    have a1 : M5[M3.length]? = some (.lst [.ref g]) := G5.at (by simp) (by simp; omega)
    have a2 : M5[M3.length + 1]? = some .emp := G5.at (by simp) (by simp; omega)
    simp only [List.mem_cons, List.not_mem_nil, or_false] at hd
    rcases hd with rfl | rfl | rfl | rfl | rfl | rfl | rfl
    · exact ⟨_, rfl, kit_ty (by decide)⟩
    · exact ⟨_, rfl, kit_ty (by decide)⟩
    · exact ⟨_, rfl, kit_ty (by decide)⟩
    · exact ⟨_, rfl, kit_ty (by decide)⟩
    · exact ⟨_, rfl, kit_ty (by decide)⟩
    · exact ⟨_, by simp only [tyD, a1], kit_ty (x := "list") (by decide)⟩
    · exact ⟨_, by simp only [tyD, a2], kit_ty (x := "dict") (by decide)⟩
  clear hd
  obtain ⟨t, t1, t2⟩ := hty
  have hg5 : GrAt c r s g M5 := GrAt.gr (gapp hg3' _) G5 (by simpa using hgh)
  have GG : Gr [h] M M5 := ((((G1.trans G2).trans G3).trans Gr.app).any).trans G5
  have L5 : M.length ≤ M5.length := GG.len
  rw [wp_is_grown t1 t2]
  simp
  refine wp_dLam ?_
  simp [wp_dVar]
  refine wp_first_nt t1 t2 (wp_met c3 n3 fun M6 G6 => ?_)
  have L6 := G6.len
  have H6 := H5.gr G6
  have hg6 := hg5.gr G6
  have t6 := ty_gr t1 G6
  have h6 := H6.lt
  rw [wp_meth]
  simp [wp_dVar]
  refine wp_dLam ?_
  simp [wp_dVar]
  refine wp_sign_nt (ty_gr t6 Gr.app) t2 (wp_met c3 n3 fun M7 G7 => ?_)
  have w7 : M7[M6.length]? = some (.lst [D.str (Str.ofString "grown")]) := G7.at gnew
  have z3 : 3 < sizeLine := by have := @small 4 (by omega); omega
  rw [wp_app w7]
  refine ⟨by simp; omega, ?_⟩
  rw [wp_meth]
  simp [wp_dVar]
  refine ⟨⟨_, set_get w7⟩, ?_⟩
  generalize hM8 : M7.set M6.length (.lst [D.str (Str.ofString "grown"), D.str (Str.ofString "grown")]) = M8
  have G8 : Gr [M6.length] M7 M8 := by rw [← hM8]; exact Gr.set (by simp)
  have w8 : M8[M6.length]? = some (.lst [D.str (Str.ofString "grown"), D.str (Str.ofString "grown")]) := by rw [← hM8]; exact set_get w7
  have H7 : Hnd h hc M7 := (H6.app _).gr G7
  have H8 : Hnd h hc M8 := by rw [← hM8]; exact H7.set (by omega) (by have := H6.lt2; omega)
  have hg7 : GrAt c r s g M7 := GrAt.gr (gapp hg6 _) G7
  have hg8 : GrAt c r s g M8 := hg7.gr G8 (by have := glt hg6; simp; omega)
  clear hM8
  refine wp_dLam ?_
  simp [wp_dVar, z5]
  have h8 := H8.lt
  refine wp_any (H8.app _) (l := M8.length) gnew (by omega) (by simp) (by simp) fun d9 M9 hd9 H9 G9 => ?_
  have hg9 : GrAt c r s g M9 := GrAt.gr (gapp hg8 _) G9 (by simpa using hgh)
  have w9 : M9[M6.length]? = some (.lst [D.str (Str.ofString "grown"), D.str (Str.ofString "grown")]) := G9.at (gapp w8 _) (by simp; omega)
  have p9 : Pl d9 ∧ wiI 0 20000 d9 = false := by
    simp only [List.mem_cons, List.not_mem_nil, or_false] at hd9
    rcases hd9 with rfl | rfl | rfl | rfl | rfl <;> exact ⟨trivial, rfl⟩
  clear hd9
  refine wp_first hg9 hG p9.1 (fun n e e0 e1 => ?_) fun _ => wp_met c4 n4 fun M10 G10 => ?_
  · subst e
    have := p9.2
    simp [wiI, e0, e1] at this
  have w10 := G10.at w9
  rw [wp_app w10]
  refine ⟨by simp; omega, ?_⟩
  rw [wp_meth]
  simp [wp_dVar]
  refine ⟨⟨_, set_get w10⟩, ?_⟩
  generalize hM11 : M10.set M6.length (.lst [D.str (Str.ofString "grown"), D.str (Str.ofString "grown"), D.str (Str.ofString "number")]) = M11
  have G11 : Gr [M6.length] M10 M11 := by rw [← hM11]; exact Gr.set (by simp)
  have w11 : M11[M6.length]? = some (.lst [D.str (Str.ofString "grown"), D.str (Str.ofString "grown"), D.str (Str.ofString "number")]) := by rw [← hM11]; exact set_get w10
  have H10 : Hnd h hc M10 := H9.gr G10
  have H11 : Hnd h hc M11 := by rw [← hM11]; exact H10.set (by omega) (by have := H6.lt2; omega)
  have hg10 : GrAt c r s g M10 := hg9.gr G10
  have hg11 : GrAt c r s g M11 := hg10.gr G11 (by have := glt hg6; simp; omega)
  clear hM11
  refine wp_dLam ?_
  simp [wp_dVar, z5, z1]
  have h11 := H11.lt
  refine wp_any (H11.app _) (l := M11.length) gnew (by omega) (by simp) (by simp) fun d12 M12 hd12 H12 G12 => ?_
  have hg12 : GrAt c r s g M12 := GrAt.gr (gapp hg11 _) G12 (by simpa using hgh)
  have w12 : M12[M6.length]? = some (.lst [D.str (Str.ofString "grown"), D.str (Str.ofString "grown"), D.str (Str.ofString "number")]) := G12.at (gapp w11 _) (by simp; omega)
  have p12 : Pl d12 ∧ ¬ nat0 d12 := by
    simp only [List.mem_cons, List.not_mem_nil, or_false] at hd12
    rcases hd12 with rfl | rfl | rfl | rfl | rfl <;> exact ⟨trivial, by simp [nat0]⟩
  clear hd12
  refine wp_sign_nn hg12 p12.1 p12.2 (wp_met c4 n4 fun M13 G13 => ?_)
  have w13 := G13.at w12
  rw [wp_app w13]
  refine ⟨by simp; omega, ?_⟩
  have GA : Gr [h, M6.length] M M13 := ((((((((((((GG.mono (by simp)).trans G6.any).trans Gr.app).trans G7.any).trans (G8.mono (by simp))).trans Gr.app).trans (G9.mono (by simp))).trans G10.any).trans (G11.mono (by simp))).trans Gr.app).trans (G12.mono (by simp))).trans G13.any)
  have GB := grDrop GA (by omega)
  have H13 := H12.gr G13
  have fin : ∀ v J, Q (.bl true) (M13.set M6.length v ++ J) := fun v J => q _ ((H13.set (by omega) (by have := H6.lt2; omega)).app J) ((grBig GB (by omega)).trans Gr.app)
  rw [eqI_lst (gapp (set_get w13) _)]
  show Wp (oEqN false _ _ _) _ _
  rw [wp_eqL (gapp (set_get w13) _) gnew (by decide +kernel) (by decide +kernel) (by decide +kernel) (by decide +kernel)]
  have e : beqDs ([D.str (Str.ofString "grown"), D.str (Str.ofString "grown"), D.str (Str.ofString "number")] ++ [D.str (Str.ofString "number")]) [D.str (Str.ofString "grown"), D.str (Str.ofString "grown"), D.str (Str.ofString "number"), D.str (Str.ofString "number")] = true := by decide +kernel
  rw [e]
  exact fin _ _
end
end K76


set_option Elab.async false
set_option linter.all false
set_option maxRecDepth 100000
set_option maxHeartbeats 4000000
/-! K76z: starts and signs are right. -/
namespace K76
open PySem PySem.Spec PyProof.Rows L2 Ny
section
variable {c : Cs} {Q : D → Mm → Prop} {E : Addr → Mm → Prop} {M : Mm} {r : List (List Int)} {s : Int}
theorem stR_iff (hr : ruR r) {x : Int} (h1 : 1 ≤ x) (h2 : x ≤ (r.length : Int)) : stR r (.int x) ↔ ((nxw r x)[0]? = some x ∧ 1 < (nxw r x).length) := by
  constructor
  · rintro ⟨w, a, b, c1, d⟩
    have e : nxw r x = w := by unfold nxw; rw [b]; rfl
    rw [e]; exact ⟨d, by omega⟩
  · rintro ⟨a, b⟩
    exact ⟨nxw r x, h1, (hr.get h1 h2).1, by omega, a⟩
theorem wps_for_rng {f1 f2 : Sl → Mm → Res D} {hd : D → Sl → Mm → Res Sl} {b : Sl → Mm → RS} {ρ : Sl} {QS : Out → Sl → Mm → Prop} {i j : Int} (h1 : ∀ (Q : D → Mm → Prop), Wp (f1 ρ M) Q E = Q (.int i) M) (h2 : ∀ (Q : D → Mm → Prop), Wp (f2 ρ M) Q E = Q (.int j) M) (hb : -(2 ^ 62) ≤ i ∧ i < 2 ^ 62 ∧ -(2 ^ 62) ≤ j ∧ j < 2 ^ 62) : WpS (gFor (sRng2 (dConsA f1 (dConsA f2 dNilA))) hd b ρ M) QS E = WpS (forL [] hd b (rangeD i (j - i).toNat) ρ M) QS E := by
  rw [wps_for, wp_sRng2, wp_consA, h1, wp_consA, h2, wp_nilA, wp_rng2 hb]
theorem wp_law_starts {h hc : Nat} (D0 : Dis c) (H : Hnd h hc M) (hr : ruR r) (h5 : r.length ≤ 5) (q : ∀ M', Hnd h hc M' → Gr [h] M M' → Q (.bl true) M') : Wp (den__law_starts_right c [.ref h, dR r] M) Q E := by
  have n2 := (nm D0).2.1
  have n1 := (nm D0).1
  have c1 : c.NoRule ∈ e_cs c := by simp [e_cs]
  have c2 : c.NoStart ∈ e_cs c := by simp [e_cs]
  have z1 : 1 ≤ sizeLine := small (by omega)
  have z2 : 2 ≤ sizeLine := small (by omega)
  have z5 : 5 ≤ sizeLine := small (by omega)
  have z6 : 6 ≤ sizeLine := small (by omega)
  have hr0 := hr.1.1
  have sk1 : PyData.strOk (Str.ofString "let") = true := by decide +kernel
  have sk2 : PyData.strOk (Str.ofString "start") = true := by decide +kernel
  have sk3 : PyData.strOk (Str.ofString "rule") = true := by decide +kernel
  rw [den__law_starts_right, wp_b2]
  unfold g__law_starts_right
  rw [wps_seq, wps_for_rng (i := 1) (j := (r.length : Int) + 1) (fun Q => by simp) (fun Q => by simp [startD, wp_dVar]) ⟨by omega, by omega, by omega, by omega⟩]
  rw [show (((r.length : Int) + 1 - 1 : Int)).toNat = r.length by omega]
  refine wp_forL (I := fun xs ρ M' => ∃ (i m : Nat) (X2 X4 : Option D), xs = rangeD ((i : Int) + 1) m ∧ i + m = r.length ∧ ρ = [some (.ref h), some (dR r), X2, none, X4] ∧ Hnd h hc M' ∧ Gr [h] M M') (fun _ _ _ _ => rfl) ?_ ?_ _ _ _ ⟨0, r.length, none, none, rfl, by omega, rfl, H, Gr.rfl'⟩
  · rintro x0 xs ρ M' ⟨i, m, X2, X4, hx, him, rfl, HM, GM⟩
    cases m with
    | zero => rw [rangeD_zero] at hx; cases hx
    | succ m =>
      rw [rangeD_succ] at hx
      cases hx
      have b1 : (1 : Int) ≤ (i : Int) + 1 := by omega
      have b2 : (i : Int) + 1 ≤ (r.length : Int) := by omega
      have hl := hr.len b1 b2
      have hst := stR_iff hr b1 b2
      obtain ⟨y, w, hyw⟩ : ∃ y w, nxw r ((i : Int) + 1) = y :: w := by
        cases e : nxw r ((i : Int) + 1) with
        | nil => rw [e] at hl; simp at hl
        | cons y w => exact ⟨y, w, rfl⟩
      have fin : ∀ M2, Gr [] M' M2 → ∃ i_1 m_1, rangeD ((i : Int) + 1 + 1) m = rangeD ((i_1 : Nat) + 1 : Int) m_1 ∧ i_1 + m_1 = r.length ∧ Hnd h hc M2 ∧ Gr [h] M M2 := fun M2 G2 => ⟨i + 1, m, by push_cast; rfl, by omega, HM.gr G2, GM.trans G2.any⟩
      simp [wp_dVar]
      rw [ix_rule hr b1 b2 (by omega)]
      rw [wp_ix_W (i := 0) (j := 0) rfl (show (nxw r ((i : Int) + 1))[0]? = some y by rw [hyw]; rfl)]
      simp
      by_cases e1 : y = (i : Int) + 1
      · simp only [e1, if_true]
        rw [ix_rule hr b1 b2 (by omega)]
        simp
        by_cases e2 : 1 < (nxw r ((i : Int) + 1)).length
        · rw [if_pos (by omega)]
          refine wp_dLam ?_
          simp [wp_dVar]
          have hs : stR r (.int ((i : Int) + 1)) := hst.mpr ⟨by rw [hyw, e1]; rfl, e2⟩
          refine wp_grown ⟨hr, hs⟩ fun g M2 hg G2 hgl => ?_
          rw [wp_ne_str _ _ sk1 sk1]
          simp
          exact fin M2 G2
        · rw [if_neg (by omega)]
          refine wp_dLam ?_
          simp [wp_dVar]
          have hs : ¬ stR r (.int ((i : Int) + 1)) := fun z => e2 (hst.mp z).2
          refine wp_make (d := .int ((i : Int) + 1)) trivial (fun _ z => absurd z hs) (fun z => absurd hr z) (fun _ _ J => wp_met c2 n2 fun M2 G2 => ?_)
          rw [wp_ne_str _ _ sk2 sk2]
          exact fin M2 (Gr.app.trans G2)
      · simp only [e1, if_false]
        refine wp_dLam ?_
        simp [wp_dVar]
        have hs : ¬ stR r (.int ((i : Int) + 1)) := fun z => e1 (by have := (hst.mp z).1; rw [hyw] at this; simpa using this)
        refine wp_make (d := .int ((i : Int) + 1)) trivial (fun _ z => absurd z hs) (fun z => absurd hr z) (fun _ _ J => wp_met c2 n2 fun M2 G2 => ?_)
        rw [wp_ne_str _ _ sk2 sk2]
        simp
        exact fin M2 (Gr.app.trans G2)
  · rintro ρ M' ⟨i, m, X2, X4, hx, him, rfl, HM, GM⟩
    simp [wp_dVar, z1, z2, z5, z6]
    refine wp_any (HM.app _) (l := M'.length) gnew (by have := HM.lt; omega) (by simp) (by simp) fun d M2 hd H2 G2 => ?_
    have hdd : Pl d ∧ ¬ stR r d := by
      simp only [List.mem_cons, List.not_mem_nil, or_false] at hd
      rcases hd with rfl | rfl | rfl | rfl | rfl | rfl
      · exact ⟨trivial, fun ⟨w, a, _⟩ => by omega⟩
      · exact ⟨trivial, fun ⟨w, a, b, _⟩ => by have := (List.getElem?_eq_some_iff.mp b).1; omega⟩
      · exact ⟨trivial, fun z => z⟩
      · exact ⟨trivial, fun z => z⟩
      · exact ⟨trivial, fun z => z⟩
      · exact ⟨trivial, fun z => z⟩
    clear hd
    refine wp_dLam ?_
    simp [wp_dVar]
    refine wp_make hdd.1 (fun _ z => absurd z hdd.2) (fun z => absurd hr z) (fun _ _ J => wp_met c2 n2 fun M3 G3 => ?_)
    rw [wp_ne_str _ _ sk2 sk2]
    simp
    have G3' : Gr [] M2 M3 := Gr.app.trans G3
    have H3 := H2.gr G3'
    have GG : Gr [h] M M3 := ((GM.trans Gr.app).trans G2).trans G3'.any
    refine wp_dLam ?_
    simp [wp_dVar, z1, z2, z5, z6]
    have z := H3.lt
    refine wp_any (H3.app _) (l := M3.length + 1) (ds := [D.non, D.tup [], D.tup [D.tup [D.int 0]], D.ref M3.length, D.tup [D.tup [D.int 1, D.int 2]]]) (by simp) (by omega) (by simp) (by simp) fun e M4 he H4 G4 => ?_
    have GG4 : Gr [h] M M4 := (GG.trans Gr.app).trans G4
    have fin : ∀ M5, Gr [] M4 M5 → Wp (oEq (.str (Str.ofString "rule")) (.str (Str.ofString "rule")) M5) (fun d M1 => Q d M1) E := fun M5 G5 => by
      rw [wp_eq_str _ _ sk3 sk3]
      simp
      exact q _ (H4.gr G5) (GG4.trans G5.any)
    have a4 : M4[M3.length]? = some (.lst [D.tup [D.int 1, D.int 1]]) := G4.at (by simp) (by simp; omega)
    simp only [List.mem_cons, List.not_mem_nil, or_false] at he
    rcases he with rfl | rfl | rfl | rfl | rfl
    · refine wp_make_nt (fun J => ⟨_, rfl, by decide⟩) fun J => wp_met c1 n1 fun M5 G5 => fin M5 (Gr.app.trans G5)
    · exact wp_make (r := []) hdd.1 (fun z => absurd z (by decide)) (fun _ J => wp_met c1 n1 fun M5 G5 => fin M5 (Gr.app.trans G5)) (fun z => absurd z (by decide))
    · exact wp_make (r := [[0]]) hdd.1 (fun z => absurd z (by decide)) (fun _ J => wp_met c1 n1 fun M5 G5 => fin M5 (Gr.app.trans G5)) (fun z => absurd z (by decide))
    · refine wp_make_nt (fun J => ⟨.type "list", by simp only [tyD, gapp a4 J], by decide⟩) fun J => wp_met c1 n1 fun M5 G5 => fin M5 (Gr.app.trans G5)
    · exact wp_make (r := [[1, 2]]) hdd.1 (fun z => absurd z (by decide)) (fun _ J => wp_met c1 n1 fun M5 G5 => fin M5 (Gr.app.trans G5)) (fun z => absurd z (by decide))
end
end K76


set_option Elab.async false
set_option linter.all false
set_option maxRecDepth 100000
set_option maxHeartbeats 4000000
/-! K76za: signs are right. -/
namespace K76
open PySem PySem.Spec PyProof.Rows L2 Ny
section
variable {c : Cs} {Q : D → Mm → Prop} {E : Addr → Mm → Prop} {M : Mm} {r : List (List Int)} {s : Int}
theorem tup1 : D.tup [.int s] = dW [s] := rfl
def atU (r : List (List Int)) (s : Int) (x : Int) : Int := ((Up r s 400)[x.toNat]?).getD 0
theorem atU_get (h : Gd r s) {x : Int} (h0 : 0 ≤ x) (h1 : x < 400) : (Up r s 400)[x.toNat]? = some (atU r s x) := by
  have hl : x.toNat < (Up r s 400).length := by rw [Up_len h]; omega
  unfold atU
  rw [List.getElem?_eq_getElem hl]; rfl
theorem wp_first_ok {g : Nat} {n : Int} (hg : GrAt c r s g M) (h : Gd r s) (h0 : 0 ≤ n) (h1 : n ≤ 20000) (q : ∀ M', Gr [] M M' → Q (dW (Up r s n.toNat)) M') : Wp (den_first_signs c [.ref g, .int n] M) Q E :=
  wp_first hg h (d := .int n) trivial (fun m e _ _ J => by cases e; exact q _ Gr.app) (fun z => by simp [wiI, h0, h1] at z)
theorem wp_row_ok {n : Int} (h : Gd r s) (h0 : 0 ≤ n) (h1 : n ≤ 20000) (q : ∀ M', Gr [] M M' → Q (dW (Up r s n.toNat)) M') : Wp (den__law_row c [dR r, .int s, .int n] M) Q E :=
  wp_row h h0 h1 fun J => q _ Gr.app
theorem wp_law_signs {h hc : Nat} (H : Hnd h hc M) (hG : Gd r s) (q : ∀ M', Hnd h hc M' → Gr [h] M M' → Q (.bl true) M') : Wp (den__law_signs_right c [.ref h, dR r, .int s] M) Q E := by
  have z2 : 2 ≤ sizeLine := small (by omega)
  have z1 : 1 ≤ sizeLine := small (by omega)
  rw [den__law_signs_right, wp_b3]
  unfold g__law_signs_right
  rw [wps_seq, wps_asg, wp_dTup, wp_consA, wp_dMake]
  simp [startD, wp_dVar, z2, -wps_seq, -wps_for, -wps_if]
  refine wp_grown hG fun g M1 hg G1 hgl => ?_
  have H1 := H.gr G1
  have hgh : g ≠ h := by have := H.lt; omega
  refine wp_draw H1 (by omega) (by omega) fun n M2 hn0 hn1 H2 G2 => ?_
  have hg2 := hg.gr G2 (by simpa using hgh)
  simp [wp_dVar, z2, -wps_for]
  refine wp_row_ok hG hn0 (by omega) fun M3 G3 => ?_
  have hg3 := hg2.gr G3
  refine wp_first_ok hg3 hG hn0 (by omega) fun M4 G4 => ?_
  have hg4 := hg3.gr G4
  have H4 := (H2.gr G3).gr G4
  have GA : Gr [h] M M4 := ((G1.any.trans G2).trans G3.any).trans G4.any
  simp [wp_dVar, -wps_for]
  rw [wps_for, wp_sRng1, wp_consA, wp_dC, wp_nilA, wp_rng1 ⟨by omega, by omega⟩]
  refine wp_forL (I := fun xs ρ M' => ∃ (X6 X7 X8 : Option D), ρ = [some (.ref h), some (dR r), some (.int s), some (.ref g), some (.int n), some (dW (Up r s n.toNat)), X6, X7, X8, none, none] ∧ Hnd h hc M' ∧ GrAt c r s g M' ∧ Gr [h] M M') (fun _ _ _ _ => rfl) ?_ ?_ _ _ _ ⟨none, none, none, rfl, H4, hg4, GA⟩
  · rintro x0 xs ρ M' ⟨X6, X7, X8, rfl, HM, hgM, GM⟩
    simp [wp_dVar]
    refine wp_draw HM (by omega) (by omega) fun t M5 ht0 ht1 H5 G5 => ?_
    simp [wp_dVar, z1, tup1]
    refine wp_grow_often hG ht0 (by omega) fun J => ?_
    have hg5 : GrAt c r s g (M5 ++ J) := gapp (hgM.gr G5 (by simpa using hgh)) J
    simp [wp_dVar]
    have hlen := (Gt_len hG t.toNat).1
    have hp : 4 ^ t.toNat ≤ 4 ^ 5 := Nat.pow_le_pow_right (by omega) (by omega)
    refine wp_first_ok hg5 hG (by omega) (by omega) fun M6 G6 => ?_
    have e : Up r s ((Gt r s t.toNat).length : Int).toNat = Gt r s t.toNat := by rw [Int.toNat_natCast]; exact (Gt_up hG _).symm
    rw [e]
    simp
    exact ⟨(H5.app J).gr G6, hg5.gr G6, ((GM.trans G5).trans Gr.app).trans G6.any⟩
  · rintro ρ M' ⟨X6, X7, X8, rfl, HM, hgM, GM⟩
    simp [wp_dVar, -wps_if]
    rw [wp_rng1 ⟨by omega, by omega⟩]
    refine wp_lcA (S := fun y => ∃ x, y = .int x ∧ 0 ≤ x ∧ x < 400) (fun N => Hnd h hc N ∧ GrAt c r s g N ∧ Gr [h] M N) (fun _ _ => rfl) _ _ ⟨HM, hgM, GM⟩ (fun x hx N hN => ?_) (fun ys N hN hyl hys => ?_)
    · refine ⟨_, rfl, ?_⟩
      simp [wipeD, wp_dVar]
      refine wp_draw hN.1 (by omega) (by omega) fun k M6 hk0 hk1 H6 G6 => ?_
      simp
      exact ⟨⟨H6, hN.2.1.gr G6 (by simpa using hgh), hN.2.2.trans G6⟩, hk0, hk1⟩
    · obtain ⟨T, rfl, hT⟩ := ints_of hys
      simp [rangeD_length] at hyl
      obtain ⟨HN, hgN, GN⟩ := hN
      refine ⟨small (by rw [List.length_map]; omega), ?_⟩
      simp [wp_dVar]
      refine wp_row_ok hG (by omega) (by omega) fun M7 G7 => ?_
      have w7 : M7[N.length]? = some (.lst (T.map D.int)) := G7.at gnew
      have H7 := (HN.app _).gr G7
      have hg7 : GrAt c r s g M7 := GrAt.gr (gapp hgN _) G7
      have GM7 : Gr [h] M M7 := (GN.trans Gr.app).trans G7.any
      simp [wp_dVar]
      rw [wp_src_lst w7]
      refine wp_lcI (emb := D.int) (v := fun x => .int (atU r s x)) (fun M' => ∃ J, M' = M7 ++ J) (fun M' h => by obtain ⟨J, rfl⟩ := h; exact sameL_of (gapp w7 J)) T M7 ⟨[], by simp⟩ (fun x hx M' hM => ?_) (fun M' hM => ?_)
      · obtain ⟨J, rfl⟩ := hM
        refine ⟨_, rfl, ?_⟩
        have hx2 := hT x hx
        simp [wipeD, wp_dVar]
        refine wp_sign_at (gapp hg7 J) hG hx2.1 (by omega) fun J' y hy => ?_
        rw [atU_get hG hx2.1 hx2.2] at hy
        have ey := Option.some.inj hy
        rw [← ey]
        exact ⟨⟨J ++ J', by rw [List.append_assoc]⟩, rfl⟩
      · obtain ⟨J, rfl⟩ := hM
        have e : T.map (fun x => D.int (atU r s x)) = (T.map (atU r s)).map D.int := by rw [List.map_map]; rfl
        rw [e]
        refine ⟨small (by rw [List.length_map, List.length_map]; omega), ?_⟩
        generalize hV : T.map (atU r s) = V
        have w8 : (M7 ++ (J ++ [MO.lst (V.map D.int)]))[N.length]? = some (.lst (T.map D.int)) := gapp w7 _
        have v8 : (M7 ++ (J ++ [MO.lst (V.map D.int)]))[M7.length + J.length]? = some (.lst (V.map D.int)) := by
          rw [← List.append_assoc, ← List.length_append, List.getElem?_concat_length]
        have hg8 : GrAt c r s g (M7 ++ (J ++ [MO.lst (V.map D.int)])) := gapp hg7 _
        have H8 : Hnd h hc (M7 ++ (J ++ [MO.lst (V.map D.int)])) := H7.app _
        have GM8 : Gr [h] M (M7 ++ (J ++ [MO.lst (V.map D.int)])) := GM7.trans Gr.app
        simp [wp_dVar]
        generalize M7 ++ (J ++ [MO.lst (V.map D.int)]) = M8 at w8 v8 hg8 H8 GM8 ⊢
        rw [wp_src_lst w8]
        refine wp_lcI (emb := D.int) (v := fun x => .int (atU r s x)) (fun M' => M' = M8) (fun M' h => by subst h; exact sameL_of w8) T M8 rfl (fun x hx M' hM => ?_) (fun M' hM => ?_)
        · subst hM
          refine ⟨_, rfl, ?_⟩
          have hx2 := hT x hx
          simp [wipeD, wp_dVar]
          rw [wp_ix_W (j := x.toNat) (by omega) (atU_get hG hx2.1 hx2.2)]
          exact ⟨rfl, rfl⟩
        · subst hM
          have e2 : T.map (fun x => D.int (atU r s x)) = V.map D.int := by rw [← hV, List.map_map]; rfl
          rw [e2]
          refine ⟨small (by rw [← hV, List.length_map, List.length_map]; omega), ?_⟩
          rw [show Wp (oNe (D.ref (List.length M7 + List.length J)) (D.ref (List.length M')) (M' ++ [MO.lst (V.map D.int)])) = Wp (oEqN true (D.ref (List.length M7 + List.length J)) (D.ref (List.length M')) (M' ++ [MO.lst (V.map D.int)])) from rfl]
          rw [wp_eqL (gapp v8 _) gnew (cms_ints V) (cms_ints V) (by rw [dpts_ints]; omega) (by rw [dpts_ints]; omega), beq_ints]
          simp
          refine wp_first_ok (gapp hg8 _) hG (by omega) (by omega) fun M9 G9 => ?_
          have e0 : Up r s (0 : Int).toNat = [] := List.eq_nil_of_length_eq_zero (Up_len hG 0)
          rw [e0]
          rw [show D.tup [] = dW [] from rfl, wp_eq_W]
          simp
          exact q _ ((H8.app _).gr G9) ((GM8.trans Gr.app).trans G9.any)
end
end K76


set_option Elab.async false
set_option linter.all false
set_option maxRecDepth 100000
set_option maxHeartbeats 4000000
/-! K76zb: the law answers True. -/
namespace K76
open PySem PySem.Spec PyProof.Rows L2 Ny
theorem gd12 : Gd [[1, 2], [1]] 1 := ⟨by decide, ⟨[1, 2], by decide, rfl, by decide, rfl⟩⟩
theorem up12 : Up [[1, 2], [1]] 1 5 = [1, 2, 1, 1, 2] := by decide
theorem law_wp {A : Amb} {c : Cs} (h : Dis c) : Wp (den_law A c [.ext (.ref A.sa)] []) (fun d _ => d = .bl true) noE := by
  have z1 : 1 ≤ sizeLine := small (by omega)
  have z2 : 2 ≤ sizeLine := small (by omega)
  have z5 : 5 ≤ sizeLine := small (by omega)
  rw [den_law, wp_b1]
  unfold g_law
  rw [wps_seq, wps_asg, wp_dDef, wp_consA]
  simp [startD, wp_dVar, -wps_seq, -wps_for, -wps_if]
  refine wp_hand fun hh hc M1 H1 G1 => ?_
  simp [wp_dVar, z1, z2, z5, -wps_for]
  rw [show D.tup [D.tup [D.int 1, D.int 2], D.tup [D.int 1]] = dR [[1, 2], [1]] from rfl]
  refine wp_grown gd12 fun g M2 hg G2 hgl => ?_
  refine wp_first_ok hg gd12 (by omega) (by omega) fun M3 G3 => ?_
  rw [show Up [[1, 2], [1]] 1 (5 : Int).toNat = [1, 2, 1, 1, 2] from up12]
  rw [show D.tup [D.int 1, D.int 2, D.int 1, D.int 1, D.int 2] = dW [1, 2, 1, 1, 2] from rfl, wp_ne_W]
  simp [-wps_for]
  have H3 := (H1.gr G2).gr G3
  rw [wps_for, wp_sRng1, wp_consA, wp_dC, wp_nilA, wp_rng1 ⟨by omega, by omega⟩]
  refine wp_forL (I := fun xs ρ M' => ∃ (X0 X2 X3 X4 : Option D), ρ = [X0, some (.ref hh), X2, X3, X4] ∧ Hnd hh hc M') (fun _ _ _ _ => rfl) ?_ ?_ _ _ _ ⟨_, _, _, _, rfl, H3⟩
  · intro x0 xs ρ M' hI
    refine Exists.elim hI fun X0 hI => Exists.elim hI fun X2 hI => Exists.elim hI fun X3 hI => Exists.elim hI fun X4 hI => ?_
    have HM := hI.2
    rw [hI.1]
    simp [wp_dVar]
    refine wp_law_rule HM fun r s M4 hG h5 H4 G4 => ?_
    simp [wp_dVar]
    refine wp_law_fields h H4 hG h5 fun M5 H5 G5 => ?_
    simp [wp_dVar]
    have st := fun (Q : D → Mm → Prop) (E : Addr → Mm → Prop) => @wp_law_starts c Q E M5 r hh hc h H5 hG.ru h5
    generalize den__law_starts_right c [D.ref hh, dR r] M5 = x at st ⊢
    refine st _ _ fun M6 H6 G6 => ?_
    simp [wp_dVar]
    refine wp_law_signs H6 hG fun M7 H7 G7 => ?_
    simp
    exact H7
  · rintro ρ M' ⟨X0, X2, X3, X4, rfl, HM⟩
    simp
theorem law_true {A : Amb} {c : Cs} (h : Dis c) (hl : A.sn.length ≤ 63) : ∃ M, den_law A c [.ext (.ref A.sa)] [] = .ok (.bl true) M := by
  obtain ⟨a, m, e, rfl⟩ := (law_wp (A := A) h).ok
  exact ⟨m, e⟩
end K76


set_option Elab.async false
set_option linter.all false
set_option maxRecDepth 100000
set_option maxHeartbeats 0
namespace K76
open PySem PySem.Spec PyProof.Rows L2 LamX Ny
def fa0 : List He.Fa := [.glo "is_integer", .glo "is_within", .glo "are_signs", .glo "is_rule", .glo "check_rule", .glo "check_signs", .glo "check_times", .glo "raw_grow", .glo "grow_often", .glo "is_grown", .glo "check_grown", .glo "check_number", .glo "raw_first_signs", .glo "first_signs", .glo "worths_grown", .glo "raw_road", .glo "raw_sign_by", .glo "road_of", .glo "sign_at", .glo "_law_hand", .glo "_law_draw", .glo "_law_any", .glo "_law_rule", .glo "_law_row", .glo "_law_error", .glo "_law_fields_right", .glo "_law_starts_right", .glo "_law_signs_right", .glo "law", .glo "Grown"]
def fa1 : List He.Fa := [.cls "Grown", .mkr "Grown", .meth "Grown" "__eq__", .noat "Grown" "rule", .noat "Grown" "start", .glo "NoNumber", .exc "NoNumber", .glo "NoRule", .exc "NoRule", .glo "NoSigns", .exc "NoSigns", .glo "NoStart", .exc "NoStart", .glo "NoGrown", .exc "NoGrown", .int "MOST_SIGNS" 40, .int "MOST_PUT" 4, .int "MOST_ROW" 400, .int "MOST_GROWN" 20000, .int "MOST_TIMES" 200, .int "MOST_ROAD" 400, .free "ValueError", .free "abs", .free "all", .free "bool", .free "enumerate", .free "int", .free "isinstance", .free "len", .free "list"]
def fa2 : List He.Fa := [.free "max", .free "range", .free "sum", .free "tuple", .exm "NoRule" "NumeralError" true, .exm "NoStart" "NumeralError" true, .exm "NoGrown" "NumeralError" true, .exm "NoNumber" "NumeralError" true, .exm "NoSigns" "NumeralError" true, .glo "NumeralError"]
def fa : List He.Fa := fa0 ++ fa1 ++ fa2
def fn0 : List He.DefD := [⟨("is_integer", none), "is_integer", "is_integer", defArgs (top 9), defBody (top 9), defScope (top 9), [], []⟩, ⟨("is_within", none), "is_within", "is_within", defArgs (top 10), defBody (top 10), defScope (top 10), [], []⟩, ⟨("are_signs", none), "are_signs", "are_signs", defArgs (top 18), defBody (top 18), defScope (top 18), [], []⟩, ⟨("is_rule", none), "is_rule", "is_rule", defArgs (top 19), defBody (top 19), defScope (top 19), [], []⟩, ⟨("check_rule", none), "check_rule", "check_rule", defArgs (top 20), defBody (top 20), defScope (top 20), [], []⟩, ⟨("check_signs", none), "check_signs", "check_signs", defArgs (top 21), defBody (top 21), defScope (top 21), [], []⟩, ⟨("check_times", none), "check_times", "check_times", defArgs (top 22), defBody (top 22), defScope (top 22), [], []⟩, ⟨("raw_grow", none), "raw_grow", "raw_grow", defArgs (top 23), defBody (top 23), defScope (top 23), [], []⟩, ⟨("grow_often", none), "grow_often", "grow_often", defArgs (top 24), defBody (top 24), defScope (top 24), [], []⟩, ⟨("Grown", some "__init__"), "__init__", "Grown.__init__", defArgs (meth 25 0), defBody (meth 25 0), defScope (meth 25 0), [], []⟩, ⟨("Grown", some "__eq__"), "__eq__", "Grown.__eq__", defArgs (meth 25 1), defBody (meth 25 1), defScope (meth 25 1), [], []⟩, ⟨("is_grown", none), "is_grown", "is_grown", defArgs (top 26), defBody (top 26), defScope (top 26), [], []⟩, ⟨("check_grown", none), "check_grown", "check_grown", defArgs (top 27), defBody (top 27), defScope (top 27), [], []⟩, ⟨("check_number", none), "check_number", "check_number", defArgs (top 28), defBody (top 28), defScope (top 28), [], []⟩, ⟨("raw_first_signs", none), "raw_first_signs", "raw_first_signs", defArgs (top 29), defBody (top 29), defScope (top 29), [], []⟩, ⟨("first_signs", none), "first_signs", "first_signs", defArgs (top 30), defBody (top 30), defScope (top 30), [], []⟩, ⟨("worths_grown", none), "worths_grown", "worths_grown", defArgs (top 31), defBody (top 31), defScope (top 31), [], []⟩, ⟨("raw_road", none), "raw_road", "raw_road", defArgs (top 32), defBody (top 32), defScope (top 32), [], []⟩, ⟨("raw_sign_by", none), "raw_sign_by", "raw_sign_by", defArgs (top 33), defBody (top 33), defScope (top 33), [], []⟩, ⟨("road_of", none), "road_of", "road_of", defArgs (top 34), defBody (top 34), defScope (top 34), [], []⟩, ⟨("sign_at", none), "sign_at", "sign_at", defArgs (top 35), defBody (top 35), defScope (top 35), [], []⟩, ⟨("_law_hand", none), "_law_hand", "_law_hand", defArgs (top 37), defBody (top 37), defScope (top 37), [], []⟩, ⟨("_law_draw", none), "_law_draw", "_law_draw", defArgs (top 38), defBody (top 38), defScope (top 38), [], []⟩, ⟨("_law_any", none), "_law_any", "_law_any", defArgs (top 39), defBody (top 39), defScope (top 39), [], []⟩, ⟨("_law_rule", none), "_law_rule", "_law_rule", defArgs (top 40), defBody (top 40), defScope (top 40), [], []⟩, ⟨("_law_row", none), "_law_row", "_law_row", defArgs (top 41), defBody (top 41), defScope (top 41), [], []⟩, ⟨("_law_error", none), "_law_error", "_law_error", defArgs (top 42), defBody (top 42), defScope (top 42), [], []⟩, ⟨("_law_fields_right", none), "_law_fields_right", "_law_fields_right", defArgs (top 43), defBody (top 43), defScope (top 43), [], []⟩, ⟨("_law_starts_right", none), "_law_starts_right", "_law_starts_right", defArgs (top 44), defBody (top 44), defScope (top 44), [], []⟩, ⟨("_law_signs_right", none), "_law_signs_right", "_law_signs_right", defArgs (top 45), defBody (top 45), defScope (top 45), [], []⟩]
def fn1 : List He.DefD := [⟨("law", none), "law", "law", defArgs (top 46), defBody (top 46), defScope (top 46), [], []⟩]
def fn : List He.DefD := fn0 ++ fn1
def tf : List He.Defn := [("_law_fields_right", none), ("_law_starts_right", none)]
def exK (K : PySem.W.Frag) : List Bool := [insB K (He.ga K "Grown"), basicB K (He.ga K "Grown"), PySem.W.notFirst K (He.ga K "Grown") (.type "tuple"), decide ((tabsK K).map (·.1)).Nodup, excB K (He.ga K "NoRule"), excB K (He.ga K "NoStart"), excB K (He.ga K "NoGrown"), excB K (He.ga K "NoNumber"), excB K (He.ga K "NoSigns"), decide (PySem.W.kitOne K (.ref (He.ga K "NoRule")) (.type "ValueError") = some true), decide (PySem.W.kitOne K (.ref (He.ga K "NoRule")) (.ref (He.ga K "NoRule")) = some (decide (He.ga K "NoRule" = He.ga K "NoRule"))), decide (PySem.W.kitOne K (.ref (He.ga K "NoRule")) (.ref (He.ga K "NoStart")) = some (decide (He.ga K "NoRule" = He.ga K "NoStart"))), decide (PySem.W.kitOne K (.ref (He.ga K "NoRule")) (.ref (He.ga K "NoGrown")) = some (decide (He.ga K "NoRule" = He.ga K "NoGrown"))), decide (PySem.W.kitOne K (.ref (He.ga K "NoRule")) (.ref (He.ga K "NoNumber")) = some (decide (He.ga K "NoRule" = He.ga K "NoNumber"))), decide (PySem.W.kitOne K (.ref (He.ga K "NoStart")) (.type "ValueError") = some true), decide (PySem.W.kitOne K (.ref (He.ga K "NoStart")) (.ref (He.ga K "NoRule")) = some (decide (He.ga K "NoStart" = He.ga K "NoRule"))), decide (PySem.W.kitOne K (.ref (He.ga K "NoStart")) (.ref (He.ga K "NoStart")) = some (decide (He.ga K "NoStart" = He.ga K "NoStart"))), decide (PySem.W.kitOne K (.ref (He.ga K "NoStart")) (.ref (He.ga K "NoGrown")) = some (decide (He.ga K "NoStart" = He.ga K "NoGrown"))), decide (PySem.W.kitOne K (.ref (He.ga K "NoStart")) (.ref (He.ga K "NoNumber")) = some (decide (He.ga K "NoStart" = He.ga K "NoNumber"))), decide (PySem.W.kitOne K (.ref (He.ga K "NoGrown")) (.type "ValueError") = some true), decide (PySem.W.kitOne K (.ref (He.ga K "NoGrown")) (.ref (He.ga K "NoRule")) = some (decide (He.ga K "NoGrown" = He.ga K "NoRule"))), decide (PySem.W.kitOne K (.ref (He.ga K "NoGrown")) (.ref (He.ga K "NoStart")) = some (decide (He.ga K "NoGrown" = He.ga K "NoStart"))), decide (PySem.W.kitOne K (.ref (He.ga K "NoGrown")) (.ref (He.ga K "NoGrown")) = some (decide (He.ga K "NoGrown" = He.ga K "NoGrown"))), decide (PySem.W.kitOne K (.ref (He.ga K "NoGrown")) (.ref (He.ga K "NoNumber")) = some (decide (He.ga K "NoGrown" = He.ga K "NoNumber"))), decide (PySem.W.kitOne K (.ref (He.ga K "NoNumber")) (.type "ValueError") = some true), decide (PySem.W.kitOne K (.ref (He.ga K "NoNumber")) (.ref (He.ga K "NoRule")) = some (decide (He.ga K "NoNumber" = He.ga K "NoRule"))), decide (PySem.W.kitOne K (.ref (He.ga K "NoNumber")) (.ref (He.ga K "NoStart")) = some (decide (He.ga K "NoNumber" = He.ga K "NoStart"))), decide (PySem.W.kitOne K (.ref (He.ga K "NoNumber")) (.ref (He.ga K "NoGrown")) = some (decide (He.ga K "NoNumber" = He.ga K "NoGrown"))), decide (PySem.W.kitOne K (.ref (He.ga K "NoNumber")) (.ref (He.ga K "NoNumber")) = some (decide (He.ga K "NoNumber" = He.ga K "NoNumber"))), decide (PySem.W.kitOne K (.ref (He.ga K "NoSigns")) (.type "ValueError") = some true), decide (PySem.W.kitOne K (.ref (He.ga K "NoSigns")) (.ref (He.ga K "NoRule")) = some (decide (He.ga K "NoSigns" = He.ga K "NoRule"))), decide (PySem.W.kitOne K (.ref (He.ga K "NoSigns")) (.ref (He.ga K "NoStart")) = some (decide (He.ga K "NoSigns" = He.ga K "NoStart"))), decide (PySem.W.kitOne K (.ref (He.ga K "NoSigns")) (.ref (He.ga K "NoGrown")) = some (decide (He.ga K "NoSigns" = He.ga K "NoGrown"))), decide (PySem.W.kitOne K (.ref (He.ga K "NoSigns")) (.ref (He.ga K "NoNumber")) = some (decide (He.ga K "NoSigns" = He.ga K "NoNumber"))), decide [He.ga K "NoRule", He.ga K "NoStart", He.ga K "NoGrown", He.ga K "NoNumber", He.ga K "NoSigns"].Nodup]
def ex (K : PySem.W.Frag) : Bool := (exK K).all id
def loose0 : List PySem.Str := ["NumeralError", "TooMany", "NoNumber", "NoRule", "NoSigns", "NoStart", "NoGrown", "is_integer", "is_within", "MOST_SIGNS", "MOST_PUT", "MOST_ROW", "MOST_GROWN", "MOST_TIMES", "MOST_ROAD", "are_signs", "is_rule", "check_rule", "check_signs", "check_times", "raw_grow", "grow_often", "Grown", "is_grown", "check_grown", "check_number", "raw_first_signs", "first_signs", "worths_grown", "raw_road"]
def loose1 : List PySem.Str := ["raw_sign_by", "road_of", "sign_at", "_law_hand", "_law_draw", "_law_any", "_law_rule", "_law_row", "_law_error", "_law_fields_right", "_law_starts_right", "_law_signs_right"]
def loose : List PySem.Str := loose0 ++ loose1
abbrev Rw : PySem.W.OpenRow := PySem.W.OpenLaw.row PySem.Challenge.rw_anynumeral_k76_whole_endless_rows_and_th
abbrev hk : PySem.W.Hook := He.hookX 5 fa fn [] tf ex
def ob (s : PySem.W.SharedT) : He.AlX := He.obsX 5 fa fn [] tf ex (HandSHeadRun.getT s)
theorem ob_eq (s : PySem.W.SharedT) : ob s = hk.obs s.abs := He.obsX_eq (HandSHeadRun.getT_eq s)
theorem run (w : World) : HandSHeadRun.RunEq Rw (PySem.W.view Rw.prog [46]) hk ob 6000 loose w := by
  intro os
  kernel_rfl
theorem sd {K : PySem.W.Frag} {w : World} {h : Heap} (S : He.SaysX fa fn [] tf ex w h K) : He.SaysD fa fn K := congrArg (fun z : He.AlT => z.1) S.t
theorem txt {K : PySem.W.Frag} {w : World} {h : Heap} {mg : Str → Option Value} (X : K.In h) (G : h.Ns mainGlobals mg) (S : He.SaysX fa fn [] tf ex w h K) : Txt K mg where
  d_is_integer := ⟨(sd S).def_ 0 rfl⟩
  m_is_integer := He.glo_ok X G ((sd S).fact 0)
  d_is_within := ⟨(sd S).def_ 1 rfl⟩
  m_is_within := He.glo_ok X G ((sd S).fact 1)
  d_are_signs := ⟨(sd S).def_ 2 rfl⟩
  m_are_signs := He.glo_ok X G ((sd S).fact 2)
  d_is_rule := ⟨(sd S).def_ 3 rfl⟩
  m_is_rule := He.glo_ok X G ((sd S).fact 3)
  d_check_rule := ⟨(sd S).def_ 4 rfl⟩
  m_check_rule := He.glo_ok X G ((sd S).fact 4)
  d_check_signs := ⟨(sd S).def_ 5 rfl⟩
  m_check_signs := He.glo_ok X G ((sd S).fact 5)
  d_check_times := ⟨(sd S).def_ 6 rfl⟩
  m_check_times := He.glo_ok X G ((sd S).fact 6)
  d_raw_grow := ⟨(sd S).def_ 7 rfl⟩
  m_raw_grow := He.glo_ok X G ((sd S).fact 7)
  d_grow_often := ⟨(sd S).def_ 8 rfl⟩
  m_grow_often := He.glo_ok X G ((sd S).fact 8)
  d_Grown_init := ⟨(sd S).def_ 9 rfl⟩
  d_Grown_eq := ⟨(sd S).def_ 10 rfl⟩
  d_is_grown := ⟨(sd S).def_ 11 rfl⟩
  m_is_grown := He.glo_ok X G ((sd S).fact 9)
  d_check_grown := ⟨(sd S).def_ 12 rfl⟩
  m_check_grown := He.glo_ok X G ((sd S).fact 10)
  d_check_number := ⟨(sd S).def_ 13 rfl⟩
  m_check_number := He.glo_ok X G ((sd S).fact 11)
  d_raw_first_signs := ⟨(sd S).def_ 14 rfl⟩
  m_raw_first_signs := He.glo_ok X G ((sd S).fact 12)
  d_first_signs := ⟨(sd S).def_ 15 rfl⟩
  m_first_signs := He.glo_ok X G ((sd S).fact 13)
  d_worths_grown := ⟨(sd S).def_ 16 rfl⟩
  m_worths_grown := He.glo_ok X G ((sd S).fact 14)
  d_raw_road := ⟨(sd S).def_ 17 rfl⟩
  m_raw_road := He.glo_ok X G ((sd S).fact 15)
  d_raw_sign_by := ⟨(sd S).def_ 18 rfl⟩
  m_raw_sign_by := He.glo_ok X G ((sd S).fact 16)
  d_road_of := ⟨(sd S).def_ 19 rfl⟩
  m_road_of := He.glo_ok X G ((sd S).fact 17)
  d_sign_at := ⟨(sd S).def_ 20 rfl⟩
  m_sign_at := He.glo_ok X G ((sd S).fact 18)
  d__law_hand := ⟨(sd S).def_ 21 rfl⟩
  m__law_hand := He.glo_ok X G ((sd S).fact 19)
  d__law_draw := ⟨(sd S).def_ 22 rfl⟩
  m__law_draw := He.glo_ok X G ((sd S).fact 20)
  d__law_any := ⟨(sd S).def_ 23 rfl⟩
  m__law_any := He.glo_ok X G ((sd S).fact 21)
  d__law_rule := ⟨(sd S).def_ 24 rfl⟩
  m__law_rule := He.glo_ok X G ((sd S).fact 22)
  d__law_row := ⟨(sd S).def_ 25 rfl⟩
  m__law_row := He.glo_ok X G ((sd S).fact 23)
  d__law_error := ⟨(sd S).def_ 26 rfl⟩
  m__law_error := He.glo_ok X G ((sd S).fact 24)
  d__law_fields_right := ⟨(sd S).def_ 27 rfl⟩
  m__law_fields_right := He.glo_ok X G ((sd S).fact 25)
  d__law_starts_right := ⟨(sd S).def_ 28 rfl⟩
  m__law_starts_right := He.glo_ok X G ((sd S).fact 26)
  d__law_signs_right := ⟨(sd S).def_ 29 rfl⟩
  m__law_signs_right := He.glo_ok X G ((sd S).fact 27)
  d_law := ⟨(sd S).def_ 30 rfl⟩
  m_law := He.glo_ok X G ((sd S).fact 28)
  m_Grown := He.glo_ok X G ((sd S).fact 29)
  cl_Grown := He.cls_ok ((sd S).fact 30)
  mk_Grown := He.mkr_ok ((sd S).fact 31)
  in_Grown := insB_ok (He.cls_ok ((sd S).fact 30)) (all_at S.more 0 rfl)
  ba_Grown := basicB_ok (all_at S.more 1 rfl)
  me_Grown := He.meth_ok ((sd S).fact 32)
  nf_Grown := all_at S.more 2 rfl
  na_Grown_rule := He.noat_ok ((sd S).fact 33)
  na_Grown_start := He.noat_ok ((sd S).fact 34)
  x_NoNumber := ownX_ok X G ((sd S).fact 35) ((sd S).fact 36)
  m_NoNumber := He.glo_ok X G ((sd S).fact 35)
  x_NoRule := ownX_ok X G ((sd S).fact 37) ((sd S).fact 38)
  m_NoRule := He.glo_ok X G ((sd S).fact 37)
  x_NoSigns := ownX_ok X G ((sd S).fact 39) ((sd S).fact 40)
  m_NoSigns := He.glo_ok X G ((sd S).fact 39)
  x_NoStart := ownX_ok X G ((sd S).fact 41) ((sd S).fact 42)
  m_NoStart := He.glo_ok X G ((sd S).fact 41)
  x_NoGrown := ownX_ok X G ((sd S).fact 43) ((sd S).fact 44)
  m_NoGrown := He.glo_ok X G ((sd S).fact 43)
  i_MOST_SIGNS := He.int_ok X G ((sd S).fact 45)
  i_MOST_PUT := He.int_ok X G ((sd S).fact 46)
  i_MOST_ROW := He.int_ok X G ((sd S).fact 47)
  i_MOST_GROWN := He.int_ok X G ((sd S).fact 48)
  i_MOST_TIMES := He.int_ok X G ((sd S).fact 49)
  i_MOST_ROAD := He.int_ok X G ((sd S).fact 50)
  f_ValueError := He.free_ok X G ((sd S).fact 51)
  f_abs := He.free_ok X G ((sd S).fact 52)
  f_all := He.free_ok X G ((sd S).fact 53)
  f_bool := He.free_ok X G ((sd S).fact 54)
  f_enumerate := He.free_ok X G ((sd S).fact 55)
  f_int := He.free_ok X G ((sd S).fact 56)
  f_isinstance := He.free_ok X G ((sd S).fact 57)
  f_len := He.free_ok X G ((sd S).fact 58)
  f_list := He.free_ok X G ((sd S).fact 59)
  f_max := He.free_ok X G ((sd S).fact 60)
  f_range := He.free_ok X G ((sd S).fact 61)
  f_sum := He.free_ok X G ((sd S).fact 62)
  f_tuple := He.free_ok X G ((sd S).fact 63)
  t_uq := of_decide_eq_true (all_at S.more 3 rfl)
  e_exc := fun cc h => by
    simp only [e_cs, csK, List.mem_cons, List.not_mem_nil, or_false] at h
    rcases h with rfl | rfl | rfl | rfl | rfl
    · exact excB_ok (all_at S.more 4 rfl)
    · exact excB_ok (all_at S.more 5 rfl)
    · exact excB_ok (all_at S.more 6 rfl)
    · exact excB_ok (all_at S.more 7 rfl)
    · exact excB_ok (all_at S.more 8 rfl)
  e_kit := fun cc h u b hb => by
    simp only [e_cs, csK, List.mem_cons, List.not_mem_nil, or_false] at h
    rcases h with rfl | rfl | rfl | rfl | rfl
    · exact kit_of_all (of_decide_eq_true (all_at S.more 9 rfl)) (of_decide_eq_true (all_at S.more 10 rfl)) (of_decide_eq_true (all_at S.more 11 rfl)) (of_decide_eq_true (all_at S.more 12 rfl)) (of_decide_eq_true (all_at S.more 13 rfl)) hb
    · exact kit_of_all (of_decide_eq_true (all_at S.more 14 rfl)) (of_decide_eq_true (all_at S.more 15 rfl)) (of_decide_eq_true (all_at S.more 16 rfl)) (of_decide_eq_true (all_at S.more 17 rfl)) (of_decide_eq_true (all_at S.more 18 rfl)) hb
    · exact kit_of_all (of_decide_eq_true (all_at S.more 19 rfl)) (of_decide_eq_true (all_at S.more 20 rfl)) (of_decide_eq_true (all_at S.more 21 rfl)) (of_decide_eq_true (all_at S.more 22 rfl)) (of_decide_eq_true (all_at S.more 23 rfl)) hb
    · exact kit_of_all (of_decide_eq_true (all_at S.more 24 rfl)) (of_decide_eq_true (all_at S.more 25 rfl)) (of_decide_eq_true (all_at S.more 26 rfl)) (of_decide_eq_true (all_at S.more 27 rfl)) (of_decide_eq_true (all_at S.more 28 rfl)) hb
    · exact kit_of_all (of_decide_eq_true (all_at S.more 29 rfl)) (of_decide_eq_true (all_at S.more 30 rfl)) (of_decide_eq_true (all_at S.more 31 rfl)) (of_decide_eq_true (all_at S.more 32 rfl)) (of_decide_eq_true (all_at S.more 33 rfl)) hb
  e_exm := fun cc h => by
    simp only [e_cs, csK, List.mem_cons, List.not_mem_nil, or_false] at h
    rcases h with rfl | rfl | rfl | rfl | rfl
    · exact He.exm_ok ((sd S).fact 64)
    · exact He.exm_ok ((sd S).fact 65)
    · exact He.exm_ok ((sd S).fact 66)
    · exact He.exm_ok ((sd S).fact 67)
    · exact He.exm_ok ((sd S).fact 68)
  e_dis := ⟨of_decide_eq_true (all_at S.more 34 rfl)⟩
  m_NumeralError := He.glo_ok X G ((sd S).fact 69)
end K76


set_option Elab.async false
set_option linter.all false
set_option maxRecDepth 100000
set_option maxHeartbeats 0
namespace K76
open PySem PySem.Spec PyProof.Rows L2 LamX Ny
def amb (K : PySem.W.Frag) (sa : Addr) (sn : List Int) : Amb := { T := tabsK K, sa := sa, sn := sn }
theorem amb_ok {K : PySem.W.Frag} {sa : Addr} {sn : List Int} : AmbOk (amb K sa sn) (tabsK K) := ⟨rfl, rfl⟩
def spLaw (K : PySem.W.Frag) : Sp := fun vs H Q E => ∃ sa sn, spD K (amb K sa sn) (den_law (amb K sa sn) (csK K)) vs H Q E
theorem fn_law {P : Program} {w : World} {K : PySem.W.Frag} {mg : Str → Option Value} {base : Heap} (T : Txt K mg) {fd : FuncData} (F : FunD K "law" "law" (defArgs (top 46)) (defBody (top 46)) (defScope (top 46)) [] [] (He.fAd K ("law", none)) fd)
    (TB : ∀ x ∈ lamsN, TabB base mg (He.cT K (x, none)).1 (He.cT K (x, none)).2) : FnOk P w K mg base (L2N.CX P w) 11 (He.fAd K ("law", none)) fd ["script"] (spLaw K) := by
  refine ⟨fun vs H Q E h => ?_, fun A outer s H args us vs Q E hr e0 hb hv h => ?_⟩
  · obtain ⟨sa, sn, h⟩ := h
    exact spD_len h
  · obtain ⟨sa, sn, h⟩ := h
    exact (all_top F T amb_ok TB).run A outer s H args us vs Q E hr e0 hb hv h
theorem law_sp {K : PySem.W.Frag} (hd : Dis (csK K)) {H : Hp} {a : Addr} {ns : List Int} (hl : ns.length ≤ 63) (hT : ∀ p ∈ tabsK K, H p.1 = some (.tbl #[])) (hS : SqL K H a (ns.map V.int)) : spLaw K [.ref a] H (fun v _ => v = .bl true) fun _ _ _ => False := by
  obtain ⟨M, hM⟩ := law_true (A := amb K a ns) hd hl
  refine ⟨a, ns, [.ext (.ref a)], ⟨fun _ => 0, H, []⟩, rfl, ⟨fun i j hi => absurd hi (by simp), fun i mo e => by simp at e, fun p hp => TabS.nil (hT p hp), ?_⟩, Reps.cons (by simp only [Rep]) Reps.nil, ?_⟩
  · rcases hS with h | h
    · exact .inl ⟨h, fun i hi => absurd hi (by simp)⟩
    · exact .inr h
  · show Post K _ _ _ _ _ _ (den_law (amb K a ns) (csK K) [.ext (.ref (amb K a ns).sa)] [])
    rw [hM]
    intro v W' ok l e r
    simpa only [Rep] using r
end K76
open PySem PySem.W PySem.Calls PyProof.Rows
theorem PySem.Challenge.cw_anynumeral_k76_whole_endless_rows_and_th_holds : PySem.Challenge.rw_anynumeral_k76_whole_endless_rows_and_th.Holds := by
  w_on; o_law
  refine HandSHeadRun.head_any (r := OpenLaw.row PySem.Challenge.rw_anynumeral_k76_whole_endless_rows_and_th) (q := view (OpenLaw.row PySem.Challenge.rw_anynumeral_k76_whole_endless_rows_and_th).prog [46]) (H := K76.hk) (ob := K76.ob) (M := 6000) (loose := K76.loose) (d := HandSHeadRun.topDef (OpenLaw.row PySem.Challenge.rw_anynumeral_k76_whole_endless_rows_and_th).prog 46) (kwd := []) K76.ob_eq
    (by kernel_rfl) (fun s => by kernel_rfl) K76.run (by kernel_rfl) (by kernel_rfl) (by kernel_rfl) (by rfl) (by first | assumption | decide +kernel) (by decide +kernel) ⟨rfl, rfl, rfl, rfl, rfl, by decide +kernel⟩ ?hw ?hc
  case hw => w_witness2
  case hc =>
    refine LamX.walk_ofTsE (l := PySem.Challenge.rw_anynumeral_k76_whole_endless_rows_and_th) (n := 63) (k := 11) (x := "script") (CX := fun w => L2N.CX (PySem.Challenge.rw_anynumeral_k76_whole_endless_rows_and_th).prog w) rfl (by decide) (by kernel_rfl) ⟨rfl, by decide, by decide⟩ ?F (fun w H s e s' z => ?_)
    case F =>
      intro w mg fa h Y G hmg0
      obtain ⟨K, KX, S⟩ := Y
      have hmg : mg ("law" : PySem.Str) = some (.ref fa) := by
        have e : (HandSHeadRun.topDef (OpenLaw.row PySem.Challenge.rw_anynumeral_k76_whole_endless_rows_and_th).prog 46).name = ("law" : PySem.Str) := by kernel_rfl
        rw [← e]
        exact hmg0
      have T := K76.txt KX G S
      obtain ⟨fd, F⟩ := T.d_law.ex
      have e := hmg.symm.trans T.m_law
      cases e
      refine ⟨K, KX, fd, K76.tf.map (He.cT K), K76.spLaw K, fun p hp => ?_, fun p hp => ?_, fun p hp => ?_, fun s u => ?_, fun H a ns hl _ hH hS => K76.law_sp T.e_dis hl (fun p hp => ?_) hS, fun base _ _ TB => K76.fn_law T F fun x hx => ?_⟩
      · obtain ⟨q, hq, rfl⟩ := List.mem_map.mp hp
        exact S.empty q hq
      · obtain ⟨q, hq, rfl⟩ := List.mem_map.mp hp
        exact S.out q hq
      · obtain ⟨q, hq, rfl⟩ := List.mem_map.mp hp
        exact codeHd_of_K KX (S.hd q hq)
      · exact F.bindsA (ps := ["script"]) (fun _ _ _ _ _ _ us hl => match us, hl with | [_], _ => rfl) s [u] rfl
      · have hp2 : p ∈ (K76.tf.map fun x => ((He.cT K x).2, Ny.qn x.1)) := hp
        obtain ⟨q, hq, rfl⟩ := List.mem_map.mp hp2
        exact hH _ (List.mem_map.mpr ⟨q, hq, rfl⟩)
      · refine TB (He.cT K (x, none)) (List.mem_map.mpr ⟨(x, none), ?_, rfl⟩)
        have h2 : x ∈ (K76.tf.map (·.1)) := hx
        obtain ⟨q, hq, rfl⟩ := List.mem_map.mp h2
        have h3 : ∀ q ∈ K76.tf, q.2 = none := by decide
        have h4 := h3 q hq
        obtain ⟨q1, q2⟩ := q
        simp only at h4
        subst h4
        exact hq
    · obtain ⟨_, _, _, _, _, _, _, _, _, _, _, _, no⟩ := z
      exact no.elim

