import PyProof.Rows.All
import Wide.All
import OpenK.AllK
import Wide.FinOn
import HandS.ForMost
import HandS.Exc
import HandS.TryOnly
import HandS.ExcOwn
import HandS.WordsExc
import HandS.Evl
import HandS.Flow
import HandS.IsInst
import HandS.Wide
import HandS.WideBits
import HandS.Deep
import HandS.Conv
import HandS.Defaults
import HandS.Walk
import HandS.SetFor
import HandS.Nested
import HandS.NestedK
import HandS.HeadHook4
import HandS.HeadWalk
import HandS.HeadEnd
import HandS.Head0
import HandS.Head1
import HandS.Head2
import PySem.Challenge.RW_bitrail_k50_an_ear
set_option Elab.async false
set_option linter.all false
set_option maxRecDepth 100000
set_option maxHeartbeats 4000000
/-! MP: a functional mirror of a part of Python, and that the hand layer's judgements hold with its readings. -/
namespace MP
open PySem L2

/-! ### values, cells, slots, the monad -/
inductive D where
  | non | bl (b : Bool) | int (i : Int) | str (x : Str)
  | lst (xs : List D) | tup (xs : List D) | ref (n : Nat) | slot (i : Nat) | clo (k : Nat) (cs : List D) | scr (ns : List Int)
inductive Cell where
  | inst (c : Nat) (fs : List (Nat × D))
  | lst (xs : List D)
  | dct (kvs : List (List Int × D))
  | dci (kvs : List (Int × D))
inductive Slot where
  | none | val (d : D) | own (xs : List D)
structure Lo where
  l : List Slot
  s : List Cell
inductive Ex where
  | own (c : Nat) (f : Option (Nat × D))
inductive R (α : Type) where
  | ok (a : α) | ex (e : Ex)
abbrev M (α : Type) := Lo → Option (R α × Lo)
inductive Flow where
  | next | brk | cnt | ret (d : D)

@[simp] def M.pure {α : Type} (a : α) : M α := fun L => some (.ok a, L)
def M.bind {α β : Type} (m : M α) (f : α → M β) : M β := fun L => match m L with
  | Option.none => Option.none
  | some (.ok a, L') => f a L'
  | some (.ex e, L') => some (.ex e, L')
@[simp] theorem bind_ok {α β : Type} {m : M α} {f : α → M β} {L L' : Lo} {a : α} (h : m L = some (.ok a, L')) : M.bind m f L = f a L' := by simp [M.bind, h]

/-- a function: its arguments, the store -/
abbrev Fn := List D → List Cell → Option (R D × List Cell)

/-! ### the ghost, and what stands for what -/
structure G where
  ι : List Addr
  F : Hp
  C : Nat → List D → Addr → Prop
structure Ge (g g' : G) : Prop where
  pre : g.ι <+: g'.ι
  ex : Evl.Ex g.F g'.F
  cl : ∀ k cs a, g.C k cs a → g'.C k cs a
theorem Ge.refl (g : G) : Ge g g := ⟨List.prefix_refl _, Evl.Ex.refl _, fun _ _ _ h => h⟩
theorem Ge.trans {a b c : G} (h : Ge a b) (k : Ge b c) : Ge a c := ⟨h.pre.trans k.pre, h.ex.trans k.ex, fun _ _ _ q => k.cl _ _ _ (h.cl _ _ _ q)⟩
theorem Ge.at {g g' : G} (h : Ge g g') {n : Nat} {a : Addr} (e : g.ι[n]? = some a) : g'.ι[n]? = some a := by
  obtain ⟨t, ht⟩ := h.pre
  rw [← ht, List.getElem?_append_left (List.getElem?_eq_some_iff.mp e).1]
  exact e

mutual
inductive Rep (K : PySem.W.Frag) (g : G) : D → V → Prop
  | non : Rep K g .non .non
  | bl (b : Bool) : Rep K g (.bl b) (.bl b)
  | int (i : Int) : Rep K g (.int i) (.int i)
  | str (x : Str) : Rep K g (.str x) (.str x)
  | lst {a : Addr} {xs : List V} {ds : List D} : g.F a = some (.lst xs) → Reps K g ds xs → Rep K g (.lst ds) (.ref a)
  | scr {a : Addr} {ns : List Int} : SqL K g.F a (ns.map V.int) → Rep K g (.scr ns) (.ref a)
  | tup {a : Addr} {xs : List V} {ds : List D} : g.F a = some (.tup xs) → Reps K g ds xs → Rep K g (.tup ds) (.ref a)
  | ref {n : Nat} {a : Addr} : g.ι[n]? = some a → Rep K g (.ref n) (.ref a)
  | clo {k : Nat} {cs : List D} {a : Addr} : g.C k cs a → Rep K g (.clo k cs) (.ref a)
inductive Reps (K : PySem.W.Frag) (g : G) : List D → List V → Prop
  | nil : Reps K g [] []
  | cons {v : V} {vs : List V} {d : D} {ds : List D} : Rep K g d v → Reps K g ds vs → Reps K g (d :: ds) (v :: vs)
end
section
variable {K : PySem.W.Frag} {g g' : G}
mutual
theorem Rep.mono (h : Ge g g') : ∀ (d : D) (v : V), Rep K g d v → Rep K g' d v
  | .non, _, r => by cases r; exact .non
  | .bl b, _, r => by cases r; exact .bl b
  | .int i, _, r => by cases r; exact .int i
  | .str x, _, r => by cases r; exact .str x
  | .lst ds, _, r => by cases r with | lst q rs => exact .lst (h.ex _ _ q) (Reps.mono h ds _ rs)
  | .tup ds, _, r => by cases r with | tup q rs => exact .tup (h.ex _ _ q) (Reps.mono h ds _ rs)
  | .ref n, _, r => by cases r with | ref e => exact .ref (h.at e)
  | .slot _, _, r => by cases r
  | .clo _ _, _, r => by cases r with | clo q => exact .clo (h.cl _ _ _ q)
  | .scr ns, _, r => by cases r with | scr q => exact .scr (Evl.ex_l h.ex q)
theorem Reps.mono (h : Ge g g') : ∀ (ds : List D) (vs : List V), Reps K g ds vs → Reps K g' ds vs
  | [], _, r => by cases r; exact .nil
  | d :: ds, _, r => by cases r with | cons r1 r2 => exact .cons (Rep.mono h d _ r1) (Reps.mono h ds _ r2)
end
theorem Reps.length : ∀ {ds : List D} {vs : List V}, Reps K g ds vs → ds.length = vs.length
  | [], _, r => by cases r; rfl
  | d :: ds, _, r => by cases r with | cons r1 r2 => simp [Reps.length r2]
theorem Reps.get : ∀ {ds : List D} {vs : List V} {i : Nat} {d : D}, Reps K g ds vs → ds[i]? = some d → ∃ v, vs[i]? = some v ∧ Rep K g d v
  | [], _, _, _, _, e => by simp at e
  | d :: ds, _, 0, _, r, e => by cases r with | cons r1 r2 => simp at e; subst e; exact ⟨_, rfl, r1⟩
  | d :: ds, _, i + 1, _, r, e => by
    cases r with
    | cons r1 r2 =>
      obtain ⟨v, h1, h2⟩ := Reps.get (i := i) r2 (by simpa using e)
      exact ⟨v, by simpa using h1, h2⟩
theorem Reps.getV : ∀ {ds : List D} {vs : List V} {i : Nat} {v : V}, Reps K g ds vs → vs[i]? = some v → ∃ d, ds[i]? = some d ∧ Rep K g d v
  | [], _, i, _, r, e => by cases r; simp at e
  | d :: ds, _, 0, _, r, e => by cases r with | cons r1 r2 => simp at e; subst e; exact ⟨_, rfl, r1⟩
  | d :: ds, _, i + 1, _, r, e => by
    cases r with
    | cons r1 r2 =>
      obtain ⟨v, h1, h2⟩ := Reps.getV (i := i) r2 (by simpa using e)
      exact ⟨v, by simpa using h1, h2⟩
theorem Reps.append : ∀ {ds es : List D} {vs us : List V}, Reps K g ds vs → Reps K g es us → Reps K g (ds ++ es) (vs ++ us)
  | [], _, _, _, r, q => by cases r; exact q
  | d :: ds, _, _, _, r, q => by cases r with | cons r1 r2 => exact .cons r1 (Reps.append r2 q)
theorem Reps.take : ∀ {ds : List D} {vs : List V} (n : Nat), Reps K g ds vs → Reps K g (ds.take n) (vs.take n)
  | _, _, 0, _ => .nil
  | [], _, n + 1, r => by cases r; exact .nil
  | d :: ds, _, n + 1, r => by cases r with | cons r1 r2 => exact .cons r1 (Reps.take n r2)
theorem Reps.drop : ∀ {ds : List D} {vs : List V} (n : Nat), Reps K g ds vs → Reps K g (ds.drop n) (vs.drop n)
  | _, _, 0, r => r
  | [], _, n + 1, r => by cases r; exact .nil
  | d :: ds, _, n + 1, r => by cases r with | cons r1 r2 => exact Reps.drop n r2
theorem Reps.set {d : D} {v : V} (h : Rep K g d v) : ∀ {ds : List D} {vs : List V} (n : Nat), Reps K g ds vs → Reps K g (ds.set n d) (vs.set n v)
  | [], _, n, r => by cases r; exact .nil
  | d :: ds, _, 0, r => by cases r with | cons r1 r2 => exact .cons h r2
  | d :: ds, _, n + 1, r => by cases r with | cons r1 r2 => exact .cons r1 (Reps.set h n r2)
theorem Reps.eraseIdx : ∀ {ds : List D} {vs : List V} (n : Nat), Reps K g ds vs → Reps K g (ds.eraseIdx n) (vs.eraseIdx n)
  | [], _, n, r => by cases r; exact .nil
  | d :: ds, _, 0, r => by cases r with | cons r1 r2 => exact r2
  | d :: ds, _, n + 1, r => by cases r with | cons r1 r2 => exact .cons r1 (Reps.eraseIdx n r2)
theorem Reps.one {d : D} {v : V} (h : Rep K g d v) : Reps K g [d] [v] := .cons h .nil
theorem Reps.flat (n : Nat) {ds : List D} {vs : List V} (r : Reps K g ds vs) : Reps K g (List.replicate n ds).flatten (List.replicate n vs).flatten := by
  induction n with
  | zero => exact .nil
  | succ n ih => rw [List.replicate_succ, List.replicate_succ, List.flatten_cons, List.flatten_cons]; exact r.append ih
theorem Reps.ints : ∀ (ns : List Int), Reps K g (ns.map D.int) (ns.map V.int)
  | [] => .nil
  | n :: ns => .cons (.int n) (Reps.ints ns)
/-- a list of ints is just that -/
theorem Reps.ofInts : ∀ {ns : List Int} {vs : List V}, Reps K g (ns.map D.int) vs → vs = ns.map V.int
  | [], _, r => by cases r; rfl
  | n :: ns, _, r => by
    cases r with
    | cons r1 r2 => cases r1; rw [List.map_cons, Reps.ofInts r2]
end

/-- what the text's classes and fields are; the special values -/
structure Tb (K : PySem.W.Frag) where
  cls : Nat → Addr
  fld : Nat → Str
  has : Nat → Nat → Bool
  inj : ∀ c i j, has c i = true → has c j = true → fld i = fld j → i = j
  kc : ∀ c i, has c i = true → Cls K (cls c) ∧ NoAttr K (cls c) (fld i)
  ck : G → Hp → Nat → List D → Addr → Prop
  ckm : ∀ g g' H H' k cs a, Ge g g' → (∀ b φ, H b = some (.ext φ) → H' b = some (.ext φ)) → ck g H k cs a → ck g' H' k cs a
  tabs : Hp → Prop
  tbm : ∀ H H', (∀ b φ, H b = some (.ext φ) → H' b = some (.ext φ)) → (∀ b ps, H b = some (.tbl ps) → H' b = some (.tbl ps)) → tabs H → tabs H'
/-- function objects, code objects, tables stay -/
structure Tame (H H' : Hp) : Prop where
  x : ∀ b φ, H b = some (.ext φ) → H' b = some (.ext φ)
  t : ∀ b ps, H b = some (.tbl ps) → H' b = some (.tbl ps)
theorem Tame.refl (H : Hp) : Tame H H := ⟨fun _ _ h => h, fun _ _ h => h⟩
theorem Tame.new {H : Hp} {p : Addr} {o : HO} (h : H p = none) : Tame H (upd H p o) := ⟨fun b φ e => by rw [upd_ne (ne_of_none e h)]; exact e, fun b φ e => by rw [upd_ne (ne_of_none e h)]; exact e⟩
def plainO : HO → Bool
  | .ext _ => false
  | .tbl _ => false
  | _ => true
theorem Tame.chg {H : Hp} {p : Addr} {u o : HO} (h : H p = some u) (q : plainO u = true) : Tame H (upd H p o) := ⟨fun b φ e => by
  have : b ≠ p := fun z => by subst z; rw [h] at e; cases e; cases q
  rw [upd_ne this]; exact e, fun b φ e => by
  have : b ≠ p := fun z => by subst z; rw [h] at e; cases e; cases q
  rw [upd_ne this]; exact e⟩
theorem Tame.cut {H : Hp} {p : Addr} {u : HO} (h : H p = some u) (q : plainO u = true) : Tame H (fun a => if a = p then none else H a) := ⟨fun b φ e => by
  have : b ≠ p := fun z => by subst z; rw [h] at e; cases e; cases q
  show (if b = p then none else H b) = _
  rw [if_neg this]; exact e, fun b φ e => by
  have : b ≠ p := fun z => by subst z; rw [h] at e; cases e; cases q
  show (if b = p then none else H b) = _
  rw [if_neg this]; exact e⟩
def Tb.sp {K : PySem.W.Frag} (_ : Tb K) (_ : G) (_ : D) (_ : V) : Prop := False
theorem Tb.spm {K : PySem.W.Frag} (T : Tb K) : ∀ g g' d v, Ge g g' → T.sp g d v → T.sp g' d v := fun _ _ _ _ _ h => h
theorem Tb.spn {K : PySem.W.Frag} (T : Tb K) : ∀ g i v, ¬ T.sp g (.slot i) v := fun _ _ _ h => h
theorem Tb.spl {K : PySem.W.Frag} (T : Tb K) : ∀ g ds v, ¬ T.sp g (.lst ds) v := fun _ _ _ h => h
theorem Tb.spr {K : PySem.W.Frag} (T : Tb K) : ∀ g n v, ¬ T.sp g (.ref n) v := fun _ _ _ h => h
theorem Tb.spo {K : PySem.W.Frag} (T : Tb K) : ∀ g d v, T.sp g d v → ∃ k cs, d = .clo k cs := fun _ _ _ h => h.elim

section
variable {K : PySem.W.Frag} (T : Tb K)
/-- what may stand in a slot, as an argument, as an answer -/
def RepA (g : G) (d : D) (v : V) : Prop := Rep K g d v ∨ T.sp g d v
inductive RepAs (g : G) : List D → List V → Prop
  | nil : RepAs g [] []
  | cons {v : V} {vs : List V} {d : D} {ds : List D} : RepA T g d v → RepAs g ds vs → RepAs g (d :: ds) (v :: vs)
inductive RepF (g : G) (c : Nat) : List (Nat × D) → List (Str × V) → Prop
  | nil : RepF g c [] []
  | cons {n : Nat} {d : D} {v : V} {fs : List (Nat × D)} {ws : List (Str × V)} : T.has c n = true → Rep K g d v → RepF g c fs ws → RepF g c ((n, d) :: fs) ((T.fld n, v) :: ws)
inductive RepK (g : G) : List (List Int × D) → List (List Key × V) → Prop
  | nil : RepK g [] []
  | cons {k : List Int} {d : D} {v : V} {fs : List (List Int × D)} {ws : List (List Key × V)} : Rep K g d v → RepK g fs ws → RepK g ((k, d) :: fs) ((k.map Sum.inl, v) :: ws)
inductive RepI (g : G) : List (Int × D) → List (Key × V) → Prop
  | nil : RepI g [] []
  | cons {k : Int} {d : D} {v : V} {fs : List (Int × D)} {ws : List (Key × V)} : Rep K g d v → RepI g fs ws → RepI g ((k, d) :: fs) ((Sum.inl k, v) :: ws)
def RepC (g : G) (H : Hp) (a : Addr) : Cell → Prop
  | .inst c fs => ∃ dx ws, H a = some (.ins (T.cls c) dx ws) ∧ RepF T g c fs ws ∧ fs.length < 100
  | .lst ds => ∃ xs, H a = some (.lst xs) ∧ Reps K g ds xs
  | .dct kvs => ∃ ws, H a = some (.dT ws) ∧ RepK (K := K) g kvs ws
  | .dci kvs => ∃ ws, H a = some (.dK ws) ∧ RepI (K := K) g kvs ws
/-- the store -/
structure RS (g : G) (H : Hp) (S : List Cell) : Prop where
  ex : Evl.Ex g.F H
  nd : g.ι.Nodup
  len : g.ι.length = S.length
  nf : ∀ a ∈ g.ι, g.F a = none
  at_ : ∀ (n : Nat) (a : Addr) (c : Cell), g.ι[n]? = some a → S[n]? = some c → RepC T g H a c
  cl : ∀ k cs a, g.C k cs a → T.ck g H k cs a
  tb : T.tabs H
  ft : ∀ a o, g.F a = some o → plainO o = true
/-- where the def was entered -/
structure Ent where
  g : G
  H : Hp
  x : List (Addr × List V)
structure Rp (B : Ent) (g : G) (σ : L2.St) (H : Hp) (L : Lo) : Prop where
  rs : RS T g H L.s
  ge : Ge B.g g
  bi : ∀ a ∈ B.g.ι, ∃ o, B.H a = some o
  pres : ∀ a o, B.H a = some o → (∀ ps, o ≠ .tbl ps) → a ∉ B.g.ι → H a = some o
  new : ∀ a ∈ g.ι, a ∈ B.g.ι ∨ B.H a = none
  len : L.l.length = σ.length
  val : ∀ (i : Nat) d, L.l[i]? = some (.val d) → ∃ v, σ[i]? = some (some v) ∧ RepA T g d v
  own : ∀ (i : Nat) ds, L.l[i]? = some (.own ds) → ∃ p xs, σ[i]? = some (some (.ref p)) ∧ H p = some (.lst xs) ∧ g.F p = none ∧ p ∉ g.ι ∧ B.H p = none ∧ Reps K g ds xs
  one : ∀ (i j : Nat) ds es p, i ≠ j → L.l[i]? = some (.own ds) → L.l[j]? = some (.own es) → σ[i]? = some (some (.ref p)) → σ[j]? ≠ some (some (.ref p))
  ext : ∀ q ∈ B.x, H q.1 = some (.lst q.2) ∧ g.F q.1 = none ∧ q.1 ∉ g.ι ∧ B.H q.1 = none ∧ ∀ (i : Nat) ds, L.l[i]? = some (.own ds) → σ[i]? ≠ some (some (.ref q.1))
  nfz : ∀ a o, B.H a = some o → B.g.F a = none → g.F a = none
  pt : ∀ a ps, B.H a = some (.tbl ps) → ∃ ps', H a = some (.tbl ps')
/-- with the borrowed slots -/
def RepS (g : G) (σ : L2.St) (d : D) (v : V) : Prop := match d with
  | .slot i => σ[i]? = some (some v) ∧ ∃ a, v = .ref a
  | d => RepA T g d v
end

section
variable {K : PySem.W.Frag} {T : Tb K} {B : Ent} {g g' : G} {σ : L2.St} {H : Hp} {Lc : Lo} {p : Addr} {o : HO}
theorem RepA.mono (h : Ge g g') {d : D} {v : V} (r : RepA T g d v) : RepA T g' d v := r.elim (fun r => .inl (Rep.mono h _ _ r)) fun r => .inr (T.spm _ _ _ _ h r)
theorem RepAs.mono (h : Ge g g') {ds : List D} {vs : List V} (r : RepAs T g ds vs) : RepAs T g' ds vs := by
  induction r with
  | nil => exact .nil
  | cons r _ ih => exact .cons (r.mono h) ih
theorem RepAs.length {ds : List D} {vs : List V} (r : RepAs T g ds vs) : ds.length = vs.length := by
  induction r with
  | nil => rfl
  | cons _ _ ih => simp [ih]
theorem RepAs.get {ds : List D} {vs : List V} (r : RepAs T g ds vs) : ∀ {i : Nat} {d : D}, ds[i]? = some d → ∃ v, vs[i]? = some v ∧ RepA T g d v := by
  induction r with
  | nil => intro i d e; simp at e
  | cons r _ ih =>
    intro i d e
    cases i with
    | zero => simp at e; subst e; exact ⟨_, rfl, r⟩
    | succ i => obtain ⟨v, h1, h2⟩ := ih (i := i) (by simpa using e); exact ⟨v, by simpa using h1, h2⟩
theorem RepS.mono (h : Ge g g') {d : D} {v : V} (r : RepS T g σ d v) : RepS T g' σ d v := by
  cases d <;> first | exact (RepA.mono h r : RepA T g' _ v) | exact r
theorem RepS.ofA {d : D} {v : V} (r : RepA T g d v) (h : ∀ i, d ≠ .slot i) : RepS T g σ d v := by
  unfold RepS
  split
  · rename_i i; exact absurd rfl (h i)
  · exact r
theorem RepA.nslot {d : D} {v : V} (r : RepA T g d v) (i : Nat) : d ≠ .slot i := fun e => by
  subst e
  rcases r with r | r
  · cases r
  · exact T.spn _ _ _ r
theorem RepS.of {d : D} {v : V} (r : RepA T g d v) : RepS T g σ d v := RepS.ofA r r.nslot
theorem RepS.ofR {d : D} {v : V} (r : Rep K g d v) : RepS T g σ d v := RepS.ofA (.inl r) fun i e => by subst e; cases r
theorem RepF.mono (h : Ge g g') {c : Nat} {fs : List (Nat × D)} {ws : List (Str × V)} (r : RepF T g c fs ws) : RepF T g' c fs ws := by
  induction r with
  | nil => exact .nil
  | cons e r _ ih => exact .cons e (Rep.mono h _ _ r) ih
theorem RepK.mono (h : Ge g g') {fs : List (List Int × D)} {ws : List (List Key × V)} (r : RepK (K := K) g fs ws) : RepK (K := K) g' fs ws := by
  induction r with
  | nil => exact .nil
  | cons r _ ih => exact .cons (Rep.mono h _ _ r) ih
theorem RepI.mono (h : Ge g g') {fs : List (Int × D)} {ws : List (Key × V)} (r : RepI (K := K) g fs ws) : RepI (K := K) g' fs ws := by
  induction r with
  | nil => exact .nil
  | cons r _ ih => exact .cons (Rep.mono h _ _ r) ih
theorem RepC.mono (h : Ge g g') {H H' : Hp} {a : Addr} (e : H' a = H a) : ∀ {c : Cell}, RepC T g H a c → RepC T g' H' a c
  | .inst c fs, ⟨dx, ws, q, r, l⟩ => ⟨dx, ws, e.trans q, r.mono h, l⟩
  | .lst ds, ⟨xs, q, r⟩ => ⟨xs, e.trans q, Reps.mono h _ _ r⟩
  | .dct kvs, ⟨ws, q, r⟩ => ⟨ws, e.trans q, r.mono h⟩
  | .dci kvs, ⟨ws, q, r⟩ => ⟨ws, e.trans q, r.mono h⟩
theorem RepC.there {H : Hp} {a : Addr} : ∀ {c : Cell}, RepC T g H a c → ∃ o, H a = some o
  | .inst c fs, ⟨dx, ws, q, _⟩ => ⟨_, q⟩
  | .lst ds, ⟨xs, q, r⟩ => ⟨_, q⟩
  | .dct kvs, ⟨ws, q, r⟩ => ⟨_, q⟩
  | .dci kvs, ⟨ws, q, r⟩ => ⟨_, q⟩
theorem RepC.plain {H : Hp} {a : Addr} : ∀ {c : Cell}, RepC T g H a c → ∃ o, H a = some o ∧ plainO o = true
  | .inst c fs, ⟨dx, ws, q, _⟩ => ⟨_, q, rfl⟩
  | .lst ds, ⟨xs, q, r⟩ => ⟨_, q, rfl⟩
  | .dct kvs, ⟨ws, q, r⟩ => ⟨_, q, rfl⟩
  | .dci kvs, ⟨ws, q, r⟩ => ⟨_, q, rfl⟩
theorem RS.plain {S : List Cell} (r : RS T g H S) {n : Nat} {a : Addr} (h : g.ι[n]? = some a) : ∃ o, H a = some o ∧ plainO o = true := by
  have hl : n < S.length := by rw [← r.len]; exact (List.getElem?_eq_some_iff.mp h).1
  exact (r.at_ n a S[n] h (by simp [hl])).plain
theorem RS.there {S : List Cell} (r : RS T g H S) {a : Addr} (h : a ∈ g.ι) : ∃ o, H a = some o := by
  obtain ⟨n, hn⟩ := List.mem_iff_getElem?.mp h
  have hl : n < S.length := by rw [← r.len]; exact (List.getElem?_eq_some_iff.mp hn).1
  exact (r.at_ n a S[n] hn (by simp [hl])).there
theorem RS.fresh {S : List Cell} (r : RS T g H S) (h : H p = none) : p ∉ g.ι ∧ g.F p = none := by
  refine ⟨fun m => ?_, ?_⟩
  · obtain ⟨o, e⟩ := r.there m
    rw [h] at e; cases e
  · cases e : g.F p with
    | none => rfl
    | some o => rw [r.ex _ _ e] at h; cases h
abbrev G.frz (g : G) (p : Addr) (o : HO) : G := ⟨g.ι, upd g.F p o, g.C⟩
theorem Ge.frz (h : g.F p = none) : Ge g (g.frz p o) := ⟨List.prefix_refl _, Evl.Ex.new h, fun _ _ _ h => h⟩
/-- a new thing that never changes -/
theorem RS.alloc {S : List Cell} (r : RS T g H S) (h : H p = none) (ho : plainO o = true := by rfl) : RS T (g.frz p o) (upd H p o) S := by
  obtain ⟨h1, h2⟩ := r.fresh h
  refine ⟨fun a u e => ?_, r.nd, r.len, fun a m => ?_, fun n a c e1 e2 => ?_, fun k cs a e => T.ckm _ _ _ _ _ _ _ (Ge.frz h2) (Tame.new h).x (r.cl k cs a e), T.tbm _ _ (Tame.new h).x (Tame.new h).t r.tb, fun a u e => by
    have e : upd g.F p o a = some u := e
    by_cases q : a = p
    · subst q; rw [upd_same] at e; cases e; exact ho
    · rw [upd_ne q] at e; exact r.ft a u e⟩
  · by_cases q : a = p
    · subst q; have e : upd g.F a o a = some u := e; rw [upd_same] at e ⊢; exact e
    · have e : upd g.F p o a = some u := e
      rw [upd_ne q] at e ⊢; exact r.ex _ _ e
  · have q : a ≠ p := fun z => h1 (z ▸ m)
    show upd g.F p o a = none
    rw [upd_ne q]; exact r.nf a m
  · have q : a ≠ p := fun z => h1 (z ▸ List.mem_of_getElem? e1)
    exact (r.at_ n a c e1 e2).mono (Ge.frz h2) (upd_ne q)
theorem Rp.thereB (r : Rp T B g σ H Lc) {p : Addr} {o : HO} (e : B.H p = some o) : ∃ u, H p = some u := by
  by_cases hb : p ∈ B.g.ι
  · obtain ⟨t, ht⟩ := r.ge.pre
    exact r.rs.there (by rw [← ht]; exact List.mem_append_left _ hb)
  · cases o with
    | tbl ps => obtain ⟨_, q⟩ := r.pt p ps e; exact ⟨_, q⟩
    | _ => exact ⟨_, r.pres p _ e (fun _ z => by cases z) hb⟩
theorem Rp.notB (r : Rp T B g σ H Lc) (h : H p = none) : B.H p = none := by
  cases q : B.H p with
  | none => rfl
  | some u => obtain ⟨z, hz⟩ := r.thereB q; rw [h] at hz; cases hz
theorem Rp.notOwn (r : Rp T B g σ H Lc) (h : H p = none) : ∀ (i : Nat) ds, Lc.l[i]? = some (.own ds) → σ[i]? ≠ some (some (.ref p)) := fun i ds e z => by
  obtain ⟨q, xs, e1, e2, _⟩ := r.own i ds e
  rw [z] at e1
  cases e1
  rw [h] at e2; cases e2
theorem Rp.alloc (r : Rp T B g σ H Lc) (h : H p = none) (ho : plainO o = true := by rfl) : Rp T B (g.frz p o) σ (upd H p o) Lc := by
  obtain ⟨h1, h2⟩ := r.rs.fresh h
  have hg : Ge g (g.frz p o) := Ge.frz h2
  refine ⟨r.rs.alloc h ho, r.ge.trans hg, r.bi, fun a u e nt n => ?_, r.new, r.len, fun i d e => ?_, fun i ds e => ?_, r.one, fun q m => ?_, fun a u e1 e2 => ?_, fun a ps e => let ⟨ps', q⟩ := r.pt a ps e; ⟨ps', (Tame.new h).t _ _ q⟩⟩
  · have q := r.pres a u e nt n
    rw [upd_ne (ne_of_none q h)]; exact q
  · obtain ⟨v, e1, e2⟩ := r.val i d e
    exact ⟨v, e1, e2.mono hg⟩
  · obtain ⟨q, xs, e1, e2, e3, e4, e5, e6⟩ := r.own i ds e
    have ne := ne_of_none e2 h
    exact ⟨q, xs, e1, by rw [upd_ne ne]; exact e2, by show upd g.F p o q = none; rw [upd_ne ne]; exact e3, e4, e5, Reps.mono hg _ _ e6⟩
  · obtain ⟨a1, a2, a3, a4, a5⟩ := r.ext q m
    have ne := ne_of_none a1 h
    exact ⟨by rw [upd_ne ne]; exact a1, by show upd g.F p o q.1 = none; rw [upd_ne ne]; exact a2, a3, a4, a5⟩
  · show upd g.F p o a = none
    rw [upd_ne (ne_of_none e1 (r.notB h))]; exact r.nfz a u e1 e2
/-- a new thing that nobody asks for -/
theorem RS.junk {S : List Cell} (r : RS T g H S) (h : H p = none) : RS T g (upd H p o) S := by
  obtain ⟨h1, h2⟩ := r.fresh h
  refine ⟨r.ex.trans (Evl.Ex.new h), r.nd, r.len, r.nf, fun n a c e1 e2 => ?_, fun k cs a e => T.ckm _ _ _ _ _ _ _ (Ge.refl _) (Tame.new h).x (r.cl k cs a e), T.tbm _ _ (Tame.new h).x (Tame.new h).t r.tb, r.ft⟩
  have q : a ≠ p := fun z => h1 (z ▸ List.mem_of_getElem? e1)
  exact (r.at_ n a c e1 e2).mono (Ge.refl _) (upd_ne q)
theorem Rp.junk (r : Rp T B g σ H Lc) (h : H p = none) : Rp T B g σ (upd H p o) Lc := by
  refine ⟨r.rs.junk h, r.ge, r.bi, fun a u e nt n => ?_, r.new, r.len, r.val, fun i ds e => ?_, r.one, fun q m => ?_, r.nfz, fun a ps e => let ⟨ps', q⟩ := r.pt a ps e; ⟨ps', (Tame.new h).t _ _ q⟩⟩
  · have q := r.pres a u e nt n
    rw [upd_ne (ne_of_none q h)]; exact q
  · obtain ⟨q, xs, e1, e2, e3, e4, e5, e6⟩ := r.own i ds e
    exact ⟨q, xs, e1, by rw [upd_ne (ne_of_none e2 h)]; exact e2, e3, e4, e5, e6⟩
  · obtain ⟨a1, a2, a3, a4, a5⟩ := r.ext q m
    exact ⟨by rw [upd_ne (ne_of_none a1 h)]; exact a1, a2, a3, a4, a5⟩
/-- a new cell -/
abbrev G.cell (g : G) (p : Addr) : G := ⟨g.ι ++ [p], g.F, g.C⟩
theorem Ge.cell : Ge g (g.cell p) := ⟨List.prefix_append _ _, Evl.Ex.refl _, fun _ _ _ h => h⟩
theorem Rp.cell {c : Cell} (r : Rp T B g σ H Lc) (h : H p = none) (hc : RepC T (g.cell p) (upd H p o) p c) : Rp T B (g.cell p) σ (upd H p o) { Lc with s := Lc.s ++ [c] } := by
  obtain ⟨h1, h2⟩ := r.rs.fresh h
  have hg : Ge g (g.cell p) := Ge.cell
  refine ⟨⟨r.rs.ex.trans (Evl.Ex.new h), ?_, ?_, fun a m => ?_, fun n a c' e1 e2 => ?_, fun k cs a e => T.ckm _ _ _ _ _ _ _ hg (Tame.new h).x (r.rs.cl k cs a e), T.tbm _ _ (Tame.new h).x (Tame.new h).t r.rs.tb, r.rs.ft⟩, r.ge.trans hg, r.bi, fun a u e nt n => ?_, fun a m => ?_, r.len, fun i d e => ?_, fun i ds e => ?_, r.one, fun q m => ?_, r.nfz, fun a ps e => let ⟨ps', q⟩ := r.pt a ps e; ⟨ps', (Tame.new h).t _ _ q⟩⟩
  · refine List.nodup_append.mpr ⟨r.rs.nd, by simp, fun a m b mb z => ?_⟩
    have : b = p := by simpa using mb
    exact h1 (this ▸ z ▸ m)
  · simp [r.rs.len]
  · rcases List.mem_append.mp m with m | m
    · exact r.rs.nf a m
    · have : a = p := by simpa using m
      rw [this]; exact h2
  · by_cases hn : n < g.ι.length
    · rw [List.getElem?_append_left hn] at e1
      have e2 : (Lc.s ++ [c])[n]? = some c' := e2
      rw [List.getElem?_append_left (by rw [← r.rs.len]; exact hn)] at e2
      have q : a ≠ p := fun z => h1 (z ▸ List.mem_of_getElem? e1)
      exact (r.rs.at_ n a c' e1 e2).mono hg (upd_ne q)
    · have hl : n < (g.ι ++ [p]).length := (List.getElem?_eq_some_iff.mp e1).1
      have e : n = g.ι.length := by simp at hl; omega
      subst e
      have e2 : (Lc.s ++ [c])[g.ι.length]? = some c' := e2
      rw [r.rs.len] at e2
      simp at e1 e2
      subst e1 e2
      exact hc
  · have q := r.pres a u e nt n
    rw [upd_ne (ne_of_none q h)]; exact q
  · rcases List.mem_append.mp m with m | m
    · exact r.new a m
    · have e : a = p := by simpa using m
      subst e
      exact .inr (r.notB h)
  · obtain ⟨v, e1, e2⟩ := r.val i d e
    exact ⟨v, e1, e2.mono hg⟩
  · obtain ⟨q, xs, e1, e2, e3, e4, e5, e6⟩ := r.own i ds e
    refine ⟨q, xs, e1, by rw [upd_ne (ne_of_none e2 h)]; exact e2, e3, fun m => ?_, e5, Reps.mono hg _ _ e6⟩
    rcases List.mem_append.mp m with m | m
    · exact e4 m
    · have e : q = p := by simpa using m
      exact ne_of_none e2 h e
  · obtain ⟨a1, a2, a3, a4, a5⟩ := r.ext q m
    have ne := ne_of_none a1 h
    refine ⟨by rw [upd_ne ne]; exact a1, a2, fun m => ?_, a4, a5⟩
    rcases List.mem_append.mp m with m | m
    · exact a3 m
    · exact ne (by simpa using m)
/-- a cell changes -/
theorem Rp.setCell {n : Nat} {a : Addr} {c : Cell} (r : Rp T B g σ H Lc) (hn : g.ι[n]? = some a) (hc : RepC T g (upd H a o) a c) : Rp T B g σ (upd H a o) { Lc with s := Lc.s.set n c } := by
  have ma : a ∈ g.ι := List.mem_of_getElem? hn
  have fa := r.rs.nf a ma
  obtain ⟨uo, huo, hpl⟩ := r.rs.plain hn
  have tm := Tame.chg (o := o) huo hpl
  refine ⟨⟨fun b u e => ?_, r.rs.nd, by simp [r.rs.len], r.rs.nf, fun m b c' e1 e2 => ?_, fun k cs a e => T.ckm _ _ _ _ _ _ _ (Ge.refl _) tm.x (r.rs.cl k cs a e), T.tbm _ _ tm.x tm.t r.rs.tb, r.rs.ft⟩, r.ge, r.bi, fun b u e nt nb => ?_, r.new, r.len, r.val, fun i ds e => ?_, r.one, fun q m => ?_, r.nfz, fun a ps e => let ⟨ps', q⟩ := r.pt a ps e; ⟨ps', tm.t _ _ q⟩⟩
  · rw [upd_ne (ne_of_none e fa)]; exact r.rs.ex _ _ e
  · by_cases q : m = n
    · subst q
      rw [hn] at e1
      cases e1
      have hl : m < Lc.s.length := by rw [← r.rs.len]; exact (List.getElem?_eq_some_iff.mp hn).1
      have e2 : (Lc.s.set m c)[m]? = some c' := e2
      rw [List.getElem?_set_self hl] at e2
      cases e2
      exact hc
    · have e2 : (Lc.s.set n c)[m]? = some c' := e2
      rw [List.getElem?_set_ne (Ne.symm q)] at e2
      have ne : b ≠ a := fun z => by
        subst z
        exact q (L2.nd_ix r.rs.nd e1 hn)
      exact (r.rs.at_ m b c' e1 e2).mono (Ge.refl _) (upd_ne ne)
  · have q := r.pres b u e nt nb
    have ne : b ≠ a := fun z => by
      subst z
      rcases r.new b ma with h | h
      · exact nb h
      · rw [h] at e; cases e
    rw [upd_ne ne]; exact q
  · obtain ⟨q, xs, e1, e2, e3, e4, e5, e6⟩ := r.own i ds e
    have ne : q ≠ a := fun z => e4 (z ▸ ma)
    exact ⟨q, xs, e1, by rw [upd_ne ne]; exact e2, e3, e4, e5, e6⟩
  · obtain ⟨a1, a2, a3, a4, a5⟩ := r.ext q m
    have ne : q.1 ≠ a := fun z => a3 (z ▸ ma)
    exact ⟨by rw [upd_ne ne]; exact a1, a2, a3, a4, a5⟩
/-- a list of the frame's own changes -/
theorem Rp.setOwn {i : Nat} {ds es : List D} {ys : List V} (r : Rp T B g σ H Lc) (hi : Lc.l[i]? = some (.own ds)) (hp : σ[i]? = some (some (.ref p))) (hs : Reps K g es ys) :
    Rp T B g σ (upd H p (.lst ys)) { Lc with l := Lc.l.set i (.own es) } := by
  obtain ⟨p', xs, e1, e2, e3, e4, e5, e6⟩ := r.own i ds hi
  rw [hp] at e1
  cases e1
  have hli : i < Lc.l.length := (List.getElem?_eq_some_iff.mp hi).1
  have tm := Tame.chg (o := .lst ys) e2 rfl
  refine ⟨⟨fun b u e => ?_, r.rs.nd, r.rs.len, r.rs.nf, fun m b c' q1 q2 => ?_, fun k cs a e => T.ckm _ _ _ _ _ _ _ (Ge.refl _) tm.x (r.rs.cl k cs a e), T.tbm _ _ tm.x tm.t r.rs.tb, r.rs.ft⟩, r.ge, r.bi, fun b u e nt nb => ?_, r.new, by simpa using r.len, fun j d e => ?_, fun j ds' e => ?_, fun j k ds' es' q hjk a1 a2 b1 => ?_, fun q m => ?_, r.nfz, fun a ps e => let ⟨ps', q⟩ := r.pt a ps e; ⟨ps', tm.t _ _ q⟩⟩
  · rw [upd_ne (ne_of_none e e3)]; exact r.rs.ex _ _ e
  · have ne : b ≠ p := fun z => e4 (z ▸ List.mem_of_getElem? q1)
    exact (r.rs.at_ m b c' q1 q2).mono (Ge.refl _) (upd_ne ne)
  · have q := r.pres b u e nt nb
    rw [upd_ne (ne_of_none e e5)]; exact q
  · have e : (Lc.l.set i (.own es))[j]? = some (.val d) := e
    by_cases q : j = i
    · subst q; rw [List.getElem?_set_self hli] at e; cases e
    · rw [List.getElem?_set_ne (Ne.symm q)] at e
      exact r.val j d e
  · have e : (Lc.l.set i (.own es))[j]? = some (.own ds') := e
    by_cases q : j = i
    · subst q
      rw [List.getElem?_set_self hli] at e
      cases e
      exact ⟨p, ys, hp, upd_same, e3, e4, e5, hs⟩
    · rw [List.getElem?_set_ne (Ne.symm q)] at e
      obtain ⟨q', xs', a1, a2, a3, a4, a5, a6⟩ := r.own j ds' e
      have ne : q' ≠ p := fun z => r.one j i ds' ds q' q e hi a1 (z ▸ hp)
      exact ⟨q', xs', a1, by rw [upd_ne ne]; exact a2, a3, a4, a5, a6⟩
  · have a1 : (Lc.l.set i (.own es))[j]? = some (.own ds') := a1
    have a2 : (Lc.l.set i (.own es))[k]? = some (.own es') := a2
    have h1 : ∃ z, Lc.l[j]? = some (.own z) := by
      by_cases q : j = i
      · subst q; exact ⟨_, hi⟩
      · rw [List.getElem?_set_ne (Ne.symm q)] at a1; exact ⟨_, a1⟩
    have h2 : ∃ z, Lc.l[k]? = some (.own z) := by
      by_cases q : k = i
      · subst q; exact ⟨_, hi⟩
      · rw [List.getElem?_set_ne (Ne.symm q)] at a2; exact ⟨_, a2⟩
    obtain ⟨z1, h1⟩ := h1
    obtain ⟨z2, h2⟩ := h2
    exact r.one j k z1 z2 q hjk h1 h2 b1
  · obtain ⟨a1, a2, a3, a4, a5⟩ := r.ext q m
    have ne : q.1 ≠ p := fun z => a5 i ds hi (z ▸ hp)
    refine ⟨by rw [upd_ne ne]; exact a1, a2, a3, a4, fun j ds' e => ?_⟩
    have e : (Lc.l.set i (.own es))[j]? = some (.own ds') := e
    by_cases qq : j = i
    · subst qq; exact a5 j ds hi
    · rw [List.getElem?_set_ne (Ne.symm qq)] at e; exact a5 j ds' e
/-- a name is stored -/
theorem Rp.setVal {i : Nat} {d : D} {v : V} (r : Rp T B g σ H Lc) (h : RepA T g d v) : Rp T B g (σ.set i (some v)) H { Lc with l := Lc.l.set i (.val d) } := by
  refine ⟨r.rs, r.ge, r.bi, r.pres, r.new, by simpa using r.len, fun j d' e => ?_, fun j ds' e => ?_, fun j k ds' es' q hjk a1 a2 b1 => ?_, fun q m => ?_, r.nfz, r.pt⟩
  · have e : (Lc.l.set i (.val d))[j]? = some (.val d') := e
    by_cases q : j = i
    · subst q
      have hl : j < Lc.l.length := by simpa using (List.getElem?_eq_some_iff.mp e).1
      rw [List.getElem?_set_self hl] at e
      cases e
      exact ⟨v, List.getElem?_set_self (by rw [← r.len]; exact hl), h⟩
    · rw [List.getElem?_set_ne (Ne.symm q)] at e ⊢
      exact r.val j d' e
  · have e : (Lc.l.set i (.val d))[j]? = some (.own ds') := e
    by_cases q : j = i
    · subst q
      have hl : j < Lc.l.length := by simpa using (List.getElem?_eq_some_iff.mp e).1
      rw [List.getElem?_set_self hl] at e
      cases e
    · rw [List.getElem?_set_ne (Ne.symm q)] at e ⊢
      exact r.own j ds' e
  · have a1 : (Lc.l.set i (.val d))[j]? = some (.own ds') := a1
    have a2 : (Lc.l.set i (.val d))[k]? = some (.own es') := a2
    have nj : j ≠ i := fun q => by
      subst q
      have hl : j < Lc.l.length := by simpa using (List.getElem?_eq_some_iff.mp a1).1
      rw [List.getElem?_set_self hl] at a1; cases a1
    have nk : k ≠ i := fun q => by
      subst q
      have hl : k < Lc.l.length := by simpa using (List.getElem?_eq_some_iff.mp a2).1
      rw [List.getElem?_set_self hl] at a2; cases a2
    rw [List.getElem?_set_ne (Ne.symm nj)] at a1 b1
    rw [List.getElem?_set_ne (Ne.symm nk)] at a2 ⊢
    exact r.one j k ds' es' q hjk a1 a2 b1
  · obtain ⟨a1, a2, a3, a4, a5⟩ := r.ext q m
    refine ⟨a1, a2, a3, a4, fun j ds' e => ?_⟩
    have e : (Lc.l.set i (.val d))[j]? = some (.own ds') := e
    by_cases qq : j = i
    · subst qq
      have hl : j < Lc.l.length := by simpa using (List.getElem?_eq_some_iff.mp e).1
      rw [List.getElem?_set_self hl] at e; cases e
    · rw [List.getElem?_set_ne (Ne.symm qq)] at e ⊢; exact a5 j ds' e
/-- a name is forgotten -/
theorem Rp.setNone {i : Nat} (r : Rp T B g σ H Lc) : Rp T B g (σ.set i none) H { Lc with l := Lc.l.set i .none } := by
  refine ⟨r.rs, r.ge, r.bi, r.pres, r.new, by simpa using r.len, fun j d' e => ?_, fun j ds' e => ?_, fun j k ds' es' q hjk a1 a2 b1 => ?_, fun q m => ?_, r.nfz, r.pt⟩
  · have e : (Lc.l.set i Slot.none)[j]? = some (.val d') := e
    by_cases q : j = i
    · subst q
      have hl : j < Lc.l.length := by simpa using (List.getElem?_eq_some_iff.mp e).1
      rw [List.getElem?_set_self hl] at e
      cases e
    · rw [List.getElem?_set_ne (Ne.symm q)] at e ⊢
      exact r.val j d' e
  · have e : (Lc.l.set i Slot.none)[j]? = some (.own ds') := e
    by_cases q : j = i
    · subst q
      have hl : j < Lc.l.length := by simpa using (List.getElem?_eq_some_iff.mp e).1
      rw [List.getElem?_set_self hl] at e
      cases e
    · rw [List.getElem?_set_ne (Ne.symm q)] at e ⊢
      exact r.own j ds' e
  · have a1 : (Lc.l.set i Slot.none)[j]? = some (.own ds') := a1
    have a2 : (Lc.l.set i Slot.none)[k]? = some (.own es') := a2
    have nj : j ≠ i := fun q => by
      subst q
      have hl : j < Lc.l.length := by simpa using (List.getElem?_eq_some_iff.mp a1).1
      rw [List.getElem?_set_self hl] at a1; cases a1
    have nk : k ≠ i := fun q => by
      subst q
      have hl : k < Lc.l.length := by simpa using (List.getElem?_eq_some_iff.mp a2).1
      rw [List.getElem?_set_self hl] at a2; cases a2
    rw [List.getElem?_set_ne (Ne.symm nj)] at a1 b1
    rw [List.getElem?_set_ne (Ne.symm nk)] at a2 ⊢
    exact r.one j k ds' es' q hjk a1 a2 b1
  · obtain ⟨a1, a2, a3, a4, a5⟩ := r.ext q m
    refine ⟨a1, a2, a3, a4, fun j ds' e => ?_⟩
    have e : (Lc.l.set i Slot.none)[j]? = some (.own ds') := e
    by_cases qq : j = i
    · subst qq
      have hl : j < Lc.l.length := by simpa using (List.getElem?_eq_some_iff.mp e).1
      rw [List.getElem?_set_self hl] at e; cases e
    · rw [List.getElem?_set_ne (Ne.symm qq)] at e ⊢; exact a5 j ds' e
/-- a new list, a name's own -/
theorem Rp.newOwn {i : Nat} {ds : List D} {xs : List V} (r : Rp T B g σ H Lc) (h : H p = none) (hs : Reps K g ds xs) : Rp T B g (σ.set i (some (.ref p))) (upd H p (.lst xs)) { Lc with l := Lc.l.set i (.own ds) } := by
  obtain ⟨h1, h2⟩ := r.rs.fresh h
  have h3 : B.H p = none := r.notB h
  have J := r.junk (o := .lst xs) h
  have J2 := J.setNone (i := i)
  refine ⟨J.rs, J.ge, J.bi, J.pres, J.new, by simpa using J.len, fun j d' e => ?_, fun j ds' e => ?_, fun j k ds' es' q hjk a1 a2 b1 => ?_, fun q m => ?_, r.nfz, J2.pt⟩
  · have e : (Lc.l.set i (.own ds))[j]? = some (.val d') := e
    by_cases q : j = i
    · subst q
      have hl : j < Lc.l.length := by simpa using (List.getElem?_eq_some_iff.mp e).1
      rw [List.getElem?_set_self hl] at e
      cases e
    · rw [List.getElem?_set_ne (Ne.symm q)] at e ⊢
      exact J.val j d' e
  · have e : (Lc.l.set i (.own ds))[j]? = some (.own ds') := e
    by_cases q : j = i
    · subst q
      have hl : j < Lc.l.length := by simpa using (List.getElem?_eq_some_iff.mp e).1
      rw [List.getElem?_set_self hl] at e
      cases e
      exact ⟨p, xs, List.getElem?_set_self (by rw [← r.len]; exact hl), upd_same, h2, h1, h3, hs⟩
    · rw [List.getElem?_set_ne (Ne.symm q)] at e ⊢
      exact J.own j ds' e
  · have c1 : (Lc.l.set i (.own ds))[j]? = some (.own ds') := a1
    have c2 : (Lc.l.set i (.own ds))[k]? = some (.own es') := a2
    clear a1 a2
    by_cases nj : j = i
    · subst nj
      rw [List.getElem?_set_ne hjk] at c2 ⊢
      have hl : j < Lc.l.length := by simpa using (List.getElem?_eq_some_iff.mp c1).1
      rw [List.getElem?_set_self (by rw [← r.len]; exact hl)] at b1
      cases b1
      intro z
      obtain ⟨q', xs', a1', a2', _⟩ := r.own k es' c2
      rw [a1'] at z
      cases z
      rw [h] at a2'; cases a2'
    · rw [List.getElem?_set_ne (Ne.symm nj)] at c1 b1
      by_cases nk : k = i
      · subst nk
        have hl : k < Lc.l.length := by simpa using (List.getElem?_eq_some_iff.mp c2).1
        rw [List.getElem?_set_self (by rw [← r.len]; exact hl)]
        intro z
        cases z
        obtain ⟨q', xs', a1', a2', _⟩ := r.own j ds' c1
        rw [a1'] at b1
        cases b1
        rw [h] at a2'; cases a2'
      · rw [List.getElem?_set_ne (Ne.symm nk)] at c2 ⊢
        exact r.one j k ds' es' q hjk c1 c2 b1
  · obtain ⟨a1, a2, a3, a4, a5⟩ := J.ext q m
    refine ⟨a1, a2, a3, a4, fun j ds' e => ?_⟩
    have e : (Lc.l.set i (.own ds))[j]? = some (.own ds') := e
    by_cases qq : j = i
    · subst qq
      have hl : j < Lc.l.length := by simpa using (List.getElem?_eq_some_iff.mp e).1
      rw [List.getElem?_set_self (by rw [← r.len]; exact hl)]
      intro z
      have z' : p = q.1 := by injection z with z; injection z with z; injection z
      rw [z', (r.ext q m).1] at h; cases h
    · rw [List.getElem?_set_ne (Ne.symm qq)] at e ⊢; exact (r.ext q m).2.2.2.2 j ds' e
/-- a name's own list is shared from now on -/
theorem Rp.freeze {i : Nat} {ds : List D} (r : Rp T B g σ H Lc) (hi : Lc.l[i]? = some (.own ds)) : ∃ g' p, Ge g g' ∧ σ[i]? = some (some (.ref p)) ∧ Rep K g' (.lst ds) (.ref p) ∧ Rp T B g' σ H { Lc with l := Lc.l.set i (.val (.lst ds)) } := by
  obtain ⟨p, xs, e1, e2, e3, e4, e5, e6⟩ := r.own i ds hi
  have hg : Ge g (g.frz p (.lst xs)) := Ge.frz e3
  have hr : Rep K (g.frz p (.lst xs)) (.lst ds) (.ref p) := .lst (show upd g.F p (.lst xs) p = _ from upd_same) (Reps.mono hg _ _ e6)
  have hli : i < Lc.l.length := (List.getElem?_eq_some_iff.mp hi).1
  refine ⟨g.frz p (.lst xs), p, hg, e1, hr, ⟨⟨fun b u e => ?_, r.rs.nd, r.rs.len, fun a m => ?_, fun m b c' q1 q2 => (r.rs.at_ m b c' q1 q2).mono hg rfl, fun k cs a e => T.ckm _ _ _ _ _ _ _ hg (Tame.refl _).x (r.rs.cl k cs a e), r.rs.tb, fun a u e => by
    have e : upd g.F p (.lst xs) a = some u := e
    by_cases q : a = p
    · subst q; rw [upd_same] at e; cases e; rfl
    · rw [upd_ne q] at e; exact r.rs.ft a u e⟩, r.ge.trans hg, r.bi, r.pres, r.new, by simpa using r.len, fun j d e => ?_, fun j ds' e => ?_, fun j k ds' es' q hjk a1 a2 b1 => ?_, fun q m => ?_, fun a u b1 b2 => ?_, r.pt⟩⟩
  · have e : upd g.F p (.lst xs) b = some u := e
    by_cases q : b = p
    · subst q; rw [upd_same] at e; cases e; exact e2
    · rw [upd_ne q] at e; exact r.rs.ex _ _ e
  · have ne : a ≠ p := fun z => e4 (z ▸ m)
    show upd g.F p (.lst xs) a = none
    rw [upd_ne ne]; exact r.rs.nf a m
  · have e : (Lc.l.set i (.val (.lst ds)))[j]? = some (.val d) := e
    by_cases q : j = i
    · subst q
      rw [List.getElem?_set_self hli] at e
      cases e
      exact ⟨_, e1, .inl hr⟩
    · rw [List.getElem?_set_ne (Ne.symm q)] at e
      obtain ⟨v, h1, h2⟩ := r.val j d e
      exact ⟨v, h1, h2.mono hg⟩
  · have e : (Lc.l.set i (.val (.lst ds)))[j]? = some (.own ds') := e
    by_cases q : j = i
    · subst q; rw [List.getElem?_set_self hli] at e; cases e
    · rw [List.getElem?_set_ne (Ne.symm q)] at e
      obtain ⟨q', xs', a1, a2, a3, a4, a5, a6⟩ := r.own j ds' e
      have ne : q' ≠ p := fun z => r.one j i ds' ds q' q e hi a1 (z ▸ e1)
      exact ⟨q', xs', a1, a2, by show upd g.F p (.lst xs) q' = none; rw [upd_ne ne]; exact a3, a4, a5, Reps.mono hg _ _ a6⟩
  · have a1 : (Lc.l.set i (.val (.lst ds)))[j]? = some (.own ds') := a1
    have a2 : (Lc.l.set i (.val (.lst ds)))[k]? = some (.own es') := a2
    have nj : j ≠ i := fun q => by subst q; rw [List.getElem?_set_self hli] at a1; cases a1
    have nk : k ≠ i := fun q => by subst q; rw [List.getElem?_set_self hli] at a2; cases a2
    rw [List.getElem?_set_ne (Ne.symm nj)] at a1
    rw [List.getElem?_set_ne (Ne.symm nk)] at a2
    exact r.one j k ds' es' q hjk a1 a2 b1
  · obtain ⟨a1, a2, a3, a4, a5⟩ := r.ext q m
    have ne : q.1 ≠ p := fun z => a5 i ds hi (z ▸ e1)
    refine ⟨a1, by show upd g.F p (.lst xs) q.1 = none; rw [upd_ne ne]; exact a2, a3, a4, fun j ds' e => ?_⟩
    have e : (Lc.l.set i (.val (.lst ds)))[j]? = some (.own ds') := e
    by_cases qq : j = i
    · subst qq; rw [List.getElem?_set_self hli] at e; cases e
    · rw [List.getElem?_set_ne (Ne.symm qq)] at e; exact a5 j ds' e
  · show upd g.F p (.lst xs) a = none
    rw [upd_ne (ne_of_none b1 e5)]; exact r.nfz a u b1 b2
/-- an address that the list being made stands at -/
def Ent.push (B : Ent) (q : Addr) (o : List V) : Ent := { B with x := (q, o) :: B.x }
theorem Rp.push {o : List V} (r : Rp T B g σ H Lc) (h : H p = none) : Rp T (B.push p o) g σ (upd H p (.lst o)) Lc := by
  have J := r.junk (o := .lst o) h
  obtain ⟨h1, h2⟩ := r.rs.fresh h
  refine ⟨J.rs, J.ge, J.bi, J.pres, J.new, J.len, J.val, J.own, J.one, fun q m => ?_, J.nfz, J.pt⟩
  rcases List.mem_cons.mp m with rfl | m
  · exact ⟨upd_same, h2, h1, r.notB h, r.notOwn h⟩
  · exact J.ext q m
theorem Rp.pop {o : List V} (r : Rp T (B.push p o) g σ H Lc) : Rp T B g σ H Lc := ⟨r.rs, r.ge, r.bi, r.pres, r.new, r.len, r.val, r.own, r.one, fun q m => r.ext q (List.mem_cons_of_mem _ m), r.nfz, r.pt⟩
/-- the list being made is out of sight -/
theorem Rp.hide {o : List V} (r : Rp T (B.push p o) g σ H Lc) (hx : ∀ q ∈ B.x, q.1 ≠ p) : Rp T B g σ (fun a => if a = p then none else H a) Lc := by
  obtain ⟨a1, a2, a3, a4, a5⟩ := r.ext (p, o) List.mem_cons_self
  have ne : ∀ {a}, a ≠ p → (if a = p then none else H a) = H a := fun h => if_neg h
  have tm := Tame.cut a1 rfl
  refine ⟨⟨fun b u e => ?_, r.rs.nd, r.rs.len, r.rs.nf, fun m b c' q1 q2 => ?_, fun k cs a e => T.ckm _ _ _ _ _ _ _ (Ge.refl _) tm.x (r.rs.cl k cs a e), T.tbm _ _ tm.x tm.t r.rs.tb, r.rs.ft⟩, r.ge, r.bi, fun b u e nt nb => ?_, r.new, r.len, r.val, fun i ds e => ?_, r.one, fun q m => ?_, r.nfz, fun a ps e => let ⟨ps', q⟩ := r.pt a ps e; ⟨ps', tm.t _ _ q⟩⟩
  · have : b ≠ p := ne_of_none e a2
    show (if b = p then none else H b) = some u
    rw [ne this]; exact r.rs.ex _ _ e
  · have : b ≠ p := fun z => a3 (z ▸ List.mem_of_getElem? q1)
    exact (r.rs.at_ m b c' q1 q2).mono (Ge.refl _) (ne this)
  · have : b ≠ p := ne_of_none e a4
    show (if b = p then none else H b) = some u
    rw [ne this]; exact r.pres b u e nt nb
  · obtain ⟨q, xs, e1, e2, e3, e4, e5, e6⟩ := r.own i ds e
    have : q ≠ p := fun z => a5 i ds e (z ▸ e1)
    exact ⟨q, xs, e1, (ne this).trans e2, e3, e4, e5, e6⟩
  · obtain ⟨b1, b2, b3, b4, b5⟩ := r.ext q (List.mem_cons_of_mem _ m)
    exact ⟨(ne (hx q m)).trans b1, b2, b3, b4, b5⟩
theorem Rp.bump {o u : List V} (r : Rp T (B.push p o) g σ H Lc) (hx : ∀ q ∈ B.x, q.1 ≠ p) : Rp T (B.push p u) g σ (upd H p (.lst u)) Lc := by
  have J := (r.hide hx).push (o := u) (if_pos rfl : (if p = p then none else H p) = none)
  have e : upd (fun a => if a = p then none else H a) p (.lst u) = upd H p (.lst u) := by
    funext b
    unfold upd
    split
    · rfl
    · rename_i q; exact if_neg q
  rw [e] at J
  exact J
end
end MP
set_option Elab.async false
set_option linter.all false
set_option maxRecDepth 100000
set_option maxHeartbeats 4000000
/-! MP: readings; expressions. -/
namespace MP
open PySem L2

/-! ### canonical readings -/
section
variable {K : PySem.W.Frag} (T : Tb K) (B : Ent) (W : WX)
def RepX (g : G) (H : Hp) (e : Ex) (cls : Value) (dd : Option Addr) : Prop := match e with
  | .own c Option.none => cls = .ref (T.cls c) ∧ dd = Option.none
  | .own c (some (n, d)) => cls = .ref (T.cls c) ∧ ∃ a v, dd = some a ∧ H a = some (.xd [(T.fld n, v)]) ∧ Rep K g d v
def Kt {α γ : Type} (RR : G → L2.St → α → γ → Prop) (m : M α) (Lc : Lo) (g : G) (σ : L2.St) (H : Hp) (Q : γ → Hp → Prop) : Prop :=
  ∃ r L', m Lc = some (r, L') ∧ Rp T B g σ H Lc ∧ ∀ g' H', Ge g g' → Rp T B g' σ H' L' → match r with
    | .ok a => ∀ v, RR g' σ a v → Q v H'
    | .ex e => ∀ cls dd, RepX T g' H' e cls dd → W cls dd σ H'
def tE (m : M D) : TE := fun σ H Q => ∃ Lc g, Kt T B W (RepS T) m Lc g σ H Q
abbrev RB : G → L2.St → Bool → Bool → Prop := fun _ _ a v => a = v
def tT (m : M Bool) : TT := fun σ H Q => ∃ Lc g, Kt T B W RB m Lc g σ H Q
abbrev RA : G → L2.St → List D → List V → Prop := fun g _ ds vs => RepAs T g ds vs
def tA (m : M (List D)) : TA := fun σ H Q => ∃ Lc g, Kt T B W (RA T) m Lc g σ H Q
def tS (m : M Flow) : TS := fun D σ H => ∃ Lc g r L', m Lc = some (r, L') ∧ Rp T B g σ H Lc ∧ ∀ g' σ' H', Ge g g' → Rp T B g' σ' H' L' → match r with
    | .ok .next => D.nx σ' H'
    | .ok .brk => D.bk σ' H'
    | .ok .cnt => D.ct σ' H'
    | .ok (.ret d) => ∀ v, RepA T g' d v → D.rt v H'
    | .ex e => ∀ cls dd, RepX T g' H' e cls dd → W cls dd σ' H'
end
section
variable {K : PySem.W.Frag} {T : Tb K} {B : Ent} {W : WX}
theorem Kt.bind {α β γ δ : Type} {R1 : G → L2.St → α → γ → Prop} {R2 : G → L2.St → β → δ → Prop} {m : M α} {f : α → M β} {Lc : Lo} {g : G} {σ : L2.St} {H : Hp} {Q : δ → Hp → Prop} (h : Kt T B W R2 (M.bind m f) Lc g σ H Q) :
    Kt T B W R1 m Lc g σ H fun v H1 => ∃ (g1 : G) (L1 : Lo) (a : α), Ge g g1 ∧ R1 g1 σ a v ∧ Kt T B W R2 (f a) L1 g1 σ H1 Q := by
  obtain ⟨r, L', e, rp, k⟩ := h
  unfold M.bind at e
  cases hm : m Lc with
  | none => rw [hm] at e; cases e
  | some z =>
    obtain ⟨r1, L1⟩ := z
    rw [hm] at e
    cases r1 with
    | ok a => exact ⟨.ok a, _, hm, rp, fun g' H' ge rp' v rv => ⟨g', _, a, ge, rv, r, L', e, rp', fun g'' H'' ge' rp'' => k g'' H'' (ge.trans ge') rp''⟩⟩
    | ex x =>
      cases e
      exact ⟨.ex x, _, hm, rp, fun g' H' ge rp' => k g' H' ge rp'⟩
theorem Kt.mono {α γ : Type} {R1 : G → L2.St → α → γ → Prop} {m : M α} {Lc : Lo} {g : G} {σ : L2.St} {H : Hp} {Q Q' : γ → Hp → Prop} (h : Kt T B W R1 m Lc g σ H Q) (q : ∀ v H', Q v H' → Q' v H') : Kt T B W R1 m Lc g σ H Q' := by
  obtain ⟨r, L', e, rp, k⟩ := h
  refine ⟨r, L', e, rp, fun g' H' ge rp' => ?_⟩
  have z := k g' H' ge rp'
  cases r with
  | ok a => exact fun v rv => q _ _ (z v rv)
  | ex x => exact z
theorem Kt.tE {m : M D} {Lc : Lo} {g : G} {σ : L2.St} {H : Hp} {Q Q' : VK} (h : Kt T B W (RepS T) m Lc g σ H Q) (q : ∀ v H', Q v H' → Q' v H') : tE T B W m σ H Q' := ⟨Lc, g, h.mono q⟩
theorem Kt.tT {m : M Bool} {Lc : Lo} {g : G} {σ : L2.St} {H : Hp} {Q Q' : Bool → Hp → Prop} (h : Kt T B W RB m Lc g σ H Q) (q : ∀ v H', Q v H' → Q' v H') : tT T B W m σ H Q' := ⟨Lc, g, h.mono q⟩
theorem Kt.tA {m : M (List D)} {Lc : Lo} {g : G} {σ : L2.St} {H : Hp} {Q Q' : List V → Hp → Prop} (h : Kt T B W (RA T) m Lc g σ H Q) (q : ∀ v H', Q v H' → Q' v H') : tA T B W m σ H Q' := ⟨Lc, g, h.mono q⟩
/-- a value at hand -/
theorem Kt.now {α γ : Type} {R1 : G → L2.St → α → γ → Prop} {m : M α} {Lc L1 : Lo} {g : G} {σ : L2.St} {H : Hp} {Q : γ → Hp → Prop} {a : α} {v : γ} (h : Kt T B W R1 m Lc g σ H Q) (e : m Lc = some (.ok a, L1)) {g' : G} {H' : Hp} (ge : Ge g g') (rp : Rp T B g' σ H' L1) (rv : R1 g' σ a v) : Q v H' := by
  obtain ⟨r, L', e', _, k⟩ := h
  rw [e] at e'
  cases e'
  exact k g' H' ge rp v rv
theorem peI {X : Cx} {e : Expr} {t t' : TE} (h : PE X e t) (q : ∀ σ H Q, t' σ H Q → t σ H Q) : PE X e t' := ⟨fun pins s σ H Q I z => h.run pins s σ H Q I (q _ _ _ z)⟩
theorem ptI {X : Cx} {e : Expr} {t t' : TT} (h : PT X e t) (q : ∀ σ H Q, t' σ H Q → t σ H Q) : PT X e t' := ⟨fun pins s σ H Q I z => h.run pins s σ H Q I (q _ _ _ z)⟩
theorem pwI {X : Cx} {e : Expr} {t t' : TT} (h : PW X e t) (q : ∀ σ H Q, t' σ H Q → t σ H Q) : PW X e t' := ⟨fun wh pins s σ H Q I z => h.run wh pins s σ H Q I (q _ _ _ z)⟩
theorem paI {X : Cx} {e : List Expr} {t t' : TA} (h : PA X e t) (q : ∀ σ H Q, t' σ H Q → t σ H Q) : PA X e t' := ⟨fun pos pins s σ H Q I z => h.run pos pins s σ H Q I (q _ _ _ z)⟩
theorem psI {X : Cx} {e : Stmt} {t t' : TS} (h : PS X e t) (q : ∀ D σ H, t' D σ H → t D σ H) : PS X e t' := ⟨fun pins s σ H D I z => h.run pins s σ H D I (q _ _ _ z)⟩
theorem pssI {X : Cx} {e : List Stmt} {t t' : TS} (h : PSs X e t) (q : ∀ D σ H, t' D σ H → t D σ H) : PSs X e t' := ⟨fun pins s σ H D I z => h.run pins s σ H D I (q _ _ _ z)⟩
end

/-! ### plain values -/
def mC (d : D) : M D := fun L => some (.ok d, L)
def mVar (i : Nat) : M D := fun L => match L.l[i]? with
  | some (.val d) => some (.ok d, L)
  | some (.own _) => some (.ok (.slot i), L)
  | _ => Option.none
/-- what is handed on -/
def frz (d : D) : M D := fun L => match d with
  | .slot i => (match L.l[i]? with
    | some (.own ds) => some (.ok (.lst ds), { L with l := L.l.set i (.val (.lst ds)) })
    | some (.val d) => some (.ok d, L)
    | _ => Option.none)
  | d => some (.ok d, L)
def mFz (m : M D) : M D := M.bind m frz
def deref (L : Lo) : D → Option (List D)
  | .lst ds => some ds
  | .ref n => (match L.s[n]? with | some (.lst ds) => some ds | _ => Option.none)
  | .slot i => (match L.l[i]? with | some (.own ds) => some ds | some (.val (.lst ds)) => some ds | _ => Option.none)
  | _ => Option.none
/-- .. and the script -/
def derefR (L : Lo) : D → Option (List D)
  | .scr ns => some (ns.map D.int)
  | d => deref L d
theorem slotVal' {K : PySem.W.Frag} {T : Tb K} {B : Ent} {g : G} {σ : L2.St} {H : Hp} {Lc : Lo} {i : Nat} {d : D} {v : V} (r : Rp T B g σ H Lc) (hi : Lc.l[i]? = some (.val d)) (hv : σ[i]? = some (some v)) : RepA T g d v := by
  obtain ⟨v', e1, e2⟩ := r.val i d hi
  rw [hv] at e1
  cases e1
  exact e2
section
variable {X : Cx} {T : Tb X.K} {B : Ent} {W : WX}
theorem slotVal {g : G} {σ : L2.St} {H : Hp} {Lc : Lo} {i : Nat} {d : D} {v : V} (r : Rp T B g σ H Lc) (hi : Lc.l[i]? = some (.val d)) (hv : σ[i]? = some (some v)) : RepA T g d v := by
  obtain ⟨v', e1, e2⟩ := r.val i d hi
  rw [hv] at e1
  cases e1
  exact e2
theorem x_c {e : Expr} {d : D} {v : V} (h : PE X e (tC v)) (r : ∀ g, Rep X.K g d v) : PE X e (tE T B W (mC d)) := peI h fun σ H Q z => by
  obtain ⟨Lc, g, k⟩ := z
  obtain ⟨_, _, e, rp, _⟩ := id k
  exact k.now rfl (Ge.refl _) rp (RepS.ofR (r g))
theorem x_int {i : Int} {j : Nat} {pos : Pos} : PE X (.Constant (.int i) j pos) (tE T B W (mC (.int i))) := x_c pe_int fun _ => .int i
theorem x_bl {b : Bool} {j : Nat} {pos : Pos} : PE X (.Constant (.bool b) j pos) (tE T B W (mC (.bl b))) := x_c pe_bl fun _ => .bl b
theorem x_non {j : Nat} {pos : Pos} : PE X (.Constant .none j pos) (tE T B W (mC .non)) := x_c pe_non fun _ => .non
theorem x_str {x : Str} {j : Nat} {pos : Pos} : PE X (.Constant (.str x) j pos) (tE T B W (mC (.str x))) := x_c pe_str fun _ => .str x
/-- a constant of the module -/
theorem x_gint {x : Str} {i : Int} {pos : Pos} (h : ∃ t, X.mg x = some (.int i t)) (hg : Gl X x := by rfl) (hd : (x == ("__debug__" : Str)) = false := by decide) : PE X (.Name x pos) (tE T B W (mC (.int i))) := by
  obtain ⟨t, h⟩ := h
  exact x_c (pe_glob (v := .int i) hg h ⟨t, rfl⟩ hd) fun _ => .int i
theorem x_gstr {x z : Str} {pos : Pos} (h : ∃ t, X.mg x = some (.str z t)) (hg : Gl X x := by rfl) (hd : (x == ("__debug__" : Str)) = false := by decide) : PE X (.Name x pos) (tE T B W (mC (.str z))) := by
  obtain ⟨t, h⟩ := h
  exact x_c (pe_glob (v := .str z) hg h ⟨t, rfl⟩ hd) fun _ => .str z
theorem x_var (i : Nat) {x : Str} {pos : Pos} (hN : X.N[i]? = some x := by rfl) (hv : Vis X.env.scope x := by first | exact Or.inl rfl | exact Or.inr (Or.inl rfl) | exact Or.inr (Or.inr rfl)) (hd : (x == ("__debug__" : Str)) = false := by decide)
    (hcd : (x == ("__classdict__" : Str)) = false := by decide) : PE X (.Name x pos) (tE T B W (mVar i)) := peI (pe_var hN hv hd hcd) fun σ H Q z => by
  obtain ⟨Lc, g, k⟩ := z
  obtain ⟨r, L', e, rp, _⟩ := id k
  unfold mVar at e
  split at e
  · rename_i d hd
    cases e
    obtain ⟨v, h1, h2⟩ := rp.val i d hd
    exact ⟨v, h1, k.now (by unfold mVar; rw [hd]) (Ge.refl _) rp (RepS.of h2)⟩
  · rename_i ds hd
    cases e
    obtain ⟨p, xs, h1, _⟩ := rp.own i ds hd
    exact ⟨.ref p, h1, k.now (by unfold mVar; rw [hd]) (Ge.refl _) rp (show RepS T g σ (.slot i) (.ref p) from ⟨h1, _, rfl⟩)⟩
  · cases e
end
end MP
set_option Elab.async false
set_option linter.all false
set_option maxRecDepth 100000
set_option maxHeartbeats 4000000
/-! MP: operators. -/
namespace MP
open PySem L2 PySem.Spec PyProof.Rows

/-! ### == at any depth -/
/-- references resolved -/
def resAll (f : D → Option D) : List D → Option (List D)
  | [] => some []
  | d :: ds => match f d, resAll f ds with
    | some e, some es => some (e :: es)
    | _, _ => Option.none
def res (L : Lo) : Nat → D → Option D
  | 0, _ => Option.none
  | n + 1, d => match d with
    | .lst ds => (resAll (res L n) ds).map .lst
    | .tup ds => (resAll (res L n) ds).map .tup
    | .scr ns => some (.lst (ns.map .int))
    | .ref k => (match L.s[k]? with | some (.lst ds) => (resAll (res L n) ds).map .lst | _ => Option.none)
    | .slot k => (match deref L (.slot k) with | some ds => (resAll (res L n) ds).map .lst | _ => Option.none)
    | .clo _ _ => Option.none
    | d => some d
mutual
def pd : D → PyData
  | .non => .none | .bl b => .bool b | .int i => .int i | .str x => .str x
  | .lst ds => .list (pds ds) | .tup ds => .tuple (pds ds)
  | _ => .none
def pds : List D → List PyData
  | [] => []
  | d :: ds => pd d :: pds ds
end
mutual
def eqD : D → D → Bool
  | .non, .non => true
  | .bl a, .bl b => a == b
  | .bl a, .int j => (if a then 1 else 0) == j
  | .int i, .bl b => i == (if b then 1 else 0)
  | .int i, .int j => i == j
  | .str x, .str y => x == y
  | .lst xs, .lst ys => eqDs xs ys
  | .tup xs, .tup ys => eqDs xs ys
  | _, _ => false
def eqDs : List D → List D → Bool
  | [], [] => true
  | x :: xs, y :: ys => eqD x y && eqDs xs ys
  | _, _ => false
end
mutual
/-- flat things, lists, tuples alone; texts that are texts; not too deep -/
def shD : Nat → D → Bool
  | _, .non | _, .bl _ | _, .int _ => true
  | _, .str x => PyData.strOk x
  | n + 1, .lst ds => shDs n ds
  | n + 1, .tup ds => shDs n ds
  | _, _ => false
def shDs : Nat → List D → Bool
  | _, [] => true
  | n, d :: ds => shD n d && shDs n ds
end
section
variable {K : PySem.W.Frag} {T : Tb K} {B : Ent} {W : WX}
theorem Dps {g : G} {σ : L2.St} {H : Hp} {Lc : Lo} (r : Rp T B g σ H Lc) {n : Nat} (ih : ∀ d e v, res Lc n d = some e → RepS T g σ d v → shD 20 e = true → Dp K H v (pd e)) : ∀ (ds es : List D) (vs : List V), resAll (res Lc n) ds = some es → Reps K g ds vs → (∀ e ∈ es, shD 20 e = true) → DpAll K H vs (pds es)
  | [], es, vs, e, rs, hs => by cases e; cases rs; exact .nil
  | d :: ds, es, vs, e, rs, hs => by
    cases rs with
    | cons r1 r2 =>
      unfold resAll at e
      cases e1 : res Lc n d with
      | none => rw [e1] at e; cases e
      | some d' =>
        cases e2 : resAll (res Lc n) ds with
        | none => rw [e1, e2] at e; cases e
        | some es' =>
          rw [e1, e2] at e
          cases e
          exact .cons (ih d d' _ e1 (RepS.ofR r1) (hs d' List.mem_cons_self)) (Dps r ih ds es' _ e2 r2 fun e m => hs e (List.mem_cons_of_mem _ m))
theorem shDs_mem : ∀ {n : Nat} {es : List D}, shDs n es = true → ∀ e ∈ es, shD n e = true
  | n, [], _, e, m => by cases m
  | n, d :: ds, h, e, m => by
    unfold shDs at h
    rw [Bool.and_eq_true] at h
    rcases List.mem_cons.mp m with rfl | m
    · exact h.1
    · exact shDs_mem h.2 e m
mutual
theorem shD_mono : ∀ {d : D} {n m : Nat}, n ≤ m → shD n d = true → shD m d = true
  | .non, n, m, _, _ => by cases m <;> rfl
  | .bl _, n, m, _, _ => by cases m <;> rfl
  | .int _, n, m, _, _ => by cases m <;> rfl
  | .str x, n, m, _, h => by
    have h' : PyData.strOk x = true := by cases n <;> exact h
    cases m <;> exact h'
  | .lst ds, n, m, l, h => by
    cases n with
    | zero => cases h
    | succ n => cases m with
      | zero => omega
      | succ m => exact shDs_mono (ds := ds) (by omega) h
  | .tup ds, n, m, l, h => by
    cases n with
    | zero => cases h
    | succ n => cases m with
      | zero => omega
      | succ m => exact shDs_mono (ds := ds) (by omega) h
  | .ref _, n, m, _, h => by cases n <;> cases h
  | .slot _, n, m, _, h => by cases n <;> cases h
  | .clo _ _, n, m, _, h => by cases n <;> cases h
  | .scr _, n, m, _, h => by cases n <;> cases h
theorem shDs_mono : ∀ {ds : List D} {n m : Nat}, n ≤ m → shDs n ds = true → shDs m ds = true
  | [], _, _, _, _ => rfl
  | d :: ds, n, m, l, h => by
    have h : (shD n d && shDs n ds) = true := h
    rw [Bool.and_eq_true] at h
    show (shD m d && shDs m ds) = true
    rw [shD_mono l h.1, shDs_mono l h.2] <;> rfl
end
theorem derefS {g : G} {σ : L2.St} {H : Hp} {Lc : Lo} {d : D} {ds : List D} {v : V} (r : Rp T B g σ H Lc) (h : deref Lc d = some ds) (rv : RepS T g σ d v) : ∃ a xs, v = .ref a ∧ H a = some (.lst xs) ∧ Reps K g ds xs := by
  unfold deref at h
  split at h
  · rename_i ds'
    cases h
    rcases rv with rv | rv
    · cases rv with | lst q rs => exact ⟨_, _, rfl, r.rs.ex _ _ q, rs⟩
    · exact (T.spl _ _ _ rv).elim
  · rename_i n
    split at h
    · rename_i e
      cases h
      rcases rv with rv | rv
      · cases rv with
        | ref q =>
          obtain ⟨xs, e1, e2⟩ := r.rs.at_ _ _ _ q e
          exact ⟨_, xs, rfl, e1, e2⟩
      · exact (T.spr _ _ _ rv).elim
    · cases h
  · rename_i i
    have rv : σ[i]? = some (some v) := rv.1
    split at h
    · rename_i e
      cases h
      obtain ⟨p, xs, e1, e2, _, _, _, e6⟩ := r.own _ _ e
      rw [rv] at e1
      cases e1
      exact ⟨p, xs, rfl, e2, e6⟩
    · rename_i e
      cases h
      have q := slotVal' r e rv
      rcases q with q | q
      · cases q with | lst q rs => exact ⟨_, _, rfl, r.rs.ex _ _ q, rs⟩
      · exact (T.spl _ _ _ q).elim
    · cases h
  · cases h

theorem DpD {g : G} {σ : L2.St} {H : Hp} {Lc : Lo} (r : Rp T B g σ H Lc) : ∀ (n : Nat) (d e : D) (v : V), res Lc n d = some e → RepS T g σ d v → shD 20 e = true → Dp K H v (pd e)
  | 0, d, e, v, h, _, _ => by cases h
  | n + 1, d, e, v, h, rv, hs => by
    have ih := DpD r n
    have lists : ∀ (ds es : List D) (a : Addr) (xs : List V), resAll (res Lc n) ds = some es → Reps K g ds xs → SqL K H a xs → shD 20 (.lst es) = true → Dp K H (.ref a) (.list (pds es)) := fun ds es a xs q rs hq hh =>
      .lst hq (Dps r ih ds es xs q rs fun e m => shD_mono (by decide) (shDs_mem (n := 19) hh e m))
    cases d with
    | non => cases h; rcases rv with rv | rv; (cases rv; exact .non); (obtain ⟨_, _, z⟩ := T.spo _ _ _ rv; cases z)
    | bl b => cases h; rcases rv with rv | rv; (cases rv; exact .bl b); (obtain ⟨_, _, z⟩ := T.spo _ _ _ rv; cases z)
    | int i => cases h; rcases rv with rv | rv; (cases rv; exact .int i); (obtain ⟨_, _, z⟩ := T.spo _ _ _ rv; cases z)
    | str x => cases h; rcases rv with rv | rv; (cases rv; exact .str x); (obtain ⟨_, _, z⟩ := T.spo _ _ _ rv; cases z)
    | clo k cs => cases h
    | lst ds =>
      have h : (resAll (res Lc n) ds).map .lst = some e := h
      cases q : resAll (res Lc n) ds with
      | none => rw [q] at h; cases h
      | some es =>
        rw [q] at h
        cases h
        obtain ⟨a, xs, rfl, h1, h2⟩ := derefS r (d := .lst ds) rfl rv
        exact lists ds es a xs q h2 (SqL.of h1) hs
    | tup ds =>
      have h : (resAll (res Lc n) ds).map .tup = some e := h
      cases q : resAll (res Lc n) ds with
      | none => rw [q] at h; cases h
      | some es =>
        rw [q] at h
        cases h
        rcases rv with rv | rv
        · cases rv with
          | tup hq rs => exact .tup (SqT.of (r.rs.ex _ _ hq)) (Dps r ih ds es _ q rs fun e m => shD_mono (by decide) (shDs_mem (n := 19) hs e m))
        · obtain ⟨_, _, z⟩ := T.spo _ _ _ rv; cases z
    | scr ns =>
      cases h
      rcases rv with rv | rv
      · cases rv with
        | scr hq =>
          refine .lst (Evl.ex_l r.rs.ex hq) ?_
          clear hs hq
          induction ns with
          | nil => exact .nil
          | cons n ns ih2 => exact .cons (.int n) ih2
      · obtain ⟨_, _, z⟩ := T.spo _ _ _ rv; cases z
    | ref k =>
      have h : (match Lc.s[k]? with | some (.lst ds) => (resAll (res Lc n) ds).map .lst | _ => Option.none) = some e := h
      cases hk : Lc.s[k]? with
      | none => rw [hk] at h; cases h
      | some c =>
        rw [hk] at h
        cases c with
        | lst ds =>
          have h : (resAll (res Lc n) ds).map .lst = some e := h
          cases q : resAll (res Lc n) ds with
          | none => rw [q] at h; cases h
          | some es =>
            rw [q] at h
            cases h
            obtain ⟨a, xs, rfl, h1, h2⟩ := derefS r (d := .ref k) (ds := ds) (by show (match Lc.s[k]? with | some (.lst ds) => some ds | _ => Option.none) = some ds; rw [hk]) rv
            exact lists ds es a xs q h2 (SqL.of h1) hs
        | inst _ _ => cases h
        | dct _ => cases h
        | dci _ => cases h
    | slot k =>
      have h : (match deref Lc (.slot k) with | some ds => (resAll (res Lc n) ds).map .lst | _ => Option.none) = some e := h
      cases hk : deref Lc (.slot k) with
      | none => rw [hk] at h; cases h
      | some ds =>
        rw [hk] at h
        have h : (resAll (res Lc n) ds).map .lst = some e := h
        cases q : resAll (res Lc n) ds with
        | none => rw [q] at h; cases h
        | some es =>
          rw [q] at h
          cases h
          obtain ⟨a, xs, rfl, h1, h2⟩ := derefS r (d := .slot k) hk rv
          exact lists ds es a xs q h2 (SqL.of h1) hs
mutual
theorem eq_pd : ∀ (n m : Nat) (a b : D), shD n a = true → shD m b = true → PyData.eqv (pd a) (pd b) = eqD a b
  | n, m, .non, b, ha, hb => by cases b <;> first | rfl | (cases m <;> cases hb)
  | n, m, .bl _, b, ha, hb => by cases b <;> first | rfl | (cases m <;> cases hb)
  | n, m, .int _, b, ha, hb => by cases b <;> first | rfl | (cases m <;> cases hb)
  | n, m, .str _, b, ha, hb => by cases b <;> first | rfl | (cases m <;> cases hb)
  | n + 1, m, .lst xs, b, ha, hb => by
    cases b <;> first | rfl | (cases m <;> cases hb) | skip
    rename_i ys
    cases m with
    | zero => cases hb
    | succ m =>
      show PyData.eqvAll (pds xs) (pds ys) = eqDs xs ys
      exact eq_pds n m xs ys ha hb
  | n + 1, m, .tup xs, b, ha, hb => by
    cases b <;> first | rfl | (cases m <;> cases hb) | skip
    rename_i ys
    cases m with
    | zero => cases hb
    | succ m =>
      show PyData.eqvAll (pds xs) (pds ys) = eqDs xs ys
      exact eq_pds n m xs ys ha hb
  | 0, m, .lst xs, b, ha, hb => by cases ha
  | 0, m, .tup xs, b, ha, hb => by cases ha
  | n, m, .ref _, b, ha, hb => by cases n <;> cases ha
  | n, m, .slot _, b, ha, hb => by cases n <;> cases ha
  | n, m, .clo _ _, b, ha, hb => by cases n <;> cases ha
  | n, m, .scr _, b, ha, hb => by cases n <;> cases ha
theorem eq_pds : ∀ (n m : Nat) (a b : List D), shDs n a = true → shDs m b = true → PyData.eqvAll (pds a) (pds b) = eqDs a b
  | n, m, [], [], ha, hb => rfl
  | n, m, [], _ :: _, ha, hb => rfl
  | n, m, _ :: _, [], ha, hb => rfl
  | n, m, x :: xs, y :: ys, ha, hb => by
    have ha : (shD n x && shDs n xs) = true := ha
    have hb : (shD m y && shDs m ys) = true := hb
    rw [Bool.and_eq_true] at ha hb
    show (PyData.eqv (pd x) (pd y) && PyData.eqvAll (pds xs) (pds ys)) = (eqD x y && eqDs xs ys)
    rw [eq_pd n m x y ha.1 hb.1, eq_pds n m xs ys ha.2 hb.2]
end
mutual
theorem shD_depth : ∀ (n : Nat) (d : D), shD n d = true → (pd d).canLay0 = true ∧ (pd d).depth ≤ n + 1
  | n, .non, _ => by simp [pd, PyData.canLay0, PyData.depth]
  | n, .bl _, _ => by simp [pd, PyData.canLay0, PyData.depth]
  | n, .int _, _ => by simp [pd, PyData.canLay0, PyData.depth]
  | n, .str x, h => by
    have h' : PyData.strOk x = true := by cases n <;> exact h
    simp [pd, PyData.canLay0, PyData.depth, h']
  | n + 1, .lst ds, h => by
    obtain ⟨h1, h2⟩ := shDs_depth n ds h
    simp only [pd, PyData.canLay0, PyData.depth]
    exact ⟨h1, by omega⟩
  | n + 1, .tup ds, h => by
    obtain ⟨h1, h2⟩ := shDs_depth n ds h
    simp only [pd, PyData.canLay0, PyData.depth]
    exact ⟨h1, by omega⟩
  | 0, .lst _, h => by cases h
  | 0, .tup _, h => by cases h
  | n, .ref _, h => by cases n <;> cases h
  | n, .slot _, h => by cases n <;> cases h
  | n, .clo _ _, h => by cases n <;> cases h
  | n, .scr _, h => by cases n <;> cases h
theorem shDs_depth : ∀ (n : Nat) (ds : List D), shDs n ds = true → PyData.canLayAll0 (pds ds) = true ∧ PyData.depthAll (pds ds) ≤ n + 1
  | n, [], _ => by simp [pds, PyData.canLayAll0, PyData.depthAll]
  | n, d :: ds, h => by
    have h : (shD n d && shDs n ds) = true := h
    rw [Bool.and_eq_true] at h
    obtain ⟨a1, a2⟩ := shD_depth n d h.1
    obtain ⟨b1, b2⟩ := shDs_depth n ds h.2
    simp only [pds, PyData.canLayAll0, PyData.depthAll]
    rw [a1, b1]
    exact ⟨rfl, by omega⟩
end
theorem shaped_of {d : D} (h : shD 20 d = true) : SeqAt.shaped (pd d) = true := by
  obtain ⟨h1, h2⟩ := shD_depth 20 d h
  unfold SeqAt.shaped
  rw [h1, decide_eq_true (by omega)] <;> rfl
end
end MP
set_option Elab.async false
set_option linter.all false
set_option maxRecDepth 100000
set_option maxHeartbeats 4000000
/-! MP: operators, comparisons, tests, arguments. -/
namespace MP
open PySem L2 PySem.Spec PyProof.Rows

def opAny (X : Cx) (f : Value → Value → Sem Value) : R2 := fun x y H Q => ∃ r, OpR X f r ∧ r x y H Q
theorem opAny_ok {X : Cx} {f : Value → Value → Sem Value} : OpR X f (opAny X f) := fun pins s σ H x y v u Q I rx ry ⟨r, h, q⟩ => h pins s σ H x y v u Q I rx ry q
/-- what an operation on values does -/
def OpS {X : Cx} (T : Tb X.K) (op : Value → Value → Sem Value) (f : Lo → D → D → Option D) : Prop :=
  ∀ (B : Ent) (g : G) (σ : L2.St) (H : Hp) (Lc : Lo) (a b d : D) (x y : V) (Q : VK), Rp T B g σ H Lc → RepS T g σ a x → RepS T g σ b y → f Lc a b = some d →
    (∀ g' H' v, Ge g g' → Rp T B g' σ H' Lc → RepS T g' σ d v → Q v H') → opAny X op x y H Q
def mBin (f : Lo → D → D → Option D) (ma mb : M D) : M D := M.bind ma fun a => M.bind mb fun b => fun L => match f L a b with
  | some d => some (.ok d, L)
  | _ => Option.none
def mUn (f : Lo → D → Option D) (ma : M D) : M D := M.bind ma fun a => fun L => match f L a with
  | some d => some (.ok d, L)
  | _ => Option.none
section
variable {X : Cx} {T : Tb X.K} {B : Ent} {W : WX} {a b c : Expr} {ma mb mc : M D} {pos : Pos}
theorem bin_core {op : Value → Value → Sem Value} {f : Lo → D → D → Option D} (ho : OpS T op f) {σ : L2.St} {H : Hp} {Q : VK} (h : tE T B W (mBin f ma mb) σ H Q) : tOp (opAny X op) (tE T B W ma) (tE T B W mb) σ H Q := by
  obtain ⟨Lc, g, k⟩ := h
  refine (Kt.bind (R1 := RepS T) k).tE fun x H1 ⟨g1, L1, av, ge1, ra, k1⟩ => ?_
  refine (Kt.bind (R1 := RepS T) k1).tE fun y H2 ⟨g2, L2', bv, ge2, rb, k2⟩ => ?_
  obtain ⟨r, L', e, rp, kk⟩ := id k2
  dsimp only at e
  cases ef : f L2' av bv with
  | none => rw [ef] at e; cases e
  | some d =>
    refine ho B g2 σ H2 L2' av bv d x y Q rp (ra.mono ge2) rb ef fun g' H' v ge' rp' rv => ?_
    exact k2.now (show (match f L2' av bv with | some d => some (R.ok d, L2') | _ => Option.none) = some (R.ok d, L2') by rw [ef]) ge' rp' rv
theorem x_bin {op : Operator} {f : Lo → D → D → Option D} (ho : OpS T (binaryOp op) f) (ha : PE X a (tE T B W ma)) (hb : PE X b (tE T B W mb)) : PE X (.BinOp a op b pos) (tE T B W (mBin f ma mb)) :=
  peI (pe_op opAny_ok ha hb) fun _ _ _ h => bin_core ho h
theorem x_cmp {op : CmpOp} {f : Lo → D → D → Option D} (ho : OpS T (compareOp op) f) (ha : PE X a (tE T B W ma)) (hb : PE X b (tE T B W mb)) (hm : behindInMarks op b = false := by first | exact nomark _ | rfl) : PE X (.Compare a [op] [b] pos) (tE T B W (mBin f ma mb)) :=
  peI (pe_cmpR opAny_ok ha hb hm) fun _ _ _ h => bin_core ho h
/-! #### tests -/
def mB (m : M D) : M Bool := M.bind m fun d => fun L => match d with
  | .bl b => some (.ok b, L)
  | _ => Option.none
theorem B_core {σ : L2.St} {H : Hp} {Q : Bool → Hp → Prop} (h : tT T B W (mB ma) σ H Q) : tE T B W ma σ H fun x H' => ∃ k, x = .bl k ∧ Q k H' := by
  obtain ⟨Lc, g, k⟩ := h
  refine (Kt.bind (R1 := RepS T) k).tE fun x H1 ⟨g1, L1, av, ge1, ra, k1⟩ => ?_
  obtain ⟨r, L', e, rp, kk⟩ := id k1
  cases av with
  | bl b =>
    rcases ra with ra | ra
    · cases ra
      exact ⟨b, rfl, k1.now rfl (Ge.refl _) rp rfl⟩
    · obtain ⟨_, _, z⟩ := T.spo _ _ _ ra; cases z
  | _ => cases e
theorem t_cmp {op : CmpOp} {f : Lo → D → D → Option D} (ho : OpS T (compareOp op) f) (ha : PE X a (tE T B W ma)) (hb : PE X b (tE T B W mb)) (hm : behindInMarks op b = false := by first | exact nomark _ | rfl) : PT X (.Compare a [op] [b] pos) (tT T B W (mB (mBin f ma mb))) :=
  ptI (pt_cmpR opAny_ok ha hb hm) fun _ _ _ h => bin_core ho (B_core h)
theorem t_val {e : Expr} (h : PE X e (tE T B W ma)) (he : ∀ whole, isTrue e X.env whole = (do let v ← whole; standAt e.pos; holding [v] (truthy v)) := by intro _; rfl) : PT X e (tT T B W (mB ma)) :=
  ptI (pt_val h he) fun _ _ _ q => B_core q
def mAndB (ma mb : M Bool) : M Bool := M.bind ma fun a => if a = true then mb else M.pure false
def mOrB (ma mb : M Bool) : M Bool := M.bind ma fun a => if a = true then M.pure true else mb
def mNotB (ma : M Bool) : M Bool := M.bind ma fun a => M.pure (!a)
variable {na nb : M Bool} {rest : List Expr}
theorem t_and1 (ha : PT X a (tT T B W na)) : PW X (.BoolOp .And [a] pos) (tT T B W na) := pw_and1 ha
theorem t_or1 (ha : PT X a (tT T B W na)) : PW X (.BoolOp .Or [a] pos) (tT T B W na) := pw_or1 ha
theorem t_and (ha : PT X a (tT T B W na)) (hb : PW X (.BoolOp .And (b :: rest) pos) (tT T B W nb)) : PW X (.BoolOp .And (a :: b :: rest) pos) (tT T B W (mAndB na nb)) :=
  pwI (pw_and ha hb) fun σ H Q h => by
    obtain ⟨Lc, g, k⟩ := h
    refine (Kt.bind (R1 := RB) k).tT fun x H1 ⟨g1, L1, av, ge1, ra, k1⟩ => ?_
    subst ra
    cases av with
    | true => exact ⟨_, _, k1⟩
    | false => obtain ⟨r, L', e, rp, kk⟩ := id k1; exact k1.now rfl (Ge.refl _) rp rfl
theorem t_or (ha : PT X a (tT T B W na)) (hb : PW X (.BoolOp .Or (b :: rest) pos) (tT T B W nb)) : PW X (.BoolOp .Or (a :: b :: rest) pos) (tT T B W (mOrB na nb)) :=
  pwI (pw_or ha hb) fun σ H Q h => by
    obtain ⟨Lc, g, k⟩ := h
    refine (Kt.bind (R1 := RB) k).tT fun x H1 ⟨g1, L1, av, ge1, ra, k1⟩ => ?_
    subst ra
    cases av with
    | false => exact ⟨_, _, k1⟩
    | true => obtain ⟨r, L', e, rp, kk⟩ := id k1; exact k1.now rfl (Ge.refl _) rp rfl
theorem t_not (ha : PT X a (tT T B W na)) : PT X (.UnaryOp .Not a pos) (tT T B W (mNotB na)) := ptI (pt_not ha) fun σ H Q h => by
  obtain ⟨Lc, g, k⟩ := h
  refine (Kt.bind (R1 := RB) k).tT fun x H1 ⟨g1, L1, av, ge1, ra, k1⟩ => ?_
  subst ra
  obtain ⟨r, L', e, rp, kk⟩ := id k1
  exact k1.now rfl (Ge.refl _) rp rfl
/-! #### and, or, not as values, if-expressions, chains -/
def mAnd (ma mb : M D) : M D := M.bind (mB ma) fun a => if a = true then mb else mC (.bl false)
def mOr (ma mb : M D) : M D := M.bind (mB ma) fun a => if a = true then mC (.bl true) else mb
def mNot (ma : M D) : M D := M.bind (mB ma) fun a => mC (.bl (!a))
theorem x_one {op : BoolOp} (h : PE X a (tE T B W ma)) : PE X (.BoolOp op [a] pos) (tE T B W ma) := pe_one h
theorem Bk {β δ : Type} {R2 : G → L2.St → β → δ → Prop} {f : Bool → M β} {Lc : Lo} {g : G} {σ : L2.St} {H : Hp} {Q : δ → Hp → Prop} (k : Kt T B W R2 (M.bind (mB ma) f) Lc g σ H Q) :
    tE T B W ma σ H fun x H1 => ∃ c, x = .bl c ∧ ∃ (g1 : G) (L1 : Lo), Ge g g1 ∧ Kt T B W R2 (f c) L1 g1 σ H1 Q := by
  refine B_core ((Kt.bind (R1 := RB) k).tT fun x H1 ⟨g1, L1, av, ge1, ra, k1⟩ => ?_)
  subst ra
  exact ⟨g1, L1, ge1, k1⟩
theorem x_and (ha : PE X a (tE T B W ma)) (hb : PE X (.BoolOp .And (b :: rest) pos) (tE T B W mb)) : PE X (.BoolOp .And (a :: b :: rest) pos) (tE T B W (mAnd ma mb)) :=
  peI (pe_and ha hb) fun σ H Q h => by
    obtain ⟨Lc, g, k⟩ := h
    obtain ⟨Lc', g', k'⟩ := Bk k
    refine k'.tE fun x H1 ⟨c, e, g1, L1, ge1, k1⟩ => ⟨c, e, ?_⟩
    cases c with
    | true => exact ⟨_, _, k1⟩
    | false => obtain ⟨r, L', e, rp, kk⟩ := id k1; exact k1.now rfl (Ge.refl _) rp (RepS.ofR (.bl false))
theorem x_or (ha : PE X a (tE T B W ma)) (hb : PE X (.BoolOp .Or (b :: rest) pos) (tE T B W mb)) : PE X (.BoolOp .Or (a :: b :: rest) pos) (tE T B W (mOr ma mb)) :=
  peI (pe_or ha hb) fun σ H Q h => by
    obtain ⟨Lc, g, k⟩ := h
    obtain ⟨Lc', g', k'⟩ := Bk k
    refine k'.tE fun x H1 ⟨c, e, g1, L1, ge1, k1⟩ => ⟨c, e, ?_⟩
    cases c with
    | false => exact ⟨_, _, k1⟩
    | true => obtain ⟨r, L', e, rp, kk⟩ := id k1; exact k1.now rfl (Ge.refl _) rp (RepS.ofR (.bl true))
theorem x_not (ha : PE X a (tE T B W ma)) : PE X (.UnaryOp .Not a pos) (tE T B W (mNot ma)) :=
  peI (pe_not ha) fun σ H Q h => by
    obtain ⟨Lc, g, k⟩ := h
    obtain ⟨Lc', g', k'⟩ := Bk k
    refine k'.tE fun x H1 ⟨c, e, g1, L1, ge1, k1⟩ => ⟨c, e, ?_⟩
    obtain ⟨r, L', e, rp, kk⟩ := id k1
    exact k1.now rfl (Ge.refl _) rp (RepS.ofR (.bl _))
def mIf (n : M Bool) (ma mb : M D) : M D := M.bind n fun c => if c = true then ma else mb
theorem x_if (hc : PT X c (tT T B W na)) (ha : PE X a (tE T B W ma)) (hb : PE X b (tE T B W mb)) : PE X (.IfExp c a b pos) (tE T B W (mIf na ma mb)) :=
  peI (pe_ifExp hc ha hb) fun σ H Q h => by
    obtain ⟨Lc, g, k⟩ := h
    refine (Kt.bind (R1 := RB) k).tT fun x H1 ⟨g1, L1, av, ge1, ra, k1⟩ => ?_
    subst ra
    cases av with
    | true => exact ⟨_, _, k1⟩
    | false => exact ⟨_, _, k1⟩
/-- a op b op' c -/
def mChain (f f' : Lo → D → D → Option D) (ma mb mc : M D) : M D := M.bind ma fun a => M.bind mb fun b => fun L => match f L a b with
  | some (.bl true) => M.bind mc (fun c L => match f' L b c with
    | some d => some (.ok d, L)
    | _ => Option.none) L
  | some (.bl false) => some (.ok (.bl false), L)
  | _ => Option.none
theorem chain_core {op op' : Value → Value → Sem Value} {f f' : Lo → D → D → Option D} (ho : OpS T op f) (ho' : OpS T op' f') {σ : L2.St} {H : Hp} {Q : VK} (h : tE T B W (mChain f f' ma mb mc) σ H Q) :
    tChain (opAny X op) (opAny X op') (tE T B W ma) (tE T B W mb) (tE T B W mc) σ H Q := by
  obtain ⟨Lc, g, k⟩ := h
  refine (Kt.bind (R1 := RepS T) k).tE fun x H1 ⟨g1, L1, av, ge1, ra, k1⟩ => ?_
  refine (Kt.bind (R1 := RepS T) k1).tE fun y H2 ⟨g2, L2', bv, ge2, rb, k2⟩ => ?_
  obtain ⟨r, L', e, rp, kk⟩ := id k2
  dsimp only at e
  cases ef : f L2' av bv with
  | none => rw [ef] at e; cases e
  | some d =>
    refine ho B g2 σ H2 L2' av bv d x y _ rp (ra.mono ge2) rb ef fun g' H' v ge' rp' rv => ?_
    rw [ef] at e
    cases d with
    | bl q =>
      rcases rv with rv | rv
      · cases rv
        refine ⟨q, rfl, ?_⟩
        cases q with
        | false =>
          show Q (.bl false) H'
          exact k2.now (show (match f L2' av bv with | some (.bl true) => _ | some (.bl false) => some (R.ok (D.bl false), L2') | _ => Option.none) = some (R.ok (D.bl false), L2') by rw [ef]) ge' rp' (RepS.ofR (.bl false))
        | true =>
          show tE T B W mc σ H' fun w' H4 => opAny X op' y w' H4 Q
          have k3 : Kt T B W (RepS T) (M.bind mc (fun c L => match f' L bv c with | some d => some (R.ok d, L) | _ => Option.none)) L2' g' σ H' Q := ⟨r, L', e, rp', fun g'' H'' ge'' rp'' => kk g'' H'' (ge'.trans ge'') rp''⟩
          refine (Kt.bind (R1 := RepS T) k3).tE fun z H4 ⟨g4, L4, cv, ge4, rc, k4⟩ => ?_
          obtain ⟨r4, L4', e4, rp4, kk4⟩ := id k4
          dsimp only at e4
          cases ef4 : f' L4 bv cv with
          | none => rw [ef4] at e4; cases e4
          | some d4 =>
            refine ho' B g4 σ H4 L4 bv cv d4 y z Q rp4 ((rb.mono ge').mono ge4) rc ef4 fun g5 H5 v5 ge5 rp5 rv5 => ?_
            exact k4.now (show (match f' L4 bv cv with | some d => some (R.ok d, L4) | _ => Option.none) = some (R.ok d4, L4) by rw [ef4]) ge5 rp5 rv5
      · obtain ⟨_, _, z⟩ := T.spo _ _ _ rv; cases z
    | _ => cases e
theorem x_chain {op op' : CmpOp} {f f' : Lo → D → D → Option D} (ho : OpS T (compareOp op) f) (ho' : OpS T (compareOp op') f') (ha : PE X a (tE T B W ma)) (hb : PE X b (tE T B W mb)) (hc : PE X c (tE T B W mc))
    (hm : lastMarks [op, op'] [b, c] = false := by with_unfolding_all rfl) : PE X (.Compare a [op, op'] [b, c] pos) (tE T B W (mChain f f' ma mb mc)) :=
  peI (pe_chain opAny_ok opAny_ok ha hb hc hm) fun _ _ _ h => chain_core ho ho' h
theorem t_chain {op op' : CmpOp} {f f' : Lo → D → D → Option D} (ho : OpS T (compareOp op) f) (ho' : OpS T (compareOp op') f') (ha : PE X a (tE T B W ma)) (hb : PE X b (tE T B W mb)) (hc : PE X c (tE T B W mc))
    (hm : lastMarks [op, op'] [b, c] = false := by with_unfolding_all rfl) : PT X (.Compare a [op, op'] [b, c] pos) (tT T B W (mB (mChain f f' ma mb mc))) :=
  ptI (pt_chain opAny_ok opAny_ok ha hb hc hm) fun _ _ _ h => chain_core ho ho' (B_core h)
/-! #### handing on, arguments -/
theorem frz_ok {σ : L2.St} {H : Hp} {g : G} {Lc L' : Lo} {d : D} {r : R D} {x : V} (rp : Rp T B g σ H Lc) (rd : RepS T g σ d x) (e : frz d Lc = some (r, L')) : ∃ g' d', Ge g g' ∧ r = .ok d' ∧ Rp T B g' σ H L' ∧ RepA T g' d' x := by
  by_cases q : ∃ i, d = .slot i
  · obtain ⟨i, rfl⟩ := q
    have rd : σ[i]? = some (some x) := rd.1
    unfold frz at e
    dsimp only at e
    split at e
    · rename_i ds hd
      cases e
      obtain ⟨g', p, ge, e1, e2, e3⟩ := rp.freeze hd
      rw [rd] at e1
      cases e1
      exact ⟨g', _, ge, rfl, e3, .inl e2⟩
    · rename_i d' hd
      cases e
      exact ⟨g, _, Ge.refl _, rfl, rp, slotVal' rp hd rd⟩
    · cases e
  · have e2 : frz d Lc = some (.ok d, Lc) := by
      cases d <;> first | rfl | exact absurd ⟨_, rfl⟩ q
    rw [e2] at e
    cases e
    have rd' : RepA T g d x := by
      cases d <;> first | exact rd | exact absurd ⟨_, rfl⟩ q
    exact ⟨g, d, Ge.refl _, rfl, rp, rd'⟩
theorem x_fz (h : PE X a (tE T B W ma)) : PE X a (tE T B W (mFz ma)) := peI h fun σ H Q q => by
  obtain ⟨Lc, g, k⟩ := q
  refine (Kt.bind (R1 := RepS T) k).tE fun x H1 ⟨g1, L1, av, ge1, ra, k1⟩ => ?_
  obtain ⟨r, L', e, rp, kk⟩ := id k1
  obtain ⟨g', d', ge', rfl, rp', rd'⟩ := frz_ok rp ra e
  exact kk g' H1 ge' rp' x (RepS.of rd')
def mCons (ma : M D) (ms : M (List D)) : M (List D) := M.bind (mFz ma) fun a => M.bind ms fun as => M.pure (a :: as)
variable {es : List Expr} {ms : M (List D)}
theorem a_nil : PA X [] (tA T B W (M.pure [])) := paI pa_nil fun σ H Q h => by
  obtain ⟨Lc, g, k⟩ := h
  obtain ⟨r, L', e, rp, kk⟩ := id k
  exact k.now rfl (Ge.refl _) rp (show RA T g σ [] [] from .nil)
theorem bind_assoc {α β γ : Type} (m : M α) (f : α → M β) (k : β → M γ) : M.bind (M.bind m f) k = M.bind m fun a => M.bind (f a) k := by
  funext L
  unfold M.bind
  cases m L with
  | none => rfl
  | some z => obtain ⟨r, L1⟩ := z; cases r <;> rfl
theorem Kt.frz {β δ : Type} {R2 : G → L2.St → β → δ → Prop} {f : D → M β} {Lc : Lo} {g : G} {σ : L2.St} {H : Hp} {Q : δ → Hp → Prop} {d : D} {x : V} (k : Kt T B W R2 (M.bind (MP.frz d) f) Lc g σ H Q) (rd : RepS T g σ d x) :
    ∃ g' L' d', Ge g g' ∧ RepA T g' d' x ∧ Kt T B W R2 (f d') L' g' σ H Q := by
  obtain ⟨r, L', e, rp, kk⟩ := k
  unfold M.bind at e
  cases hm : MP.frz d Lc with
  | none => rw [hm] at e; cases e
  | some z =>
    obtain ⟨r1, L1⟩ := z
    obtain ⟨g', d', ge', rfl, rp', rd'⟩ := frz_ok rp rd hm
    rw [hm] at e
    exact ⟨g', L1, d', ge', rd', r, L', e, rp', fun g'' H'' ge'' rp'' => kk g'' H'' (ge'.trans ge'') rp''⟩
/-- a value, handed on, and what is done with it -/
theorem Fz {β δ : Type} {R2 : G → L2.St → β → δ → Prop} {f : D → M β} {Lc : Lo} {g : G} {σ : L2.St} {H : Hp} {Q : δ → Hp → Prop} (k : Kt T B W R2 (M.bind (mFz ma) f) Lc g σ H Q) :
    tE T B W ma σ H fun x H1 => ∃ (g1 : G) (L1 : Lo) (d : D), Ge g g1 ∧ RepA T g1 d x ∧ Kt T B W R2 (f d) L1 g1 σ H1 Q := by
  unfold mFz at k
  rw [bind_assoc] at k
  refine (Kt.bind (R1 := RepS T) k).tE fun x H1 ⟨g1, L1, av, ge1, ra, k1⟩ => ?_
  obtain ⟨g', L', d', ge', rd', k2⟩ := k1.frz ra
  exact ⟨g', L', d', ge1.trans ge', rd', k2⟩
theorem a_cons (ha : PE X a (tE T B W ma)) (hr : PA X es (tA T B W ms)) (hs : starEach (a :: es) X.env = (false, eval a X.env) :: starEach es X.env := by rfl) : PA X (a :: es) (tA T B W (mCons ma ms)) :=
  paI (pa_cons ha hr hs) fun σ H Q h => by
    obtain ⟨Lc, g, k⟩ := h
    obtain ⟨Lc', g', k'⟩ := Fz k
    refine k'.tE fun x H1 ⟨g1, L1, av, ge1, ra, k1⟩ => ?_
    refine (Kt.bind (R1 := RA T) k1).tA fun vs H2 ⟨g2, L2', avs, ge2, ras, k2⟩ => ?_
    obtain ⟨r2, L3, e2, rp2, kk2⟩ := id k2
    exact k2.now rfl (Ge.refl _) rp2 (show RA T g2 σ (av :: avs) (x :: vs) from .cons (ra.mono ge2) ras)
end
end MP
set_option Elab.async false
set_option linter.all false
set_option maxRecDepth 100000
set_option maxHeartbeats 4000000
/-! MP: what the operators do. -/
namespace MP
open PySem L2 PySem.Spec PyProof.Rows

def big : Nat := 10000000
theorem big_le {n : Nat} (h : n ≤ big) : n ≤ sizeLine := Nat.le_trans h (by decide)
theorem big_lt {n : Nat} (h : n < big) : n < sizeLine := Nat.lt_of_lt_of_le h (by decide)
def fAdd (L : Lo) (a b : D) : Option D := match a, b with
  | .int i, .int j => some (.int (i + j))
  | .str x, .str y => if x.length + y.length ≤ big then some (.str (x ++ y)) else Option.none
  | .tup xs, .tup ys => Option.none
  | a, b => match deref L a, deref L b with
    | some xs, some ys => if xs.length + ys.length ≤ big then some (.lst (xs ++ ys)) else Option.none
    | _, _ => Option.none
def fI (C : Int → Int → Prop) [∀ i j, Decidable (C i j)] (f : Int → Int → D) (_ : Lo) (a b : D) : Option D := match a, b with
  | .int i, .int j => if C i j then some (f i j) else Option.none
  | _, _ => Option.none
def fI0 (f : Int → Int → D) (_ : Lo) (a b : D) : Option D := match a, b with
  | .int i, .int j => some (f i j)
  | _, _ => Option.none
abbrev cMul (i j : Int) : Prop := (-(2 ^ 64) < i ∧ i < 2 ^ 64) ∨ (-(2 ^ 64) < j ∧ j < 2 ^ 64)
abbrev cDiv (i j : Int) : Prop := 0 < j ∧ j < 1073741824
abbrev cMod (i j : Int) : Prop := 0 < j
abbrev cPow (i j : Int) : Prop := 0 ≤ j ∧ j ≤ 1000000 ∧ i.natAbs < 2 ^ 64
abbrev cShl (i j : Int) : Prop := 0 ≤ j ∧ j ≤ 100000 ∧ i.natAbs < 2 ^ 3000
abbrev cShr (i j : Int) : Prop := 0 ≤ j
def fSub := fI0 fun i j => .int (i - j)
def fMul (L : Lo) (a b : D) : Option D := match a, b with
  | .int i, .int j => if cMul i j then some (.int (i * j)) else Option.none
  | a, .int k => (match deref L a with
    | some xs => if -(2 ^ 63) ≤ k ∧ k < 2 ^ 63 ∧ xs.length * k.toNat ≤ big then some (.lst (List.replicate k.toNat xs).flatten) else Option.none
    | _ => Option.none)
  | _, _ => Option.none
def fDiv := fI cDiv fun i j => .int (i / j)
def fMod := fI cMod fun i j => .int (i % j)
def fPow := fI cPow fun i j => .int (i ^ j.toNat)
def fShl := fI cShl fun i j => .int (i * 2 ^ j.toNat)
def fShr := fI cShr fun i j => .int (i / 2 ^ j.toNat)
def fAnd := fI0 fun i j => .int (Builtin.bitAnd i j)
def fOr := fI0 fun i j => .int (Builtin.bitOr i j)
def fXor := fI0 fun i j => .int (Builtin.bitXor i j)
def fLt := fI0 fun i j => .bl (decide (i < j))
def fLe := fI0 fun i j => .bl (decide (i ≤ j))
def fGt := fI0 fun i j => .bl (decide (j < i))
def fGe := fI0 fun i j => .bl (decide (j ≤ i))
def fEq (L : Lo) (a b : D) : Option D := match a, b with
  | .int i, .int j => some (.bl (decide (i = j)))
  | .str i, .str j => some (.bl (decide (i = j)))
  | .bl i, .bl j => some (.bl (decide (i = j)))
  | a, b => match res L 20 a, res L 20 b with
    | some d, some e => if shD 20 d = true ∧ shD 20 e = true then some (.bl (eqD d e)) else Option.none
    | _, _ => Option.none
def fNot (d : Option D) : Option D := match d with
  | some (.bl b) => some (.bl (!b))
  | _ => Option.none
def fNe (L : Lo) (a b : D) : Option D := fNot (fEq L a b)
def isNon : D → Bool
  | .non => true
  | _ => false
def fIs (_ : Lo) (a b : D) : Option D := match b with
  | .non => some (.bl (isNon a))
  | _ => Option.none
def fIsNot (_ : Lo) (a b : D) : Option D := match b with
  | .non => some (.bl (!isNon a))
  | _ => Option.none
def flatD : D → Bool
  | .non | .bl _ | .int _ | .str _ => true
  | _ => false
def fIn (L : Lo) (a b : D) : Option D := match b with
  | .tup ds => if flatD a = true ∧ ds.all flatD = true then some (.bl (ds.any fun y => eqD y a)) else Option.none
  | b => match res L 20 a, res L 20 b with
    | some d, some (.lst es) => if shD 20 d = true ∧ shD 20 (.lst es) = true then some (.bl (es.any fun z => eqD z d)) else Option.none
    | _, _ => Option.none
def fNotIn (L : Lo) (a b : D) : Option D := fNot (fIn L a b)

section
variable {X : Cx} {T : Tb X.K}
theorem repI {g : G} {σ : L2.St} {i : Int} {v : V} (h : RepS T g σ (.int i) v) : v = .int i := by
  rcases h with h | h
  · cases h; rfl
  · obtain ⟨_, _, z⟩ := T.spo _ _ _ h; cases z
theorem repStr {g : G} {σ : L2.St} {i : Str} {v : V} (h : RepS T g σ (.str i) v) : v = .str i := by
  rcases h with h | h
  · cases h; rfl
  · obtain ⟨_, _, z⟩ := T.spo _ _ _ h; cases z
theorem repB {g : G} {σ : L2.St} {i : Bool} {v : V} (h : RepS T g σ (.bl i) v) : v = .bl i := by
  rcases h with h | h
  · cases h; rfl
  · obtain ⟨_, _, z⟩ := T.spo _ _ _ h; cases z
theorem repN {g : G} {σ : L2.St} {v : V} (h : RepS T g σ .non v) : v = .non := by
  rcases h with h | h
  · cases h; rfl
  · obtain ⟨_, _, z⟩ := T.spo _ _ _ h; cases z
theorem repT {g : G} {σ : L2.St} {ds : List D} {v : V} (h : RepS T g σ (.tup ds) v) : ∃ a xs, v = .ref a ∧ g.F a = some (.tup xs) ∧ Reps X.K g ds xs := by
  rcases h with h | h
  · cases h with | tup q r => exact ⟨_, _, rfl, q, r⟩
  · obtain ⟨_, _, z⟩ := T.spo _ _ _ h; cases z
theorem isNon_iff {B : Ent} {g : G} {σ : L2.St} {H : Hp} {Lc : Lo} {d : D} {v : V} (r : Rp T B g σ H Lc) (h : RepS T g σ d v) : decide (v = .non) = isNon d := by
  cases d with
  | slot i => obtain ⟨_, a, rfl⟩ := h; rfl
  | non => rw [repN h]; rfl
  | clo k cs => 
    rcases h with h | h
    · cases h; rfl
    · exact h.elim
  | _ => 
    rcases h with h | h
    · exact decide_eq_false fun q => by subst q; cases h
    · obtain ⟨_, _, z⟩ := T.spo _ _ _ h; cases z
theorem lstOf {B : Ent} {g : G} {σ : L2.St} {H : Hp} {Lc : Lo} {ds : List D} {xs : List V} {p : Addr} (r : Rp T B g σ H Lc) (h : Reps X.K g ds xs) (hp : H p = none) :
    Ge g (g.frz p (.lst xs)) ∧ Rp T B (g.frz p (.lst xs)) σ (upd H p (.lst xs)) Lc ∧ RepS T (g.frz p (.lst xs)) σ (.lst ds) (.ref p) := by
  have h2 := (r.rs.fresh hp).2
  exact ⟨Ge.frz h2, r.alloc hp, RepS.ofR (.lst (show upd g.F p (.lst xs) p = _ from upd_same) (Reps.mono (Ge.frz h2) _ _ h))⟩
theorem tupOf {B : Ent} {g : G} {σ : L2.St} {H : Hp} {Lc : Lo} {ds : List D} {xs : List V} {p : Addr} (r : Rp T B g σ H Lc) (h : Reps X.K g ds xs) (hp : H p = none) :
    Ge g (g.frz p (.tup xs)) ∧ Rp T B (g.frz p (.tup xs)) σ (upd H p (.tup xs)) Lc ∧ RepS T (g.frz p (.tup xs)) σ (.tup ds) (.ref p) := by
  have h2 := (r.rs.fresh hp).2
  exact ⟨Ge.frz h2, r.alloc hp, RepS.ofR (.tup (show upd g.F p (.tup xs) p = _ from upd_same) (Reps.mono (Ge.frz h2) _ _ h))⟩
theorem oI {op : Value → Value → Sem Value} {C : Int → Int → Prop} [∀ i j, Decidable (C i j)] {C' : Int → Int → Prop} {f : Int → Int → V} {f' : Int → Int → D} (ho : OpR X op (rI C' f)) (hc : ∀ i j, C i j → C' i j) (hf : ∀ i j g, Rep X.K g (f' i j) (f i j)) : OpS T op (fI C f') := by
  intro B g σ H Lc a b d x y Q rp ra rb e k
  unfold fI at e
  split at e
  · split at e
    · rename_i i j hh
      cases e
      rw [repI ra, repI rb]
      exact ⟨_, ho, i, j, rfl, rfl, hc i j hh, k g H _ (Ge.refl _) rp (RepS.ofR (hf i j g))⟩
    · cases e
  · cases e
theorem oI0 {op : Value → Value → Sem Value} {f : Int → Int → V} {f' : Int → Int → D} (ho : OpR X op (rI0 f)) (hf : ∀ i j g, Rep X.K g (f' i j) (f i j)) : OpS T op (fI0 f') := by
  intro B g σ H Lc a b d x y Q rp ra rb e k
  unfold fI0 at e
  split at e
  · rename_i i j
    cases e
    rw [repI ra, repI rb]
    exact ⟨_, ho, i, j, rfl, rfl, k g H _ (Ge.refl _) rp (RepS.ofR (hf i j g))⟩
  · cases e
theorem o_add : OpS T (binaryOp .Add) fAdd := by
  intro B g σ H Lc a b d x y Q rp ra rb e k
  have lists : ∀ xs ys, deref Lc a = some xs → deref Lc b = some ys → (if xs.length + ys.length ≤ big then some (D.lst (xs ++ ys)) else Option.none) = some d → opAny X (binaryOp .Add) x y H Q := by
    intro xs ys h1 h2 e
    split at e
    · rename_i hb
      cases e
      obtain ⟨p, us, rfl, q1, q2⟩ := derefS rp h1 ra
      obtain ⟨p', ws, rfl, q3, q4⟩ := derefS rp h2 rb
      refine ⟨_, op_cat, p, p', us, ws, rfl, rfl, q1, q3, big_le (by rw [← q2.length, ← q4.length]; exact hb), fun np hn => ?_⟩
      obtain ⟨z1, z2, z3⟩ := lstOf rp (q2.append q4) hn
      exact k _ _ _ z1 z2 z3
    · cases e
  unfold fAdd at e
  split at e
  · rename_i i j
    cases e
    rw [repI ra, repI rb]
    exact ⟨_, op_add, i, j, rfl, rfl, k g H _ (Ge.refl _) rp (RepS.ofR (.int _))⟩
  · rename_i i j
    split at e
    · rename_i hb
      cases e
      rw [repStr ra, repStr rb]
      exact ⟨_, op_add_str, i, j, rfl, rfl, big_le hb, k g H _ (Ge.refl _) rp (RepS.ofR (.str _))⟩
    · cases e
  · cases e
  · split at e
    · rename_i xs ys h1 h2
      exact lists xs ys h1 h2 e
    · cases e
theorem o_sub : OpS T (binaryOp .Sub) fSub := oI0 op_sub fun _ _ _ => .int _
theorem o_mul : OpS T (binaryOp .Mult) fMul := by
  intro B g σ H Lc a b d x y Q rp ra rb e k
  unfold fMul at e
  split at e
  · rename_i i j
    split at e
    · rename_i hh
      cases e
      rw [repI ra, repI rb]
      exact ⟨_, op_mul, i, j, rfl, rfl, hh, k g H _ (Ge.refl _) rp (RepS.ofR (.int _))⟩
    · cases e
  · rename_i j _
    split at e
    · rename_i xs h1
      split at e
      · rename_i hh
        cases e
        obtain ⟨p, us, rfl, q1, q2⟩ := derefS rp h1 ra
        rw [repI rb]
        refine ⟨_, op_rep, p, j, us, rfl, rfl, q1, hh.1, hh.2.1, big_le (by rw [← q2.length]; exact hh.2.2), fun np hn => ?_⟩
        obtain ⟨z1, z2, z3⟩ := lstOf rp (q2.flat j.toNat) hn
        exact k _ _ _ z1 z2 z3
      · cases e
    · cases e
  · cases e
theorem o_div : OpS T (binaryOp .FloorDiv) fDiv := oI op_fdiv (fun _ _ h => h) fun _ _ _ => .int _
theorem o_mod : OpS T (binaryOp .Mod) fMod := oI op_mod (fun _ _ h => h) fun _ _ _ => .int _
theorem o_pow : OpS T (binaryOp .Pow) fPow := oI op_pow (fun _ _ h => h) fun _ _ _ => .int _
theorem o_shl : OpS T (binaryOp .LShift) fShl := oI op_shlW (fun i j h => by
  obtain ⟨h1, h2, h3⟩ := h
  have z := shl_ok (j := j.toNat) h3 (by omega)
  rw [Int.toNat_of_nonneg h1] at z
  exact z) fun _ _ _ => .int _
theorem o_shr : OpS T (binaryOp .RShift) fShr := oI op_shr (fun _ _ h => h) fun _ _ _ => .int _
theorem o_and : OpS T (binaryOp .BitAnd) fAnd := oI0 op_and fun _ _ _ => .int _
theorem o_or : OpS T (binaryOp .BitOr) fOr := oI0 op_or fun _ _ _ => .int _
theorem o_xor : OpS T (binaryOp .BitXor) fXor := oI0 op_xor fun _ _ _ => .int _
theorem o_lt : OpS T (compareOp .Lt) fLt := oI0 op_lt fun _ _ _ => .bl _
theorem o_le : OpS T (compareOp .LtE) fLe := oI0 op_le fun _ _ _ => .bl _
theorem o_gt : OpS T (compareOp .Gt) fGt := oI0 op_gt fun _ _ _ => .bl _
theorem o_ge : OpS T (compareOp .GtE) fGe := oI0 op_ge fun _ _ _ => .bl _
theorem dec_vi {i j : Int} : decide (V.int i = V.int j) = decide (i = j) := by simp
theorem dec_vs {i j : Str} : decide (V.str i = V.str j) = decide (i = j) := by simp
theorem dec_vb {i j : Bool} : decide (V.bl i = V.bl j) = decide (i = j) := by simp
/-- what == is, one way or the other -/
theorem eq_core (hu : X.A.units + 64 < cLine) {B : Ent} {g : G} {σ : L2.St} {H : Hp} {Lc : Lo} {a b : D} {c : Bool} {x y : V} (rp : Rp T B g σ H Lc) (ra : RepS T g σ a x) (rb : RepS T g σ b y) (e : fEq Lc a b = some (.bl c)) :
    (scal x y = true ∧ decide (x = y) = c) ∨ ∃ d f, Dp X.K H x d ∧ Dp X.K H y f ∧ SeqAt.shaped d = true ∧ SeqAt.shaped f = true ∧ PyData.eqv d f = c := by
  unfold fEq at e
  split at e
  · cases e; rw [repI ra, repI rb]; exact .inl ⟨rfl, dec_vi⟩
  · cases e; rw [repStr ra, repStr rb]; exact .inl ⟨rfl, dec_vs⟩
  · cases e; rw [repB ra, repB rb]; exact .inl ⟨rfl, dec_vb⟩
  · split at e
    · rename_i d f h1 h2
      split at e
      · rename_i hh
        cases e
        exact .inr ⟨_, _, DpD rp 20 a d x h1 ra hh.1, DpD rp 20 b f y h2 rb hh.2, shaped_of hh.1, shaped_of hh.2, eq_pd 20 20 d f hh.1 hh.2⟩
      · cases e
    · cases e
theorem fEq_bl {Lc : Lo} {a b d : D} (e : fEq Lc a b = some d) : ∃ c, d = .bl c := by
  unfold fEq at e
  split at e
  · cases e; exact ⟨_, rfl⟩
  · cases e; exact ⟨_, rfl⟩
  · cases e; exact ⟨_, rfl⟩
  · split at e
    · split at e
      · cases e; exact ⟨_, rfl⟩
      · cases e
    · cases e
theorem o_eq (hu : X.A.units + 64 < cLine) : OpS T (compareOp .Eq) fEq := by
  intro B g σ H Lc a b d x y Q rp ra rb e k
  obtain ⟨c, rfl⟩ := fEq_bl e
  have kk := k g H _ (Ge.refl _) rp (RepS.ofR (.bl c))
  rcases eq_core hu rp ra rb e with ⟨h1, h2⟩ | ⟨d, f, h1, h2, h3, h4, h5⟩
  · exact ⟨_, op_eq, h1, by rw [h2]; exact kk⟩
  · exact ⟨_, op_eqD hu, d, f, h1, h2, h3, h4, by rw [h5]; exact kk⟩
theorem o_ne (hu : X.A.units + 64 < cLine) : OpS T (compareOp .NotEq) fNe := by
  intro B g σ H Lc a b d x y Q rp ra rb e k
  unfold fNe fNot at e
  split at e
  · rename_i c h
    cases e
    have kk := k g H _ (Ge.refl _) rp (RepS.ofR (.bl (!c)))
    rcases eq_core hu rp ra rb h with ⟨h1, h2⟩ | ⟨d, f, h1, h2, h3, h4, h5⟩
    · exact ⟨_, op_ne, h1, by rw [h2]; exact kk⟩
    · exact ⟨_, op_neD hu, d, f, h1, h2, h3, h4, by rw [h5]; exact kk⟩
  · cases e
theorem o_is : OpS T (compareOp .Is) fIs := by
  intro B g σ H Lc a b d x y Q rp ra rb e k
  cases b with
  | non =>
    cases e
    rw [repN rb]
    have kk := k g H _ (Ge.refl _) rp (RepS.ofR (.bl (isNon a)))
    exact ⟨_, op_isN, rfl, by rw [isNon_iff rp ra]; exact kk⟩
  | _ => cases e
theorem o_isnot : OpS T (compareOp .IsNot) fIsNot := by
  intro B g σ H Lc a b d x y Q rp ra rb e k
  cases b with
  | non =>
    cases e
    rw [repN rb]
    have kk := k g H _ (Ge.refl _) rp (RepS.ofR (.bl (!isNon a)))
    exact ⟨_, op_notN, rfl, by rw [isNon_iff rp ra]; exact kk⟩
  | _ => cases e
/-! #### in -/
theorem flat_rep {g : G} {σ : L2.St} {d : D} {v : V} (h : flatD d = true) (r : RepS T g σ d v) : flatV v = true ∧ ∀ e w, flatD e = true → Rep X.K g e w → eqV w v = eqD e d := by
  cases d with
  | non => rw [repN r]; exact ⟨rfl, fun e w f q => by cases q <;> first | rfl | cases f⟩
  | bl b => rw [repB r]; exact ⟨rfl, fun e w f q => by cases q <;> first | rfl | cases f⟩
  | int i => rw [repI r]; exact ⟨rfl, fun e w f q => by cases q <;> first | rfl | cases f⟩
  | str i => rw [repStr r]; exact ⟨rfl, fun e w f q => by cases q <;> first | rfl | cases f⟩
  | _ => cases h
theorem any_rep (T : Tb X.K) {g : G} {d : D} {v : V} {ds : List D} {vs : List V} (h : ∀ e w, flatD e = true → Rep X.K g e w → eqV w v = eqD e d) (hf : ds.all flatD = true) (r : Reps X.K g ds vs) : inV v vs = (ds.any fun y => eqD y d) ∧ vs.all flatV = true := by
  induction ds generalizing vs with
  | nil => cases r; exact ⟨rfl, rfl⟩
  | cons e ds ih =>
    cases r with
    | cons r1 r2 =>
      rw [List.all_cons, Bool.and_eq_true] at hf
      obtain ⟨i1, i2⟩ := ih hf.2 r2
      refine ⟨?_, ?_⟩
      · show (eqV _ v || inV v _) = (eqD e d || _)
        rw [h e _ hf.1 r1, i1]
      · rw [List.all_cons, (flat_rep (T := T) (σ := []) hf.1 (RepS.ofR r1)).1, i2] <;> rfl
theorem in_core (hu : X.A.units + 65 < cLine) {B : Ent} {g : G} {σ : L2.St} {H : Hp} {Lc : Lo} {a b : D} {c : Bool} {x y : V} (rp : Rp T B g σ H Lc) (ra : RepS T g σ a x) (rb : RepS T g σ b y) (e : fIn Lc a b = some (.bl c)) :
    (∃ p xs, y = .ref p ∧ (SqL X.K H p xs ∨ SqT X.K H p xs) ∧ flatV x = true ∧ xs.all flatV = true ∧ inV x xs = c) ∨ ∃ d ds, Dp X.K H x d ∧ Dp X.K H y (.list ds) ∧ SeqAt.shaped d = true ∧ SeqAt.shaped (.list ds) = true ∧ (ds.any fun z => PyData.eqv z d) = c := by
  unfold fIn at e
  split at e
  · rename_i ds
    split at e
    · rename_i hh
      cases e
      obtain ⟨p, xs, rfl, q1, q2⟩ := repT rb
      obtain ⟨f1, f2⟩ := flat_rep (T := T) hh.1 ra
      obtain ⟨i1, i2⟩ := any_rep T f2 hh.2 q2
      exact .inl ⟨p, xs, rfl, .inr (SqT.of (rp.rs.ex _ _ q1)), f1, i2, i1⟩
    · cases e
  · split at e
    · rename_i d es h1 h2
      split at e
      · rename_i hh
        cases e
        refine .inr ⟨pd d, pds es, DpD rp 20 a d x h1 ra hh.1, DpD rp 20 b (.lst es) y h2 rb hh.2, shaped_of hh.1, shaped_of hh.2, ?_⟩
        have key : ∀ l : List D, (∀ z ∈ l, shD 20 z = true) → ((pds l).any fun z => PyData.eqv z (pd d)) = (l.any fun z => eqD z d) := by
          intro l
          induction l with
          | nil => intro _; rfl
          | cons z l ih =>
            intro hz
            show (PyData.eqv (pd z) (pd d) || _) = (eqD z d || _)
            rw [eq_pd 20 20 z d (hz z List.mem_cons_self) hh.1, ih fun w m => hz w (List.mem_cons_of_mem _ m)]
        exact key es fun z m => shD_mono (by decide) (shDs_mem (n := 19) hh.2 z m)
      · cases e
    · cases e
theorem fIn_bl {Lc : Lo} {a b d : D} (e : fIn Lc a b = some d) : ∃ c, d = .bl c := by
  unfold fIn at e
  split at e
  · split at e
    · cases e; exact ⟨_, rfl⟩
    · cases e
  · split at e
    · split at e
      · cases e; exact ⟨_, rfl⟩
      · cases e
    · cases e
theorem o_in (hu : X.A.units + 65 < cLine) : OpS T (compareOp .In) fIn := by
  intro B g σ H Lc a b d x y Q rp ra rb e k
  obtain ⟨c, rfl⟩ := fIn_bl e
  have kk := k g H _ (Ge.refl _) rp (RepS.ofR (.bl c))
  rcases in_core hu rp ra rb e with ⟨p, xs, rfl, h1, h2, h3, h4⟩ | ⟨d, ds, h1, h2, h3, h4, h5⟩
  · exact ⟨_, op_in_seq, p, xs, rfl, h1, h2, h3, by rw [if_neg Bool.false_ne_true, h4]; exact kk⟩
  · exact ⟨_, op_inD hu, d, ds, h1, h2, h3, h4, by rw [h5]; exact kk⟩
theorem o_notin (hu : X.A.units + 65 < cLine) : OpS T (compareOp .NotIn) fNotIn := by
  intro B g σ H Lc a b d x y Q rp ra rb e k
  unfold fNotIn fNot at e
  split at e
  · rename_i c h
    cases e
    have kk := k g H _ (Ge.refl _) rp (RepS.ofR (.bl (!c)))
    rcases in_core hu rp ra rb h with ⟨p, xs, rfl, h1, h2, h3, h4⟩ | ⟨d, ds, h1, h2, h3, h4, h5⟩
    · exact ⟨_, op_notIn_seq, p, xs, rfl, h1, h2, h3, by rw [if_pos rfl, h4]; exact kk⟩
    · exact ⟨_, op_notInD hu, d, ds, h1, h2, h3, h4, by rw [h5]; exact kk⟩
  · cases e
/-- in a tuple of the module -/
def fInK (ds : List D) (_ : Lo) (a : D) : Option D := if flatD a = true ∧ ds.all flatD = true then some (.bl (ds.any fun y => eqD y a)) else Option.none
theorem inK_core {B : Ent} {g : G} {σ : L2.St} {H : Hp} {Lc : Lo} {a : D} {ds : List D} {xs : List V} {c : Bool} {x : V} (rp : Rp T B g σ H Lc) (ra : RepS T g σ a x) (hr : ∀ g, Reps X.K g ds xs) (e : fInK ds Lc a = some (.bl c)) : flatV x = true ∧ xs.all flatV = true ∧ inV x xs = c := by
  unfold fInK at e
  split at e
  · rename_i hh
    cases e
    obtain ⟨f1, f2⟩ := flat_rep (T := T) hh.1 ra
    obtain ⟨i1, i2⟩ := any_rep T f2 hh.2 (hr g)
    exact ⟨f1, i2, i1⟩
  · cases e
end
end MP
set_option Elab.async false
set_option linter.all false
set_option maxRecDepth 100000
set_option maxHeartbeats 4000000
/-! MP: displays, subscripts, slices, fields, built-ins. -/
namespace MP
open PySem L2 PySem.Spec PyProof.Rows

/-- (no value is barred) -/
def isClo (_ : D) : Bool := false
@[simp] theorem any_clo (ds : List D) : ds.any isClo = false := by induction ds with | nil => rfl | cons d ds ih => rw [List.any_cons, ih] <;> rfl
section
variable {X : Cx} {T : Tb X.K} {B : Ent} {W : WX} {a b c : Expr} {ma mb mc : M D} {pos : Pos} {es : List Expr} {ms : M (List D)}
theorem RepA.rep {K : PySem.W.Frag} {T : Tb K} {g : G} {d : D} {v : V} (h : RepA T g d v) (n : isClo d = false) : Rep K g d v := by
  rcases h with h | h
  · exact h
  · exact h.elim
theorem RepAs.reps {K : PySem.W.Frag} {T : Tb K} {g : G} {ds : List D} {vs : List V} (h : RepAs T g ds vs) (n : ds.any isClo = false) : Reps K g ds vs := by
  induction h with
  | nil => exact .nil
  | cons r _ ih =>
    rw [List.any_cons, Bool.or_eq_false_iff] at n
    exact .cons (r.rep n.1) (ih n.2)
/-! #### displays -/
def mTup (ms : M (List D)) : M D := M.bind ms fun ds => fun L => if ds.any isClo = false ∧ ds.length ≤ big then some (.ok (.tup ds), L) else Option.none
def mLst (ms : M (List D)) : M D := M.bind ms fun ds => fun L => if ds.any isClo = false ∧ ds.length ≤ big then some (.ok (.lst ds), L) else Option.none
theorem x_tup {x1 : Nat} (h : PA X es (tA T B W ms)) : PE X (.Tuple es x1 pos) (tE T B W (mTup ms)) := peI (pe_tup h) fun σ H Q q => by
  obtain ⟨Lc, g, k⟩ := q
  refine (Kt.bind (R1 := RA T) k).tA fun vs H1 ⟨g1, L1, ds, ge1, ra, k1⟩ => ?_
  obtain ⟨r, L', e, rp, kk⟩ := id k1
  dsimp only at e
  split at e
  · rename_i hh
    refine ⟨big_le (by rw [← ra.length]; exact hh.2), fun p hp => ?_⟩
    obtain ⟨z1, z2, z3⟩ := tupOf rp (ra.reps hh.1) hp
    exact k1.now (if_pos hh) z1 z2 z3
  · cases e
theorem x_lst (h : PA X es (tA T B W ms)) : PE X (.List es pos) (tE T B W (mLst ms)) := peI (pe_lst h) fun σ H Q q => by
  obtain ⟨Lc, g, k⟩ := q
  refine (Kt.bind (R1 := RA T) k).tA fun vs H1 ⟨g1, L1, ds, ge1, ra, k1⟩ => ?_
  obtain ⟨r, L', e, rp, kk⟩ := id k1
  dsimp only at e
  split at e
  · rename_i hh
    refine ⟨big_le (by rw [← ra.length]; exact hh.2), fun p hp => ?_⟩
    obtain ⟨z1, z2, z3⟩ := lstOf rp (ra.reps hh.1) hp
    exact k1.now (if_pos hh) z1 z2 z3
  · cases e
/-! #### subscripts -/
def ixAny (X : Cx) : R2 := fun x y H Q => ∃ r, IxR X r ∧ r x y H Q
theorem ixAny_ok {X : Cx} : IxR X (ixAny X) := fun va sl pins s σ H x y v u Q I rx ry ⟨r, h, q⟩ hs => h va sl pins s σ H x y v u Q I rx ry q hs
def fIx (L : Lo) (a b : D) : Option D := match b with
  | .int i => (match a with
    | .tup ds => atI ds i
    | .scr ns => (atI ns i).map .int
    | a => (deref L a).bind fun ds => atI ds i)
  | _ => Option.none
theorem fIx_cases {L : Lo} {a b d : D} (e : fIx L a b = some d) : ∃ i, b = .int i ∧ ((∃ ds, a = .tup ds ∧ atI ds i = some d) ∨ (∃ ns n, a = .scr ns ∧ atI ns i = some n ∧ d = .int n) ∨ ∃ ds, deref L a = some ds ∧ atI ds i = some d) := by
  cases b with
  | int i =>
    refine ⟨i, rfl, ?_⟩
    simp only [fIx] at e
    split at e
    · exact .inl ⟨_, rfl, e⟩
    · cases q : atI _ i with
      | none => rw [q] at e; cases e
      | some n => rw [q] at e; cases e; exact .inr (.inl ⟨_, n, rfl, q, rfl⟩)
    · cases q : deref L a with
      | none => rw [q] at e; cases e
      | some ds => rw [q] at e; exact .inr (.inr ⟨ds, rfl, e⟩)
  | _ => cases e
theorem atI_reps {K : PySem.W.Frag} {g : G} {ds : List D} {vs : List V} {i : Int} {d : D} (r : Reps K g ds vs) (h : atI ds i = some d) : ∃ v, atI vs i = some v ∧ Rep K g d v := by
  unfold atI at h ⊢
  rw [← r.length]
  cases e : ixN ds.length i with
  | none => rw [e] at h; cases h
  | some j =>
    rw [e] at h
    obtain ⟨v, h1, h2⟩ := r.get (i := j) h
    exact ⟨v, h1, h2⟩
theorem x_ix (ha : PE X a (tE T B W ma)) (hb : PE X b (tE T B W mb)) (hs : PlainIx b := by exact fun _ _ => rfl) : PE X (.Subscript a b pos) (tE T B W (mBin fIx ma mb)) := peI (pe_ix ixAny_ok ha hb hs) fun σ H Q q => by
  obtain ⟨Lc, g, k⟩ := q
  refine (Kt.bind (R1 := RepS T) k).tE fun x H1 ⟨g1, L1, av, ge1, ra, k1⟩ => ?_
  refine (Kt.bind (R1 := RepS T) k1).tE fun y H2 ⟨g2, L2', bv, ge2, rb, k2⟩ => ?_
  obtain ⟨r, L', e, rp, kk⟩ := id k2
  dsimp only at e
  cases ef : fIx L2' av bv with
  | none => rw [ef] at e; cases e
  | some d =>
    have fin : ∀ v, Rep X.K g2 d v → Q v H2 := fun v rv => k2.now (show (match fIx L2' av bv with | some d => some (R.ok d, L2') | _ => Option.none) = some (R.ok d, L2') by rw [ef]) (Ge.refl _) rp (RepS.ofR rv)
    have ra := ra.mono (σ := σ) ge2
    obtain ⟨i, rfl, ⟨ds, rfl, h1⟩ | ⟨ns, n, rfl, h1, rfl⟩ | ⟨ds, hd, h1⟩⟩ := fIx_cases ef
    · rw [repI rb]
      obtain ⟨p, xs, rfl, q1, q2⟩ := repT ra
      obtain ⟨v, h1, h2⟩ := atI_reps q2 h1
      exact ⟨_, ix_tup, p, xs, i, v, rfl, rfl, SqT.of (rp.rs.ex _ _ q1), h1, fin v h2⟩
    · rw [repI rb]
      rcases ra with ra | ra
      · cases ra with
        | scr q1 =>
          have h2 : atI (ns.map V.int) i = some (V.int n) := by
            unfold atI at h1 ⊢
            rw [List.length_map]
            cases ei : ixN ns.length i with
            | none => rw [ei] at h1; cases h1
            | some j => 
              rw [ei] at h1
              have h1 : ns[j]? = some n := h1
              show (ns.map V.int)[j]? = _
              rw [List.getElem?_map, h1] <;> rfl
          exact ⟨_, ix_list, _, _, i, _, rfl, rfl, Evl.ex_l rp.rs.ex q1, h2, fin _ (.int n)⟩
      · obtain ⟨_, _, z⟩ := T.spo _ _ _ ra; cases z
    · rw [repI rb]
      obtain ⟨p, xs, rfl, q1, q2⟩ := derefS rp hd ra
      obtain ⟨v, h1, h2⟩ := atI_reps q2 h1
      exact ⟨_, ix_list, p, xs, i, v, rfl, rfl, SqL.of q1, h1, fin v h2⟩
/-! #### slices -/
def cut {α : Type} (xs : List α) (lo hi : Option Int) : List α := (xs.drop (HT.sIx xs.length 0 lo)).take (HT.sIx xs.length xs.length hi - HT.sIx xs.length 0 lo)
abbrev RO : G → L2.St → Option Int → Option Int → Prop := fun _ _ a v => a = v
def tO (T : Tb X.K) (B : Ent) (W : WX) (m : M (Option Int)) : TO := fun σ H Q => ∃ Lc g, Kt T B W RO m Lc g σ H Q
def mPart (ma : M D) : M (Option Int) := M.bind ma fun d => fun L => match d with
  | .int i => some (.ok (some i), L)
  | _ => Option.none
theorem poI {e : Option Expr} {t t' : TO} (h : PO X e t) (q : ∀ σ H Q, t' σ H Q → t σ H Q) : PO X e t' := ⟨fun pins s σ H Q I z => h.run pins s σ H Q I (q _ _ _ z)⟩
theorem o_none : PO X none (tO T B W (M.pure Option.none)) := poI po_none fun σ H Q ⟨Lc, g, k⟩ => by
  obtain ⟨r, L', e, rp, kk⟩ := id k
  exact k.now rfl (Ge.refl _) rp rfl
theorem o_some (h : PE X a (tE T B W ma)) : PO X (some a) (tO T B W (mPart ma)) := poI (po_some h) fun σ H Q ⟨Lc, g, k⟩ => by
  refine (Kt.bind (R1 := RepS T) k).tE fun x H1 ⟨g1, L1, av, ge1, ra, k1⟩ => ?_
  obtain ⟨r, L', e, rp, kk⟩ := id k1
  cases av with
  | int i => rw [repI ra]; exact ⟨i, rfl, k1.now rfl (Ge.refl _) rp rfl⟩
  | _ => cases e
def mSl (ma : M D) (lo hi : M (Option Int)) : M D := M.bind ma fun a => M.bind lo fun l => M.bind hi fun u => fun L => match derefR L a with
  | some ds => some (.ok (.lst (cut ds l u)), L)
  | _ => Option.none
theorem derefRS {g : G} {σ : L2.St} {H : Hp} {Lc : Lo} {d : D} {ds : List D} {v : V} (r : Rp T B g σ H Lc) (h : derefR Lc d = some ds) (rv : RepS T g σ d v) : ∃ a xs, v = .ref a ∧ SqL X.K H a xs ∧ Reps X.K g ds xs := by
  unfold derefR at h
  split at h
  · cases h
    rcases rv with rv | rv
    · cases rv with | scr q => exact ⟨_, _, rfl, Evl.ex_l r.rs.ex q, Reps.ints _⟩
    · obtain ⟨_, _, z⟩ := T.spo _ _ _ rv; cases z
  · obtain ⟨a, xs, e, h1, h2⟩ := derefS r h rv
    exact ⟨a, xs, e, SqL.of h1, h2⟩
theorem x_sl {lo hi : Option Expr} {nl nh : M (Option Int)} {p2 : Pos} (ha : PE X a (tE T B W ma)) (hl : PO X lo (tO T B W nl)) (hh : PO X hi (tO T B W nh)) : PE X (.Subscript a (.Slice lo hi none p2) pos) (tE T B W (mSl ma nl nh)) :=
  peI (pe_slice sl_list ha hl hh) fun σ H Q ⟨Lc, g, k⟩ => by
    refine (Kt.bind (R1 := RepS T) k).tE fun x H1 ⟨g1, L1, av, ge1, ra, k1⟩ => ?_
    obtain ⟨r1, L1', e1, rp1, kk1⟩ := Kt.bind (R1 := RO) k1
    refine ⟨L1, g1, r1, L1', e1, rp1, fun g2 H2 ge2 rp2 => ?_⟩
    have z := kk1 g2 H2 ge2 rp2
    cases r1 with
    | ex x => exact z
    | ok l =>
      rintro v rfl
      obtain ⟨g3, L3, l', ge3, rfl, k3⟩ := z l rfl
      obtain ⟨r4, L4', e4, rp4, kk4⟩ := Kt.bind (R1 := RO) k3
      refine ⟨L3, g3, r4, L4', e4, rp4, fun g5 H5 ge5 rp5 => ?_⟩
      have z := kk4 g5 H5 ge5 rp5
      cases r4 with
      | ex x => exact z
      | ok u =>
        rintro v rfl
        obtain ⟨g6, L6, u', ge6, rfl, k6⟩ := z u rfl
        obtain ⟨r7, L7', e7, rp7, kk7⟩ := id k6
        dsimp only at e7
        cases hd : derefR L6 av with
        | none => rw [hd] at e7; cases e7
        | some ds =>
          have ra := (ra.mono (σ := σ) ge3).mono ge6
          obtain ⟨p, xs, rfl, q1, q2⟩ := derefRS rp7 hd ra
          refine ⟨p, xs, rfl, q1, fun np hn => ?_⟩
          have q3 : Reps X.K g6 (cut ds l' u') (cutV xs l' u') := by
            unfold cut cutV
            rw [← q2.length]
            exact (q2.drop _).take _
          obtain ⟨z1, z2, z3⟩ := lstOf rp7 q3 hn
          exact k6.now (show (match derefR L6 av with | some ds => some (R.ok (D.lst (cut ds l' u')), L6) | _ => Option.none) = some (R.ok _, L6) by rw [hd]) z1 z2 z3
/-! #### fields -/
def fFld (n : Nat) (L : Lo) (a : D) : Option D := match a with
  | .ref k => (match L.s[k]? with | some (.inst _ fs) => fs.lookup n | _ => Option.none)
  | _ => Option.none
theorem repF_look {K : PySem.W.Frag} {T : Tb K} {g : G} {c n : Nat} {d : D} : ∀ {fs : List (Nat × D)} {ws : List (Str × V)}, RepF T g c fs ws → fs.lookup n = some d → T.has c n = true ∧ ∃ v, ws.lookup (T.fld n) = some v ∧ Rep K g d v
  | [], _, r, e => by simp at e
  | (m, d') :: fs, _, r, e => by
    cases r with
    | cons h r1 r2 =>
      by_cases q : n = m
      · subst q
        rw [List.lookup_cons_self] at e
        cases e
        exact ⟨h, _, List.lookup_cons_self, r1⟩
      · have q' : (n == m) = false := by simpa using q
        rw [List.lookup_cons, q'] at e
        obtain ⟨h1, v, h2, h3⟩ := repF_look r2 e
        refine ⟨h1, v, ?_, h3⟩
        have nf : (T.fld n == T.fld m) = false := by
          have : T.fld n ≠ T.fld m := fun z => q (T.inj c n m h1 h z)
          simpa using this
        rw [List.lookup_cons, nf]
        exact h2
theorem refOf {g : G} {σ : L2.St} {n : Nat} {v : V} (h : RepS T g σ (.ref n) v) : ∃ a, v = .ref a ∧ g.ι[n]? = some a := by
  rcases h with h | h
  · cases h with | ref e => exact ⟨_, rfl, e⟩
  · obtain ⟨_, _, z⟩ := T.spo _ _ _ h; cases z
theorem mUn_core {f : Lo → D → Option D} {σ : L2.St} {H : Hp} {Q : VK} (h : tE T B W (mUn f ma) σ H Q) : tE T B W ma σ H fun x H1 => ∃ (g : G) (Lc : Lo) (a d : D), RepS T g σ a x ∧ Rp T B g σ H1 Lc ∧ f Lc a = some d ∧ ∀ g' H' v, Ge g g' → Rp T B g' σ H' Lc → RepS T g' σ d v → Q v H' := by
  obtain ⟨Lc, g, k⟩ := h
  refine (Kt.bind (R1 := RepS T) k).tE fun x H1 ⟨g1, L1, av, ge1, ra, k1⟩ => ?_
  obtain ⟨r, L', e, rp, kk⟩ := id k1
  dsimp only at e
  cases ef : f L1 av with
  | none => rw [ef] at e; cases e
  | some d => exact ⟨g1, L1, av, d, ra, rp, ef, fun g' H' v ge rp' rv => k1.now (show (match f L1 av with | some d => some (R.ok d, L1) | _ => Option.none) = some (R.ok d, L1) by rw [ef]) ge rp' rv⟩
theorem x_fld (n : Nat) {f : Str} (hf : T.fld n = f) (ha : PE X a (tE T B W ma)) (hb : attributeBase a f X.env (eval a X.env) = eval a X.env := by rfl) : PE X (.Attribute a f pos) (tE T B W (mUn (fFld n) ma)) := peI (pe_fld ha hb) fun σ H Q q => by
  subst hf
  obtain ⟨Lc, g, k⟩ := mUn_core q
  refine k.tE fun x H1 ⟨g1, L1, av, d, ra, rp, ef, kk⟩ => ?_
  cases av with
  | ref k =>
    obtain ⟨p, rfl, hp⟩ := refOf ra
    have ef : (match L1.s[k]? with | some (.inst _ fs) => fs.lookup n | _ => Option.none) = some d := ef
    split at ef
    · rename_i c fs hc
      obtain ⟨dx, ws, h1, h2, h3⟩ := rp.rs.at_ _ _ _ hp hc
      obtain ⟨h4, v, h5, h6⟩ := repF_look h2 ef
      obtain ⟨h7, h8⟩ := T.kc _ _ h4
      exact ⟨p, _, dx, ws, v, rfl, h1, h7, h8, h5, kk g1 H1 v (Ge.refl _) rp (RepS.ofR h6)⟩
    · cases ef
  | _ => cases ef
end
end MP
set_option Elab.async false
set_option linter.all false
set_option maxRecDepth 100000
set_option maxHeartbeats 4000000
/-! MP: statements. -/
namespace MP
open PySem L2 PySem.Spec PyProof.Rows

section
variable {K : PySem.W.Frag} (T : Tb K) (B : Ent) (W : WX)
def KS (m : M Flow) (Lc : Lo) (g : G) (σ : L2.St) (H : Hp) (D : Ends) : Prop := ∃ r L', m Lc = some (r, L') ∧ Rp T B g σ H Lc ∧ ∀ g' σ' H', Ge g g' → Rp T B g' σ' H' L' → match r with
    | .ok .next => D.nx σ' H'
    | .ok .brk => D.bk σ' H'
    | .ok .cnt => D.ct σ' H'
    | .ok (.ret d) => ∀ v, RepA T g' d v → D.rt v H'
    | .ex e => ∀ cls dd, RepX T g' H' e cls dd → W cls dd σ' H'
/-- a new list that nobody else knows -/
def KF (m : M (List D)) (Lc : Lo) (g : G) (σ : L2.St) (H : Hp) (Q : VK) : Prop := ∃ r L', m Lc = some (r, L') ∧ Rp T B g σ H Lc ∧ ∀ g' H', Ge g g' → Rp T B g' σ H' L' → match r with
    | .ok ds => ∀ p xs, H' p = none → Reps K g' ds xs → Q (.ref p) (upd H' p (.lst xs))
    | .ex e => ∀ cls dd, RepX T g' H' e cls dd → W cls dd σ H'
def tF (m : M (List D)) : TE := fun σ H Q => ∃ Lc g, KF T B W m Lc g σ H Q
end
section
variable {X : Cx} {T : Tb X.K} {B : Ent} {W : WX} {a b c : Expr} {ma mb mc : M D} {pos pos' : Pos} {es : List Expr} {ms : M (List D)} {m1 m2 : M Flow} {D : Ends} {nc : M Bool}
theorem KS.bind {α γ : Type} {R1 : G → L2.St → α → γ → Prop} {m : M α} {f : α → M Flow} {Lc : Lo} {g : G} {σ : L2.St} {H : Hp} (h : KS T B W (M.bind m f) Lc g σ H D) :
    Kt T B W R1 m Lc g σ H fun v H1 => ∃ (g1 : G) (L1 : Lo) (a : α), Ge g g1 ∧ R1 g1 σ a v ∧ KS T B W (f a) L1 g1 σ H1 D := by
  obtain ⟨r, L', e, rp, k⟩ := h
  unfold M.bind at e
  cases hm : m Lc with
  | none => rw [hm] at e; cases e
  | some z =>
    obtain ⟨r1, L1⟩ := z
    rw [hm] at e
    cases r1 with
    | ok a => exact ⟨.ok a, _, hm, rp, fun g' H' ge rp' v rv => ⟨g', _, a, ge, rv, r, L', e, rp', fun g'' σ'' H'' ge' rp'' => k g'' σ'' H'' (ge.trans ge') rp''⟩⟩
    | ex x =>
      cases e
      exact ⟨.ex x, _, hm, rp, fun g' H' ge rp' => k g' σ H' ge rp'⟩
theorem KS.now {m : M Flow} {Lc L1 : Lo} {g g' : G} {σ σ' : L2.St} {H H' : Hp} (h : KS T B W m Lc g σ H D) (e : m Lc = some (.ok .next, L1)) (ge : Ge g g') (rp : Rp T B g' σ' H' L1) : D.nx σ' H' := by
  obtain ⟨r, L', e', _, k⟩ := h
  rw [e] at e'
  cases e'
  exact k g' σ' H' ge rp
theorem KS.rp {m : M Flow} {Lc : Lo} {g : G} {σ : L2.St} {H : Hp} (h : KS T B W m Lc g σ H D) : Rp T B g σ H Lc := by obtain ⟨_, _, _, rp, _⟩ := h; exact rp
theorem KS.frz {f : MP.D → M Flow} {Lc : Lo} {g : G} {σ : L2.St} {H : Hp} {d : MP.D} {x : V} (k : KS T B W (M.bind (MP.frz d) f) Lc g σ H D) (rd : RepS T g σ d x) :
    ∃ g' L' d', Ge g g' ∧ RepA T g' d' x ∧ KS T B W (f d') L' g' σ H D := by
  obtain ⟨r, L', e, rp, kk⟩ := k
  unfold M.bind at e
  cases hm : MP.frz d Lc with
  | none => rw [hm] at e; cases e
  | some z =>
    obtain ⟨r1, L1⟩ := z
    obtain ⟨g', d', ge', rfl, rp', rd'⟩ := frz_ok rp rd hm
    rw [hm] at e
    exact ⟨g', L1, d', ge', rd', r, L', e, rp', fun g'' σ'' H'' ge'' rp'' => kk g'' σ'' H'' (ge'.trans ge'') rp''⟩
theorem FzS {f : MP.D → M Flow} {Lc : Lo} {g : G} {σ : L2.St} {H : Hp} (k : KS T B W (M.bind (mFz ma) f) Lc g σ H D) :
    tE T B W ma σ H fun x H1 => ∃ (g1 : G) (L1 : Lo) (d : MP.D), Ge g g1 ∧ RepA T g1 d x ∧ KS T B W (f d) L1 g1 σ H1 D := by
  unfold mFz at k
  rw [bind_assoc] at k
  refine (KS.bind (R1 := RepS T) k).tE fun x H1 ⟨g1, L1, av, ge1, ra, k1⟩ => ?_
  obtain ⟨g', L', d', ge', rd', k2⟩ := k1.frz ra
  exact ⟨g', L', d', ge1.trans ge', rd', k2⟩
/-! #### blocks -/
def mSeq (m1 m2 : M Flow) : M Flow := fun L => match m1 L with
  | some (.ok .next, L') => m2 L'
  | z => z
theorem KS.seq {Lc : Lo} {g : G} {σ : L2.St} {H : Hp} (k : KS T B W (mSeq m1 m2) Lc g σ H D) : KS T B W m1 Lc g σ H { D with nx := fun σ' H' => ∃ L' g', KS T B W m2 L' g' σ' H' D } := by
  obtain ⟨r, L', e, rp, kk⟩ := k
  unfold mSeq at e
  cases hm : m1 Lc with
  | none => rw [hm] at e; cases e
  | some z =>
    obtain ⟨r1, L1⟩ := z
    rw [hm] at e
    refine ⟨r1, L1, hm, rp, fun g' σ' H' ge rp' => ?_⟩
    cases r1 with
    | ex x => cases e; exact kk g' σ' H' ge rp'
    | ok f =>
      cases f with
      | next => exact ⟨L1, g', r, L', e, rp', fun g'' σ'' H'' ge'' rp'' => kk g'' σ'' H'' (ge.trans ge'') rp''⟩
      | brk => cases e; exact kk g' σ' H' ge rp'
      | cnt => cases e; exact kk g' σ' H' ge rp'
      | ret d => cases e; exact kk g' σ' H' ge rp'
def mNext : M Flow := fun L => some (.ok .next, L)
theorem ss_nil : PSs X [] (tS T B W mNext) := pssI pss_nil fun D σ H ⟨Lc, g, k⟩ => by
  have k : KS T B W mNext Lc g σ H D := k
  exact k.now rfl (Ge.refl _) k.rp
theorem ss_cons {st : Stmt} {rest : List Stmt} (h1 : PS X st (tS T B W m1)) (h2 : PSs X rest (tS T B W m2)) : PSs X (st :: rest) (tS T B W (mSeq m1 m2)) := pssI (pss_cons h1 h2) fun D σ H ⟨Lc, g, k⟩ => ⟨Lc, g, KS.seq k⟩
theorem ss_one {st : Stmt} (h1 : PS X st (tS T B W m1)) : PSs X [st] (tS T B W m1) := pss_one h1
theorem s_pass : PS X (.Pass pos) (tS T B W mNext) := psI ps_pass fun D σ H ⟨Lc, g, k⟩ => by
  have k : KS T B W mNext Lc g σ H D := k
  exact k.now rfl (Ge.refl _) k.rp
def mBrk : M Flow := fun L => some (.ok .brk, L)
def mCnt : M Flow := fun L => some (.ok .cnt, L)
theorem s_brk : PS X (.Break pos) (tS T B W mBrk) := psI ps_break fun D σ H ⟨Lc, g, r, L', e, rp, k⟩ => by
  cases e
  exact k g σ H (Ge.refl _) rp
theorem s_cnt : PS X (.Continue pos) (tS T B W mCnt) := psI ps_continue fun D σ H ⟨Lc, g, r, L', e, rp, k⟩ => by
  cases e
  exact k g σ H (Ge.refl _) rp
/-- what is never come to -/
def mNever : M Flow := fun _ => Option.none
theorem s_never {st : Stmt} : PS X st (tS T B W mNever) := psI ps_never fun D σ H ⟨Lc, g, r, L', e, rp, k⟩ => by cases e
/-! #### stores -/
def mAsg (i : Nat) (m : M MP.D) : M Flow := M.bind (mFz m) fun d => fun L => some (.ok .next, { L with l := L.l.set i (.val d) })
theorem s_asg (i : Nat) {x : Str} (hN : X.N.Nodup) (ha : PE X a (tE T B W ma)) (hi : X.N[i]? = some x := by rfl) (hx : Loc X.env.scope x := by first | exact Or.inl rfl | exact Or.inr rfl) (hs : swapsWith a (some (.Name x pos')) pos.line X.env = pure false := by rfl)
    (hf : X.fn x = true ∨ X.env.scope.names.lookup x = some .local := by first | exact .inl rfl | exact .inr rfl) : PS X (.Assign [.Name x pos'] a pos) (tS T B W (mAsg i ma)) :=
  psI (ps_set hN hi hx ha hs hf) fun D σ H ⟨Lc, g, k⟩ => by
    obtain ⟨Lc', g', k'⟩ := FzS (D := D) k
    refine k'.tE fun x H1 ⟨g1, L1, d, ge1, rd, k1⟩ => ?_
    exact k1.now rfl (Ge.refl _) (k1.rp.setVal rd)
/-- a fresh list, shared at once | a name's own | a cell of the store -/
def mOf (m : M (List MP.D)) : M MP.D := M.bind m fun ds => mC (.lst ds)
theorem x_of {m : M (List MP.D)} (h : PE X a (tF T B W m)) : PE X a (tE T B W (mOf m)) := peI h fun σ H Q ⟨Lc, g, k⟩ => by
  obtain ⟨r, L', e, rp, kk⟩ := k
  unfold mOf M.bind at e
  cases hm : m Lc with
  | none => rw [hm] at e; cases e
  | some z =>
    obtain ⟨r1, L1⟩ := z
    rw [hm] at e
    refine ⟨Lc, g, r1, L1, hm, rp, fun g' H' ge rp' => ?_⟩
    cases r1 with
    | ex x => cases e; exact kk g' H' ge rp'
    | ok ds =>
      cases e
      intro p xs hp hr
      obtain ⟨z1, z2, z3⟩ := lstOf rp' hr hp
      exact kk _ _ (ge.trans z1) z2 _ z3
def mCell (m : M (List MP.D)) : M MP.D := M.bind m fun ds => fun L => some (.ok (.ref L.s.length), { L with s := L.s ++ [.lst ds] })
theorem x_cell {m : M (List MP.D)} (h : PE X a (tF T B W m)) : PE X a (tE T B W (mCell m)) := peI h fun σ H Q ⟨Lc, g, k⟩ => by
  obtain ⟨r, L', e, rp, kk⟩ := k
  unfold mCell M.bind at e
  cases hm : m Lc with
  | none => rw [hm] at e; cases e
  | some z =>
    obtain ⟨r1, L1⟩ := z
    rw [hm] at e
    refine ⟨Lc, g, r1, L1, hm, rp, fun g' H' ge rp' => ?_⟩
    cases r1 with
    | ex x => cases e; exact kk g' H' ge rp'
    | ok ds =>
      cases e
      intro p xs hp hr
      refine kk _ _ (ge.trans Ge.cell) (rp'.cell (c := .lst ds) hp ⟨xs, upd_same, Reps.mono Ge.cell _ _ hr⟩) _ (RepS.ofR (.ref ?_))
      show (g'.ι ++ [p])[L1.s.length]? = some p
      rw [← rp'.rs.len]
      simp
def mOwn (i : Nat) (m : M (List MP.D)) : M Flow := M.bind m fun ds => fun L => some (.ok .next, { L with l := L.l.set i (.own ds) })
theorem own_core {i : Nat} {m : M (List MP.D)} {Lc : Lo} {g : G} {σ : L2.St} {H : Hp} (k : KS T B W (mOwn i m) Lc g σ H D) : tF T B W m σ H fun v H1 => D.nx (σ.set i (some v)) H1 := by
  obtain ⟨r, L', e, rp, kk⟩ := k
  unfold mOwn M.bind at e
  cases hm : m Lc with
  | none => rw [hm] at e; cases e
  | some z =>
    obtain ⟨r1, L1⟩ := z
    rw [hm] at e
    refine ⟨Lc, g, r1, L1, hm, rp, fun g' H' ge rp' => ?_⟩
    cases r1 with
    | ex x => cases e; exact kk g' σ H' ge rp'
    | ok ds =>
      cases e
      intro p xs hp hr
      exact kk _ _ _ ge (rp'.newOwn hp hr)
theorem s_own (i : Nat) {x : Str} {m : M (List MP.D)} (hN : X.N.Nodup) (ha : PE X a (tF T B W m)) (hi : X.N[i]? = some x := by rfl) (hx : Loc X.env.scope x := by first | exact Or.inl rfl | exact Or.inr rfl) (hs : swapsWith a (some (.Name x pos')) pos.line X.env = pure false := by rfl)
    (hf : X.fn x = true ∨ X.env.scope.names.lookup x = some .local := by first | exact .inl rfl | exact .inr rfl) : PS X (.Assign [.Name x pos'] a pos) (tS T B W (mOwn i m)) :=
  psI (ps_set hN hi hx ha hs hf) fun D σ H ⟨Lc, g, k⟩ => own_core k
def mDrop (m : M MP.D) : M Flow := M.bind m fun _ => mNext
theorem s_expr (ha : PE X a (tE T B W ma)) (hs : swapsWith a none pos.line X.env = pure false := by rfl) : PS X (.Expr a pos) (tS T B W (mDrop ma)) := psI (ps_expr ha hs) fun D σ H ⟨Lc, g, k⟩ => by
  refine (KS.bind (R1 := RepS T) (D := D) k).tE fun x H1 ⟨g1, L1, d, ge1, rd, k1⟩ => ?_
  exact k1.now rfl (Ge.refl _) k1.rp
def mRet (m : M MP.D) : M Flow := M.bind (mFz m) fun d => fun L => some (.ok (.ret d), L)
theorem s_ret (ha : PE X a (tE T B W ma)) : PS X (.Return (some a) pos) (tS T B W (mRet ma)) := psI (ps_ret ha) fun D σ H ⟨Lc, g, k⟩ => by
  obtain ⟨Lc', g', k'⟩ := FzS (D := D) k
  refine k'.tE fun x H1 ⟨g1, L1, d, ge1, rd, k1⟩ => ?_
  obtain ⟨r, L', e, rp, kk⟩ := k1
  cases e
  exact kk g1 σ H1 (Ge.refl _) rp x rd
def mIfS (c : M Bool) (m1 m2 : M Flow) : M Flow := M.bind c fun b => if b = true then m1 else m2
theorem s_if {ba bb : List Stmt} (hc : PT X c (tT T B W nc)) (h1 : PSs X ba (tS T B W m1)) (h2 : PSs X bb (tS T B W m2)) : PS X (.If c ba bb pos) (tS T B W (mIfS nc m1 m2)) := psI (ps_if hc h1 h2) fun D σ H ⟨Lc, g, k⟩ => by
  refine (KS.bind (R1 := RB) (D := D) k).tT fun x H1 ⟨g1, L1, av, ge1, ra, k1⟩ => ?_
  subst ra
  cases av with
  | true => exact ⟨_, _, k1⟩
  | false => exact ⟨_, _, k1⟩
/-! #### fields -/
def putN (n : Nat) (d : MP.D) : List (Nat × MP.D) → List (Nat × MP.D)
  | [] => [(n, d)]
  | (m, e) :: fs => if m = n then (n, d) :: fs else (m, e) :: putN n d fs
theorem putN_len (n : Nat) (d : MP.D) : ∀ fs, (putN n d fs).length ≤ fs.length + 1
  | [] => Nat.le_refl _
  | (m, e) :: fs => by
    unfold putN
    split
    · simp
    · have := putN_len n d fs
      simp only [List.length_cons]; omega
theorem repF_put {K : PySem.W.Frag} {T : Tb K} {g : G} {c n : Nat} {d : MP.D} {v : V} (hn : T.has c n = true) (hv : Rep K g d v) : ∀ {fs : List (Nat × MP.D)} {ws : List (Str × V)}, RepF T g c fs ws → RepF T g c (putN n d fs) (putF (T.fld n) v ws)
  | [], _, r => by cases r; exact .cons hn hv .nil
  | (m, e) :: fs, _, r => by
    cases r with
    | cons h r1 r2 =>
      unfold putN putF
      by_cases q : m = n
      · subst q
        rw [if_pos rfl, if_pos rfl]
        exact .cons h hv r2
      · have nf : ¬ T.fld m = T.fld n := fun z => q (T.inj c m n h hn z)
        rw [if_neg q, if_neg nf]
        exact .cons h r1 (repF_put hn hv r2)
theorem RepF.len {K : PySem.W.Frag} {T : Tb K} {g : G} {c : Nat} {fs : List (Nat × MP.D)} {ws : List (Str × V)} (r : RepF T g c fs ws) : fs.length = ws.length := by
  induction r with
  | nil => rfl
  | cons _ _ _ ih => simp [ih]
def fPut (has : Nat → Nat → Bool) (n : Nat) (d a : MP.D) (L : Lo) : Option Lo := match a with
  | .ref k => (match L.s[k]? with
    | some (.inst c fs) => if has c n = true ∧ isClo d = false ∧ fs.length < 50 then some { L with s := L.s.set k (.inst c (putN n d fs)) } else Option.none
    | _ => Option.none)
  | _ => Option.none
def mPutF (has : Nat → Nat → Bool) (n : Nat) (ma mv : M MP.D) : M Flow := M.bind (mFz mv) fun d => M.bind ma fun a => fun L => match fPut has n d a L with
  | some L' => some (.ok .next, L')
  | _ => Option.none
theorem s_fld (n : Nat) {f : Str} (hf : T.fld n = f) (ha : PE X a (tE T B W ma)) (hv : PE X b (tE T B W mb)) (hs : swapsWith b (some (.Attribute a f pos')) pos.line X.env = pure false := by rfl) : PS X (.Assign [.Attribute a f pos'] b pos) (tS T B W (mPutF T.has n ma mb)) :=
  psI (ps_fld ha hv hs) fun D σ H ⟨Lc, g, k⟩ => by
    subst hf
    obtain ⟨Lc', g', k'⟩ := FzS (D := D) k
    refine k'.tE fun y H1 ⟨g1, L1, d, ge1, rd, k1⟩ => ?_
    refine (KS.bind (R1 := RepS T) (D := D) k1).tE fun x H2 ⟨g2, L2', av, ge2, ra, k2⟩ => ?_
    have rp := k2.rp
    obtain ⟨r, L', e, _, kk⟩ := id k2
    dsimp only at e
    cases ef : fPut T.has n d av L2' with
    | none => rw [ef] at e; cases e
    | some L3 =>
      have now : ∀ σ' H', Rp T B g2 σ' H' L3 → D.nx σ' H' := fun σ' H' rp' => k2.now (show (match fPut T.has n d av L2' with | some L' => some (R.ok Flow.next, L') | _ => Option.none) = some (R.ok Flow.next, L3) by rw [ef]) (Ge.refl _) rp'
      cases av with
      | ref k =>
        simp only [fPut] at ef
        split at ef
        · rename_i c fs hc
          split at ef
          · rename_i hh
            cases ef
            obtain ⟨p, rfl, hp⟩ := refOf ra
            obtain ⟨dx, ws, h1, h2, h3⟩ := rp.rs.at_ _ _ _ hp hc
            obtain ⟨h7, h8⟩ := T.kc _ _ hh.1
            have rd' := Rep.mono ge2 _ _ (rd.rep hh.2.1)
            refine ⟨p, _, dx, ws, rfl, h1, h7, h8, by rw [← h2.len]; omega, ?_⟩
            exact now σ _ (rp.setCell hp ⟨dx, _, upd_same, repF_put hh.1 rd' h2, by have := putN_len n d fs; omega⟩)
          · cases ef
        · cases ef
      | _ => cases ef
end
end MP
set_option Elab.async false
set_option linter.all false
set_option maxRecDepth 100000
set_option maxHeartbeats 4000000
/-! MP: new lists, list methods, loops. -/
namespace MP
open PySem L2 PySem.Spec PyProof.Rows

section
variable {X : Cx} {T : Tb X.K} {B : Ent} {W : WX} {a b c : Expr} {ma mb mc : M MP.D} {pos pos' : Pos} {es : List Expr} {ms : M (List MP.D)} {m1 m2 : M Flow} {D : Ends} {nc : M Bool}
theorem KF.now {m : M (List MP.D)} {Lc L1 : Lo} {g g' : G} {σ : L2.St} {H H' : Hp} {Q : VK} {ds : List MP.D} {p : Addr} {xs : List V} (h : KF T B W m Lc g σ H Q) (e : m Lc = some (.ok ds, L1)) (ge : Ge g g') (rp : Rp T B g' σ H' L1) (hp : H' p = none) (hr : Reps X.K g' ds xs) : Q (.ref p) (upd H' p (.lst xs)) := by
  obtain ⟨r, L', e', _, k⟩ := h
  rw [e] at e'
  cases e'
  exact k g' H' ge rp p xs hp hr
theorem KF.bind {α γ : Type} {R1 : G → L2.St → α → γ → Prop} {m : M α} {f : α → M (List MP.D)} {Lc : Lo} {g : G} {σ : L2.St} {H : Hp} {Q : VK} (h : KF T B W (M.bind m f) Lc g σ H Q) :
    Kt T B W R1 m Lc g σ H fun v H1 => ∃ (g1 : G) (L1 : Lo) (a : α), Ge g g1 ∧ R1 g1 σ a v ∧ KF T B W (f a) L1 g1 σ H1 Q := by
  obtain ⟨r, L', e, rp, k⟩ := h
  unfold M.bind at e
  cases hm : m Lc with
  | none => rw [hm] at e; cases e
  | some z =>
    obtain ⟨r1, L1⟩ := z
    rw [hm] at e
    cases r1 with
    | ok a => exact ⟨.ok a, _, hm, rp, fun g' H' ge rp' v rv => ⟨g', _, a, ge, rv, r, L', e, rp', fun g'' H'' ge' rp'' => k g'' H'' (ge.trans ge') rp''⟩⟩
    | ex x =>
      cases e
      exact ⟨.ex x, _, hm, rp, fun g' H' ge rp' => k g' H' ge rp'⟩
theorem KF.rp {m : M (List MP.D)} {Lc : Lo} {g : G} {σ : L2.St} {H : Hp} {Q : VK} (h : KF T B W m Lc g σ H Q) : Rp T B g σ H Lc := by obtain ⟨_, _, _, rp, _⟩ := h; exact rp
/-! #### new lists -/
def nLst (ms : M (List MP.D)) : M (List MP.D) := M.bind ms fun ds => fun L => if ds.any isClo = false ∧ ds.length ≤ big then some (.ok ds, L) else Option.none
theorem f_lst (h : PA X es (tA T B W ms)) : PE X (.List es pos) (tF T B W (nLst ms)) := peI (pe_lst h) fun σ H Q ⟨Lc, g, k⟩ => by
  refine (KF.bind (R1 := RA T) k).tA fun vs H1 ⟨g1, L1, ds, ge1, ra, k1⟩ => ?_
  obtain ⟨r, L', e, rp, kk⟩ := id k1
  dsimp only at e
  split at e
  · rename_i hh
    exact ⟨big_le (by rw [← ra.length]; exact hh.2), fun p hp => k1.now (if_pos hh) (Ge.refl _) rp hp (ra.reps hh.1)⟩
  · cases e
def nSl (ma : M MP.D) (lo hi : M (Option Int)) : M (List MP.D) := M.bind ma fun a => M.bind lo fun l => M.bind hi fun u => fun L => match derefR L a with
  | some ds => some (.ok (cut ds l u), L)
  | _ => Option.none
theorem f_sl {lo hi : Option Expr} {nl nh : M (Option Int)} {p2 : Pos} (ha : PE X a (tE T B W ma)) (hl : PO X lo (tO T B W nl)) (hh : PO X hi (tO T B W nh)) : PE X (.Subscript a (.Slice lo hi none p2) pos) (tF T B W (nSl ma nl nh)) :=
  peI (pe_slice sl_list ha hl hh) fun σ H Q ⟨Lc, g, k⟩ => by
    refine (KF.bind (R1 := RepS T) k).tE fun x H1 ⟨g1, L1, av, ge1, ra, k1⟩ => ?_
    obtain ⟨r1, L1', e1, rp1, kk1⟩ := KF.bind (R1 := RO) k1
    refine ⟨L1, g1, r1, L1', e1, rp1, fun g2 H2 ge2 rp2 => ?_⟩
    have z := kk1 g2 H2 ge2 rp2
    cases r1 with
    | ex x => exact z
    | ok l =>
      rintro v rfl
      obtain ⟨g3, L3, l', ge3, rfl, k3⟩ := z l rfl
      obtain ⟨r4, L4', e4, rp4, kk4⟩ := KF.bind (R1 := RO) k3
      refine ⟨L3, g3, r4, L4', e4, rp4, fun g5 H5 ge5 rp5 => ?_⟩
      have z := kk4 g5 H5 ge5 rp5
      cases r4 with
      | ex x => exact z
      | ok u =>
        rintro v rfl
        obtain ⟨g6, L6, u', ge6, rfl, k6⟩ := z u rfl
        obtain ⟨r7, L7', e7, rp7, kk7⟩ := id k6
        dsimp only at e7
        cases hd : derefR L6 av with
        | none => rw [hd] at e7; cases e7
        | some ds =>
          have ra := (ra.mono (σ := σ) ge3).mono ge6
          obtain ⟨p, xs, rfl, q1, q2⟩ := derefRS rp7 hd ra
          refine ⟨p, xs, rfl, q1, fun np hn => ?_⟩
          have q3 : Reps X.K g6 (cut ds l' u') (cutV xs l' u') := by
            unfold cut cutV
            rw [← q2.length]
            exact (q2.drop _).take _
          exact k6.now (show (match derefR L6 av with | some ds => some (R.ok (cut ds l' u'), L6) | _ => Option.none) = some (R.ok _, L6) by rw [hd]) (Ge.refl _) rp7 hn q3
/-- xs + ys of lists -/
def nCat (ma mb : M MP.D) : M (List MP.D) := M.bind ma fun a => M.bind mb fun b => fun L => match deref L a, deref L b with
  | some xs, some ys => if xs.length + ys.length ≤ big then some (.ok (xs ++ ys), L) else Option.none
  | _, _ => Option.none
theorem f_cat (ha : PE X a (tE T B W ma)) (hb : PE X b (tE T B W mb)) : PE X (.BinOp a .Add b pos) (tF T B W (nCat ma mb)) := peI (pe_op op_cat ha hb) fun σ H Q ⟨Lc, g, k⟩ => by
  refine (KF.bind (R1 := RepS T) k).tE fun x H1 ⟨g1, L1, av, ge1, ra, k1⟩ => ?_
  refine (KF.bind (R1 := RepS T) k1).tE fun y H2 ⟨g2, L2', bv, ge2, rb, k2⟩ => ?_
  obtain ⟨r, L', e, rp, kk⟩ := id k2
  dsimp only at e
  cases h1 : deref L2' av with
  | none => rw [h1] at e; cases e
  | some xs =>
    cases h2 : deref L2' bv with
    | none => rw [h1, h2] at e; cases e
    | some ys =>
      rw [h1, h2] at e
      dsimp only at e
      split at e
      · rename_i hh
        obtain ⟨p, us, rfl, q1, q2⟩ := derefS rp h1 (ra.mono ge2)
        obtain ⟨p', ws, rfl, q3, q4⟩ := derefS rp h2 rb
        refine ⟨p, p', us, ws, rfl, rfl, q1, q3, big_le (by rw [← q2.length, ← q4.length]; exact hh), fun np hn => ?_⟩
        exact k2.now (show (match deref L2' av, deref L2' bv with | some xs, some ys => if xs.length + ys.length ≤ big then some (R.ok (xs ++ ys), L2') else Option.none | _, _ => Option.none) = some (R.ok _, L2') by rw [h1, h2]; exact if_pos hh) (Ge.refl _) rp hn (q2.append q4)
      · cases e
/-- xs * k -/
def nRep (ma mb : M MP.D) : M (List MP.D) := M.bind ma fun a => M.bind mb fun b => fun L => match deref L a, b with
  | some xs, .int k => if -(2 ^ 63) ≤ k ∧ k < 2 ^ 63 ∧ xs.length * k.toNat ≤ big then some (.ok (List.replicate k.toNat xs).flatten, L) else Option.none
  | _, _ => Option.none
theorem f_rep (ha : PE X a (tE T B W ma)) (hb : PE X b (tE T B W mb)) : PE X (.BinOp a .Mult b pos) (tF T B W (nRep ma mb)) := peI (pe_op op_rep ha hb) fun σ H Q ⟨Lc, g, k⟩ => by
  refine (KF.bind (R1 := RepS T) k).tE fun x H1 ⟨g1, L1, av, ge1, ra, k1⟩ => ?_
  refine (KF.bind (R1 := RepS T) k1).tE fun y H2 ⟨g2, L2', bv, ge2, rb, k2⟩ => ?_
  obtain ⟨r, L', e, rp, kk⟩ := id k2
  dsimp only at e
  cases h1 : deref L2' av with
  | none => rw [h1] at e; cases e
  | some xs =>
    rw [h1] at e
    cases bv with
    | int j =>
      dsimp only at e
      split at e
      · rename_i hh
        obtain ⟨p, us, rfl, q1, q2⟩ := derefS rp h1 (ra.mono ge2)
        rw [repI rb]
        refine ⟨p, j, us, rfl, rfl, q1, hh.1, hh.2.1, big_le (by rw [← q2.length]; exact hh.2.2), fun np hn => ?_⟩
        exact k2.now (show (match deref L2' av, MP.D.int j with | some xs, .int k => if -(2 ^ 63) ≤ k ∧ k < 2 ^ 63 ∧ xs.length * k.toNat ≤ big then some (R.ok (List.replicate k.toNat xs).flatten, L2') else Option.none | _, _ => Option.none) = some (R.ok _, L2') by rw [h1]; exact if_pos hh) (Ge.refl _) rp hn (q2.flat j.toNat)
      · cases e
    | _ => cases e
/-! #### calls of built-ins, arguments not handed on -/
inductive RSs (T : Tb X.K) (g : G) (σ : L2.St) : List MP.D → List V → Prop
  | nil : RSs T g σ [] []
  | cons {v : V} {vs : List V} {d : MP.D} {ds : List MP.D} : RepS T g σ d v → RSs T g σ ds vs → RSs T g σ (d :: ds) (v :: vs)
abbrev RN (T : Tb X.K) : G → L2.St → List MP.D → List V → Prop := fun g σ ds vs => RSs T g σ ds vs
def tN (T : Tb X.K) (B : Ent) (W : WX) (m : M (List MP.D)) : TA := fun σ H Q => ∃ Lc g, Kt T B W (RN T) m Lc g σ H Q
def mNc (ma : M MP.D) (ms : M (List MP.D)) : M (List MP.D) := M.bind ma fun a => M.bind ms fun as => M.pure (a :: as)
theorem n_nil : PA X [] (tN T B W (M.pure [])) := paI pa_nil fun σ H Q ⟨Lc, g, k⟩ => by
  obtain ⟨r, L', e, rp, kk⟩ := id k
  exact k.now rfl (Ge.refl _) rp (show RN T g σ [] [] from .nil)
theorem n_cons (ha : PE X a (tE T B W ma)) (hr : PA X es (tN T B W ms)) (hs : starEach (a :: es) X.env = (false, eval a X.env) :: starEach es X.env := by rfl) : PA X (a :: es) (tN T B W (mNc ma ms)) :=
  paI (pa_cons ha hr hs) fun σ H Q ⟨Lc, g, k⟩ => by
    refine (Kt.bind (R1 := RepS T) k).tE fun x H1 ⟨g1, L1, av, ge1, ra, k1⟩ => ?_
    refine (Kt.bind (R1 := RN T) k1) |> fun z => ?_
    refine ⟨L1, g1, z.mono fun vs H2 ⟨g2, L2', avs, ge2, ras, k2⟩ => ?_⟩
    obtain ⟨r2, L3, e2, rp2, kk2⟩ := id k2
    exact k2.now rfl (Ge.refl _) rp2 (show RN T g2 σ (av :: avs) (x :: vs) from .cons (ra.mono ge2) ras)
def clAny (X : Cx) (f : Value) : List V → Hp → VK → Prop := fun vs H Q => ∃ r, CallR X f r ∧ r vs H Q
theorem clAny_ok {X : Cx} {f : Value} : CallR X f (clAny X f) := fun pins s σ H xs us Q I rs ⟨r, h, q⟩ => h pins s σ H xs us Q I rs q
def CallS (T : Tb X.K) (fv : Value) (f : Lo → List MP.D → Option MP.D) : Prop := ∀ (B : Ent) (g : G) (σ : L2.St) (H : Hp) (Lc : Lo) (ds : List MP.D) (d : MP.D) (vs : List V) (Q : VK), Rp T B g σ H Lc → RSs T g σ ds vs → f Lc ds = some d →
    (∀ g' H' v, Ge g g' → Rp T B g' σ H' Lc → RepS T g' σ d v → Q v H') → clAny X fv vs H Q
def mBlt (f : Lo → List MP.D → Option MP.D) (ms : M (List MP.D)) : M MP.D := M.bind ms fun ds => fun L => match f L ds with
  | some d => some (.ok d, L)
  | _ => Option.none
theorem blt_core {fv : Value} {f : Lo → List MP.D → Option MP.D} (hf : CallS T fv f) {σ : L2.St} {H : Hp} {Q : VK} (h : tE T B W (mBlt f ms) σ H Q) : tCB (clAny X fv) (tN T B W ms) σ H Q := by
  obtain ⟨Lc, g, k⟩ := h
  refine ⟨Lc, g, (Kt.bind (R1 := RN T) k).mono fun vs H1 ⟨g1, L1, ds, ge1, ra, k1⟩ => ?_⟩
  obtain ⟨r, L', e, rp, kk⟩ := id k1
  dsimp only at e
  cases ef : f L1 ds with
  | none => rw [ef] at e; cases e
  | some d =>
    exact hf B g1 σ H1 L1 ds d vs Q rp ra ef fun g' H' v ge' rp' rv => k1.now (show (match f L1 ds with | some d => some (R.ok d, L1) | _ => Option.none) = some (R.ok d, L1) by rw [ef]) ge' rp' rv
theorem x_blt {id : String} {f : Lo → List MP.D → Option MP.D} (hf : CallS T (.builtin id) f) {x : Str} {p : Pos} {e : Expr} (hm : X.mg x = none) (ha : PA X (e :: es) (tN T B W ms)) (hv : bootBuiltins x = some (.builtin id) := by decide +kernel) (hg : Gl X x := by rfl) (hn : x ≠ "__name__" := by decide) (hdb : (x == ("__debug__" : Str)) = false := by decide)
    (he : starEach (e :: es) X.env = (false, eval e X.env) :: starEach es X.env := by rfl) (hpl : (backTo pos (starEach es X.env)).any (·.1) = false := by rfl) : PE X (.Call (.Name x p) (e :: es) [] pos) (tE T B W (mBlt f ms)) :=
  peI (pe_callB clAny_ok hg hm hv ha hn hdb he hpl) fun _ _ _ h => blt_core hf h
theorem x_bty {id : String} {f : Lo → List MP.D → Option MP.D} (hf : CallS T (.type id) f) {x : Str} {p : Pos} {e : Expr} (hm : X.mg x = none) (ha : PA X (e :: es) (tN T B W ms)) (hv : bootBuiltins x = some (.type id) := by decide +kernel) (hg : Gl X x := by rfl) (hn : x ≠ "__name__" := by decide) (hdb : (x == ("__debug__" : Str)) = false := by decide)
    (he : starEach (e :: es) X.env = (false, eval e X.env) :: starEach es X.env := by rfl) (hpl : (backTo pos (starEach es X.env)).any (·.1) = false := by rfl) : PE X (.Call (.Name x p) (e :: es) [] pos) (tE T B W (mBlt f ms)) :=
  peI (pe_callTy clAny_ok hg hm hv ha hn hdb he hpl) fun _ _ _ h => blt_core hf h
def bLen (L : Lo) (ds : List MP.D) : Option MP.D := match ds with
  | [.tup xs] => some (.int xs.length)
  | [.str x] => if x.length ≤ big then some (.int x.length) else Option.none
  | [a] => (derefR L a).map fun xs => .int xs.length
  | _ => Option.none
theorem c_len : CallS T (.builtin "len") bLen := by
  intro B g σ H Lc ds d vs Q rp ra e k
  unfold bLen at e
  split at e
  · cases e
    cases ra with | cons r1 r2 =>
    cases r2
    obtain ⟨p, xs, rfl, q1, q2⟩ := repT r1
    exact ⟨_, call_len_seq, p, xs, rfl, .inr (SqT.of (rp.rs.ex _ _ q1)), by rw [← q2.length]; exact k g H _ (Ge.refl _) rp (RepS.ofR (.int _))⟩
  · split at e
    · rename_i hh
      cases e
      cases ra with | cons r1 r2 =>
      cases r2
      rw [repStr r1]
      exact ⟨_, call_len_str, _, rfl, big_le hh, k g H _ (Ge.refl _) rp (RepS.ofR (.int _))⟩
    · cases e
  · rename_i a _ _
    cases ra with | cons r1 r2 =>
    cases r2
    cases hd : derefR Lc a with
    | none => rw [hd] at e; cases e
    | some xs =>
      rw [hd] at e
      cases e
      obtain ⟨p, us, rfl, q1, q2⟩ := derefRS rp hd r1
      exact ⟨_, call_len_seq, p, us, rfl, .inl q1, by rw [← q2.length]; exact k g H _ (Ge.refl _) rp (RepS.ofR (.int _))⟩
  · cases e
def intsOf : List MP.D → Option (List Int)
  | [] => some []
  | .int i :: ds => (intsOf ds).map (i :: ·)
  | _ => Option.none
theorem intsOf_ok : ∀ {ds : List MP.D} {ns : List Int}, intsOf ds = some ns → ds = ns.map .int
  | [], ns, h => by cases h; rfl
  | d :: ds, ns, h => by
    cases d with
    | int i =>
      have h : (intsOf ds).map (i :: ·) = some ns := h
      cases e : intsOf ds with
      | none => rw [e] at h; cases h
      | some ms => rw [e] at h; cases h; rw [intsOf_ok e] <;> rfl
    | _ => cases h
theorem intsOf_map (ns : List Int) : intsOf (ns.map .int) = some ns := by
  induction ns with
  | nil => rfl
  | cons n ns ih => show (intsOf (ns.map .int)).map (n :: ·) = _; rw [ih] <;> rfl
theorem intsS {g : G} {σ : L2.St} {H : Hp} {Lc : Lo} {a : MP.D} {xs : List MP.D} {ns : List Int} {v : V} (rp : Rp T B g σ H Lc) (h : derefR Lc a = some xs) (h2 : intsOf xs = some ns) (r : RepS T g σ a v) : ∃ p, v = .ref p ∧ SqL X.K H p (ns.map V.int) := by
  obtain ⟨p, us, e, q1, q2⟩ := derefRS rp h r
  rw [intsOf_ok h2] at q2
  rw [q2.ofInts] at q1
  exact ⟨p, e, q1⟩
def mn : List Int → Int
  | [] => 0
  | x :: xs => xs.foldl (fun a b => if b < a then b else a) x
def mx : List Int → Int
  | [] => 0
  | x :: xs => xs.foldl (fun a b => if a < b then b else a) x
theorem mn_aux : ∀ (xs : List Int) (x : Int), (xs.foldl (fun a b => if b < a then b else a) x ∈ x :: xs) ∧ ∀ y ∈ x :: xs, xs.foldl (fun a b => if b < a then b else a) x ≤ y
  | [], x => ⟨by simp, fun y m => by simp at m; simp [m]⟩
  | b :: xs, x => by
    obtain ⟨h1, h2⟩ := mn_aux xs (if b < x then b else x)
    rw [List.foldl_cons]
    refine ⟨?_, fun y m => ?_⟩
    · rcases List.mem_cons.mp h1 with h | h
      · rw [h]
        split <;> simp
      · simp [h]
    · have h0 := h2 _ List.mem_cons_self
      rcases List.mem_cons.mp m with rfl | m
      · refine Int.le_trans h0 ?_
        split <;> omega
      · rcases List.mem_cons.mp m with rfl | m
        · refine Int.le_trans h0 ?_
          split <;> omega
        · exact h2 y (List.mem_cons_of_mem _ m)
theorem mx_aux : ∀ (xs : List Int) (x : Int), (xs.foldl (fun a b => if a < b then b else a) x ∈ x :: xs) ∧ ∀ y ∈ x :: xs, y ≤ xs.foldl (fun a b => if a < b then b else a) x
  | [], x => ⟨by simp, fun y m => by simp at m; simp [m]⟩
  | b :: xs, x => by
    obtain ⟨h1, h2⟩ := mx_aux xs (if x < b then b else x)
    rw [List.foldl_cons]
    refine ⟨?_, fun y m => ?_⟩
    · rcases List.mem_cons.mp h1 with h | h
      · rw [h]
        split <;> simp
      · simp [h]
    · have h0 := h2 _ List.mem_cons_self
      rcases List.mem_cons.mp m with rfl | m
      · refine Int.le_trans ?_ h0
        split <;> omega
      · rcases List.mem_cons.mp m with rfl | m
        · refine Int.le_trans ?_ h0
          split <;> omega
        · exact h2 y (List.mem_cons_of_mem _ m)
theorem mn_mem {ns : List Int} (h : 0 < ns.length) : mn ns ∈ ns ∧ ∀ y ∈ ns, mn ns ≤ y := by
  cases ns with
  | nil => cases h
  | cons x xs => exact mn_aux xs x
theorem mx_mem {ns : List Int} (h : 0 < ns.length) : mx ns ∈ ns ∧ ∀ y ∈ ns, y ≤ mx ns := by
  cases ns with
  | nil => cases h
  | cons x xs => exact mx_aux xs x
def bMin (L : Lo) (ds : List MP.D) : Option MP.D := match ds with
  | [.int i, .int j] => some (.int (if j < i then j else i))
  | [a] => ((derefR L a).bind intsOf).bind fun ns => if 0 < ns.length then some (.int (mn ns)) else Option.none
  | _ => Option.none
def bMax (L : Lo) (ds : List MP.D) : Option MP.D := match ds with
  | [.int i, .int j] => some (.int (if j > i then j else i))
  | [a] => ((derefR L a).bind intsOf).bind fun ns => if 0 < ns.length then some (.int (mx ns)) else Option.none
  | _ => Option.none
def bSum (L : Lo) (ds : List MP.D) : Option MP.D := match ds with
  | [a] => ((derefR L a).bind intsOf).map fun ns => .int ns.sum
  | _ => Option.none
theorem c_min (hc : X.calm = true) : CallS T (.builtin "min") bMin := by
  intro B g σ H Lc ds d vs Q rp ra e k
  unfold bMin at e
  split at e
  · cases e
    cases ra with | cons r1 r2 =>
    cases r2 with | cons r2 r3 =>
    cases r3
    rw [repI r1, repI r2]
    exact ⟨_, call_min2 hc, _, _, rfl, k g H _ (Ge.refl _) rp (RepS.ofR (.int _))⟩
  · rename_i a 
    cases ra with | cons r1 r2 =>
    cases r2
    cases hd : derefR Lc a with
    | none => rw [hd] at e; cases e
    | some xs =>
      rw [hd] at e
      cases hi : intsOf xs with
      | none => simp [hi] at e
      | some ns =>
        simp only [Option.bind_some, hi] at e
        split at e
        · rename_i hh
          cases e
          obtain ⟨p, rfl, q⟩ := intsS rp hd hi r1
          obtain ⟨m1, m2⟩ := mn_mem hh
          refine ⟨_, cr_min hc, p, ns, rfl, q, hh, fun m h1 h2 => ?_⟩
          have : m = mn ns := by have := h2 _ m1; have := m2 _ h1; omega
          rw [this]
          exact k g H _ (Ge.refl _) rp (RepS.ofR (.int _))
        · cases e
  · cases e
theorem c_max (hc : X.calm = true) : CallS T (.builtin "max") bMax := by
  intro B g σ H Lc ds d vs Q rp ra e k
  unfold bMax at e
  split at e
  · cases e
    cases ra with | cons r1 r2 =>
    cases r2 with | cons r2 r3 =>
    cases r3
    rw [repI r1, repI r2]
    exact ⟨_, call_max2 hc, _, _, rfl, k g H _ (Ge.refl _) rp (RepS.ofR (.int _))⟩
  · rename_i a 
    cases ra with | cons r1 r2 =>
    cases r2
    cases hd : derefR Lc a with
    | none => rw [hd] at e; cases e
    | some xs =>
      rw [hd] at e
      cases hi : intsOf xs with
      | none => simp [hi] at e
      | some ns =>
        simp only [Option.bind_some, hi] at e
        split at e
        · rename_i hh
          cases e
          obtain ⟨p, rfl, q⟩ := intsS rp hd hi r1
          obtain ⟨m1, m2⟩ := mx_mem hh
          refine ⟨_, cr_max hc, p, ns, rfl, q, hh, fun m h1 h2 => ?_⟩
          have : m = mx ns := by have := h2 _ m1; have := m2 _ h1; omega
          rw [this]
          exact k g H _ (Ge.refl _) rp (RepS.ofR (.int _))
        · cases e
  · cases e
theorem c_sum (hc : X.calm = true) : CallS T (.builtin "sum") bSum := by
  intro B g σ H Lc ds d vs Q rp ra e k
  unfold bSum at e
  split at e
  · rename_i a 
    cases ra with | cons r1 r2 =>
    cases r2
    cases hd : derefR Lc a with
    | none => rw [hd] at e; cases e
    | some xs =>
      rw [hd] at e
      cases hi : intsOf xs with
      | none => simp [hi] at e
      | some ns =>
        simp only [Option.bind_some, hi, Option.map_some] at e
        cases e
        obtain ⟨p, rfl, q⟩ := intsS rp hd hi r1
        exact ⟨_, cr_sum hc, p, ns, rfl, q, k g H _ (Ge.refl _) rp (RepS.ofR (.int _))⟩
  · cases e
def bInt (L : Lo) (ds : List MP.D) : Option MP.D := match ds with
  | [.int i] => some (.int i)
  | [.bl b] => some (.int (if b then 1 else 0))
  | _ => Option.none
theorem c_int : CallS T (.type "int") bInt := by
  intro B g σ H Lc ds d vs Q rp ra e k
  unfold bInt at e
  split at e
  · cases e
    cases ra with | cons r1 r2 =>
    cases r2
    rw [repI r1]
    exact ⟨_, call_int1, .inl ⟨_, rfl, k g H _ (Ge.refl _) rp (RepS.ofR (.int _))⟩⟩
  · cases e
    cases ra with | cons r1 r2 =>
    cases r2
    rw [repB r1]
    exact ⟨_, call_int1, .inr ⟨_, rfl, k g H _ (Ge.refl _) rp (RepS.ofR (.int _))⟩⟩
  · cases e
/-- list(x) -/
def derefT (L : Lo) : MP.D → Option (List MP.D)
  | .tup ds => some ds
  | d => derefR L d
def nList (ma : M MP.D) : M (List MP.D) := M.bind ma fun a => fun L => match derefT L a with
  | some ds => some (.ok ds, L)
  | _ => Option.none
theorem derefTS {g : G} {σ : L2.St} {H : Hp} {Lc : Lo} {d : MP.D} {ds : List MP.D} {v : V} (r : Rp T B g σ H Lc) (h : derefT Lc d = some ds) (rv : RepS T g σ d v) : ∃ a xs, v = .ref a ∧ (SqL X.K H a xs ∨ SqT X.K H a xs) ∧ Reps X.K g ds xs := by
  unfold derefT at h
  split at h
  · cases h
    obtain ⟨p, xs, e, q1, q2⟩ := repT rv
    exact ⟨p, xs, e, .inr (SqT.of (r.rs.ex _ _ q1)), q2⟩
  · obtain ⟨a, xs, e, h1, h2⟩ := derefRS r h rv
    exact ⟨a, xs, e, .inl h1, h2⟩
theorem f_list {p : Pos} (hm : X.mg "list" = none) (ha : PE X a (tE T B W ma)) (hg : Gl X "list" := by rfl) (he : starEach [a] X.env = (false, eval a X.env) :: starEach [] X.env := by rfl) (hpl : (backTo pos (starEach [] X.env)).any (·.1) = false := by rfl) : PE X (.Call (.Name "list" p) [a] [] pos) (tF T B W (nList ma)) :=
  peI (pe_callTy call_list_of hg hm (by decide +kernel) (pa_cons ha pa_nil he) (by decide) (by decide) he hpl) fun σ H Q ⟨Lc, g, k⟩ => by
    refine (KF.bind (R1 := RepS T) k).tE fun x H1 ⟨g1, L1, av, ge1, ra, k1⟩ => ?_
    obtain ⟨r, L', e, rp, kk⟩ := id k1
    dsimp only at e
    cases hd : derefT L1 av with
    | none => rw [hd] at e; cases e
    | some ds =>
      obtain ⟨p, xs, rfl, q1, q2⟩ := derefTS rp hd ra
      exact ⟨p, xs, rfl, q1, fun l hl => k1.now (show (match derefT L1 av with | some ds => some (R.ok ds, L1) | _ => Option.none) = some (R.ok ds, L1) by rw [hd]) (Ge.refl _) rp hl q2⟩
end
end MP
set_option Elab.async false
set_option linter.all false
set_option maxRecDepth 100000
set_option maxHeartbeats 4000000
/-! MP: what a for walks; for, comprehensions, while. -/
namespace MP
open PySem L2 PySem.Spec PyProof.Rows

/-- what is walked: items told ahead | a list that is read as it goes -/
inductive Src where
  | fz (ds : List D)
  | live (d : D) (n : Nat)
def Src.len : Src → Nat
  | .fz ds => ds.length
  | .live _ n => n
def Src.ok (L : Lo) : Src → Bool
  | .fz _ => true
  | .live d n => (match deref L d with | some ds => ds.length == n | _ => false)
def Src.at_ (L : Lo) (i : Nat) : Src → Option D
  | .fz ds => ds[i]?
  | .live d _ => (deref L d).bind fun ds => ds[i]?
/-- a turn's target -/
abbrev Tgt := D → Lo → Option Lo
def loopN (s : Src) (tm : Tgt) (body : M Flow) : Nat → Nat → M Flow
  | 0, _ => fun L => if s.ok L = true then some (.ok .next, L) else Option.none
  | n + 1, i => fun L => if s.ok L = true then (match s.at_ L i with
    | some d => (match tm d L with
      | some L1 => (match body L1 with
        | some (.ok .next, L2) => loopN s tm body n (i + 1) L2
        | some (.ok .cnt, L2) => loopN s tm body n (i + 1) L2
        | some (.ok .brk, L2) => some (.ok .next, L2)
        | z => z)
      | _ => Option.none)
    | _ => Option.none) else Option.none
def loopL (tm : Tgt) (body : M Flow) : List D → M Flow
  | [] => fun L => some (.ok .next, L)
  | d :: ds => fun L => match tm d L with
    | some L1 => (match body L1 with
      | some (.ok .next, L2) => loopL tm body ds L2
      | some (.ok .cnt, L2) => loopL tm body ds L2
      | some (.ok .brk, L2) => some (.ok .next, L2)
      | z => z)
    | _ => Option.none
theorem loopL_eq (tm : Tgt) (body : M Flow) (all : List D) : ∀ (n i : Nat), all.length = i + n → loopN (.fz all) tm body n i = loopL tm body (all.drop i)
  | 0, i, h => by
    funext L
    rw [List.drop_eq_nil_of_le (by omega)] <;> rfl
  | n + 1, i, h => by
    funext L
    have hi : i < all.length := by omega
    rw [List.drop_eq_getElem_cons hi]
    show (if true = true then (match (Src.fz all).at_ L i with | some d => _ | _ => Option.none) else Option.none) = _
    rw [if_pos rfl, show (Src.fz all).at_ L i = some all[i] by show all[i]? = _; simp [hi]]
    show (match tm all[i] L with | some L1 => _ | _ => Option.none) = (match tm all[i] L with | some L1 => _ | _ => Option.none)
    rw [loopL_eq tm body all n (i + 1) (by omega)]
def mFor (mi : M Src) (tm : Tgt) (body : M Flow) : M Flow := M.bind mi fun s => match s with
  | .fz ds => loopL tm body ds
  | s => loopN s tm body s.len 0
theorem mFor_eq (s : Src) (tm : Tgt) (body : M Flow) : (match s with | .fz ds => loopL tm body ds | s => loopN s tm body s.len 0) = loopN s tm body s.len 0 := by
  cases s with
  | fz ds => exact (loopL_eq tm body ds ds.length 0 (by omega)).symm
  | live d n => rfl
section
variable {X : Cx} (T : Tb X.K)
/-- the walk tells what the mirror tells -/
structure WalkOk (g : G) (σ0 : L2.St) (s : Src) (J : It) : Prop where
  go : ∀ (B : Ent) (i : Nat) g' σ H L d, Ge g g' → Rp T B g' σ H L → (∀ k, s = .live (.slot k) s.len → σ[k]? = σ0[k]?) → s.ok L = true → i < s.len → s.at_ L i = some d →
    J.go i H ∧ ∀ x H', J.yld i H x H' → ∃ g'', Ge g' g'' ∧ Rp T B g'' σ H' L ∧ RepA T g'' d x
  stop : ∀ (B : Ent) g' σ H L, Ge g g' → Rp T B g' σ H L → (∀ k, s = .live (.slot k) s.len → σ[k]? = σ0[k]?) → s.ok L = true → J.stop s.len H
variable (B : Ent) (W : WX)
def tI (mi : M Src) : TI := fun σ H Rr => ∃ Lc g r L', mi Lc = some (r, L') ∧ Rp T B g σ H Lc ∧ ∀ g' H', Ge g g' → Rp T B g' σ H' L' → match r with
    | .ok s => ∀ J, WalkOk T g' σ s J → Rr J H'
    | .ex e => ∀ cls dd, RepX T g' H' e cls dd → W cls dd σ H'
/-- slots that may change -/
def Chg (is : List Nat) (σ σ' : L2.St) : Prop := σ'.length = σ.length ∧ ∀ j, j ∉ is → σ'[j]? = σ[j]?
/-- a target -/
def TgS (is : List Nat) (t : TG) (tm : Tgt) : Prop := ∀ (B : Ent) g σ H L d x L' (Q : L2.St → Hp → Prop), Rp T B g σ H L → RepA T g d x → tm d L = some L' → (∀ σ', Chg is σ σ' → Rp T B g σ' H L' → Q σ' H) → t x σ H Q
end
section
variable {X : Cx} {T : Tb X.K} {B : Ent} {W : WX} {a b c : Expr} {ma mb mc : M MP.D} {pos pos' : Pos} {es : List Expr} {ms : M (List MP.D)} {m1 m2 : M Flow} {D : Ends} {nc : M Bool}
def tgN (i : Nat) : Tgt := fun d L => some { L with l := L.l.set i (.val d) }
theorem Chg.refl {is : List Nat} {σ : L2.St} : Chg is σ σ := ⟨rfl, fun _ _ => rfl⟩
theorem Chg.set {is : List Nat} {σ σ' : L2.St} {i : Nat} {v : Option V} (h : Chg is (σ.set i v) σ') : Chg (i :: is) σ σ' := by
  refine ⟨by rw [h.1, List.length_set], fun j hj => ?_⟩
  simp only [List.mem_cons, not_or] at hj
  rw [h.2 j hj.2, List.getElem?_set_ne (Ne.symm hj.1)]
theorem tg_name (i : Nat) : TgS T [i] (gName i) (tgN i) := fun B g σ H L d x L' Q rp ra e k => by
  cases e
  exact k _ (Chg.set Chg.refl) (rp.setVal ra)
/-- a, b, .. = a tuple: all names -/
def setAll : List Nat → List MP.D → Lo → Option Lo
  | [], [], L => some L
  | i :: is, d :: ds, L => setAll is ds { L with l := L.l.set i (.val d) }
  | _, _, _ => Option.none
def tgT (is : List Nat) : Tgt := fun d L => match d with
  | .tup ds => setAll is ds L
  | _ => Option.none
def gNames : List Nat → TGs
  | [] => gNil
  | i :: is => gCons (gName i) (gNames is)
theorem gNames_ok {g : G} {H : Hp} {Q : L2.St → Hp → Prop} : ∀ {is : List Nat} {ds : List MP.D} {vs : List V} {σ : L2.St} {L L' : Lo}, Rp T B g σ H L → Reps X.K g ds vs → setAll is ds L = some L' → (∀ σ', Chg is σ σ' → Rp T B g σ' H L' → Q σ' H) → gNames is vs σ H Q
  | [], [], vs, σ, L, L', rp, r, e, k => by cases r; cases e; exact ⟨rfl, k σ Chg.refl rp⟩
  | i :: is, d :: ds, vs, σ, L, L', rp, r, e, k => by
    cases r with
    | cons r1 r2 => exact ⟨_, _, rfl, gNames_ok (rp.setVal (.inl r1)) r2 e fun σ' c rp' => k σ' c.set rp'⟩
  | [], _ :: _, vs, σ, L, L', rp, r, e, k => by cases e
  | _ :: _, [], vs, σ, L, L', rp, r, e, k => by cases e
theorem setAll_len : ∀ {is : List Nat} {ds : List MP.D} {L L' : Lo}, setAll is ds L = some L' → ds.length = is.length
  | [], [], _, _, _ => rfl
  | i :: is, d :: ds, L, L', e => by
    have := setAll_len (is := is) (ds := ds) e
    simp [this]
  | [], _ :: _, _, _, e => by cases e
  | _ :: _, [], _, _, e => by cases e
theorem tg_tup (is : List Nat) (n : Nat) (hn : is.length = n := by rfl) : TgS T is (gTup X.K n (gNames is)) (tgT is) := fun B g σ H L d x L' Q rp ra e k => by
  cases d with
  | tup ds =>
    have e : setAll is ds L = some L' := e
    rcases ra with ra | ra
    · cases ra with
      | tup q r => exact ⟨_, _, rfl, SqT.of (rp.rs.ex _ _ q), by rw [← r.length, setAll_len e]; exact hn, gNames_ok rp r e k⟩
    · obtain ⟨_, _, z⟩ := T.spo _ _ _ ra; cases z
  | _ => cases e
/-! #### for -/
theorem s_for {it tg : Expr} {body : List Stmt} {mi : M Src} {t : TG} {tm : Tgt} {is : List Nat} (hp : PassesOwn (model X.prog X.w) X.A X.env X.xe) (hc : X.calm = true) (hi : PI X tg it (tI T B W mi)) (hg : PG X tg t) (ht : TgS T is t tm) (hb : PSs X body (tS T B W m1))
    (hns : ∀ k n, ∀ L L' : Lo, mi L ≠ some (.ok (.live (.slot k) n), L'))
    (hs : ∀ x, foldedSetIterable it X.env x = pure x := by intro _; rfl) : PS X (.For tg it body [] pos) (tS T B W (mFor mi tm m1)) :=
  psI (ps_for hp hc hi hg hb hs) fun D σ H ⟨Lc, g, r, L', e, rp, kk⟩ => by
    unfold mFor M.bind at e
    cases hm : mi Lc with
    | none => rw [hm] at e; cases e
    | some z =>
      obtain ⟨r1, L1⟩ := z
      rw [hm] at e
      refine ⟨Lc, g, r1, L1, hm, rp, fun g1 H1 ge1 rp1 => ?_⟩
      cases r1 with
      | ex x => cases e; exact kk g1 σ H1 ge1 rp1
      | ok s =>
        intro J wok
        dsimp only at e
        rw [mFor_eq] at e
        have nsl : ∀ k, s ≠ .live (.slot k) s.len := fun k z => hns k s.len Lc L1 (by rw [hm]; rw [← z])
        have free : ∀ (σ' : L2.St) k, s = .live (.slot k) s.len → σ'[k]? = σ[k]? := fun σ' k z => absurd z (nsl k)
        refine ⟨fun i m σ' H' => m = s.len - i ∧ i ≤ s.len ∧ ∃ (g2 : G) (L2 : Lo), Ge g1 g2 ∧ Rp T B g2 σ' H' L2 ∧ loopN s tm m1 (s.len - i) i L2 = some (r, L'), ⟨s.len, by simp, Nat.zero_le _, g1, L1, Ge.refl _, rp1, e⟩, ?_⟩
        rintro i m σ' H' ⟨rfl, hi, g2, L2, ge2, rp2, e2⟩
        by_cases hlt : i < s.len
        · obtain ⟨n, hn⟩ : ∃ n, s.len - i = n + 1 := ⟨s.len - i - 1, by omega⟩
          rw [hn] at e2
          unfold loopN at e2
          by_cases hok : s.ok L2 = true
          · rw [if_pos hok] at e2
            cases ha : s.at_ L2 i with
            | none => rw [ha] at e2; cases e2
            | some d =>
              rw [ha] at e2
              dsimp only at e2
              obtain ⟨go, yl⟩ := wok.go B i g2 σ' H' L2 d ge2 rp2 (free σ') hok hlt ha
              refine .inr ⟨go, fun σ3 H3 => ∃ (g3 : G) (L3 : Lo), Ge g1 g3 ∧ Rp T B g3 σ3 H3 L3 ∧ loopN s tm m1 n (i + 1) L3 = some (r, L'), fun σ3 H3 ⟨g3, L3, ge3, rp3, e3⟩ => ⟨s.len - (i + 1), by omega, rfl, hlt, g3, L3, ge3, rp3, by rw [show s.len - (i + 1) = n by omega]; exact e3⟩, fun x H3 y => ?_⟩
              obtain ⟨g3, ge3, rp3, ra⟩ := yl x H3 y
              cases ht' : tm d L2 with
              | none => rw [ht'] at e2; cases e2
              | some L3 =>
                rw [ht'] at e2
                dsimp only at e2
                refine ht B g3 σ' H3 L2 d x L3 _ rp3 ra ht' fun σ4 _ rp4 => ?_
                cases hb1 : m1 L3 with
                | none => rw [hb1] at e2; cases e2
                | some z =>
                  obtain ⟨rb, L4⟩ := z
                  rw [hb1] at e2
                  refine ⟨L3, g3, rb, L4, hb1, rp4, fun g5 σ5 H5 ge5 rp5 => ?_⟩
                  have g15 : Ge g1 g5 := (ge2.trans ge3).trans ge5
                  cases rb with
                  | ex x => cases e2; exact kk g5 σ5 H5 (ge1.trans g15) rp5
                  | ok f =>
                    cases f with
                    | next => exact ⟨g5, L4, g15, rp5, e2⟩
                    | cnt => exact ⟨g5, L4, g15, rp5, e2⟩
                    | brk => cases e2; exact kk g5 σ5 H5 (ge1.trans g15) rp5
                    | ret d => cases e2; exact kk g5 σ5 H5 (ge1.trans g15) rp5
          · rw [if_neg hok] at e2; cases e2
        · have ei : i = s.len := by omega
          subst ei
          rw [Nat.sub_self] at e2
          unfold loopN at e2
          by_cases hok : s.ok L2 = true
          · rw [if_pos hok] at e2
            cases e2
            exact .inl ⟨wok.stop B g2 σ' H' _ ge2 rp2 (free σ') hok, kk g2 σ' H' (ge1.trans ge2) rp2⟩
          · rw [if_neg hok] at e2; cases e2
end
end MP
set_option Elab.async false
set_option linter.all false
set_option maxRecDepth 100000
set_option maxHeartbeats 4000000
/-! MP: sources of loops; comprehensions; while. -/
namespace MP
open PySem L2 PySem.Spec PyProof.Rows

section
variable {X : Cx} {T : Tb X.K} {B : Ent} {W : WX} {a b c : Expr} {ma mb mc : M MP.D} {pos pos' : Pos} {es : List Expr} {ms : M (List MP.D)} {m1 m2 : M Flow} {D : Ends} {nc : M Bool} {tg : Expr}
theorem piI {iter : Expr} {t t' : TI} (h : PI X tg iter t) (q : ∀ σ H Q, t' σ H Q → t σ H Q) : PI X tg iter t' := ⟨fun pins s σ H R I z => h.run pins s σ H R I (q _ _ _ z)⟩
/-- binding inside a source -/
def KI (T : Tb X.K) (B : Ent) (W : WX) (m : M Src) (Lc : Lo) (g : G) (σ : L2.St) (H : Hp) (Rr : It → Hp → Prop) : Prop := ∃ r L', m Lc = some (r, L') ∧ Rp T B g σ H Lc ∧ ∀ g' H', Ge g g' → Rp T B g' σ H' L' → match r with
    | .ok s => ∀ J, WalkOk T g' σ s J → Rr J H'
    | .ex e => ∀ cls dd, RepX T g' H' e cls dd → W cls dd σ H'
theorem KI.bind {α γ : Type} {R1 : G → L2.St → α → γ → Prop} {m : M α} {f : α → M Src} {Lc : Lo} {g : G} {σ : L2.St} {H : Hp} {Rr : It → Hp → Prop} (h : KI T B W (M.bind m f) Lc g σ H Rr) :
    Kt T B W R1 m Lc g σ H fun v H1 => ∃ (g1 : G) (L1 : Lo) (a : α), Ge g g1 ∧ R1 g1 σ a v ∧ KI T B W (f a) L1 g1 σ H1 Rr := by
  obtain ⟨r, L', e, rp, k⟩ := h
  unfold M.bind at e
  cases hm : m Lc with
  | none => rw [hm] at e; cases e
  | some z =>
    obtain ⟨r1, L1⟩ := z
    rw [hm] at e
    cases r1 with
    | ok a => exact ⟨.ok a, _, hm, rp, fun g' H' ge rp' v rv => ⟨g', _, a, ge, rv, r, L', e, rp', fun g'' H'' ge' rp'' => k g'' H'' (ge.trans ge') rp''⟩⟩
    | ex x =>
      cases e
      exact ⟨.ex x, _, hm, rp, fun g' H' ge rp' => k g' H' ge rp'⟩
theorem KI.now {m : M Src} {Lc : Lo} {g : G} {σ : L2.St} {H : Hp} {Rr : It → Hp → Prop} {s : Src} {J : It} (h : KI T B W m Lc g σ H Rr) (e : m Lc = some (.ok s, Lc)) (w : WalkOk T g σ s J) : Rr J H := by
  obtain ⟨r, L', e', rp, k⟩ := h
  rw [e] at e'
  cases e'
  exact k g H (Ge.refl _) rp J w
def srcL (d : MP.D) : M Src := fun L => match d with
  | .lst ds => some (.ok (.fz ds), L)
  | .scr ns => some (.ok (.fz (ns.map .int)), L)
  | .ref k => (match L.s[k]? with | some (.lst ds) => some (.ok (.live (.ref k) ds.length), L) | _ => Option.none)
  | .slot k => (match deref L (.slot k) with | some ds => some (.ok (.live (.slot k) ds.length), L) | _ => Option.none)
  | _ => Option.none
theorem walk_fz {g : G} {σ : L2.St} {ds : List MP.D} {p : Addr} {xs : List V} (hq : SqL X.K g.F p xs) (hr : Reps X.K g ds xs) : WalkOk T g σ (.fz ds) (Itl X.K p) := by
  refine ⟨fun B i g' σ' H L d ge rp _ _ hi ha => ?_, fun B g' σ' H L ge rp _ _ => ?_⟩
  · have ex : Evl.Ex g.F H := ge.ex.trans rp.rs.ex
    have hx := Evl.ex_l ex hq
    obtain ⟨v, h1, h2⟩ := hr.get (i := i) ha
    refine ⟨⟨xs, v, hx, h1⟩, fun x H' y => ?_⟩
    obtain ⟨rfl, y⟩ := y
    have := y xs hx
    rw [h1] at this
    cases this
    exact ⟨g', Ge.refl _, rp, .inl (Rep.mono ge _ _ h2)⟩
  · exact ⟨xs, Evl.ex_l (ge.ex.trans rp.rs.ex) hq, by show xs.length ≤ ds.length; rw [hr.length]; exact Nat.le_refl _⟩
theorem walk_fzT {g : G} {σ : L2.St} {ds : List MP.D} {p : Addr} {xs : List V} (hq : SqT X.K g.F p xs) (hr : Reps X.K g ds xs) : WalkOk T g σ (.fz ds) (Itt X.K p) := by
  refine ⟨fun B i g' σ' H L d ge rp _ _ hi ha => ?_, fun B g' σ' H L ge rp _ _ => ?_⟩
  · have ex : Evl.Ex g.F H := ge.ex.trans rp.rs.ex
    have hx := Evl.ex_t ex hq
    obtain ⟨v, h1, h2⟩ := hr.get (i := i) ha
    refine ⟨⟨xs, v, hx, h1⟩, fun x H' y => ?_⟩
    obtain ⟨rfl, y⟩ := y
    have := y xs hx
    rw [h1] at this
    cases this
    exact ⟨g', Ge.refl _, rp, .inl (Rep.mono ge _ _ h2)⟩
  · exact ⟨xs, Evl.ex_t (ge.ex.trans rp.rs.ex) hq, by show xs.length ≤ ds.length; rw [hr.length]; exact Nat.le_refl _⟩
theorem walk_live {g : G} {σ : L2.St} {d : MP.D} {n : Nat} {p : Addr} (hd : ∀ (B : Ent) g' σ' H L ds, Ge g g' → Rp T B g' σ' H L → (∀ k, Src.live d n = .live (.slot k) n → σ'[k]? = σ[k]?) → deref L d = some ds → ∃ xs, H p = some (.lst xs) ∧ Reps X.K g' ds xs) : WalkOk T g σ (.live d n) (Itl X.K p) := by
  refine ⟨fun B i g' σ' H L e ge rp hs ho hi ha => ?_, fun B g' σ' H L ge rp hs ho => ?_⟩
  · cases q : deref L d with
    | none => simp [Src.at_, q] at ha
    | some ds =>
      have ha : ds[i]? = some e := by simpa [Src.at_, q] using ha
      obtain ⟨xs, h1, h2⟩ := hd B g' σ' H L ds ge rp hs q
      obtain ⟨v, h3, h4⟩ := h2.get (i := i) ha
      refine ⟨⟨xs, v, SqL.of h1, h3⟩, fun x H' y => ?_⟩
      obtain ⟨rfl, y⟩ := y
      have := y xs (SqL.of h1)
      rw [h3] at this
      cases this
      exact ⟨g', Ge.refl _, rp, .inl h4⟩
  · have ho : (match deref L d with | some ds => ds.length == n | _ => false) = true := ho
    cases q : deref L d with
    | none => rw [q] at ho; cases ho
    | some ds =>
      rw [q] at ho
      have ho : ds.length = n := by simpa using ho
      obtain ⟨xs, h1, h2⟩ := hd B g' σ' H L ds ge rp hs q
      exact ⟨xs, SqL.of h1, by show xs.length ≤ n; rw [← h2.length, ho]; exact Nat.le_refl _⟩
theorem srcL_ok {d : MP.D} {g : G} {σ : L2.St} {H : Hp} {Lc L' : Lo} {r : R Src} {v : V} (rp : Rp T B g σ H Lc) (rd : RepS T g σ d v) (e : srcL d Lc = some (r, L')) : ∃ p s, v = .ref p ∧ r = .ok s ∧ L' = Lc ∧ (∃ xs, SqL X.K H p xs) ∧ WalkOk T g σ s (Itl X.K p) := by
  cases d with
  | lst ds =>
    cases e
    rcases rd with rd | rd
    · cases rd with | lst q rs => exact ⟨_, _, rfl, rfl, rfl, ⟨_, SqL.of (rp.rs.ex _ _ q)⟩, walk_fz (SqL.of q) rs⟩
    · exact (T.spl _ _ _ rd).elim
  | scr ns =>
    cases e
    rcases rd with rd | rd
    · cases rd with | scr q => exact ⟨_, _, rfl, rfl, rfl, ⟨_, Evl.ex_l rp.rs.ex q⟩, walk_fz q (Reps.ints ns)⟩
    · obtain ⟨_, _, z⟩ := T.spo _ _ _ rd; cases z
  | ref k =>
    obtain ⟨p, rfl, hp⟩ := refOf rd
    simp only [srcL] at e
    split at e
    · rename_i ds hk
      cases e
      obtain ⟨xs, h1, h2⟩ := rp.rs.at_ _ _ _ hp hk
      refine ⟨p, _, rfl, rfl, rfl, ⟨xs, SqL.of h1⟩, walk_live fun B g' σ' H' L ds' ge rp' _ hd => ?_⟩
      obtain ⟨q, ys, e1, e2, e3⟩ := derefS rp' (d := .ref k) hd (RepS.ofR (.ref (ge.at hp)))
      cases e1
      exact ⟨ys, e2, e3⟩
    · cases e
  | slot k =>
    obtain ⟨hs, p, rfl⟩ := rd
    simp only [srcL] at e
    split at e
    · rename_i ds hk
      cases e
      obtain ⟨q, xs, e1, h1, h2⟩ := derefS rp (d := .slot k) hk ⟨hs, p, rfl⟩
      cases e1
      refine ⟨p, _, rfl, rfl, rfl, ⟨xs, SqL.of h1⟩, walk_live fun B g' σ' H' L ds' ge rp' hss hd => ?_⟩
      obtain ⟨q, ys, e1, e2, e3⟩ := derefS rp' (d := .slot k) hd ⟨(hss k rfl).trans hs, p, rfl⟩
      cases e1
      exact ⟨ys, e2, e3⟩
    · cases e
  | _ => cases e
def srcF (d : MP.D) : M Src := match d with
  | .slot _ => fun _ => Option.none
  | d => srcL d
def mItF (ma : M MP.D) : M Src := M.bind (mFz ma) srcF
def mItL (ma : M MP.D) : M Src := M.bind ma srcL
theorem i_any (ha : PE X a (tE T B W ma)) : PI X tg a (tI T B W (mItL ma)) := piI (pi_list ha) fun σ H Rr ⟨Lc, g, k⟩ => by
  refine (KI.bind (R1 := RepS T) k).tE fun x H1 ⟨g1, L1, av, ge1, ra, k1⟩ => ?_
  obtain ⟨r, L', e, rp, kk⟩ := id k1
  obtain ⟨p, s, rfl, rfl, rfl, h1, h2⟩ := srcL_ok rp ra e
  exact ⟨p, rfl, h1, k1.now e h2⟩
theorem i_list (ha : PE X a (tE T B W ma)) : PI X tg a (tI T B W (mItF ma)) := piI (pi_list (x_fz ha)) fun σ H Rr ⟨Lc, g, k⟩ => by
  refine (KI.bind (R1 := RepS T) k).tE fun x H1 ⟨g1, L1, av, ge1, ra, k1⟩ => ?_
  obtain ⟨r, L', e, rp, kk⟩ := id k1
  have e2 : srcL av L1 = some (r, L') := by
    cases av with
    | slot j => cases e
    | _ => exact e
  obtain ⟨p, s, rfl, rfl, rfl, h1, h2⟩ := srcL_ok rp ra e2
  exact ⟨p, rfl, h1, k1.now e h2⟩
/-- no name's own list is walked as it goes -/
def NoSlot (mi : M Src) : Prop := ∀ k n, ∀ L L' : Lo, mi L ≠ some (.ok (.live (.slot k) n), L')
theorem ns_bind {α : Type} {m : M α} {f : α → M Src} (h : ∀ a, NoSlot (f a)) : NoSlot (M.bind m f) := fun k n L L' e => by
  unfold M.bind at e
  cases hm : m L with
  | none => rw [hm] at e; cases e
  | some z =>
    obtain ⟨r1, L1⟩ := z
    rw [hm] at e
    cases r1 with
    | ok a => exact h a k n L1 L' e
    | ex x => cases e
theorem ns_F (d : MP.D) : NoSlot (srcF d) := fun k n L L' e => by
  cases d with
  | slot j => cases e
  | ref j =>
    have e : srcL (.ref j) L = some (.ok (.live (.slot k) n), L') := e
    simp only [srcL] at e
    split at e
    · cases e
    · cases e
  | _ => cases e
theorem ns_list : NoSlot (mItF ma) := ns_bind ns_F
/-! #### ranges -/
def rng (lo : Int) (n : Nat) : List MP.D := (List.range n).map fun i => .int (lo + (i : Nat))
abbrev in62 (j : Int) : Prop := -(2 ^ 62) ≤ j ∧ j < 2 ^ 62
def srcR1 (ds : List MP.D) : M Src := fun L => match ds with
  | [.int j] => if in62 j then some (.ok (.fz (rng 0 j.toNat)), L) else Option.none
  | _ => Option.none
def srcR2 (ds : List MP.D) : M Src := fun L => match ds with
  | [.int i, .int j] => if in62 i ∧ in62 j then some (.ok (.fz (rng i (j - i).toNat)), L) else Option.none
  | _ => Option.none
def rngD (lo : Int) (n : Nat) : List MP.D := (List.range n).map fun i => .int (lo + (i : Nat) * (-1))
def srcR3 (ds : List MP.D) : M Src := fun L => match ds with
  | [.int i, .int j, .int (-1)] => if in62 i ∧ in62 j then some (.ok (.fz (rngD i (i - j).toNat)), L) else Option.none
  | _ => Option.none
def mRng1 (ms : M (List MP.D)) : M Src := M.bind ms srcR1
def mRng2 (ms : M (List MP.D)) : M Src := M.bind ms srcR2
def mRng3 (ms : M (List MP.D)) : M Src := M.bind ms srcR3
theorem ns_rng1 : NoSlot (mRng1 ms) := ns_bind fun ds k n L L' e => by
  unfold srcR1 at e
  split at e
  · split at e <;> cases e
  · cases e
theorem ns_rng2 : NoSlot (mRng2 ms) := ns_bind fun ds k n L L' e => by
  unfold srcR2 at e
  split at e
  · split at e <;> cases e
  · cases e
theorem ns_rng3 : NoSlot (mRng3 ms) := ns_bind fun ds k n L L' e => by
  unfold srcR3 at e
  split at e
  · split at e <;> cases e
  · cases e
theorem walk_rng {g : G} {σ : L2.St} {lo : Int} {n : Nat} : WalkOk T g σ (.fz (rng lo n)) (Itr lo n) := by
  have hl : (rng lo n).length = n := by simp [rng]
  refine ⟨fun B i g' σ' H L d ge rp _ _ hi ha => ?_, fun B g' σ' H L ge rp _ _ => ?_⟩
  · have hi : i < n := by rw [← hl]; exact hi
    refine ⟨hi, fun x H' y => ?_⟩
    obtain ⟨rfl, rfl⟩ := y
    have ha : (rng lo n)[i]? = some d := ha
    have e : (rng lo n)[i]? = some (.int (lo + (i : Nat))) := by simp [rng, hi]
    rw [e] at ha
    cases ha
    exact ⟨g', Ge.refl _, rp, .inl (.int _)⟩
  · show n ≤ (rng lo n).length
    rw [hl]; exact Nat.le_refl _
theorem walk_rngD {g : G} {σ : L2.St} {lo : Int} {n : Nat} : WalkOk T g σ (.fz (rngD lo n)) (Itc lo (-1) n) := by
  have hl : (rngD lo n).length = n := by simp [rngD]
  refine ⟨fun B i g' σ' H L d ge rp _ _ hi ha => ?_, fun B g' σ' H L ge rp _ _ => ?_⟩
  · have hi : i < n := by rw [← hl]; exact hi
    refine ⟨hi, fun x H' y => ?_⟩
    obtain ⟨rfl, rfl⟩ := y
    have ha : (rngD lo n)[i]? = some d := ha
    have e : (rngD lo n)[i]? = some (.int (lo + (i : Nat) * (-1))) := by simp [rngD, hi]
    rw [e] at ha
    cases ha
    exact ⟨g', Ge.refl _, rp, .inl (.int _)⟩
  · show n ≤ (rngD lo n).length
    rw [hl]; exact Nat.le_refl _
theorem i_rng1 {p : Pos} (hm : X.mg "range" = none) (ha : PA X [a] (tN T B W ms)) (hg : Gl X "range" := by rfl) (hs : starEach [a] X.env = [(false, eval a X.env)] := by rfl) : PI X tg (.Call (.Name "range" p) [a] [] pos) (tI T B W (mRng1 ms)) :=
  piI (pi_range1 hg hm ha hs) fun σ H Rr ⟨Lc, g, k⟩ => by
    refine ⟨Lc, g, (KI.bind (R1 := RN T) k).mono fun vs H1 ⟨g1, L1, ds, ge1, ra, k1⟩ => ?_⟩
    obtain ⟨r, L', e, rp, kk⟩ := id k1
    unfold srcR1 at e
    split at e
    · rename_i j
      split at e
      · rename_i hj
        cases e
        cases ra with | cons r1 r2 =>
        cases r2
        rw [repI r1]
        exact ⟨j, rfl, hj.1, hj.2, k1.now (show (if in62 j then some (R.ok (Src.fz (rng 0 j.toNat)), _) else Option.none) = _ from if_pos hj) walk_rng⟩
      · cases e
    · cases e
theorem i_rng2 {p : Pos} (hm : X.mg "range" = none) (ha : PA X [a, b] (tN T B W ms)) (hg : Gl X "range" := by rfl) (hs : starEach [a, b] X.env = [(false, eval a X.env), (false, eval b X.env)] := by rfl) (hs2 : starEach [b] X.env = [(false, eval b X.env)] := by rfl) : PI X tg (.Call (.Name "range" p) [a, b] [] pos) (tI T B W (mRng2 ms)) :=
  piI (pi_range2 hg hm ha hs hs2) fun σ H Rr ⟨Lc, g, k⟩ => by
    refine ⟨Lc, g, (KI.bind (R1 := RN T) k).mono fun vs H1 ⟨g1, L1, ds, ge1, ra, k1⟩ => ?_⟩
    obtain ⟨r, L', e, rp, kk⟩ := id k1
    unfold srcR2 at e
    split at e
    · rename_i i j
      split at e
      · rename_i hj
        cases e
        cases ra with | cons r1 r2 =>
        cases r2 with | cons r2 r3 =>
        cases r3
        rw [repI r1, repI r2]
        exact ⟨i, j, rfl, ⟨hj.1.1, hj.1.2, hj.2.1, hj.2.2⟩, k1.now (show (if in62 i ∧ in62 j then some (R.ok (Src.fz (rng i (j - i).toNat)), _) else Option.none) = _ from if_pos hj) walk_rng⟩
      · cases e
    · cases e
theorem i_rng3 {p : Pos} (hm : X.mg "range" = none) (ha : PA X [a, b, c] (tN T B W ms)) (hg : Gl X "range" := by rfl) (hs : starEach [a, b, c] X.env = (false, eval a X.env) :: starEach [b, c] X.env := by rfl) (hpl : (backTo pos (starEach [b, c] X.env)).any (·.1) = false := by rfl) : PI X tg (.Call (.Name "range" p) [a, b, c] [] pos) (tI T B W (mRng3 ms)) :=
  piI (pi_range3 hg hm ha hs hpl) fun σ H Rr ⟨Lc, g, k⟩ => by
    refine ⟨Lc, g, (KI.bind (R1 := RN T) k).mono fun vs H1 ⟨g1, L1, ds, ge1, ra, k1⟩ => ?_⟩
    obtain ⟨r, L', e, rp, kk⟩ := id k1
    unfold srcR3 at e
    split at e
    · rename_i i j
      split at e
      · rename_i hj
        cases e
        cases ra with | cons r1 r2 =>
        cases r2 with | cons r2 r3 =>
        cases r3 with | cons r3 r4 =>
        cases r4
        rw [repI r1, repI r2, repI r3]
        exact ⟨i, j, -1, _, rfl, RgC.neg hj.1.1 hj.1.2 hj.2.1 hj.2.2, k1.now (show (if in62 i ∧ in62 j then some (R.ok (Src.fz (rngD i (i - j).toNat)), _) else Option.none) = _ from if_pos hj) walk_rngD⟩
      · cases e
    · cases e
/-! #### enumerate -/
def enumD : Nat → List MP.D → List MP.D
  | _, [] => []
  | i, d :: ds => .tup [.int (i : Nat), d] :: enumD (i + 1) ds
theorem enumD_len : ∀ (ds : List MP.D) (i : Nat), (enumD i ds).length = ds.length
  | [], _ => rfl
  | d :: ds, i => by show (enumD (i + 1) ds).length + 1 = _; rw [enumD_len ds] <;> rfl
theorem enumD_at : ∀ (ds : List MP.D) (i j : Nat) (e : MP.D), (enumD i ds)[j]? = some e → ∃ d, ds[j]? = some d ∧ e = .tup [.int ((i + j : Nat) : Int), d]
  | [], _, _, _, h => by simp [enumD] at h
  | d :: ds, i, 0, e, h => ⟨d, rfl, by simpa [enumD] using h.symm⟩
  | d :: ds, i, j + 1, e, h => by
    obtain ⟨d', h1, h2⟩ := enumD_at ds (i + 1) j e (by simpa [enumD] using h)
    exact ⟨d', by simpa using h1, by rw [h2]; congr 3; congr 1; omega⟩
def srcE (ds : List MP.D) : M Src := fun L => match ds with
  | [.lst xs] => some (.ok (.fz (enumD 0 xs)), L)
  | _ => Option.none
def mEnum (ms : M (List MP.D)) : M Src := M.bind ms srcE
theorem ns_enum : NoSlot (mEnum ms) := ns_bind fun ds k n L L' e => by
  unfold srcE at e
  split at e <;> cases e
theorem walk_enumD {g : G} {σ : L2.St} {ds : List MP.D} {p : Addr} {xs : List V} (hq : g.F p = some (.lst xs)) (hr : Reps X.K g ds xs) : WalkOk T g σ (.fz (enumD 0 ds)) (Ite X.K p) := by
  refine ⟨fun B i g' σ' H L d ge rp _ _ hi ha => ?_, fun B g' σ' H L ge rp _ _ => ?_⟩
  · have ex : Evl.Ex g.F H := ge.ex.trans rp.rs.ex
    have hx : SqL X.K H p xs := SqL.of (ex _ _ hq)
    have ha : (enumD 0 ds)[i]? = some d := ha
    obtain ⟨d', h1, rfl⟩ := enumD_at ds 0 i d ha
    obtain ⟨v, h3, h4⟩ := hr.get (i := i) h1
    refine ⟨⟨xs, v, hx, h3⟩, fun x H' y => ?_⟩
    obtain ⟨P, w, rfl, hn, rfl, y⟩ := y
    have := y xs hx
    rw [h3] at this
    cases this
    have rr : Reps X.K g' [.int ((0 + i : Nat) : Int), d'] [.int (i : Nat), v] := by
      rw [Nat.zero_add]
      exact .cons (.int _) (.cons (Rep.mono ge _ _ h4) .nil)
    obtain ⟨z1, z2, z3⟩ := tupOf rp rr hn
    exact ⟨_, z1, z2, z3⟩
  · exact ⟨xs, SqL.of (rp.rs.ex _ _ (ge.ex _ _ hq)), by show xs.length ≤ (enumD 0 ds).length; rw [enumD_len, hr.length]; exact Nat.le_refl _⟩
theorem i_enum {p tpos : Pos} {elts : List Expr} {kk : Nat} (hm : X.mg "enumerate" = none) (ha : PA X [a] (tA T B W ms)) (hg : Gl X "enumerate" := by rfl) (hs : starEach [a] X.env = [(false, eval a X.env)] := by rfl) : PI X (.Tuple elts kk tpos) (.Call (.Name "enumerate" p) [a] [] pos) (tI T B W (mEnum ms)) :=
  piI (pi_enum hg hm ha hs) fun σ H Rr ⟨Lc, g, k⟩ => by
    refine ⟨Lc, g, (KI.bind (R1 := RA T) k).mono fun vs H1 ⟨g1, L1, ds, ge1, ra, k1⟩ => ?_⟩
    obtain ⟨r, L', e, rp, kk⟩ := id k1
    unfold srcE at e
    split at e
    · rename_i xs
      cases e
      cases ra with | cons r1 r2 =>
      cases r2
      rcases r1 with r1 | r1
      · cases r1 with
        | lst q rs => exact ⟨_, _, rfl, SqL.of (rp.rs.ex _ _ q), k1.now rfl (walk_enumD q rs)⟩
      · exact (T.spl _ _ _ r1).elim
    · cases e
/-! #### a tuple, walked -/
def srcT (d : MP.D) : M Src := fun L => match d with
  | .tup ds => some (.ok (.fz ds), L)
  | _ => Option.none
def mItT (ma : M MP.D) : M Src := M.bind ma srcT
theorem ns_tup : NoSlot (mItT ma) := ns_bind fun d k n L L' e => by
  unfold srcT at e
  split at e <;> cases e
theorem i_tup (ha : PE X a (tE T B W ma)) : PI X tg a (tI T B W (mItT ma)) := piI (pi_tup ha) fun σ H Rr ⟨Lc, g, k⟩ => by
  refine (KI.bind (R1 := RepS T) k).tE fun x H1 ⟨g1, L1, av, ge1, ra, k1⟩ => ?_
  obtain ⟨r, L', e, rp, kk⟩ := id k1
  unfold srcT at e
  split at e
  · cases e
    obtain ⟨p, xs, rfl, q1, q2⟩ := repT ra
    exact ⟨p, rfl, ⟨xs, SqT.of (rp.rs.ex _ _ q1)⟩, k1.now rfl (walk_fzT (SqT.of q1) q2)⟩
  · cases e
/-! #### while -/
def loopW (c : M Bool) (body : M Flow) : Nat → M Flow
  | 0 => fun _ => Option.none
  | n + 1 => fun L => match c L with
    | some (.ok true, L1) => (match body L1 with
      | some (.ok .next, L2) => loopW c body n L2
      | some (.ok .cnt, L2) => loopW c body n L2
      | some (.ok .brk, L2) => some (.ok .next, L2)
      | z => z)
    | some (.ok false, L1) => some (.ok .next, L1)
    | some (.ex e, L1) => some (.ex e, L1)
    | _ => Option.none
theorem s_while {body : List Stmt} (fuel : Nat) (hp : PassesOwn (model X.prog X.w) X.A X.env X.xe) (hc : PT X c (tT T B W nc)) (hb : PSs X body (tS T B W m1)) : PS X (.While c body [] pos) (tS T B W (loopW nc m1 fuel)) :=
  psI (ps_while hp hc hb) fun D σ H ⟨Lc, g, r, L', e, rp, kk⟩ => by
    refine ⟨fun n σ' H' => ∃ (g2 : G) (Lb : Lo), Ge g g2 ∧ Rp T B g2 σ' H' Lb ∧ loopW nc m1 n Lb = some (r, L'), ⟨fuel, g, Lc, Ge.refl _, rp, e⟩, ?_⟩
    rintro n σ' H' ⟨g2, Lb, ge2, rp2, e2⟩
    cases n with
    | zero => cases e2
    | succ n =>
      unfold loopW at e2
      cases hcc : nc Lb with
      | none => rw [hcc] at e2; cases e2
      | some z =>
        obtain ⟨rc, L1⟩ := z
        rw [hcc] at e2
        refine ⟨Lb, g2, rc, L1, hcc, rp2, fun g3 H3 ge3 rp3 => ?_⟩
        cases rc with
        | ex x => cases e2; exact kk g3 σ' H3 (ge2.trans ge3) rp3
        | ok q =>
          rintro v rfl
          cases q with
          | false => cases e2; exact kk g3 σ' H3 (ge2.trans ge3) rp3
          | true =>
            dsimp only at e2
            show ∃ N : L2.St → Hp → Prop, _ ∧ _
            refine ⟨fun σ3 H3 => ∃ (g4 : G) (Ld : Lo), Ge g g4 ∧ Rp T B g4 σ3 H3 Ld ∧ loopW nc m1 n Ld = some (r, L'), fun σ3 H3 z => ⟨n, Nat.lt_succ_self n, z⟩, ?_⟩
            cases hb1 : m1 L1 with
            | none => rw [hb1] at e2; cases e2
            | some z =>
              obtain ⟨rb, L4⟩ := z
              rw [hb1] at e2
              refine ⟨L1, g3, rb, L4, hb1, rp3, fun g5 σ5 H5 ge5 rp5 => ?_⟩
              have g15 : Ge g g5 := (ge2.trans ge3).trans ge5
              cases rb with
              | ex x => cases e2; exact kk g5 σ5 H5 g15 rp5
              | ok f =>
                cases f with
                | next => exact ⟨g5, L4, g15, rp5, e2⟩
                | cnt => exact ⟨g5, L4, g15, rp5, e2⟩
                | brk => cases e2; exact kk g5 σ5 H5 g15 rp5
                | ret d => cases e2; exact kk g5 σ5 H5 g15 rp5
end
end MP
set_option Elab.async false
set_option linter.all false
set_option maxRecDepth 100000
set_option maxHeartbeats 4000000
/-! MP: list comprehensions. -/
namespace MP
open PySem L2 PySem.Spec PyProof.Rows

def wipeS : List Nat → List Slot → List Slot
  | [], l => l
  | v :: vs, l => (wipeS vs l).set v .none
def restS (o : List Slot) : List Nat → List Slot → List Slot
  | [], l => l
  | v :: vs, l => (restS o vs l).set v (o.getD v .none)
theorem wipeS_len : ∀ (vs : List Nat) (l : List Slot), (wipeS vs l).length = l.length
  | [], _ => rfl
  | v :: vs, l => by show ((wipeS vs l).set v .none).length = _; rw [List.length_set, wipeS_len vs l]
theorem restS_len (o : List Slot) : ∀ (vs : List Nat) (l : List Slot), (restS o vs l).length = l.length
  | [], _ => rfl
  | v :: vs, l => by show ((restS o vs l).set v _).length = _; rw [List.length_set, restS_len o vs l]
theorem wipeS_at : ∀ (vs : List Nat) (l : List Slot) (i : Nat), (i ∉ vs → (wipeS vs l)[i]? = l[i]?) ∧ (i ∈ vs → ∀ d, (wipeS vs l)[i]? ≠ some (.val d) ∧ ∀ ds, (wipeS vs l)[i]? ≠ some (.own ds))
  | [], l, i => ⟨fun _ => rfl, fun m => by simp at m⟩
  | v :: vs, l, i => by
    obtain ⟨h1, h2⟩ := wipeS_at vs l i
    show (i ∉ v :: vs → ((wipeS vs l).set v .none)[i]? = l[i]?) ∧ (i ∈ v :: vs → ∀ d, ((wipeS vs l).set v .none)[i]? ≠ some (.val d) ∧ ∀ ds, ((wipeS vs l).set v .none)[i]? ≠ some (.own ds))
    by_cases q : v = i
    · subst q
      refine ⟨fun n => absurd List.mem_cons_self n, fun _ d => ?_⟩
      by_cases hl : v < (wipeS vs l).length
      · rw [List.getElem?_set_self hl]
        exact ⟨by simp, by simp⟩
      · rw [List.getElem?_eq_none (by simpa using hl)]
        exact ⟨by simp, by simp⟩
    · rw [List.getElem?_set_ne q]
      refine ⟨fun n => h1 fun m => n (List.mem_cons_of_mem _ m), fun m => h2 ?_⟩
      rcases List.mem_cons.mp m with m | m
      · exact absurd m.symm q
      · exact m
theorem restS_at (o : List Slot) : ∀ (vs : List Nat) (l : List Slot) (i : Nat), l.length = o.length → (i ∉ vs → (restS o vs l)[i]? = l[i]?) ∧ (i ∈ vs → (restS o vs l)[i]? = o[i]?)
  | [], l, i, _ => ⟨fun _ => rfl, fun m => by simp at m⟩
  | v :: vs, l, i, hl => by
    obtain ⟨h1, h2⟩ := restS_at o vs l i hl
    show (i ∉ v :: vs → ((restS o vs l).set v (o.getD v .none))[i]? = l[i]?) ∧ (i ∈ v :: vs → ((restS o vs l).set v (o.getD v .none))[i]? = o[i]?)
    by_cases q : v = i
    · subst q
      refine ⟨fun n => absurd List.mem_cons_self n, fun _ => ?_⟩
      by_cases hv : v < o.length
      · rw [List.getElem?_set_self (by rw [restS_len]; omega)]
        simp [List.getD, hv]
      · rw [List.getElem?_eq_none (by rw [List.length_set, restS_len]; omega), List.getElem?_eq_none (by omega)]
    · rw [List.getElem?_set_ne q]
      refine ⟨fun n => h1 fun m => n (List.mem_cons_of_mem _ m), fun m => h2 ?_⟩
      rcases List.mem_cons.mp m with m | m
      · exact absurd m.symm q
      · exact m
theorem wipe_at : ∀ (vs : List Nat) (σ : L2.St) (i : Nat), i ∉ vs → (wipe σ vs)[i]? = σ[i]?
  | [], _, _, _ => rfl
  | v :: vs, σ, i, h => by
    simp only [List.mem_cons, not_or] at h
    show ((wipe σ vs).set v none)[i]? = _
    rw [List.getElem?_set_ne (Ne.symm h.1), wipe_at vs σ i h.2]
theorem wipe_in : ∀ (vs : List Nat) (σ : L2.St) (i : Nat), i ∈ vs → (wipe σ vs)[i]? = if i < σ.length then some none else Option.none
  | v :: vs, σ, i, h => by
    show ((wipe σ vs).set v none)[i]? = _
    by_cases q : v = i
    · subst q
      by_cases hl : v < σ.length
      · rw [List.getElem?_set_self (by rw [wipe_length]; exact hl), if_pos hl]
      · rw [List.getElem?_eq_none (by rw [List.length_set, wipe_length]; omega), if_neg hl]
    · rw [List.getElem?_set_ne q]
      rcases List.mem_cons.mp h with m | m
      · exact absurd m.symm q
      · exact wipe_in vs σ i m
theorem wipe_chg {is vs : List Nat} {σ σ2 : L2.St} (h : Chg is (wipe σ vs) σ2) (hs : ∀ i ∈ is, i ∈ vs) : wipe σ2 vs = wipe σ vs := by
  apply List.ext_getElem?
  intro i
  by_cases m : i ∈ vs
  · rw [wipe_in vs _ i m, wipe_in vs _ i m, h.1, wipe_length]
  · rw [wipe_at vs _ i m, h.2 i fun z => m (hs i z)]
section
variable {K : PySem.W.Frag} {T : Tb K} {B : Ent} {g : G} {σ : L2.St} {H : Hp} {Lc : Lo}
theorem Rp.wipe (r : Rp T B g σ H Lc) : ∀ vs, Rp T B g (L2.wipe σ vs) H { Lc with l := wipeS vs Lc.l }
  | [] => r
  | v :: vs => (Rp.wipe r vs).setNone
/-- behind a comprehension's block -/
theorem Rp.rest {vs : List Nat} {L0 : Lo} {g0 : G} {H0 : Hp} {B0 : Ent} (r : Rp T B g (L2.wipe σ vs) H Lc) (r0 : Rp T B0 g0 σ H0 L0) (ge : Ge g0 g) (hv : ∀ i ∈ vs, ∀ ds, L0.l[i]? ≠ some (.own ds)) : Rp T B g σ H { Lc with l := restS L0.l vs Lc.l } := by
  have hl : Lc.l.length = L0.l.length := by rw [r.len, wipe_length, r0.len]
  have at_ := fun i => restS_at L0.l vs Lc.l i hl
  refine ⟨r.rs, r.ge, r.bi, r.pres, r.new, by show (restS L0.l vs Lc.l).length = _; rw [restS_len, hl, r0.len], fun i d e => ?_, fun i ds e => ?_, fun i j ds es p hij a1 a2 b1 => ?_, fun q m => ?_, r.nfz, r.pt⟩
  · have e : (restS L0.l vs Lc.l)[i]? = some (.val d) := e
    by_cases m : i ∈ vs
    · rw [(at_ i).2 m] at e
      obtain ⟨v, e1, e2⟩ := r0.val i d e
      exact ⟨v, e1, e2.mono ge⟩
    · rw [(at_ i).1 m] at e
      obtain ⟨v, e1, e2⟩ := r.val i d e
      rw [wipe_at vs σ i m] at e1
      exact ⟨v, e1, e2⟩
  · have e : (restS L0.l vs Lc.l)[i]? = some (.own ds) := e
    by_cases m : i ∈ vs
    · rw [(at_ i).2 m] at e; exact absurd e (hv i m ds)
    · rw [(at_ i).1 m] at e
      obtain ⟨p, xs, e1, e2⟩ := r.own i ds e
      rw [wipe_at vs σ i m] at e1
      exact ⟨p, xs, e1, e2⟩
  · have a1 : (restS L0.l vs Lc.l)[i]? = some (.own ds) := a1
    have a2 : (restS L0.l vs Lc.l)[j]? = some (.own es) := a2
    have mi : i ∉ vs := fun m => by rw [(at_ i).2 m] at a1; exact absurd a1 (hv i m ds)
    have mj : j ∉ vs := fun m => by rw [(at_ j).2 m] at a2; exact absurd a2 (hv j m es)
    rw [(at_ i).1 mi] at a1
    rw [(at_ j).1 mj] at a2
    have := r.one i j ds es p hij a1 a2 (by rw [wipe_at vs σ i mi]; exact b1)
    rw [wipe_at vs σ j mj] at this
    exact this
  · obtain ⟨a1, a2, a3, a4, a5⟩ := r.ext q m
    refine ⟨a1, a2, a3, a4, fun j ds e => ?_⟩
    have e : (restS L0.l vs Lc.l)[j]? = some (.own ds) := e
    have mj : j ∉ vs := fun m => by rw [(at_ j).2 m] at e; exact absurd e (hv j m ds)
    rw [(at_ j).1 mj] at e
    have := a5 j ds e
    rw [wipe_at vs σ j mj] at this
    exact this
end
/-! #### the loop -/
def lcN (s : Src) (vs : List Nat) (tm : Tgt) (mc : M Bool) (me : M D) : Nat → Nat → M (List D)
  | 0, _ => fun L => if s.ok L = true then some (.ok [], L) else Option.none
  | n + 1, i => fun L => if s.ok L = true then (match s.at_ L i with
    | some d => (match tm d L with
      | some L1 => (match mc L1 with
        | some (.ok true, L2) => (match mFz me L2 with
          | some (.ok e, L3) => if isClo e = false then (match lcN s vs tm mc me n (i + 1) { L3 with l := wipeS vs L3.l } with
            | some (.ok es, L4) => some (.ok (e :: es), L4)
            | _ => Option.none) else Option.none
          | _ => Option.none)
        | some (.ok false, L2) => lcN s vs tm mc me n (i + 1) { L2 with l := wipeS vs L2.l }
        | _ => Option.none)
      | _ => Option.none)
    | _ => Option.none) else Option.none
def lcL (vs : List Nat) (tm : Tgt) (mc : M Bool) (me : M D) : List D → M (List D)
  | [] => fun L => some (.ok [], L)
  | d :: ds => fun L => match tm d L with
      | some L1 => (match mc L1 with
        | some (.ok true, L2) => (match mFz me L2 with
          | some (.ok e, L3) => if isClo e = false then (match lcL vs tm mc me ds { L3 with l := wipeS vs L3.l } with
            | some (.ok es, L4) => some (.ok (e :: es), L4)
            | _ => Option.none) else Option.none
          | _ => Option.none)
        | some (.ok false, L2) => lcL vs tm mc me ds { L2 with l := wipeS vs L2.l }
        | _ => Option.none)
      | _ => Option.none
theorem lcL_eq (vs : List Nat) (tm : Tgt) (mc : M Bool) (me : M D) (all : List D) : ∀ (n i : Nat), all.length = i + n → lcN (.fz all) vs tm mc me n i = lcL vs tm mc me (all.drop i)
  | 0, i, h => by
    funext L
    rw [List.drop_eq_nil_of_le (by omega)] <;> rfl
  | n + 1, i, h => by
    funext L
    have hi : i < all.length := by omega
    rw [List.drop_eq_getElem_cons hi]
    show (if true = true then (match (Src.fz all).at_ L i with | some d => _ | _ => Option.none) else Option.none) = _
    rw [if_pos rfl, show (Src.fz all).at_ L i = some all[i] by show all[i]? = _; simp [hi]]
    show (match tm all[i] L with | some L1 => _ | _ => Option.none) = (match tm all[i] L with | some L1 => _ | _ => Option.none)
    rw [lcL_eq vs tm mc me all n (i + 1) (by omega)]
def slotOf : Src → Option Nat
  | .live (.slot k) _ => some k
  | _ => Option.none
def noOwn (l : List Slot) (vs : List Nat) : Bool := vs.all fun i => match l[i]? with | some (.own _) => false | _ => true
def nLc (vs : List Nat) (mi : M Src) (tm : Tgt) (mc : M Bool) (me : M D) : M (List D) := M.bind mi fun s => fun L =>
  if s.len ≤ big ∧ noOwn L.l vs = true ∧ (∀ k, slotOf s = some k → k ∉ vs) then
    (match (match s with | .fz ds => lcL vs tm mc me ds | s => lcN s vs tm mc me s.len 0) { L with l := wipeS vs L.l } with
    | some (.ok es, L2) => some (.ok es, { L2 with l := restS L.l vs L2.l })
    | _ => Option.none) else Option.none
instance {s : Src} {vs : List Nat} : Decidable (∀ k, slotOf s = some k → k ∉ vs) := by
  cases h : slotOf s with
  | none => exact isTrue fun k e => by cases e
  | some j => 
    by_cases m : j ∈ vs
    · exact isFalse fun f => f j rfl m
    · exact isTrue fun k e => by cases e; exact m
theorem lcL_eq0 (s : Src) (vs : List Nat) (tm : Tgt) (mc : M Bool) (me : M D) : (match s with | .fz ds => lcL vs tm mc me ds | s => lcN s vs tm mc me s.len 0) = lcN s vs tm mc me s.len 0 := by
  cases s with
  | fz ds => exact (lcL_eq vs tm mc me ds ds.length 0 (by omega)).symm
  | live d n => rfl

section
variable {X : Cx} {T : Tb X.K} {B : Ent} {W : WX} {a b c : Expr} {ma mb me : M MP.D} {pos pos' : Pos} {mc : M Bool} {D : Ends} {tg : Expr}
abbrev RZ (T : Tb X.K) : G → L2.St → MP.D → V → Prop := fun g _ d v => RepA T g d v
def tZ (T : Tb X.K) (B : Ent) (W : WX) (m : M MP.D) : TE := fun σ H Q => ∃ Lc g, Kt T B W (RZ T) m Lc g σ H Q
theorem x_z (h : PE X a (tE T B W ma)) : PE X a (tZ T B W (mFz ma)) := peI h fun σ H Q ⟨Lc, g, k⟩ => by
  refine (Kt.bind (R1 := RepS T) k).tE fun x H1 ⟨g1, L1, av, ge1, ra, k1⟩ => ?_
  obtain ⟨r, L', e, rp, kk⟩ := id k1
  obtain ⟨g', d', ge', rfl, rp', rd'⟩ := frz_ok rp ra e
  exact kk g' H1 ge' rp' x rd'
abbrev W0 : WX := fun _ _ _ _ => False
theorem lc_main {vs is : List Nat} {mi : M Src} {t : TG} {tm : Tgt} (ht : TgS T is t tm) (hs : ∀ i ∈ is, i ∈ vs) {σ : L2.St} {H : Hp} {Q : VK} (h : tF T B W (nLc vs mi tm mc me) σ H Q) :
    tLc (tI T B W mi) t (fun σ H Q => ∃ B', tT T B' W0 mc σ H Q) (fun σ H Q => ∃ B', tZ T B' W0 (mFz me) σ H Q) vs σ H Q := by
  obtain ⟨Lc, g, r, Lz, e, rp, kk⟩ := h
  unfold nLc M.bind at e
  cases hm : mi Lc with
  | none => rw [hm] at e; cases e
  | some z =>
    obtain ⟨r1, L1⟩ := z
    rw [hm] at e
    refine ⟨Lc, g, r1, L1, hm, rp, fun g1 H1 ge1 rp1 => ?_⟩
    cases r1 with
    | ex x => cases e; exact kk g1 H1 ge1 rp1
    | ok s =>
      intro J wok
      dsimp only at e
      split at e
      · rename_i hc
        obtain ⟨hc1, hc2, hc3⟩ := hc
        rw [lcL_eq0] at e
        cases hN : lcN s vs tm mc me s.len 0 { L1 with l := wipeS vs L1.l } with
        | none => rw [hN] at e; cases e
        | some z =>
          obtain ⟨rr, Le⟩ := z
          rw [hN] at e
          cases rr with
          | ex x => cases e
          | ok tot =>
            cases e
            intro Da hDa
            have hx : ∀ q ∈ B.x, q.1 ≠ Da := fun q m => ne_of_none (rp1.ext q m).1 hDa
            have sl : ∀ k, s = .live (.slot k) s.len → (wipe σ vs)[k]? = σ[k]? := fun k z => wipe_at vs σ k (hc3 k (by rw [z] <;> rfl))
            refine ⟨fun i m H' => m = s.len - i ∧ i ≤ s.len ∧ ∃ (g2 : G) (Lb : Lo) (acc : List MP.D) (xs : List V) (es : List MP.D), Ge g1 g2 ∧ Rp T (B.push Da xs) g2 (wipe σ vs) H' Lb ∧ Reps X.K g2 acc xs ∧ acc.length ≤ i ∧ lcN s vs tm mc me (s.len - i) i Lb = some (.ok es, Le) ∧ acc ++ es = tot, ⟨s.len, by simp, Nat.zero_le _, g1, _, [], [], tot, Ge.refl _, (rp1.wipe vs).push hDa, .nil, Nat.le_refl _, hN, rfl⟩, ?_⟩
            rintro i m H' ⟨rfl, hi, g2, Lb, acc, xs, es, ge2, rp2, ra, hl, e2, et⟩
            by_cases hlt : i < s.len
            · obtain ⟨n, hn⟩ : ∃ n, s.len - i = n + 1 := ⟨s.len - i - 1, by omega⟩
              rw [hn] at e2
              unfold lcN at e2
              by_cases hok : s.ok Lb = true
              · rw [if_pos hok] at e2
                cases ha : s.at_ Lb i with
                | none => rw [ha] at e2; cases e2
                | some d =>
                  rw [ha] at e2
                  dsimp only at e2
                  obtain ⟨go, yl⟩ := wok.go _ i g2 (wipe σ vs) H' Lb d ge2 rp2 sl hok hlt ha
                  refine .inr ⟨go, fun H3 => ∃ (g3 : G) (Lb : Lo) (acc : List MP.D) (xs : List V) (es : List MP.D), Ge g1 g3 ∧ Rp T (B.push Da xs) g3 (wipe σ vs) H3 Lb ∧ Reps X.K g3 acc xs ∧ acc.length ≤ i + 1 ∧ lcN s vs tm mc me n (i + 1) Lb = some (.ok es, Le) ∧ acc ++ es = tot, fun H3 ⟨g3, L3, a3, x3, e3, z1, z2, z3, z4, z5, z6⟩ => ⟨s.len - (i + 1), by omega, rfl, hlt, g3, L3, a3, x3, e3, z1, z2, z3, z4, by rw [show s.len - (i + 1) = n by omega]; exact z5, z6⟩, fun x H3 y => ?_⟩
                  obtain ⟨g3, ge3, rp3, rd⟩ := yl x H3 y
                  cases ht' : tm d Lb with
                  | none => rw [ht'] at e2; cases e2
                  | some L3 =>
                    rw [ht'] at e2
                    dsimp only at e2
                    refine ht _ g3 (wipe σ vs) H3 Lb d x L3 _ rp3 rd ht' fun σ2 hch rp4 => ⟨wipe_chg hch hs, ?_⟩
                    cases hb1 : mc L3 with
                    | none => rw [hb1] at e2; cases e2
                    | some z =>
                      obtain ⟨rb, L4⟩ := z
                      rw [hb1] at e2
                      cases rb with
                      | ex x => cases e2
                      | ok bb =>
                        refine ⟨_, L3, g3, .ok bb, L4, hb1, rp4, fun g5 H5 ge5 rp5 v ev => ?_⟩
                        cases ev
                        cases bb with
                        | false =>
                          show ∃ (g3 : G) (Lb : Lo) (acc : List MP.D) (xs : List V) (es : List MP.D), _
                          have z := rp5.wipe vs
                          rw [wipe_chg hch hs] at z
                          exact ⟨g5, _, acc, xs, es, (ge2.trans ge3).trans ge5, z, Reps.mono (ge3.trans ge5) _ _ ra, by omega, e2, et⟩
                        | true =>
                          dsimp only at e2
                          cases hb2 : mFz me L4 with
                          | none => rw [hb2] at e2; cases e2
                          | some z =>
                            obtain ⟨re, L5⟩ := z
                            rw [hb2] at e2
                            cases re with
                            | ex x => cases e2
                            | ok ev =>
                              dsimp only at e2
                              split at e2
                              · rename_i hcl
                                show (fun σ H Q => ∃ B', tZ T B' W0 (mFz me) σ H Q) σ2 H5 _
                                refine ⟨_, L4, g5, .ok ev, L5, hb2, rp5, fun g6 H6 ge6 rp6 yv ry => ?_⟩
                                obtain ⟨q1, _⟩ := rp6.ext (Da, xs) List.mem_cons_self
                                cases hr : lcN s vs tm mc me n (i + 1) { L5 with l := wipeS vs L5.l } with
                                | none => rw [hr] at e2; cases e2
                                | some z =>
                                  obtain ⟨r6, L6⟩ := z
                                  rw [hr] at e2
                                  cases r6 with
                                  | ex x => cases e2
                                  | ok es' =>
                                    cases e2
                                    have z := (rp6.wipe vs)
                                    rw [wipe_chg hch hs] at z
                                    have ll := ra.length
                                    refine ⟨xs, q1, by rw [← ll]; exact Nat.lt_of_lt_of_le (Nat.lt_of_le_of_lt hl hlt) (big_le hc1), g6, _, acc ++ [ev], xs ++ [yv], es', ((ge2.trans ge3).trans ge5).trans ge6, z.bump hx, (Reps.mono ((ge3.trans ge5).trans ge6) _ _ ra).append (.one (ry.rep hcl)), by simp; omega, hr, by rw [List.append_assoc]; exact et⟩
                              · cases e2
              · rw [if_neg hok] at e2; cases e2
            · have ei : i = s.len := by omega
              subst ei
              rw [Nat.sub_self] at e2
              unfold lcN at e2
              by_cases hok : s.ok Lb = true
              · rw [if_pos hok] at e2
                cases e2
                refine .inl ⟨wok.stop _ g2 (wipe σ vs) H' _ ge2 rp2 sl hok, ?_⟩
                have z := (rp2.hide hx).rest rp1 ge2 (fun i m ds q => by
                  have hh := List.all_eq_true.mp hc2 i m
                  rw [q] at hh
                  cases hh)
                rw [List.append_nil] at et
                subst et
                have fin := kk g2 _ (ge1.trans ge2) z Da xs (if_pos rfl) ra
                have eH : upd (fun a => if a = Da then none else H' a) Da (.lst xs) = H' := by
                  obtain ⟨q1, _⟩ := rp2.ext (Da, xs) List.mem_cons_self
                  funext bb
                  unfold upd
                  split
                  · rename_i h; rw [h]; exact q1.symm
                  · rename_i h; exact if_neg h
                rw [eH] at fin
                exact fin
              · rw [if_neg hok] at e2; cases e2
      · cases e
theorem ptE {e : Expr} (h : ∀ B', PT X e (tT T B' W mc)) : PT X e (fun σ H Q => ∃ B', tT T B' W mc σ H Q) := ⟨fun pins s σ H Q I ⟨B', z⟩ => (h B').run pins s σ H Q I z⟩
theorem peE {e : Expr} (h : ∀ B', PE X e (tE T B' W me)) : PE X e (fun σ H Q => ∃ B', tZ T B' W (mFz me) σ H Q) := ⟨fun pins s σ H Q I ⟨B', z⟩ => (x_z (h B')).run pins s σ H Q I z⟩
def mYes : M Bool := fun L => some (.ok true, L)
theorem ptsN : PTs X [] (fun σ H Q => ∃ B', tT T B' W mYes σ H Q) := ⟨fun pins s σ H Q I ⟨B', Lc, g, r, L', e, rp, k⟩ => by
  cases e
  exact pts_nil.run pins s σ H Q I (k g H (Ge.refl _) rp true rfl)⟩
theorem ptsC {e : Expr} (h : ∀ B', PT X e (tT T B' W mc)) : PTs X [e] (fun σ H Q => ∃ B', tT T B' W mc σ H Q) := pts_one (ptE h)
/-- [elt for target in iter if ..] -/
theorem f_lc {elt iter : Expr} {ifs : List Expr} {scope : Scope} {own : List (Str × Nat)} {is : List Nat} {mi : M Src} {t : TG} {tm : Tgt} (hc : X.calm = true) (hN : X.N.Nodup) (hi : PI X tg iter (tI T B W mi)) (ok : BlkOk X.N X.env.scope scope own)
    (hg : ∀ (s : Shared) (H : Hp) (C : Addr) (cl : List (Str × Addr)) (fp : List Addr), PG (X.blk s H scope (compEnvC scope cl C X.env) fp) tg t) (ht : TgS T is t tm)
    (hif : ∀ (s : Shared) (H : Hp) (C : Addr) (cl : List (Str × Addr)) (fp : List Addr), PTs (X.blk s H scope (compEnvC scope cl C X.env) fp) ifs (fun σ H Q => ∃ B', tT T B' W0 mc σ H Q))
    (he : ∀ (s : Shared) (H : Hp) (C : Addr) (cl : List (Str × Addr)) (fp : List Addr) (B' : Ent), PE (X.blk s H scope (compEnvC scope cl C X.env) fp) elt (tE T B' W0 me))
    (hsub : ∀ i ∈ is, i ∈ own.map (·.2) := by decide) (hs : ∀ x, foldedSetIterable iter X.env x = pure x := by intro _; rfl) :
    PE X (.ListComp elt [⟨tg, iter, ifs, 0⟩] scope pos) (tF T B W (nLc (own.map (·.2)) mi tm mc me)) :=
  peI (pe_lc hc hN hi ok hg hif (fun s H C cl fp => peE (he s H C cl fp)) hs) fun _ _ _ h => lc_main ht hsub h
/-- x = [..] on one line -/
theorem s_ownLc (i : Nat) {y : Str} {py spos : Pos} {elt iter : Expr} {ifs : List Expr} {scope : Scope} {own : List (Str × Nat)} {is : List Nat} {mi : M Src} {t : TG} {tm : Tgt} (hc : X.calm = true) (hN : X.N.Nodup) (hi : PI X tg iter (tI T B W mi)) (ok : BlkOk X.N X.env.scope scope own)
    (hg : ∀ (s : Shared) (H : Hp) (C : Addr) (cl : List (Str × Addr)) (fp : List Addr), PG (X.blk s H scope (compEnvC scope cl C X.env) fp) tg t) (ht : TgS T is t tm)
    (hif : ∀ (s : Shared) (H : Hp) (C : Addr) (cl : List (Str × Addr)) (fp : List Addr), PTs (X.blk s H scope (compEnvC scope cl C X.env) fp) ifs (fun σ H Q => ∃ B', tT T B' W0 mc σ H Q))
    (he : ∀ (s : Shared) (H : Hp) (C : Addr) (cl : List (Str × Addr)) (fp : List Addr) (B' : Ent), PE (X.blk s H scope (compEnvC scope cl C X.env) fp) elt (tE T B' W0 me))
    (hy : X.N[i]? = some y := by rfl) (hyl : X.env.scope.names.lookup y = some .local := by rfl)
    (hsw : swapsWith (.ListComp elt [⟨tg, iter, ifs, 0⟩] scope pos) (some (.Name y py)) spos.line X.env = pure true := by exact sw_true rfl rfl rfl (by decide +kernel))
    (hsub : ∀ i ∈ is, i ∈ own.map (·.2) := by decide) (hs : ∀ x, foldedSetIterable iter X.env x = pure x := by intro _; rfl) :
    PS X (.Assign [.Name y py] (.ListComp elt [⟨tg, iter, ifs, 0⟩] scope pos) spos) (tS T B W (mOwn i (nLc (own.map (·.2)) mi tm mc me))) :=
  psI (ps_setLc hc hN hy hyl hsw hi ok hg hif (fun s H C cl fp => peE (he s H C cl fp)) hs) fun D σ H ⟨Lc, g, k⟩ => lc_main ht hsub (own_core (D := D) k)
end
end MP
set_option Elab.async false
set_option linter.all false
set_option maxRecDepth 100000
set_option maxHeartbeats 4000000
/-! MP: list methods, stores by place, dicts. -/
namespace MP
open PySem L2 PySem.Spec PyProof.Rows

/-- a list that may change -/
def derefM (L : Lo) : D → Option (List D)
  | .ref n => (match L.s[n]? with | some (.lst ds) => some ds | _ => Option.none)
  | .slot i => (match L.l[i]? with | some (.own ds) => some ds | _ => Option.none)
  | _ => Option.none
def mutD (L : Lo) (o : D) (ds : List D) : Lo := match o with
  | .ref n => { L with s := L.s.set n (.lst ds) }
  | .slot i => { L with l := L.l.set i (.own ds) }
  | _ => L
section
variable {X : Cx} {T : Tb X.K} {B : Ent} {W : WX} {a b c : Expr} {ma mb mc : M MP.D} {pos pos' apos cpos : Pos} {es : List Expr} {ms : M (List MP.D)} {m1 m2 : M Flow} {D : Ends} {nc : M Bool}
theorem mut_ok {g : G} {σ : L2.St} {H : Hp} {Lc : Lo} {o : MP.D} {ds : List MP.D} {x : V} (rp : Rp T B g σ H Lc) (ro : RepS T g σ o x) (h : derefM Lc o = some ds) :
    ∃ p xs, x = .ref p ∧ H p = some (.lst xs) ∧ Reps X.K g ds xs ∧ ∀ es ys, Reps X.K g es ys → Rp T B g σ (upd H p (.lst ys)) (mutD Lc o es) := by
  cases o with
  | ref n =>
    obtain ⟨p, rfl, hp⟩ := refOf ro
    simp only [derefM] at h
    split at h
    · rename_i ds' hc
      cases h
      obtain ⟨xs, e1, e2⟩ := rp.rs.at_ _ _ _ hp hc
      exact ⟨p, xs, rfl, e1, e2, fun es ys r => rp.setCell hp ⟨ys, upd_same, r⟩⟩
    · cases h
  | slot i =>
    obtain ⟨hs, p, rfl⟩ := ro
    simp only [derefM] at h
    split at h
    · rename_i ds' hc
      cases h
      obtain ⟨q, xs, e1, e2, _, _, _, e6⟩ := rp.own _ _ hc
      rw [hs] at e1
      cases e1
      exact ⟨p, xs, rfl, e2, e6, fun es ys r => rp.setOwn hc hs r⟩
    · cases h
  | _ => cases h
def mtAny (X : Cx) (id : String) : V → List V → Hp → VK → Prop := fun x vs H Q => ∃ r, MtR X id r ∧ r x vs H Q
theorem mtAny_ok {X : Cx} {nm : String} : MtR X nm (mtAny X nm) := fun pins s σ H x xs v us Q I rx rs ⟨r, h, q⟩ => h pins s σ H x xs v us Q I rx rs q
/-- a method that may change its list -/
def LmS (X : Cx) (id : String) (f : List MP.D → List MP.D → Option (MP.D × List MP.D)) : Prop := ∀ (g : G) (H : Hp) (p : Addr) (xs vs : List V) (ds as : List MP.D) (d : MP.D) (es : List MP.D) (Q : VK), f ds as = some (d, es) → H p = some (.lst xs) → Reps X.K g ds xs → Reps X.K g as vs →
  (∀ v ys, Rep X.K g d v → Reps X.K g es ys → Q v (upd H p (.lst ys))) → mtAny X id (.ref p) vs H Q
def mLm (f : List MP.D → List MP.D → Option (MP.D × List MP.D)) (mo : M MP.D) (ms : M (List MP.D)) : M MP.D := M.bind mo fun o => fun L => if (derefM L o).isSome = true then M.bind ms (fun as L => match derefM L o with
  | some ds => if as.any isClo = false then (match f ds as with
    | some (d, es) => some (.ok d, mutD L o es)
    | _ => Option.none) else Option.none
  | _ => Option.none) L else Option.none
theorem lm_core {nm : String} {f : List MP.D → List MP.D → Option (MP.D × List MP.D)} (hf : LmS X nm f) {g : G} {σ : L2.St} {H : Hp} {Lc : Lo} {o : MP.D} {x : V} {Q : VK} (ro : RepS T g σ o x) (hs : (derefM Lc o).isSome = true)
    (k : Kt T B W (RepS T) (M.bind ms (fun as L => match derefM L o with
  | some ds => if as.any isClo = false then (match f ds as with
    | some (d, es) => some (.ok d, mutD L o es)
    | _ => Option.none) else Option.none
  | _ => Option.none)) Lc g σ H Q) : tyV X.K "list" x H ∧ tA T B W ms σ H fun vs H2 => mtAny X nm x vs H2 Q := by
  obtain ⟨_, _, _, rp0, _⟩ := id k
  refine ⟨?_, Lc, g, (Kt.bind (R1 := RA T) k).mono fun vs H1 ⟨g1, L1, as, ge1, ra, k1⟩ => ?_⟩
  · obtain ⟨ds, hd⟩ := Option.isSome_iff_exists.mp hs
    obtain ⟨p, xs, rfl, h1, _⟩ := mut_ok rp0 ro hd
    exact .inl ⟨rfl, xs, SqL.of h1⟩
  · obtain ⟨r, L', e, rp, kk⟩ := id k1
    dsimp only at e
    cases hd : derefM L1 o with
    | none => rw [hd] at e; cases e
    | some ds =>
      rw [hd] at e
      dsimp only at e
      split at e
      · rename_i hc
        cases hff : f ds as with
        | none => rw [hff] at e; cases e
        | some z =>
          obtain ⟨d, es⟩ := z
          rw [hff] at e
          cases e
          obtain ⟨p, xs, rfl, h1, h2, h3⟩ := mut_ok rp (ro.mono ge1) hd
          exact hf g1 H1 p xs vs ds as d es Q hff h1 h2 (ra.reps hc) fun v ys rv ry => kk g1 _ (Ge.refl _) (h3 es ys ry) v (RepS.ofR rv)
      · cases e
theorem x_lm {nm : String} {name : Str} {f : List MP.D → List MP.D → Option (MP.D × List MP.D)} (hf : LmS X nm f) (slot : PySem.Slot "list" name nm) (hty : typeOf (.builtin nm) = pure (.type "method_descriptor")) {o e : Expr} {mo : M MP.D} (ho : PE X o (tE T B W mo)) (ha : PA X (e :: es) (tA T B W ms))
    (hbase : attributeBase o name X.env (eval o X.env) = eval o X.env := by rfl)
    (hfew : ((backTo cpos (starEach (e :: es) X.env)).all (fun x => !x.1) && (backToKw cpos (keywordEach [] X.env)).all (fun x => x.1.isSome)
      && decide ((e :: es).length + ([] : List Keyword).length + (if ([] : List Keyword).isEmpty then 0 else 1) < 30)) = true := by rfl)
    (hline : (apos.endLine == cpos.line) = true := by rfl) (hs : starEach (e :: es) X.env = (false, eval e X.env) :: starEach es X.env := by rfl) (hplain : (backTo cpos (starEach es X.env)).any (·.1) = false := by rfl) :
    PE X (.Call (.Attribute o name apos) (e :: es) [] cpos) (tE T B W (mLm f mo ms)) :=
  peI (pe_bm PySem.F.plainAttrs_list slot hty mtAny_ok ho ha hbase hfew hline hs hplain) fun σ H Q ⟨Lc, g, k⟩ => by
    refine (Kt.bind (R1 := RepS T) k).tE fun x H1 ⟨g1, L1, ov, ge1, ro, k1⟩ => ?_
    obtain ⟨r, L', e, rp, kk⟩ := id k1
    dsimp only at e
    split at e
    · rename_i hh
      exact lm_core hf ro hh ⟨r, L', e, rp, kk⟩
    · cases e
theorem x_lm0 {nm : String} {name : Str} {f : List MP.D → List MP.D → Option (MP.D × List MP.D)} (hf : LmS X nm f) (slot : PySem.Slot "list" name nm) (hty : typeOf (.builtin nm) = pure (.type "method_descriptor")) {o : Expr} {mo : M MP.D} (ho : PE X o (tE T B W mo))
    (hbase : attributeBase o name X.env (eval o X.env) = eval o X.env := by rfl) (hline : (apos.endLine == cpos.line) = true := by rfl) :
    PE X (.Call (.Attribute o name apos) [] [] cpos) (tE T B W (mLm f mo (M.pure []))) :=
  peI (pe_bm0 PySem.F.plainAttrs_list slot hty mtAny_ok ho hbase hline) fun σ H Q ⟨Lc, g, k⟩ => by
    refine (Kt.bind (R1 := RepS T) k).tE fun x H1 ⟨g1, L1, ov, ge1, ro, k1⟩ => ?_
    obtain ⟨r, L', e, rp, kk⟩ := id k1
    dsimp only at e
    split at e
    · rename_i hh
      obtain ⟨q1, q2⟩ := lm_core (T := T) (B := B) (W := W) hf ro hh ⟨r, L', e, rp, kk⟩
      obtain ⟨Lc2, g2, r2, L2', e2, rp2, kk2⟩ := q2
      cases e2
      exact ⟨q1, kk2 g2 H1 (Ge.refl _) rp2 [] .nil⟩
    · cases e
def lAppend (ds as : List MP.D) : Option (MP.D × List MP.D) := match as with
  | [d] => if ds.length < big then some (.non, ds ++ [d]) else Option.none
  | _ => Option.none
theorem lm_append : LmS X "list.append" lAppend := fun g H p xs vs ds as d es Q e hp r1 r2 k => by
  unfold lAppend at e
  split at e
  · split at e
    · rename_i hh
      cases e
      cases r2 with | cons r2 r3 =>
      cases r3
      exact ⟨_, mt_append, p, xs, _, rfl, rfl, hp, by rw [← r1.length]; exact big_lt hh, k _ _ .non (r1.append (.one r2))⟩
    · cases e
  · cases e
def lPop (ds as : List MP.D) : Option (MP.D × List MP.D) := match as with
  | [] => (ds[ds.length - 1]?).map fun d => (d, ds.dropLast)
  | [.int i] => if -(2 ^ 63) ≤ i ∧ i < 2 ^ 63 then (ixN ds.length i).bind fun k => (ds[k]?).map fun d => (d, ds.eraseIdx k) else Option.none
  | _ => Option.none
theorem Reps.dropLast {g : G} {ds : List MP.D} {vs : List V} (r : Reps X.K g ds vs) : Reps X.K g ds.dropLast vs.dropLast := by
  rw [List.dropLast_eq_take, List.dropLast_eq_take, r.length]
  exact r.take _
theorem lm_pop0 : LmS X "list.pop" (fun ds as => match as with | [] => lPop ds [] | _ => Option.none) := fun g H p xs vs ds as d es Q e hp r1 r2 k => by
  dsimp only at e
  split at e
  · cases r2
    unfold lPop at e
    cases hd : ds[ds.length - 1]? with
    | none => rw [hd] at e; cases e
    | some d' =>
      rw [hd] at e
      cases e
      obtain ⟨v, h1, h2⟩ := r1.get hd
      rw [r1.length] at h1
      exact ⟨_, mt_pop, p, xs, v, rfl, rfl, hp, h1, k _ _ h2 r1.dropLast⟩
  · cases e
theorem lm_pop : LmS X "list.pop" (fun ds as => match as with | [i] => lPop ds [i] | _ => Option.none) := fun g H p xs vs ds as d es Q e hp r1 r2 k => by
  dsimp only at e
  split at e
  · rename_i i
    cases r2 with | cons r2 r3 =>
    cases r3
    cases i with
    | int i =>
      have e : (if -(2 ^ 63) ≤ i ∧ i < 2 ^ 63 then (ixN ds.length i).bind fun k => (ds[k]?).map fun d => (d, ds.eraseIdx k) else Option.none) = some (d, es) := e
      split at e
      · rename_i hh
        cases hi : ixN ds.length i with
        | none => rw [hi] at e; cases e
        | some j =>
          rw [hi] at e
          cases hd : ds[j]? with
          | none => simp [hd] at e
          | some d' =>
            have e : (ds[j]?).map (fun d => (d, ds.eraseIdx j)) = some (d, es) := e
            rw [hd] at e
            cases e
            cases r2
            obtain ⟨v, h1, h2⟩ := r1.get hd
            have hi' := (ixN_seq hi).1
            rw [r1.length] at hi'
            exact ⟨_, mt_popAt, p, xs, i, j, v, rfl, rfl, hp, hh.1, hh.2, hi', h1, k _ _ h2 (r1.eraseIdx j)⟩
      · cases e
    | _ => cases e
  · cases e
def lClear (ds as : List MP.D) : Option (MP.D × List MP.D) := match as with
  | [] => some (.non, [])
  | _ => Option.none
theorem lm_clear : LmS X "list.clear" lClear := fun g H p xs vs ds as d es Q e hp r1 r2 k => by
  unfold lClear at e
  split at e
  · cases e
    cases r2
    exact ⟨_, mt_clear, p, xs, rfl, rfl, hp, k _ _ .non .nil⟩
  · cases e
def lInsert (ds as : List MP.D) : Option (MP.D × List MP.D) := match as with
  | [.int i, d] => if 0 ≤ i ∧ i < 2 ^ 63 ∧ ds.length < big then some (.non, ds.take i.toNat ++ [d] ++ ds.drop i.toNat) else Option.none
  | _ => Option.none
theorem lm_insert : LmS X "list.insert" lInsert := fun g H p xs vs ds as d es Q e hp r1 r2 k => by
  unfold lInsert at e
  split at e
  · split at e
    · rename_i hh
      cases e
      cases r2 with | cons r2 r3 =>
      cases r3 with | cons r3 r4 =>
      cases r4
      cases r2
      exact ⟨_, mt_insert, p, xs, _, _, rfl, rfl, hp, by rw [← r1.length]; exact big_lt hh.2.2, hh.1, hh.2.1, k _ _ .non (((r1.take _).append (.one r3)).append (r1.drop _))⟩
    · cases e
  · cases e
/-! #### xs[i] = v -/
def mSetIx (mo mi mv : M MP.D) : M Flow := M.bind (mFz mv) fun d => M.bind mo fun o => M.bind mi fun i => fun L => match i, derefM L o with
  | .int k, some ds => if isClo d = false then (match ixN ds.length k with
    | some j => some (.ok .next, mutD L o (ds.set j d))
    | _ => Option.none) else Option.none
  | _, _ => Option.none
theorem s_setix {o i v : Expr} {mo mi mv : M MP.D} (ho : PE X o (tE T B W mo)) (hi : PE X i (tE T B W mi)) (hv : PE X v (tE T B W mv)) (hg : ∀ tb ti, PE X o tb → PE X i ti → PG X (.Subscript o i pos') (gSub tb ti rSetL)) (hs : swapsWithSole [.Subscript o i pos'] v pos.line X.env = pure false := by rfl) (hw : swappedStores [.Subscript o i pos'] v X.env = pure none := by rfl)
    (h1 : (assignEach [.Subscript o i pos'] X.env).map (·.2) = [assign (.Subscript o i pos') X.env] := by rfl) : PS X (.Assign [.Subscript o i pos'] v pos) (tS T B W (mSetIx mo mi mv)) :=
  psI (ps_asg hv (hg _ _ ho hi) hs hw h1) fun D σ H ⟨Lc, g, k⟩ => by
    obtain ⟨Lc', g', k'⟩ := FzS (D := D) k
    refine k'.tE fun y H1 ⟨g1, L1, d, ge1, rd, k1⟩ => ?_
    refine (KS.bind (R1 := RepS T) (D := D) k1).tE fun x H2 ⟨g2, L2', ov, ge2, ro, k2⟩ => ?_
    refine (KS.bind (R1 := RepS T) (D := D) k2).tE fun z H3 ⟨g3, L3, iv, ge3, ri, k3⟩ => ?_
    have rp := k3.rp
    obtain ⟨r, L', e, _, kk⟩ := id k3
    dsimp only at e
    cases iv with
    | int q =>
      cases hd : derefM L3 ov with
      | none => rw [hd] at e; cases e
      | some ds =>
        rw [hd] at e
        dsimp only at e
        split at e
        · rename_i hc
          cases hj : ixN ds.length q with
          | none => rw [hj] at e; cases e
          | some j =>
            rw [hj] at e
            cases e
            obtain ⟨p, xs, rfl, h1, h2, h3⟩ := mut_ok rp (ro.mono ge3) hd
            rw [repI ri]
            have rd' := Rep.mono (ge2.trans ge3) _ _ (rd.rep hc)
            exact ⟨p, xs, q, j, rfl, rfl, h1, by rw [← h2.length]; exact hj, kk g3 σ _ (Ge.refl _) (h3 _ _ (h2.set rd' j))⟩
        · cases e
    | _ => cases e
/-! #### methods that read a list -/
def LrS (X : Cx) (id : String) (f : List MP.D → List MP.D → Option MP.D) : Prop := ∀ (g : G) (H : Hp) (p : Addr) (xs vs : List V) (ds as : List MP.D) (d : MP.D) (Q : VK), f ds as = some d → SqL X.K H p xs → Reps X.K g ds xs → Reps X.K g as vs →
  (∀ v, Rep X.K g d v → Q v H) → mtAny X id (.ref p) vs H Q
def mLr (f : List MP.D → List MP.D → Option MP.D) (mo : M MP.D) (ms : M (List MP.D)) : M MP.D := M.bind mo fun o => fun L => if (derefR L o).isSome = true then M.bind ms (fun as L => match derefR L o with
  | some ds => if as.any isClo = false then (match f ds as with
    | some d => some (.ok d, L)
    | _ => Option.none) else Option.none
  | _ => Option.none) L else Option.none
theorem x_lr {nm : String} {name : Str} {f : List MP.D → List MP.D → Option MP.D} (hf : LrS X nm f) (slot : PySem.Slot "list" name nm) (hty : typeOf (.builtin nm) = pure (.type "method_descriptor")) {o e : Expr} {mo : M MP.D} (ho : PE X o (tE T B W mo)) (ha : PA X (e :: es) (tA T B W ms))
    (hbase : attributeBase o name X.env (eval o X.env) = eval o X.env := by rfl)
    (hfew : ((backTo cpos (starEach (e :: es) X.env)).all (fun x => !x.1) && (backToKw cpos (keywordEach [] X.env)).all (fun x => x.1.isSome)
      && decide ((e :: es).length + ([] : List Keyword).length + (if ([] : List Keyword).isEmpty then 0 else 1) < 30)) = true := by rfl)
    (hline : (apos.endLine == cpos.line) = true := by rfl) (hs : starEach (e :: es) X.env = (false, eval e X.env) :: starEach es X.env := by rfl) (hplain : (backTo cpos (starEach es X.env)).any (·.1) = false := by rfl) :
    PE X (.Call (.Attribute o name apos) (e :: es) [] cpos) (tE T B W (mLr f mo ms)) :=
  peI (pe_bm PySem.F.plainAttrs_list slot hty mtAny_ok ho ha hbase hfew hline hs hplain) fun σ H Q ⟨Lc, g, k⟩ => by
    refine (Kt.bind (R1 := RepS T) k).tE fun x H1 ⟨g1, L1, ov, ge1, ro, k1⟩ => ?_
    obtain ⟨r, L', e, rp, kk⟩ := id k1
    dsimp only at e
    split at e
    · rename_i hh
      have k1' : Kt T B W (RepS T) (M.bind ms (fun as L => match derefR L ov with | some ds => if as.any isClo = false then (match f ds as with | some d => some (.ok d, L) | _ => Option.none) else Option.none | _ => Option.none)) L1 g1 σ H1 Q := ⟨r, L', e, rp, kk⟩
      refine ⟨?_, L1, g1, (Kt.bind (R1 := RA T) k1').mono fun vs H2 ⟨g2, L2', as, ge2, ra, k2⟩ => ?_⟩
      · obtain ⟨ds, hd⟩ := Option.isSome_iff_exists.mp hh
        obtain ⟨p, xs, rfl, h1, _⟩ := derefRS rp hd ro
        exact .inl ⟨rfl, xs, h1⟩
      · obtain ⟨r2, L3, e2, rp2, kk2⟩ := id k2
        dsimp only at e2
        cases hd : derefR L2' ov with
        | none => rw [hd] at e2; cases e2
        | some ds =>
          rw [hd] at e2
          dsimp only at e2
          split at e2
          · rename_i hc
            cases hff : f ds as with
            | none => rw [hff] at e2; cases e2
            | some d =>
              rw [hff] at e2
              cases e2
              obtain ⟨p, xs, rfl, h1, h2⟩ := derefRS rp2 hd (ro.mono ge2)
              exact hf g2 H2 p xs vs ds as d Q hff h1 h2 (ra.reps hc) fun v rv => kk2 g2 H2 (Ge.refl _) rp2 v (RepS.ofR rv)
          · cases e2
    · cases e
/-- the first place -/
def findIx (d : MP.D) : List MP.D → Option Nat
  | [] => Option.none
  | e :: es => if eqD e d = true then some 0 else (findIx d es).map (· + 1)
def lIndex (ds as : List MP.D) : Option MP.D := match as with
  | [d] => if flatD d = true ∧ ds.all flatD = true then (findIx d ds).map fun (n : Nat) => .int (n : Nat) else Option.none
  | _ => Option.none
theorem findIx_ok {g : G} {d : MP.D} {v : V} (h : ∀ e w, flatD e = true → Rep X.K g e w → eqV w v = eqD e d) : ∀ {ds : List MP.D} {xs : List V} {n : Nat}, ds.all flatD = true → Reps X.K g ds xs → findIx d ds = some n → ∃ z, xs[n]? = some z ∧ eqV z v = true ∧ ∀ (m : Nat) z', m < n → xs[m]? = some z' → eqV z' v = false
  | [], _, _, _, _, e => by cases e
  | e :: es, _, n, hf, r, h2 => by
    cases r with
    | cons r1 r2 =>
      rw [List.all_cons, Bool.and_eq_true] at hf
      unfold findIx at h2
      split at h2
      · rename_i q
        cases h2
        exact ⟨_, rfl, by rw [h e _ hf.1 r1]; exact q, fun m z' hm _ => by omega⟩
      · rename_i q
        cases hff : findIx d es with
        | none => rw [hff] at h2; cases h2
        | some k =>
          rw [hff] at h2
          cases h2
          obtain ⟨z, h3, h4, h5⟩ := findIx_ok h hf.2 r2 hff
          refine ⟨z, by simpa using h3, h4, fun m z' hm hz => ?_⟩
          cases m with
          | zero =>
            cases hz
            rw [h e _ hf.1 r1]
            simpa using q
          | succ m => exact h5 m z' (by have hm : m + 1 < k + 1 := hm; omega) (by simpa using hz)
theorem lr_index (T : Tb X.K) : LrS X "list.index" lIndex := fun g H p xs vs ds as d Q e hp r1 r2 k => by
  unfold lIndex at e
  split at e
  · rename_i d'
    split at e
    · rename_i hh
      cases hff : findIx d' ds with
      | none => rw [hff] at e; cases e
      | some n =>
        rw [hff] at e
        cases e
        cases r2 with | cons r2 r3 =>
        cases r3
        obtain ⟨f1, f2⟩ := flat_rep (T := T) (σ := []) hh.1 (RepS.ofR r2)
        obtain ⟨z, h3, h4, h5⟩ := findIx_ok f2 hh.2 r1 hff
        obtain ⟨i1, i2⟩ := any_rep T f2 hh.2 r1
        exact ⟨_, mt_index, p, xs, _, n, z, rfl, rfl, hp, f1, i2, h3, h4, h5, k _ (.int _)⟩
    · cases e
  · cases e
end
end MP
set_option Elab.async false
set_option linter.all false
set_option maxRecDepth 100000
set_option maxHeartbeats 4000000
/-! MP: defs and calls. -/
namespace MP
open PySem L2 PySem.Spec PyProof.Rows

section
variable {K : PySem.W.Frag} (T : Tb K)
/-- behind a call -/
structure Aft (g : G) (H : Hp) (S' : List Cell) (g' : G) (H' : Hp) : Prop where
  ge : Ge g g'
  rs : RS T g' H' S'
  pres : ∀ a o, H a = some o → (∀ ps, o ≠ .tbl ps) → a ∉ g.ι → H' a = some o
  new : ∀ a ∈ g'.ι, a ∈ g.ι ∨ H a = none
  nfz : ∀ a o, H a = some o → g.F a = none → g'.F a = none
  pt : ∀ a ps, H a = some (.tbl ps) → ∃ ps', H' a = some (.tbl ps')
/-- what a def promises, by its mirror -/
def spOf (n : Nat) (f : Fn) : Sp := fun vs H Q E => ∃ g S ds r S', f ds S = some (r, S') ∧ RS T g H S ∧ RepAs T g ds vs ∧ vs.length = n ∧ ∀ g' H', Aft T g H S' g' H' → match r with
  | .ok d => ∀ v, RepA T g' d v → Q v H'
  | .ex e => ∀ cls dd, RepX T g' H' e cls dd → E cls dd H'
end
/-- a def: so many names, its body -/
def mkFn (n nl : Nat) (body : M Flow) : Fn := fun ds S => if ds.length = n then (match body ⟨ds.map .val ++ List.replicate (nl - n) .none, S⟩ with
  | some (.ok (.ret d), L) => some (.ok d, L.s)
  | some (.ok .next, L) => some (.ok .non, L.s)
  | some (.ex e, L) => some (.ex e, L.s)
  | _ => Option.none) else Option.none
section
variable {K : PySem.W.Frag} {T : Tb K} {B : Ent} {g g' : G} {σ : L2.St} {H H' : Hp} {Lc : Lo} {S' : List Cell}
theorem Rp.after (r : Rp T B g σ H Lc) (a : Aft T g H S' g' H') : Rp T B g' σ H' { Lc with s := S' } := by
  have out : ∀ p o, H p = some o → p ∉ g.ι → p ∉ g'.ι := fun p o e n m => by
    rcases a.new p m with h | h
    · exact n h
    · rw [e] at h; cases h
  refine ⟨a.rs, r.ge.trans a.ge, r.bi, fun p o e nt n => ?_, fun p m => ?_, r.len, fun i d e => ?_, fun i ds e => ?_, r.one, fun q m => ?_, fun p o e f => ?_, fun p ps e => let ⟨ps', q⟩ := r.pt p ps e; a.pt p ps' q⟩
  · refine a.pres p o (r.pres p o e nt n) nt fun m => ?_
    rcases r.new p m with h | h
    · exact n h
    · rw [e] at h; cases h
  · rcases a.new p m with h | h
    · exact r.new p h
    · exact .inr (r.notB h)
  · obtain ⟨v, h1, h2⟩ := r.val i d e
    exact ⟨v, h1, h2.mono a.ge⟩
  · obtain ⟨p, xs, h1, h2, h3, h4, h5, h6⟩ := r.own i ds e
    exact ⟨p, xs, h1, a.pres _ _ h2 (fun _ z => by cases z) h4, a.nfz _ _ h2 h3, out _ _ h2 h4, h5, Reps.mono a.ge _ _ h6⟩
  · obtain ⟨h1, h2, h3, h4, h5⟩ := r.ext q m
    exact ⟨a.pres _ _ h1 (fun _ z => by cases z) h3, a.nfz _ _ h1 h2, out _ _ h1 h3, h4, h5⟩
  · obtain ⟨u, hu⟩ := r.thereB e
    exact a.nfz p u hu (r.nfz p o e f)
/-- the entry of a def -/
theorem Rp.enter {S : List Cell} {ds : List D} {vs : List V} {N : List Str} (rs : RS T g H S) (ra : RepAs T g ds vs) (hn : vs.length ≤ N.length) : Rp T ⟨g, H, []⟩ g (L2.start N vs) H ⟨ds.map .val ++ List.replicate (N.length - ds.length) .none, S⟩ := by
  have hl := ra.length
  have nown : ∀ (i : Nat) es, (ds.map Slot.val ++ List.replicate (N.length - ds.length) Slot.none)[i]? ≠ some (.own es) := fun i es e => by
    by_cases hi : i < ds.length
    · rw [List.getElem?_append_left (by simpa using hi), List.getElem?_map] at e
      cases q : ds[i]? with
      | none => rw [q] at e; cases e
      | some d => rw [q] at e; cases e
    · rw [List.getElem?_append_right (by simpa using hi), List.getElem?_replicate] at e
      split at e <;> cases e
  refine ⟨rs, Ge.refl _, fun a m => rs.there m, fun a o e _ _ => e, fun a m => .inl m, ?_, fun i d e => ?_, fun i es e => absurd e (nown i es), fun i j es fs p _ e => absurd e (nown i es), fun q m => (by cases m), fun a o _ h => h, fun a ps e => ⟨ps, e⟩⟩
  · show (ds.map Slot.val ++ List.replicate (N.length - ds.length) Slot.none).length = (L2.start N vs).length
    unfold L2.start
    simp [hl]
  · have e : (ds.map Slot.val ++ List.replicate (N.length - ds.length) Slot.none)[i]? = some (.val d) := e
    by_cases hi : i < ds.length
    · rw [List.getElem?_append_left (by simpa using hi), List.getElem?_map] at e
      cases q : ds[i]? with
      | none => rw [q] at e; cases e
      | some d' =>
        rw [q] at e
        cases e
        obtain ⟨v, h1, h2⟩ := ra.get q
        refine ⟨v, ?_, h2⟩
        unfold L2.start
        rw [List.getElem?_append_left (by simpa [← hl] using hi), List.getElem?_map, h1] <;> rfl
    · rw [List.getElem?_append_right (by simpa using hi), List.getElem?_replicate] at e
      split at e <;> cases e
theorem Rp.leave {S' : List Cell} (r : Rp T ⟨g, H, []⟩ g' σ H' Lc) : Aft T g H Lc.s g' H' := ⟨r.ge, r.rs, r.pres, r.new, r.nfz, r.pt⟩
end
/-- what a body knows of its frame -/
structure FrX (X : Cx) (k : Nat) (W : WX) : Prop where
  tk : Takes X W
  room : Room k X.A
  po : PassesOwn (model X.prog X.w) X.A X.env X.xe
section
variable {P : Program} {w : World} {K : PySem.W.Frag} {mg : Str → Option Value} {base : Heap} {x qual : Str} {params : Arguments} {body : List Stmt} {scope : Scope} {dvs : List V} {kws : List (Str × V)} {f : Addr} {fd : FuncData} {T : Tb K}
/-- THE RULE for a def -/
theorem fn_ok {N ps : List Str} {k : Nat} {m : M Flow} (F : FunD K x qual params body scope dvs kws f fd) (S : FnScope N ps scope)
    (hb : ∀ (cdv : Value) (A : Around) (outer : List Env) (s : Shared) (H : Hp) (E : XK) (B : Ent), FrX (cxOf (L2.CX P w) P w K mg base N qual scope f cdv A outer s H E) k (fun cls d _ H => E cls d H) → PSs (cxOf (L2.CX P w) P w K mg base N qual scope f cdv A outer s H E) body (tS T B (fun cls d _ H => E cls d H) m)) :
    FnOk P w K mg base (L2.CX P w) (k + 1) f fd ps (spOf T ps.length (mkFn ps.length N.length m)) := by
  refine F.ok S (fun vs H Q E h => by obtain ⟨_, _, _, _, _, _, _, _, h, _⟩ := h; exact h) fun cdv A outer s H vs Q E hr h => ?_
  obtain ⟨g, S0, ds, r, S', e, rs, ra, hl, kk⟩ := h
  refine ⟨_, hb cdv A outer s H E ⟨g, H, []⟩ ⟨takes_of rfl rfl rfl rfl, hr, PassesOwn.leaving⟩, ?_⟩
  have hN : vs.length ≤ N.length := by
    have := congrArg List.length S.pre
    rw [List.length_take] at this
    omega
  have en := Rp.enter (N := N) rs ra hN
  unfold mkFn at e
  have hd : ds.length = ps.length := ra.length.trans hl
  rw [if_pos hd] at e
  rw [hd] at en
  cases hm : m ⟨ds.map .val ++ List.replicate (N.length - ps.length) .none, S0⟩ with
  | none => rw [hm] at e; cases e
  | some z =>
    obtain ⟨r1, L1⟩ := z
    rw [hm] at e
    refine ⟨_, g, r1, L1, hm, en, fun g' σ' H' ge rp => ?_⟩
    have lv := Rp.leave (S' := S') rp
    cases r1 with
    | ex x => cases e; exact kk g' H' lv
    | ok fl =>
      cases fl with
      | ret d => cases e; exact kk g' H' lv
      | next => cases e; exact kk g' H' lv .non (.inl .non)
      | brk => cases e
      | cnt => cases e
end
/-! ### calls -/
def mCall (f : Fn) (ms : M (List D)) : M D := M.bind ms fun ds => fun L => match f ds L.s with
  | some (r, S') => some (r, { L with s := S' })
  | _ => Option.none
/-- a mirror asks for so many arguments -/
def Ar (n : Nat) (f : Fn) : Prop := ∀ ds S z, f ds S = some z → ds.length = n
theorem ar_mk (n nl : Nat) (m : M Flow) : Ar n (mkFn n nl m) := fun ds S z e => by
  unfold mkFn at e
  split at e
  · assumption
  · cases e
/-- a function that a name stands for -/
structure GlF (X : Cx) (T : Tb X.K) (x : Str) (f : Fn) : Prop where
  ex : ∃ k fa fd ps, X.mg x = some (.ref fa) ∧ PySem.W.keepIn X.K (.ref fa) = true ∧ Binds X.K fd ps [] ∧ FnOk X.prog X.w X.K X.mg X.base (L2.CX X.prog X.w) k fa fd ps (spOf T ps.length f) ∧ Room k X.A ∧ Ar ps.length f
/-- a method of a class -/
structure MeF (X : Cx) (T : Tb X.K) (C : Addr) (m : Str) (f : Fn) : Prop where
  ex : ∃ k fa fd ps, Cls X.K C ∧ Meth X.K C m fa ∧ Binds X.K fd ps [] ∧ FnOk X.prog X.w X.K X.mg X.base (L2.CX X.prog X.w) k fa fd ps (spOf T ps.length f) ∧ Room k X.A ∧ Ar ps.length f
/-- a class that is made -/
structure MkF (X : Cx) (T : Tb X.K) (x : Str) (C : Addr) (f : Fn) : Prop where
  ex : ∃ k fa fd ps, X.mg x = some (.ref C) ∧ Mk X.K C fa ∧ Binds X.K fd ps [] ∧ FnOk X.prog X.w X.K X.mg X.base (L2.CX X.prog X.w) k fa fd ps (spOf T ps.length f) ∧ Room (k + 1) X.A ∧ Ar ps.length f
section
variable {X : Cx} {T : Tb X.K} {B : Ent} {W : WX} {a b c : Expr} {ma mb mc : M D} {pos pos' apos : Pos} {es : List Expr} {ms : M (List D)} {k : Nat}
theorem sp_core {f : Fn} {n : Nat} (har : Ar n f) {Lc : Lo} {g : G} {σ : L2.St} {H : Hp} {Q : VK} {ds : List D} {vs : List V} (k : Kt T B W (RepS T) (fun L => match f ds L.s with | some (r, S') => some (r, { L with s := S' }) | _ => Option.none) Lc g σ H Q) (ra : RepAs T g ds vs) : spOf T n f vs H Q (WE W σ) := by
  obtain ⟨rr, L', e, rp, kk⟩ := k
  dsimp only at e
  cases hf : f ds Lc.s with
  | none => rw [hf] at e; cases e
  | some z =>
    obtain ⟨rz, S'⟩ := z
    rw [hf] at e
    cases e
    refine ⟨g, Lc.s, ds, rr, S', hf, rp.rs, ra, ra.length.symm.trans (har _ _ _ hf), fun g' H' af => ?_⟩
    have z := kk g' H' af.ge (rp.after af)
    cases rr with
    | ok d => exact fun v rv => z v (RepS.of rv)
    | ex e => exact z
theorem x_call {x : Str} {f : Fn} {p : Pos} {e : Expr} (F : GlF X T x f) (tk : Takes X W) (ha : PA X (e :: es) (tA T B W ms)) (hg : Gl X x := by rfl) (hdb : (x == ("__debug__" : Str)) = false := by decide)
    (he : starEach (e :: es) X.env = (false, eval e X.env) :: starEach es X.env := by rfl) (hpl : (backTo pos (starEach es X.env)).any (·.1) = false := by rfl) : PE X (.Call (.Name x p) (e :: es) [] pos) (tE T B W (mCall f ms)) := by
  obtain ⟨k, fa, fd, ps, hm, hk, hb, F, hr, har⟩ := F.ex
  refine peI (pe_callS (E := WE W) F hr hg hm hk hb (passAt tk) ha hdb he hpl) fun σ H Q ⟨Lc, g, k⟩ => ?_
  exact ⟨Lc, g, (Kt.bind (R1 := RA T) k).mono fun vs H1 ⟨g1, L1, ds, ge1, ra, k1⟩ => sp_core har k1 ra⟩
theorem x_call0 {x : Str} {f : Fn} {p : Pos} (F : GlF X T x f) (tk : Takes X W) (hg : Gl X x := by rfl) (hdb : (x == ("__debug__" : Str)) = false := by decide) : PE X (.Call (.Name x p) [] [] pos) (tE T B W (mCall f (M.pure []))) := by
  obtain ⟨k, fa, fd, ps, hm, hk, hb, F, hr, har⟩ := F.ex
  refine ⟨fun pins s σ H Q I ⟨Lc, g, k⟩ => ?_⟩
  refine wpAny_Call_Name_kw (ld_glob I hg hm ?_ hdb)
  obtain ⟨r1, L1, e1, rp1, kk1⟩ := Kt.bind (R1 := RA T) k
  cases e1
  obtain ⟨g1, L2, ds, ge1, ra, k2⟩ := kk1 g H (Ge.refl _) rp1 [] .nil
  exact PySem.W.callWith_K0 I.kIn hk (run_fnS (us := []) F hr hb (passAt tk σ) I .nil (sp_core har k2 ra))
/-! ### methods -/
/-- which class the thing is of, and its method there -/
def mMethK (tab : List (Nat × Fn)) (ms : M (List D)) (o : D) : M D := fun L => match o with
  | .ref k => (match L.s[k]? with
    | some (.inst c _) => (match tab.lookup c with
      | some f => mCall (fun ds => f (.ref k :: ds)) ms L
      | _ => Option.none)
    | _ => Option.none)
  | _ => Option.none
def mMeth (tab : List (Nat × Fn)) (mo : M D) (ms : M (List D)) : M D := M.bind mo (mMethK tab ms)
def tMethD (X : Cx) (m : Str) (E : L2.St → XK) (ta : TE) (t : TA) : TE := fun σ H Q => ta σ H fun x H1 => ∃ a dx fs C k f fd ps sp, x = .ref a ∧ H1 a = some (.ins C dx fs) ∧ fs.lookup m = none ∧ Cls X.K C ∧ Meth X.K C m f ∧
  FnOk X.prog X.w X.K X.mg X.base (L2.CX X.prog X.w) k f fd ps sp ∧ Room k X.A ∧ Binds X.K fd ps [] ∧ t σ H1 fun vs H2 => sp (x :: vs) H2 Q (E σ)
theorem pe_methD {o e : Expr} {m : Str} {ta : TE} {t : TA} {pl : Sem Bool} (he : PE X o ta) (tk : Takes X W) (ha : PA X (e :: es) t)
    (hst : starEach (e :: es) X.env = (false, eval e X.env) :: starEach es X.env := by rfl) (hpl : (backTo pos (starEach es X.env)).any (·.1) = false := by rfl)
    (ht : eval (.Call (.Attribute o m apos) (e :: es) [] pos) X.env = (do
      let ov ← eval o X.env
      standAt apos.atName
      let (f, first) ← holding [ov] (getMethod ov m pl)
      callWith pos f first (backTo pos (starEach (e :: es) X.env)) (backToKw pos (keywordEach [] X.env))) := by rfl) :
    PE X (.Call (.Attribute o m apos) (e :: es) [] pos) (tMethD X m (WE W) ta t) := by
  refine ⟨fun pins s σ H Q I h => ?_⟩
  refine PySem.W.methodCall_KW (pl := pl) (thn (he.run pins s σ H _ I h) fun u s1 ⟨x, H1, I1, rx, a, dx, fs, C, k, f, fd, ps, sp, ex, ea, l, c, hm, F, hr, hb, q⟩ => ?_) ht
  subst ex
  obtain rfl : u = Value.ref a := rx
  refine getmeth_ok I1 ea c hm l ?_
  refine PySem.W.callWith_K (first := [.ref a]) (h₀ := X.base) I.ok.mod.kin hm.kp (thn (ha.run pos pins s1 σ H1 _ I1 q) fun us s2 ⟨vs, H2, I2, r, q2⟩ => ⟨I2.kIn, ?_⟩) hst hpl
  exact run_fnS (us := .ref a :: us) (vs := .ref a :: vs) F hr hb (passAt tk σ) I2 (.cons rfl r) q2
theorem pe_methD0 {o : Expr} {m : Str} {ta : TE} {pl : Sem Bool} (he : PE X o ta) (tk : Takes X W)
    (ht : eval (.Call (.Attribute o m apos) [] [] pos) X.env = (do
      let ov ← eval o X.env
      standAt apos.atName
      let (f, first) ← holding [ov] (getMethod ov m pl)
      callWith pos f first (backTo pos (starEach [] X.env)) (backToKw pos (keywordEach [] X.env))) := by rfl) :
    PE X (.Call (.Attribute o m apos) [] [] pos) (tMethD X m (WE W) ta tNil) := by
  refine ⟨fun pins s σ H Q I h => ?_⟩
  refine PySem.W.methodCall_KW (pl := pl) (thn (he.run pins s σ H _ I h) fun u s1 ⟨x, H1, I1, rx, a, dx, fs, C, k, f, fd, ps, sp, ex, ea, l, c, hm, F, hr, hb, q⟩ => ?_) ht
  subst ex
  obtain rfl : u = Value.ref a := rx
  refine getmeth_ok I1 ea c hm l ?_
  exact PySem.W.callWith_K0 (first := [.ref a]) I1.kIn hm.kp (run_fnS (us := [.ref a]) (vs := [.ref a]) F hr hb (passAt tk σ) I1 (.cons rfl .nil) q)
/-- the table's methods -/
def MeT (X : Cx) (T : Tb X.K) (m : Str) (tab : List (Nat × Fn)) : Prop := ∀ c f, tab.lookup c = some f → MeF X T (T.cls c) m f ∧ ∀ n, T.has c n = true → T.fld n ≠ m
theorem met_nil {m : Str} : MeT X T m [] := fun c f e => by cases e
theorem met_cons {m : Str} {c : Nat} {f : Fn} {tab : List (Nat × Fn)} (h : MeF X T (T.cls c) m f) (hn : ∀ n, T.has c n = true → T.fld n ≠ m) (r : MeT X T m tab) : MeT X T m ((c, f) :: tab) := fun c' f' e => by
  rw [List.lookup_cons] at e
  split at e
  · rename_i q
    have q : c' = c := by simpa using q
    subst q
    cases e
    exact ⟨h, hn⟩
  · exact r c' f' e
theorem repF_no {g : G} {c : Nat} {m : Str} (hn : ∀ n, T.has c n = true → T.fld n ≠ m) {fs : List (Nat × D)} {ws : List (Str × V)} (r : RepF T g c fs ws) : ws.lookup m = none := by
  induction r with
  | nil => rfl
  | cons h _ _ ih =>
    rename_i n _ _ _ _ _ _
    have : (m == T.fld n) = false := by
      have := hn n h
      simpa using fun z => this z.symm
    rw [List.lookup_cons, this]
    exact ih
theorem ar_tl {n : Nat} {f : Fn} {d : D} (h : Ar (n + 1) f) : Ar n (fun ds => f (d :: ds)) := fun ds S z e => by
  have := h _ _ _ e
  simpa using this
theorem meth_core {m : Str} {tab : List (Nat × Fn)} (MT : MeT X T m tab) {Lc : Lo} {g : G} {σ : L2.St} {H : Hp} {Q : VK} {o : D} {x : V} (ro : RepS T g σ o x) (k : Kt T B W (RepS T) (mMethK tab ms o) Lc g σ H Q) : ∃ a dx fs C k f fd ps sp, x = .ref a ∧ H a = some (.ins C dx fs) ∧ fs.lookup m = none ∧ Cls X.K C ∧ Meth X.K C m f ∧
  FnOk X.prog X.w X.K X.mg X.base (L2.CX X.prog X.w) k f fd ps sp ∧ Room k X.A ∧ Binds X.K fd ps [] ∧ tA T B W ms σ H fun vs H2 => sp (x :: vs) H2 Q (WE W σ) := by
  obtain ⟨rr, L', e, rp, kk⟩ := k
  unfold mMethK at e
  cases o with
  | ref n =>
    dsimp only at e
    cases hc : Lc.s[n]? with
    | none => rw [hc] at e; cases e
    | some cl =>
      rw [hc] at e
      cases cl with
      | inst c fs =>
        dsimp only at e
        cases ht : tab.lookup c with
        | none => rw [ht] at e; cases e
        | some f =>
          rw [ht] at e
          obtain ⟨p, rfl, hp⟩ := refOf ro
          obtain ⟨dx, ws, h1, h2, h3⟩ := rp.rs.at_ _ _ _ hp hc
          obtain ⟨MF, hn⟩ := MT c f ht
          obtain ⟨k, fa, fd, ps, c1, c2, c3, c4, c5, c6⟩ := MF.ex
          refine ⟨p, dx, ws, _, k, fa, fd, ps, _, rfl, h1, repF_no hn h2, c1, c2, c4, c5, c3, Lc, g, ?_⟩
          have k1 : Kt T B W (RepS T) (mCall (fun ds => f (.ref n :: ds)) ms) Lc g σ H Q := ⟨rr, L', e, rp, kk⟩
          refine (Kt.bind (R1 := RA T) k1).mono fun vs H2 ⟨g2, L2', ds, ge2, ra, k2⟩ => ?_
          have ra2 : RepAs T g2 (.ref n :: ds) (.ref p :: vs) := .cons (.inl (.ref (ge2.at hp))) ra
          obtain ⟨r4, L4, e4, rp4, kk4⟩ := k2
          exact sp_core c6 (f := f) (ds := .ref n :: ds) ⟨r4, L4, e4, rp4, kk4⟩ ra2
      | _ => cases e
  | _ => cases e
theorem x_meth {o e : Expr} {m : Str} {tab : List (Nat × Fn)} {mo : M D} {pl : Sem Bool} (MT : MeT X T m tab) (tk : Takes X W) (ho : PE X o (tE T B W mo)) (ha : PA X (e :: es) (tA T B W ms))
    (hst : starEach (e :: es) X.env = (false, eval e X.env) :: starEach es X.env := by rfl) (hpl : (backTo pos (starEach es X.env)).any (·.1) = false := by rfl)
    (ht : eval (.Call (.Attribute o m apos) (e :: es) [] pos) X.env = (do
      let ov ← eval o X.env
      standAt apos.atName
      let (f, first) ← holding [ov] (getMethod ov m pl)
      callWith pos f first (backTo pos (starEach (e :: es) X.env)) (backToKw pos (keywordEach [] X.env))) := by rfl) :
    PE X (.Call (.Attribute o m apos) (e :: es) [] pos) (tE T B W (mMeth tab mo ms)) := peI (pe_methD ho tk ha hst hpl ht) fun σ H Q ⟨Lc, g, k⟩ => by
  exact (Kt.bind (R1 := RepS T) k).tE fun x H1 ⟨g1, L1, ov, ge1, ro, k1⟩ => meth_core MT ro k1
theorem x_meth0 {o : Expr} {m : Str} {tab : List (Nat × Fn)} {mo : M D} {pl : Sem Bool} (MT : MeT X T m tab) (tk : Takes X W) (ho : PE X o (tE T B W mo))
    (ht : eval (.Call (.Attribute o m apos) [] [] pos) X.env = (do
      let ov ← eval o X.env
      standAt apos.atName
      let (f, first) ← holding [ov] (getMethod ov m pl)
      callWith pos f first (backTo pos (starEach [] X.env)) (backToKw pos (keywordEach [] X.env))) := by rfl) :
    PE X (.Call (.Attribute o m apos) [] [] pos) (tE T B W (mMeth tab mo (M.pure []))) := peI (pe_methD0 ho tk ht) fun σ H Q ⟨Lc, g, k⟩ => by
  refine (Kt.bind (R1 := RepS T) k).tE fun x H1 ⟨g1, L1, ov, ge1, ro, k1⟩ => ?_
  obtain ⟨a, dx, fs, C, k, f, fd, ps, sp, h1, h2, h3, h4, h5, h6, h7, h8, h9⟩ := meth_core MT ro k1
  refine ⟨a, dx, fs, C, k, f, fd, ps, sp, h1, h2, h3, h4, h5, h6, h7, h8, ?_⟩
  obtain ⟨L2', g2, r2, L3, e2, rp2, kk2⟩ := h9
  cases e2
  exact kk2 g2 H1 (Ge.refl _) rp2 [] .nil
/-! ### new things -/
def mMake (c : Nat) (f : Fn) (ms : M (List D)) : M D := M.bind ms fun ds => fun L => match f (.ref L.s.length :: ds) (L.s ++ [.inst c []]) with
  | some (.ok .non, S') => some (.ok (.ref L.s.length), { L with s := S' })
  | some (.ex e, S') => some (.ex e, { L with s := S' })
  | _ => Option.none
def tMakeS (C : Addr) (sp : Sp) (E : L2.St → XK) (t : TA) : TE := fun σ H Q => t σ H fun vs H1 => ∀ x dx, H1 x = none → H1 dx = none → dx ≠ x →
  sp (.ref x :: vs) (upd (upd H1 dx (.own x)) x (.ins C dx [])) (fun v H2 => v = .non ∧ Q (.ref x) H2) (E σ)
theorem run_makeS {CX : CXT} {k : Nat} {f C : Addr} {fd : FuncData} {ps : List Str} {sp : Sp} {E : L2.St → XK} {pins : List (Addr × Obj)} {σ : L2.St} {H : Hp} {s : Shared} {Q : VK} {us : List Value} {vs : List V} (M : Mk X.K C f) (F : FnOk X.prog X.w X.K X.mg X.base CX k f fd ps sp) (hr : Room (k + 1) X.A) (hb : Binds X.K fd ps [])
    (hx : PassesAt CX X σ (E σ)) (I : Inv X pins σ H s) (r : Vals vs us)
    (h : ∀ x dx, H x = none → H dx = none → dx ≠ x → sp (.ref x :: vs) (upd (upd H dx (.own x)) x (.ins C dx [])) (fun v H2 => v = .non ∧ Q (.ref x) H2) (E σ)) :
    wpAny (model X.prog X.w) X.A (call (.ref C) us) (EP X pins σ Q) X.xe s := by
  have hq := h (s.heap.objs.size + 1) s.heap.objs.size (I.hok.fresh (Nat.le_succ _)) (I.hok.fresh (Nat.le_refl _)) (Nat.ne_of_lt (Nat.lt_succ_self _))
  have I2 := Inv.made (C := C) I
  have r2 : Vals (V.ref (s.heap.objs.size + 1) :: vs) (Value.ref (s.heap.objs.size + 1) :: us) := .cons rfl r
  have hl : ((Value.ref (s.heap.objs.size + 1) :: us) ++ []).length = ps.length := by
    have e := r2.length
    rw [F.len _ _ _ _ hq] at e
    rw [List.append_nil]
    exact e.symm
  have b := hb _ (Value.ref (s.heap.objs.size + 1) :: us) I2.kIn hl
  rw [List.append_nil] at b
  refine wpAny_call (make_map (f := f) I.kIn M.makes M.init (beq_iff_eq.mp M.fn) (codeAny_mono (F.run _ X.stack _ _ ⟨Value.ref (s.heap.objs.size + 1) :: us, []⟩ (Value.ref (s.heap.objs.size + 1) :: us) _ _ (E σ) (hr.make C us [])
    (I2.env0.make C us []) b r2 hq) fun r s' hq' => ?_))
  cases r with
  | error e => exact hx pins _ _ e s' I2 hq'
  | ok fl =>
    cases fl with
    | ret u =>
      obtain ⟨v, H', I3, rv, ev, q3⟩ := I2.after hq'
      subst ev
      exact ⟨rv, ⟨V.ref (s.heap.objs.size + 1), H', I3, rfl, q3⟩⟩
    | next => exact False.elim hq'
    | brk => exact False.elim hq'
    | cont => exact False.elim hq'
theorem make_core {c : Nat} {f : Fn} {n : Nat} (har : Ar n f) {Lc : Lo} {g : G} {σ : L2.St} {H : Hp} {Q : VK} {ds : List D} {vs : List V} (ra : RepAs T g ds vs) (k : Kt T B W (RepS T) (fun L => match f (.ref L.s.length :: ds) (L.s ++ [.inst c []]) with
  | some (.ok .non, S') => some (R.ok (.ref L.s.length), { L with s := S' })
  | some (.ex e, S') => some (.ex e, { L with s := S' })
  | _ => Option.none) Lc g σ H Q) : ∀ x dx, H x = none → H dx = none → dx ≠ x → spOf T n f (.ref x :: vs) (upd (upd H dx (.own x)) x (.ins (T.cls c) dx [])) (fun v H2 => v = .non ∧ Q (.ref x) H2) (WE W σ) := by
  intro x dx h1 h2 h3
  obtain ⟨rr, L', e, rp, kk⟩ := k
  dsimp only at e
  have J := (rp.junk (o := .own x) h2).cell (c := .inst c []) (show upd H dx (.own x) x = none by rw [upd_ne (Ne.symm h3)]; exact h1) (o := .ins (T.cls c) dx []) ⟨dx, [], upd_same, .nil, by decide⟩
  have hat : (g.cell x).ι[Lc.s.length]? = some x := by
    show (g.ι ++ [x])[Lc.s.length]? = some x
    rw [← rp.rs.len]
    simp
  cases hf : f (.ref Lc.s.length :: ds) (Lc.s ++ [.inst c []]) with
  | none => rw [hf] at e; cases e
  | some z =>
    obtain ⟨rz, S'⟩ := z
    rw [hf] at e
    have ra2 : RepAs T (g.cell x) (.ref Lc.s.length :: ds) (.ref x :: vs) := .cons (.inl (.ref hat)) (ra.mono Ge.cell)
    refine ⟨g.cell x, _, _, rz, S', hf, J.rs, ra2, ra2.length.symm.trans (har _ _ _ hf), fun g' H' af => ?_⟩
    have J2 := J.after af
    cases rz with
    | ok d =>
      cases d with
      | non =>
        cases e
        intro v rv
        refine ⟨repN (T := T) (σ := []) (show RepS T g' [] .non v from rv), ?_⟩
        exact kk g' H' (Ge.cell.trans af.ge) J2 _ (RepS.ofR (.ref (af.ge.at hat)))
      | _ => cases e
    | ex e' =>
      cases e
      exact fun cls dd rx => kk g' H' (Ge.cell.trans af.ge) J2 cls dd rx
theorem x_make {x : Str} {c : Nat} {f : Fn} {p : Pos} {e : Expr} (F : MkF X T x (T.cls c) f) (tk : Takes X W) (ha : PA X (e :: es) (tA T B W ms)) (hg : Gl X x := by rfl) (hdb : (x == ("__debug__" : Str)) = false := by decide)
    (he : starEach (e :: es) X.env = (false, eval e X.env) :: starEach es X.env := by rfl) (hpl : (backTo pos (starEach es X.env)).any (·.1) = false := by rfl) : PE X (.Call (.Name x p) (e :: es) [] pos) (tE T B W (mMake c f ms)) := by
  obtain ⟨k, fa, fd, ps, hm, hk, hb, F, hr, har⟩ := F.ex
  refine ⟨fun pins s σ H Q I ⟨Lc, g, k⟩ => ?_⟩
  refine wpAny_Call_Name_kw (ld_glob I hg hm ?_ hdb)
  have k' := (Kt.bind (R1 := RA T) k).mono (Q' := fun vs H1 => ∀ x dx, H1 x = none → H1 dx = none → dx ≠ x → spOf T ps.length f (.ref x :: vs) (upd (upd H1 dx (.own x)) x (.ins (T.cls c) dx [])) (fun v H2 => v = .non ∧ Q (.ref x) H2) (WE W σ)) fun vs H1 ⟨g1, L1, ds, ge1, ra, k1⟩ => make_core har ra k1
  refine PySem.W.callWith_K (h₀ := X.base) I.ok.mod.kin hk.kp (thn (ha.run pos pins s σ H _ I ⟨Lc, g, k'⟩) fun us s1 ⟨vs, H1, I1, r, q⟩ => ⟨I1.kIn, ?_⟩) he hpl
  exact run_makeS (E := WE W) hk F hr hb (passAt tk σ) I1 r q
theorem x_make0 {x : Str} {c : Nat} {f : Fn} {p : Pos} (F : MkF X T x (T.cls c) f) (tk : Takes X W) (hg : Gl X x := by rfl) (hdb : (x == ("__debug__" : Str)) = false := by decide) : PE X (.Call (.Name x p) [] [] pos) (tE T B W (mMake c f (M.pure []))) := by
  obtain ⟨k, fa, fd, ps, hm, hk, hb, F, hr, har⟩ := F.ex
  refine ⟨fun pins s σ H Q I ⟨Lc, g, k⟩ => ?_⟩
  refine wpAny_Call_Name_kw (ld_glob I hg hm ?_ hdb)
  obtain ⟨r1, L1, e1, rp1, kk1⟩ := Kt.bind (R1 := RA T) k
  cases e1
  obtain ⟨g1, L2, ds, ge1, ra, k2⟩ := kk1 g H (Ge.refl _) rp1 [] .nil
  exact PySem.W.callWith_K0 I.kIn hk.kp (run_makeS (us := []) (E := WE W) hk F hr hb (passAt tk σ) I .nil (make_core har ra k2))
end
end MP
set_option Elab.async false
set_option linter.all false
set_option maxRecDepth 100000
set_option maxHeartbeats 4000000
/-! MP: dicts, isinstance, numbers' methods. -/
namespace MP
open PySem L2 PySem.Spec PyProof.Rows

/-! ### dicts -/
section
variable {κ : Type} [DecidableEq κ]
def vK (kvs : List (κ × D)) (k : κ) : Option D := (kvs.find? fun kv => decide (kv.1 = k)).map (·.2)
def pK (kvs : List (κ × D)) (k : κ) (d : D) : List (κ × D) := if (vK kvs k).isSome = true then kvs.map fun kv => if kv.1 = k then (kv.1, d) else kv else kvs ++ [(k, d)]
end
theorem inl_inj {a b : List Int} : (a.map (Sum.inl : Int → Key)) = b.map Sum.inl ↔ a = b := ⟨fun h => by
  induction a generalizing b with
  | nil => cases b with
    | nil => rfl
    | cons y b => cases h
  | cons x a ih => cases b with
    | nil => cases h
    | cons y b =>
      rw [List.map_cons, List.map_cons] at h
      injection h with h1 h2
      injection h1 with h1
      rw [h1, ih h2], fun h => by rw [h]⟩
section
variable {K : PySem.W.Frag} {g : G}
theorem RepK.val {fs : List (List Int × D)} {ws : List (List Key × V)} (r : RepK (K := K) g fs ws) (k : List Int) : (vK fs k = Option.none ∧ valV ws (k.map Sum.inl) = none) ∨ ∃ d v, vK fs k = some d ∧ valV ws (k.map Sum.inl) = some v ∧ Rep K g d v := by
  induction r with
  | nil => exact .inl ⟨rfl, rfl⟩
  | @cons j d v fs ws r _ ih =>
    by_cases q : j = k
    · subst q
      exact .inr ⟨d, v, by simp [vK], valV_pos rfl, r⟩
    · have q2 : ¬ (j.map (Sum.inl : Int → Key)) = k.map Sum.inl := fun z => q (inl_inj.mp z)
      rw [valV_neg q2]
      have : vK ((j, d) :: fs) k = vK fs k := by simp [vK, List.find?_cons, q]
      rw [this]
      exact ih
theorem RepK.some_eq {fs : List (List Int × D)} {ws : List (List Key × V)} (r : RepK (K := K) g fs ws) (k : List Int) : (valV ws (k.map Sum.inl)).isSome = (vK fs k).isSome := by
  rcases r.val k with ⟨h1, h2⟩ | ⟨d, v, h1, h2, _⟩ <;> rw [h1, h2] <;> rfl
theorem RepK.map {fs : List (List Int × D)} {ws : List (List Key × V)} (r : RepK (K := K) g fs ws) (k : List Int) {d : D} {v : V} (h : Rep K g d v) : RepK (K := K) g (fs.map fun kv => if kv.1 = k then (kv.1, d) else kv) (ws.map fun kv => if kv.1 = k.map Sum.inl then (kv.1, v) else kv) := by
  induction r with
  | nil => exact .nil
  | @cons j e u fs ws r _ ih =>
    by_cases q : j = k
    · subst q
      simp only [List.map_cons, if_true]
      exact .cons h ih
    · have q2 : ¬ (j.map (Sum.inl : Int → Key)) = k.map Sum.inl := fun z => q (inl_inj.mp z)
      simp only [List.map_cons, if_neg q, if_neg q2]
      exact .cons r ih
theorem RepK.snoc {fs : List (List Int × D)} {ws : List (List Key × V)} (r : RepK (K := K) g fs ws) (k : List Int) {d : D} {v : V} (h : Rep K g d v) : RepK (K := K) g (fs ++ [(k, d)]) (ws ++ [(k.map Sum.inl, v)]) := by
  induction r with
  | nil => exact .cons h .nil
  | cons r _ ih => exact .cons r ih
theorem RepK.put {fs : List (List Int × D)} {ws : List (List Key × V)} (r : RepK (K := K) g fs ws) (k : List Int) {d : D} {v : V} (h : Rep K g d v) : RepK (K := K) g (pK fs k d) (putK ws (k.map Sum.inl) v) := by
  unfold pK putK
  rw [valV_any, r.some_eq]
  split
  · exact r.map k h
  · exact r.snoc k h
theorem RepK.len {fs : List (List Int × D)} {ws : List (List Key × V)} (r : RepK (K := K) g fs ws) : fs.length = ws.length := by
  induction r with
  | nil => rfl
  | cons _ _ ih => simp [ih]
theorem RepI.val {fs : List (Int × D)} {ws : List (Key × V)} (r : RepI (K := K) g fs ws) (k : Int) : (vK fs k = Option.none ∧ valV ws (Sum.inl k) = none) ∨ ∃ d v, vK fs k = some d ∧ valV ws (Sum.inl k) = some v ∧ Rep K g d v := by
  induction r with
  | nil => exact .inl ⟨rfl, rfl⟩
  | @cons j d v fs ws r _ ih =>
    by_cases q : j = k
    · subst q
      exact .inr ⟨d, v, by simp [vK], valV_pos rfl, r⟩
    · have q2 : ¬ (Sum.inl j : Key) = Sum.inl k := fun z => q (Sum.inl.inj z)
      rw [valV_neg q2]
      have : vK ((j, d) :: fs) k = vK fs k := by simp [vK, List.find?_cons, q]
      rw [this]
      exact ih
theorem RepI.some_eq {fs : List (Int × D)} {ws : List (Key × V)} (r : RepI (K := K) g fs ws) (k : Int) : (valV ws (Sum.inl k)).isSome = (vK fs k).isSome := by
  rcases r.val k with ⟨h1, h2⟩ | ⟨d, v, h1, h2, _⟩ <;> rw [h1, h2] <;> rfl
theorem RepI.map {fs : List (Int × D)} {ws : List (Key × V)} (r : RepI (K := K) g fs ws) (k : Int) {d : D} {v : V} (h : Rep K g d v) : RepI (K := K) g (fs.map fun kv => if kv.1 = k then (kv.1, d) else kv) (ws.map fun kv => if kv.1 = Sum.inl k then (kv.1, v) else kv) := by
  induction r with
  | nil => exact .nil
  | @cons j e u fs ws r _ ih =>
    by_cases q : j = k
    · subst q
      simp only [List.map_cons, if_true]
      exact .cons h ih
    · have q2 : ¬ (Sum.inl j : Key) = Sum.inl k := fun z => q (Sum.inl.inj z)
      simp only [List.map_cons, if_neg q, if_neg q2]
      exact .cons r ih
theorem RepI.snoc {fs : List (Int × D)} {ws : List (Key × V)} (r : RepI (K := K) g fs ws) (k : Int) {d : D} {v : V} (h : Rep K g d v) : RepI (K := K) g (fs ++ [(k, d)]) (ws ++ [(Sum.inl k, v)]) := by
  induction r with
  | nil => exact .cons h .nil
  | cons r _ ih => exact .cons r ih
theorem RepI.put {fs : List (Int × D)} {ws : List (Key × V)} (r : RepI (K := K) g fs ws) (k : Int) {d : D} {v : V} (h : Rep K g d v) : RepI (K := K) g (pK fs k d) (putK ws (Sum.inl k) v) := by
  unfold pK putK
  rw [valV_any, r.some_eq]
  split
  · exact r.map k h
  · exact r.snoc k h
theorem RepI.len {fs : List (Int × D)} {ws : List (Key × V)} (r : RepI (K := K) g fs ws) : fs.length = ws.length := by
  induction r with
  | nil => rfl
  | cons _ _ ih => simp [ih]
end
/-- a dict's cell, a key, what stands there -/
def dLook (L : Lo) (o k : D) : Option (Option D) := match o with
  | .ref n => (match L.s[n]? with
    | some (.dct kvs) => (match k with
      | .tup ds => (intsOf ds).map fun ns => vK kvs ns
      | _ => Option.none)
    | some (.dci kvs) => (match k with
      | .int i => some (vK kvs i)
      | _ => Option.none)
    | _ => Option.none)
  | _ => Option.none
def dPut (o k d : D) (L : Lo) : Option Lo := match o with
  | .ref n => (match L.s[n]? with
    | some (.dct kvs) => (match k with
      | .tup ds => (match intsOf ds with
        | some ns => if kvs.length < big then some { L with s := L.s.set n (.dct (pK kvs ns d)) } else Option.none
        | _ => Option.none)
      | _ => Option.none)
    | some (.dci kvs) => (match k with
      | .int i => if kvs.length < big then some { L with s := L.s.set n (.dci (pK kvs i d)) } else Option.none
      | _ => Option.none)
    | _ => Option.none)
  | _ => Option.none
section
variable {X : Cx} {T : Tb X.K} {B : Ent} {W : WX} {a b c : Expr} {ma mb mc mk : M MP.D} {pos pos' apos : Pos} {es : List Expr} {ms : M (List MP.D)} {D : Ends}
theorem map_kV (ns : List Int) : (ns.map (Sum.inl : Int → Key)).map kV = ns.map V.int := by
  rw [List.map_map] <;> rfl
theorem look_ok {g : G} {σ : L2.St} {H : Hp} {Lc : Lo} {o k : MP.D} {x y : V} {z : Option MP.D} (rp : Rp T B g σ H Lc) (ro : RepS T g σ o x) (rk : RepS T g σ k y) (h : dLook Lc o k = some z) : ∃ a w, x = .ref a ∧ DGet H a y w ∧ ((z = Option.none ∧ w = none) ∨ ∃ d v, z = some d ∧ w = some v ∧ Rep X.K g d v) := by
  unfold dLook at h
  split at h
  · rename_i n
    obtain ⟨p, rfl, hp⟩ := refOf ro
    split at h
    · rename_i kvs hc
      obtain ⟨ws, h1, h2⟩ := rp.rs.at_ _ _ _ hp hc
      split at h
      · rename_i ds
        cases hi : intsOf ds with
        | none => rw [hi] at h; cases h
        | some ns =>
          rw [hi] at h
          cases h
          obtain ⟨b, xs, rfl, q1, q2⟩ := repT rk
          rw [intsOf_ok hi] at q2
          rw [q2.ofInts] at q1
          refine ⟨p, _, rfl, DGet.t (k := ns.map Sum.inl) h1 (by rw [map_kV]; exact rp.rs.ex _ _ q1), ?_⟩
          rcases h2.val ns with ⟨e1, e2⟩ | ⟨d, v, e1, e2, e3⟩
          · exact .inl ⟨e1, e2⟩
          · exact .inr ⟨d, v, e1, e2, e3⟩
      · cases h
    · rename_i kvs hc
      obtain ⟨ws, h1, h2⟩ := rp.rs.at_ _ _ _ hp hc
      split at h
      · rename_i i
        cases h
        rw [repI rk]
        refine ⟨p, _, rfl, DGet.k (k := Sum.inl i) h1, ?_⟩
        rcases h2.val i with ⟨e1, e2⟩ | ⟨d, v, e1, e2, e3⟩
        · exact .inl ⟨e1, e2⟩
        · exact .inr ⟨d, v, e1, e2, e3⟩
      · cases h
    · cases h
  · cases h
theorem look_some {z : Option MP.D} {w : Option V} {g : G} (h : (z = Option.none ∧ w = none) ∨ ∃ d v, z = some d ∧ w = some v ∧ Rep X.K g d v) : w.isSome = z.isSome := by
  rcases h with ⟨rfl, rfl⟩ | ⟨d, v, rfl, rfl, _⟩ <;> rfl
def fInD (L : Lo) (a b : MP.D) : Option MP.D := (dLook L b a).map fun z => .bl z.isSome
def fNotInD (L : Lo) (a b : MP.D) : Option MP.D := (dLook L b a).map fun z => .bl (!z.isSome)
theorem din_core {σ : L2.St} {H : Hp} {Q : VK} (h : tE T B W (mBin fInD ma mb) σ H Q) : tDIn (tE T B W ma) (tE T B W mb) σ H Q := by
  obtain ⟨Lc, g, k⟩ := h
  refine (Kt.bind (R1 := RepS T) k).tE fun x H1 ⟨g1, L1, av, ge1, ra, k1⟩ => ?_
  refine (Kt.bind (R1 := RepS T) k1).tE fun y H2 ⟨g2, L2', bv, ge2, rb, k2⟩ => ?_
  obtain ⟨r, L', e, rp, kk⟩ := id k2
  dsimp only at e
  cases ef : dLook L2' bv av with
  | none => simp [fInD, ef] at e
  | some z =>
    obtain ⟨p, w, rfl, q1, q2⟩ := look_ok rp rb (ra.mono ge2) ef
    refine ⟨p, w, rfl, q1, ?_⟩
    rw [look_some q2]
    exact k2.now (show (match fInD L2' av bv with | some d => some (R.ok d, L2') | _ => Option.none) = some (R.ok _, L2') by simp only [fInD, ef, Option.map_some]) (Ge.refl _) rp (RepS.ofR (.bl _))
theorem dnotin_core {σ : L2.St} {H : Hp} {Q : VK} (h : tE T B W (mBin fNotInD ma mb) σ H Q) : tDNotIn (tE T B W ma) (tE T B W mb) σ H Q := by
  obtain ⟨Lc, g, k⟩ := h
  refine (Kt.bind (R1 := RepS T) k).tE fun x H1 ⟨g1, L1, av, ge1, ra, k1⟩ => ?_
  refine (Kt.bind (R1 := RepS T) k1).tE fun y H2 ⟨g2, L2', bv, ge2, rb, k2⟩ => ?_
  obtain ⟨r, L', e, rp, kk⟩ := id k2
  dsimp only at e
  cases ef : dLook L2' bv av with
  | none => simp [fNotInD, ef] at e
  | some z =>
    obtain ⟨p, w, rfl, q1, q2⟩ := look_ok rp rb (ra.mono ge2) ef
    refine ⟨p, w, rfl, q1, ?_⟩
    rw [look_some q2]
    exact k2.now (show (match fNotInD L2' av bv with | some d => some (R.ok d, L2') | _ => Option.none) = some (R.ok _, L2') by simp only [fNotInD, ef, Option.map_some]) (Ge.refl _) rp (RepS.ofR (.bl _))
theorem x_din (hu : X.A.units + 1 < cLine) (ha : PE X a (tE T B W ma)) (hb : PE X b (tE T B W mb)) (hm : behindInMarks .In b = false := by rfl) : PE X (.Compare a [.In] [b] pos) (tE T B W (mBin fInD ma mb)) := peI (pe_cmp (pc_din hu ha hb) hm) fun _ _ _ h => din_core h
theorem x_dnotin (hu : X.A.units + 1 < cLine) (ha : PE X a (tE T B W ma)) (hb : PE X b (tE T B W mb)) (hm : behindInMarks .NotIn b = false := by rfl) : PE X (.Compare a [.NotIn] [b] pos) (tE T B W (mBin fNotInD ma mb)) := peI (pe_cmp (pc_dnotin hu ha hb) hm) fun _ _ _ h => dnotin_core h
theorem t_din (hu : X.A.units + 1 < cLine) (ha : PE X a (tE T B W ma)) (hb : PE X b (tE T B W mb)) (hm : behindInMarks .In b = false := by rfl) : PT X (.Compare a [.In] [b] pos) (tT T B W (mB (mBin fInD ma mb))) := ptI (pt_cmp (pc_din hu ha hb) hm) fun _ _ _ h => din_core (B_core h)
theorem t_dnotin (hu : X.A.units + 1 < cLine) (ha : PE X a (tE T B W ma)) (hb : PE X b (tE T B W mb)) (hm : behindInMarks .NotIn b = false := by rfl) : PT X (.Compare a [.NotIn] [b] pos) (tT T B W (mB (mBin fNotInD ma mb))) := ptI (pt_cmp (pc_dnotin hu ha hb) hm) fun _ _ _ h => dnotin_core (B_core h)
/-- {} -/
def mNewT : M MP.D := fun L => some (.ok (.ref L.s.length), { L with s := L.s ++ [.dct []] })
def mNewK : M MP.D := fun L => some (.ok (.ref L.s.length), { L with s := L.s ++ [.dci []] })
theorem x_newT : PE X (.Dict [] [] pos) (tE T B W mNewT) := peI pe_dnewT fun σ H Q ⟨Lc, g, k⟩ p hp => by
  obtain ⟨r, L', e, rp, kk⟩ := k
  cases e
  refine kk _ _ Ge.cell (rp.cell (c := .dct []) hp ⟨[], upd_same, .nil⟩) _ (RepS.ofR (.ref ?_))
  show (g.ι ++ [p])[Lc.s.length]? = some p
  rw [← rp.rs.len]
  simp
theorem x_newK : PE X (.Dict [] [] pos) (tE T B W mNewK) := peI pe_dnewK fun σ H Q ⟨Lc, g, k⟩ p hp => by
  obtain ⟨r, L', e, rp, kk⟩ := k
  cases e
  refine kk _ _ Ge.cell (rp.cell (c := .dci []) hp ⟨[], upd_same, .nil⟩) _ (RepS.ofR (.ref ?_))
  show (g.ι ++ [p])[Lc.s.length]? = some p
  rw [← rp.rs.len]
  simp
/-- o[k] = v -/
def mDPut (mo mk mv : M MP.D) : M Flow := M.bind (mFz mv) fun d => M.bind mo fun o => M.bind mk fun k => fun L => match dPut o k d L with
  | some L' => some (.ok .next, L')
  | _ => Option.none
theorem s_dput {o i v : Expr} {mo mk mv : M MP.D} (hu : X.A.units + 1 < cLine) (ho : PE X o (tE T B W mo)) (hi : PE X i (tE T B W mk)) (hv : PE X v (tE T B W mv)) (hs : swapsWith v (some (.Subscript o i pos')) pos.line X.env = pure false := by rfl) : PS X (.Assign [.Subscript o i pos'] v pos) (tS T B W (mDPut mo mk mv)) :=
  psI (ps_dput hu ho hi hv hs) fun D σ H ⟨Lc, g, k⟩ => by
    obtain ⟨Lc', g', k'⟩ := FzS (D := D) k
    refine k'.tE fun y H1 ⟨g1, L1, d, ge1, rd, k1⟩ => ?_
    refine (KS.bind (R1 := RepS T) (D := D) k1).tE fun x H2 ⟨g2, L2', ov, ge2, ro, k2⟩ => ?_
    refine (KS.bind (R1 := RepS T) (D := D) k2).tE fun z H3 ⟨g3, L3, kv, ge3, rk, k3⟩ => ?_
    have rp := k3.rp
    obtain ⟨r, L', e, _, kk⟩ := id k3
    dsimp only at e
    have ro := ro.mono (σ := σ) ge3
    have rd' := Rep.mono (ge2.trans ge3) _ _ (rd.rep rfl)
    cases ef : dPut ov kv d L3 with
    | none => rw [ef] at e; cases e
    | some L4 =>
      rw [ef] at e
      cases e
      unfold dPut at ef
      split at ef
      · rename_i n
        obtain ⟨p, rfl, hp⟩ := refOf ro
        split at ef
        · rename_i kvs hc
          obtain ⟨ws, h1, h2⟩ := rp.rs.at_ _ _ _ hp hc
          split at ef
          · rename_i ds
            cases hi : intsOf ds with
            | none => rw [hi] at ef; cases ef
            | some ns =>
              rw [hi] at ef
              dsimp only at ef
              split at ef
              · rename_i hl
                cases ef
                obtain ⟨b, xs, rfl, q1, q2⟩ := repT rk
                rw [intsOf_ok hi] at q2
                rw [q2.ofInts] at q1
                refine ⟨p, _, rfl, DPut.t (k := ns.map Sum.inl) h1 (by rw [map_kV]; exact rp.rs.ex _ _ q1) (by rw [← h2.len]; exact big_lt hl), kk g3 σ _ (Ge.refl _) (rp.setCell hp ⟨_, upd_same, h2.put ns rd'⟩)⟩
              · cases ef
          · cases ef
        · rename_i kvs hc
          obtain ⟨ws, h1, h2⟩ := rp.rs.at_ _ _ _ hp hc
          split at ef
          · rename_i i
            split at ef
            · rename_i hl
              cases ef
              rw [repI rk]
              refine ⟨p, _, rfl, DPut.k (k := Sum.inl i) h1 (by rw [← h2.len]; exact big_lt hl), kk g3 σ _ (Ge.refl _) (rp.setCell hp ⟨_, upd_same, h2.put i rd'⟩)⟩
            · cases ef
          · cases ef
        · cases ef
      · cases ef
/-- d.get(k, x) -/
def isDc (L : Lo) : MP.D → Bool
  | .ref n => (match L.s[n]? with | some (.dct _) => true | some (.dci _) => true | _ => false)
  | _ => false
def mGet2 (mo mk mx : M MP.D) : M MP.D := M.bind mo fun o => fun L => if isDc L o = true then M.bind mk (fun k => M.bind mx fun x => fun L => match dLook L o k with
  | some z => some (.ok (z.getD x), L)
  | _ => Option.none) L else Option.none
theorem x_get2 {o e f : Expr} {cpos : Pos} {mo mx : M MP.D} (hu : X.A.units + 1 < cLine) (ho : PE X o (tE T B W mo)) (he : PE X e (tE T B W mk)) (hf : PE X f (tE T B W mx)) (h1 : attributeBase o "get" X.env (eval o X.env) = eval o X.env := by rfl)
    (h2 : ((backTo cpos (starEach [e, f] X.env)).all (fun x => !x.1) && (backToKw cpos (keywordEach [] X.env)).all (fun x => x.1.isSome)
    && decide (([e, f] : List Expr).length + ([] : List Keyword).length + (if ([] : List Keyword).isEmpty then 0 else 1) < 30)) = true := by rfl) (h3 : (apos.endLine == cpos.line) = true := by rfl) (h4 : backTo cpos (starEach [e, f] X.env) = [(false, eval e X.env), (false, eval f X.env)] := by rfl) : PE X (.Call (.Attribute o "get" apos) [e, f] [] cpos) (tE T B W (mGet2 mo mk mx)) :=
  peI (pe_dget2 hu ho he hf ⟨h1, h2, h3, h4⟩) fun σ H Q ⟨Lc, g, k⟩ => by
    refine (Kt.bind (R1 := RepS T) k).tE fun x H1 ⟨g1, L1, ov, ge1, ro, k1⟩ => ?_
    obtain ⟨r, L', e, rp, kk⟩ := id k1
    dsimp only at e
    split at e
    · rename_i hd
      have k2 : Kt T B W (RepS T) (M.bind mk (fun k => M.bind mx fun x => fun L => match dLook L ov k with
        | some z => some (.ok (z.getD x), L)
        | _ => Option.none)) L1 g1 σ H1 Q := ⟨r, L', e, rp, kk⟩
      have hx : ∃ a, x = .ref a ∧ IsD H1 a := by
        unfold isDc at hd
        split at hd
        · rename_i n
          obtain ⟨p, rfl, hp⟩ := refOf ro
          split at hd
          · rename_i kvs hc
            obtain ⟨ws, h1, h2⟩ := rp.rs.at_ _ _ _ hp hc
            exact ⟨p, rfl, .inr ⟨ws, .inl h1⟩⟩
          · rename_i kvs hc
            obtain ⟨ws, h1, h2⟩ := rp.rs.at_ _ _ _ hp hc
            exact ⟨p, rfl, .inl ⟨ws, .inl h1⟩⟩
          · cases hd
        · cases hd
      obtain ⟨a, rfl, hI⟩ := hx
      refine ⟨a, rfl, hI, (Kt.bind (R1 := RepS T) k2).tE fun y H2 ⟨g2, L2', kv, ge2, rk, k3⟩ => ?_⟩
      refine (Kt.bind (R1 := RepS T) k3).tE fun z H3 ⟨g3, L3, xv, ge3, rx, k4⟩ => ?_
      obtain ⟨r4, L4, e4, rp4, kk4⟩ := id k4
      dsimp only at e4
      cases ef : dLook L3 ov kv with
      | none => rw [ef] at e4; cases e4
      | some w =>
        obtain ⟨p, u, e1, q1, q2⟩ := look_ok rp4 ((ro.mono ge2).mono ge3) (rk.mono ge3) ef
        cases e1
        refine ⟨u, q1, ?_⟩
        have fin : ∀ v, RepS T g3 σ (w.getD xv) v → Q v H3 := fun v rv => k4.now (show (match dLook L3 ov kv with | some z => some (R.ok (z.getD xv), L3) | _ => Option.none) = some (R.ok (w.getD xv), L3) by rw [ef]) (Ge.refl _) rp4 rv
        rcases q2 with ⟨rfl, rfl⟩ | ⟨d, v, rfl, rfl, rv⟩
        · exact fin _ rx
        · exact fin _ (RepS.ofR rv)
    · cases e
/-! ### isinstance -/
/-- the name of its type -/
def tyD (L : Lo) : MP.D → Option String
  | .non => some "NoneType"
  | .bl _ => some "bool"
  | .int _ => some "int"
  | .str _ => some "str"
  | .tup _ => some "tuple"
  | .slot i => if (deref L (.slot i)).isSome = true then some "list" else Option.none
  | .lst _ => some "list"
  | .ref n => (match L.s[n]? with | some (.lst _) => some "list" | _ => Option.none)
  | _ => Option.none
def fIsi (c : String) (L : Lo) (a : MP.D) : Option MP.D := (tyD L a).bind fun t => (kitB t c).map .bl
theorem tyD_ok {g : G} {σ : L2.St} {H : Hp} {Lc : Lo} {d : MP.D} {v : V} {t : String} (rp : Rp T B g σ H Lc) (r : RepS T g σ d v) (h : tyD Lc d = some t) : TyX X.K H v (.type t) := by
  have lists : ∀ ds, deref Lc d = some ds → t = "list" → TyX X.K H v (.type t) := fun ds e q => by
    obtain ⟨a, xs, rfl, h1, _⟩ := derefS rp e r
    subst q
    exact .base (.lst h1)
  unfold tyD at h
  split at h
  · cases h; rw [repN r]; exact .base .non
  · cases h; rw [repB r]; exact .base (.bl _)
  · cases h; rw [repI r]; exact .base (.int _)
  · cases h; rw [repStr r]; exact .base (.str _)
  · cases h
    obtain ⟨a, xs, rfl, h1, _⟩ := repT r
    exact .base (.tup (rp.rs.ex _ _ h1))
  · split at h
    · rename_i hh
      obtain ⟨ds, hd⟩ := Option.isSome_iff_exists.mp hh
      cases h
      exact lists ds hd rfl
    · cases h
  · cases h
    exact lists _ rfl rfl
  · rename_i n
    split at h
    · rename_i ds hc
      cases h
      exact lists ds (show (match Lc.s[n]? with | some (.lst ds) => some ds | _ => Option.none) = some ds by rw [hc]) rfl
    · cases h
  · cases h
theorem x_isi {x : Str} {c : String} {p q : Pos} (hm : X.mg "isinstance" = none) (hx : X.mg x = none) (ha : PE X a (tE T B W ma)) (hv : bootBuiltins x = some (.type c) := by decide +kernel) (hg : Gl X "isinstance" := by rfl) (hgx : Gl X x := by rfl) (hn : x ≠ "__name__" := by decide) (hd : (x == ("__debug__" : Str)) = false := by decide)
    (he : starEach [a, .Name x q] X.env = (false, eval a X.env) :: starEach [.Name x q] X.env := by rfl) (he2 : starEach [.Name x q] X.env = (false, eval (.Name x q) X.env) :: starEach [] X.env := by rfl) (hpl : (backTo pos (starEach [.Name x q] X.env)).any (·.1) = false := by rfl) :
    PE X (.Call (.Name "isinstance" p) [a, .Name x q] [] pos) (tE T B W (mUn (fIsi c) ma)) :=
  peI (pe_callB call_isi hg hm (by decide +kernel) (pa_cons ha (pa_cons (pe_bltn (v := .ty c) hgx hx hv rfl hn hd) pa_nil he2) he) (by decide) (by decide) he hpl) fun σ H Q z => by
    obtain ⟨Lc, g, k⟩ := mUn_core z
    refine ⟨Lc, g, k.mono fun y H1 ⟨g1, L1, av, d, ra, rp, ef, kk⟩ => ?_⟩
    unfold fIsi at ef
    cases ht : tyD L1 av with
    | none => rw [ht] at ef; cases ef
    | some t =>
      rw [ht] at ef
      simp only [Option.bind_some] at ef
      cases hk : kitB t c with
      | none => rw [hk] at ef; cases ef
      | some r =>
        rw [hk] at ef
        cases ef
        exact ⟨y, .ty c, .type t, .type c, r, rfl, .ty c, tyD_ok rp ra ht, kit_ty hk, kk g1 H1 _ (Ge.refl _) rp (RepS.ofR (.bl r))⟩
/-! ### numbers -/
def fBits (_ : Lo) (a : MP.D) : Option MP.D := match a with
  | .int i => some (.int (Builtin.Int.intBits i : Nat))
  | _ => Option.none
theorem x_bits (ha : PE X a (tE T B W ma)) (hbase : attributeBase a "bit_length" X.env (eval a X.env) = eval a X.env := by rfl) (hline : (apos.endLine == pos.line) = true := by rfl) : PE X (.Call (.Attribute a "bit_length" apos) [] [] pos) (tE T B W (mUn fBits ma)) :=
  peI (pe_bits ha hbase hline) fun σ H Q z => by
    obtain ⟨Lc, g, k⟩ := mUn_core z
    refine ⟨Lc, g, k.mono fun y H1 ⟨g1, L1, av, d, ra, rp, ef, kk⟩ => ?_⟩
    unfold fBits at ef
    split at ef
    · cases ef; rw [repI ra]; exact ⟨_, rfl, kk g1 H1 _ (Ge.refl _) rp (RepS.ofR (.int _))⟩
    · cases ef
def fNeg (_ : Lo) (a : MP.D) : Option MP.D := match a with
  | .int i => some (.int (-i))
  | _ => Option.none
theorem x_neg (ha : PE X a (tE T B W ma)) : PE X (.UnaryOp .USub a pos) (tE T B W (mUn fNeg ma)) :=
  peI (pe_un un_neg ha) fun σ H Q z => by
    obtain ⟨Lc, g, k⟩ := mUn_core z
    refine ⟨Lc, g, k.mono fun y H1 ⟨g1, L1, av, d, ra, rp, ef, kk⟩ => ?_⟩
    unfold fNeg at ef
    split at ef
    · cases ef; rw [repI ra]; exact ⟨_, rfl, kk g1 H1 _ (Ge.refl _) rp (RepS.ofR (.int _))⟩
    · cases ef
end
end MP
set_option Elab.async false
set_option linter.all false
set_option maxRecDepth 100000
set_option maxHeartbeats 4000000
/-! MP: a def that makes a def and hands it out (one name captured). -/
namespace MP
open PySem L2 PySem.Spec PyProof.Rows LamX NdefX

/-- the captured cell, as it is -/
def CelO (c : Addr) (o : Obj) : HO := .ext fun h => h.get? c = some o
theorem celO_ok {P : Program} {w : World} {H : Hp} {h : Heap} {c : Addr} {o : Obj} (e : h.get? c = some o) : ObjOk P w H h c (CelO c o) := ⟨e, ⟨o, e⟩, fun _ _ h1 k => k _ h1⟩
theorem celO_at {P : Program} {w : World} {H : Hp} {h : Heap} {c : Addr} {o : Obj} (x : HOk P w H h) (e : H c = some (CelO c o)) : h.get? c = some o := (x c _ e).1
/-- which function stands at a: the text st, captured y0, a thing of the store -/
def ckOne (st : Stmt) (nm q y0 : Str) (g : G) (H : Hp) (cs : List D) (a : Addr) : Prop := ∃ (n : Nat) (p c0 c' : Addr) (o : Obj) (u : Value), cs = [.ref n] ∧ g.ι[n]? = some p ∧ H a = some (FnO a (NF.of st nm q [(y0, c0)] c')) ∧ H c' = some (CodeO c' q) ∧ H c0 = some (CelO c0 o) ∧ o.data = .cell (some u) ∧ RelV (.ref p) u
theorem ckOne_mono {st : Stmt} {nm q y0 : Str} {g g' : G} {H H' : Hp} {cs : List D} {a : Addr} (ge : Ge g g') (hx : ∀ b φ, H b = some (.ext φ) → H' b = some (.ext φ)) (h : ckOne st nm q y0 g H cs a) : ckOne st nm q y0 g' H' cs a := by
  obtain ⟨n, p, c0, c', o, u, h1, h2, h3, h4, h5, h6, h7⟩ := h
  exact ⟨n, p, c0, c', o, u, h1, ge.at h2, hx _ _ h3, hx _ _ h4, hx _ _ h5, h6, h7⟩
/-! ### the maker -/
/-- statements, then the def that is handed out: R is told of the frame's slots -/
structure PSc (X : Cx) (st : List Stmt) (t : (V → L2.St → Hp → Prop) → L2.St → Hp → Prop) : Prop where
  run : ∀ (pins : List (Addr × Obj)) (s : Shared) (σ : L2.St) (H : Hp) (R : V → L2.St → Hp → Prop), Inv X pins σ H s → t R σ H → wpAny (model X.prog X.w) X.A (execs st X.env) (fun fl s' => match fl with
    | .ret u => ∃ v σ' H', Inv X pins σ' H' s' ∧ RelV v u ∧ R v σ' H'
    | _ => False) X.xe s
section
variable {K : PySem.W.Frag} (T : Tb K) (B : Ent) (W : WX)
def tSc (NX : (V → L2.St → Hp → Prop) → L2.St → Hp → Prop) (m : M Flow) : (V → L2.St → Hp → Prop) → L2.St → Hp → Prop := fun R σ H => ∃ Lc g r L', m Lc = some (r, L') ∧ Rp T B g σ H Lc ∧ ∀ g' σ' H', Ge g g' → Rp T B g' σ' H' L' → match r with
  | .ok .next => NX R σ' H'
  | .ok _ => False
  | .ex e => ∀ cls dd, RepX T g' H' e cls dd → W cls dd σ' H'
end
section
variable {X : Cx} {T : Tb X.K} {B : Ent} {W : WX}
theorem pc_cons {NX : (V → L2.St → Hp → Prop) → L2.St → Hp → Prop} {st : Stmt} {rest : List Stmt} {m1 m2 : M Flow} (h1 : PS X st (tS T B W m1)) (h2 : PSc X rest (tSc T B W NX m2)) : PSc X (st :: rest) (tSc T B W NX (mSeq m1 m2)) := by
  refine ⟨fun pins s σ H R I ⟨Lc, g, r, L', e, rp, kk⟩ => ?_⟩
  unfold mSeq at e
  cases hm : m1 Lc with
  | none => rw [hm] at e; cases e
  | some z =>
    obtain ⟨r1, L1⟩ := z
    rw [hm] at e
    refine wpAny_execs_cons (thn (h1.run pins s σ H { nx := fun σ' H' => tSc T B W NX m2 R σ' H', rt := fun _ _ => False } I ⟨Lc, g, r1, L1, hm, rp, fun g' σ' H' ge rp' => ?_⟩) fun f s1 q => ?_)
    · cases r1 with
      | ex x => cases e; exact kk g' σ' H' ge rp'
      | ok f =>
        cases f with
        | next => exact ⟨L1, g', r, L', e, rp', fun g'' σ'' H'' ge'' rp'' => kk g'' σ'' H'' (ge.trans ge'') rp''⟩
        | brk => cases e; exact (kk g' σ' H' ge rp').elim
        | cnt => cases e; exact (kk g' σ' H' ge rp').elim
        | ret d => cases e; exact (kk g' σ' H' ge rp').elim
    · cases f with
      | next =>
        obtain ⟨σ', H', I', q⟩ := q
        exact h2.run pins s1 σ' H' R I' q
      | ret v =>
        obtain ⟨_, _, _, _, _, q⟩ := q
        exact q.elim
      | brk =>
        obtain ⟨_, _, _, q⟩ := q
        exact q.elim
      | cont =>
        obtain ⟨_, _, _, q⟩ := q
        exact q.elim
/-- what is known behind the def -/
def nxDef (Tn : List NTab) (i : Nat) (mk : Addr → NF) : (V → L2.St → Hp → Prop) → L2.St → Hp → Prop := fun R σ H => TabsN Tn H ∧ ∀ (f c' : Addr) (H1 : Hp), ExtN H H1 → (∀ b, H1 b = none → H b = none) → TabsN Tn H1 → H f = none → H1 f = some (FnO f (mk c')) → H1 c' = some (CodeO c' (mk c').qual) → R (.ref f) (σ.set i (some (.ref f))) H1
theorem pc_end {Tn : List NTab} {i : Nat} {mk : Addr → NF} {sd : Stmt} {x : Str} {p1 p2 : Pos} (h1 : PS X sd (tNdefM Tn i mk)) (hN : X.N[i]? = some x) (hv : Vis X.env.scope x) (hd : (x == ("__debug__" : Str)) = false) (hcd : (x == ("__classdict__" : Str)) = false) :
    PSc X [sd, .Return (some (.Name x p1)) p2] (tSc T B W (nxDef Tn i mk) mNext) := by
  refine ⟨fun pins s σ H R I ⟨Lc, g, r, L', e, rp, kk⟩ => ?_⟩
  cases e
  obtain ⟨hT, kk⟩ : nxDef Tn i mk R σ H := kk g σ H (Ge.refl _) rp
  have hi : i < σ.length := by
    rw [I.len]
    exact (List.getElem?_eq_some_iff.mp hN).1
  refine wpAny_execs_cons (thn (h1.run pins s σ H { nx := fun σ' H' => ∃ f, σ' = σ.set i (some (.ref f)) ∧ R (.ref f) σ' H', rt := fun _ _ => False } I ⟨hT, fun f c' H1 e1 e2 e3 e4 e5 e6 => ⟨f, rfl, kk f c' H1 e1 e2 e3 e4 e5 e6⟩⟩) fun f s1 q => ?_)
  cases f with
  | next =>
    obtain ⟨σ', H', I', f, e, q⟩ := q
    refine wpAny_execs_cons (wpAny_Return_some (thn ((pe_var (pos := p1) hN hv hd hcd).run pins s1 σ' H' (fun v H2 => v = .ref f ∧ H2 = H') I' ⟨.ref f, by rw [e, List.getElem?_set_self hi], rfl, rfl⟩) fun u s2 ⟨v, H2, I2, rv, ev, eH⟩ => ?_))
    subst ev eH
    exact ⟨_, σ', _, I2, rv, q⟩
  | ret v =>
    obtain ⟨_, _, _, _, _, q⟩ := q
    exact q.elim
  | brk =>
    obtain ⟨_, _, _, q⟩ := q
    exact q.elim
  | cont =>
    obtain ⟨_, _, _, q⟩ := q
    exact q.elim
end
/-- the maker's mirror -/
def mkClo (n nl : Nat) (m : M Flow) (k j0 : Nat) : Fn := fun ds S => if ds.length = n then (match m ⟨ds.map .val ++ List.replicate (nl - n) .none, S⟩ with
  | some (.ok .next, L) => (match L.l[j0]? with
    | some (.val (.ref q)) => some (.ok (.clo k [.ref q]), L.s)
    | _ => Option.none)
  | some (.ex e, L) => some (.ex e, L.s)
  | _ => Option.none) else Option.none
theorem ar_clo (n nl : Nat) (m : M Flow) (k j0 : Nat) : Ar n (mkClo n nl m k j0) := fun ds S z e => by
  unfold mkClo at e
  split at e
  · assumption
  · cases e
section
variable {P : Program} {w : World} {K : PySem.W.Frag} {mg : Str → Option Value} {base : Heap} {x qual : Str} {params : Arguments} {body : List Stmt} {scope : Scope} {f : Addr} {fd : FuncData} {T : Tb K}
theorem clo_ok {N ps : List Str} {k : Nat} {m : M Flow} {Tn : List NTab} {st : Stmt} {nm y0 q0 : Str} {kk i j0 : Nat} (hij : i ≠ j0) (F : FunD K x qual params body scope [] [] f fd) (S : FnScope N ps scope)
    (hck : ∀ g H cs a, ckOne st nm q0 y0 g H cs a → T.ck g H kk cs a) (htb : ∀ H, T.tabs H ↔ TabsN Tn H) (hj : N[j0]? = some y0) (hs0 : scope.names.lookup y0 = some .cell) (hcl : ∀ cells c, cells.lookup y0 = some c → cloFrom cells (C8.fnScope st).names [] = [(y0, c)])
    (hb : ∀ (cdv : Value) (A : Around) (outer : List Env) (s : Shared) (H : Hp) (E : XK) (B : Ent), (∀ c, cdv = .ref c → ∃ oc od fd osl, K.lookup f = some ⟨oc, od, .func fd, osl⟩ ∧ fd.code = .ref c) → (∃ c, cdv = .ref c) → FrX (cxOf (L2.CX P w) P w K mg base N qual scope f cdv A outer s H E) k (fun cls d _ H => E cls d H) →
      PSc (cxOf (L2.CX P w) P w K mg base N qual scope f cdv A outer s H E) body (tSc T B (fun cls d _ H => E cls d H) (nxDef Tn i (NF.of st nm q0 (cloFrom (cxOf (L2.CX P w) P w K mg base N qual scope f cdv A outer s H E).env.cells (C8.fnScope st).names []))) m)) :
    FnOk P w K mg base (L2.CX P w) (k + 1) f fd ps (spOf T ps.length (mkClo ps.length N.length m kk j0)) := by
  obtain ⟨oc, od, dV, kV, doc, pm, an, cdv, ct, osl, rfl, lk, hcd, _, _⟩ := F.ex
  refine ⟨fun vs H Q E h => by obtain ⟨_, _, _, _, _, _, _, _, h, _⟩ := h; exact h, fun A outer s H args us vs Q E hr e0 hbd r hsp => ?_⟩
  obtain ⟨g, S0, ds, rr, S', e, rs, ra, hl, kq⟩ := hsp
  have KX : K.In s.heap := e0.mod.kin.keeps fun b o e => (e0.bs b o e).1
  have lim : s.heap.NoLimit := e0.mod.nolimit.keeps fun b o e => (e0.bs b o e).1
  have hkind : ∀ y ∈ ps.zip us, scope.names.lookup y.1 = some .local ∨ (scope.names.lookup y.1 = some .cell ∧ ((cellsFrom (s.heap.objs.size + 1) scope.names []).lookup y.1).isSome = true) := fun ⟨n, v⟩ hy => by
    rcases S.par n (List.of_mem_zip hy).1 with q | q
    · exact .inl q
    · exact .inr ⟨q, PySem.W.cellsFrom_some _ _ _ (.inl q)⟩
  refine codeAny_call_function hr.depth (KX _ _ lk) rfl S.co S.gen rfl (PySem.W.codeRec_of KX hcd) (hbd _ _ _ _ ?_)
  refine wpAny_newFunctionEnv_cells S.kind hkind fun env he s1 x1 => ?_
  subst he
  refine ⟨lim.keeps x1.toInCall.keep, codeAny_func ?_⟩
  have I : Inv (cxOf (L2.CX P w) P w K mg base N qual scope f cdv A outer s H E) [] (L2.start N vs) H s1 := inv_start S hr.hd e0 hl r x1
  have hN : vs.length ≤ N.length := by
    have := congrArg List.length S.pre
    rw [List.length_take] at this
    omega
  have en := Rp.enter (N := N) rs ra hN
  unfold mkClo at e
  have hd : ds.length = ps.length := ra.length.trans hl
  rw [if_pos hd] at e
  rw [hd] at en
  have hb := hb cdv A outer s H E ⟨g, H, []⟩ (fun c ec => ⟨_, _, _, _, lk, ec⟩) (He.codeIn_ref hcd) ⟨takes_of rfl rfl rfl rfl, hr.deeper _, PassesOwn.leaving⟩
  obtain ⟨r1, L1, hm⟩ : ∃ r1 L1, m ⟨ds.map .val ++ List.replicate (N.length - ps.length) .none, S0⟩ = some (r1, L1) := by
    cases hm : m ⟨ds.map .val ++ List.replicate (N.length - ps.length) .none, S0⟩ with
    | none => rw [hm] at e; cases e
    | some z => exact ⟨z.1, z.2, rfl⟩
  rw [hm] at e
  -- the wish at the return
  let Rt : V → L2.St → Hp → Prop := fun v σ' H1 => ∃ (g' : G) (n : Nat) (p f1 c' : Addr), v = .ref f1 ∧ σ'[j0]? = some (some (.ref p)) ∧ g'.ι[n]? = some p ∧ r1 = .ok .next ∧ L1.l[j0]? = some (.val (.ref n)) ∧ Ge g g' ∧ Evl.Ex g'.F H1 ∧ RS T g' H1 L1.s ∧
    (∀ a o, H a = some o → (∀ ps, o ≠ .tbl ps) → a ∉ g.ι → H1 a = some o) ∧ (∀ a ∈ g'.ι, a ∈ g.ι ∨ H a = none) ∧ (∀ a o, H a = some o → g.F a = none → g'.F a = none) ∧
    H1 f1 = some (FnO f1 (NF.of st nm q0 (cloFrom (cxOf (L2.CX P w) P w K mg base N qual scope f cdv A outer s H E).env.cells (C8.fnScope st).names []) c')) ∧ H1 c' = some (CodeO c' q0)
  refine wpAny_mono (hb.run [] s1 (L2.start N vs) H Rt I ⟨_, g, r1, L1, hm, en, fun g' σ' H' ge rp => ?_⟩) (fun fl s' hs => ?_) fun e s' hs => hs
  · cases r1 with
    | ex x => cases e; exact kq g' H' (Rp.leave (S' := []) rp)
    | ok fl =>
      cases fl with
      | next =>
        dsimp only at e
        cases hv : L1.l[j0]? with
        | none => rw [hv] at e; cases e
        | some z =>
          rw [hv] at e
          cases z with
          | val d =>
            cases d with
            | ref n =>
              cases e
              obtain ⟨v, hσ, rv⟩ := rp.val j0 _ hv
              obtain ⟨p, rfl, hp⟩ : ∃ p, v = .ref p ∧ g'.ι[n]? = some p := by
                rcases rv with rv | rv
                · cases rv with | ref hp => exact ⟨_, rfl, hp⟩
                · exact rv.elim
              refine ⟨(htb _).mp rp.rs.tb, fun f1 c' H1 x1 x2 x3 x4 x5 x6 => ?_⟩
              have hext : ∀ b φ, H' b = some (.ext φ) → H1 b = some (.ext φ) := fun b φ q => x1 b _ q fun _ z => by cases z
              have hns : ∀ (b : Addr) o, H' b = some o → plainO o = true → H1 b = some o := fun b o q hp => x1 b _ q fun ps z => by subst z; cases hp
              refine ⟨g', n, p, f1, c', rfl, ?_, hp, rfl, hv, ge, ?_, ?_, ?_, rp.new, rp.nfz, x5, x6⟩
              · rw [List.getElem?_set_ne hij]; exact hσ
              · exact fun b u q => hns b u (rp.rs.ex b u q) (rp.rs.ft b u q)
              · refine ⟨fun b u q => hns b u (rp.rs.ex b u q) (rp.rs.ft b u q), rp.rs.nd, rp.rs.len, rp.rs.nf, fun m b c q1 q2 => ?_, fun k cs a q => T.ckm _ _ _ _ _ _ _ (Ge.refl _) hext (rp.rs.cl k cs a q), (htb _).mpr x3, rp.rs.ft⟩
                obtain ⟨o, ho, hpo⟩ := rp.rs.plain q1
                exact (rp.rs.at_ m b c q1 q2).mono (Ge.refl _) ((hns b o ho hpo).trans ho.symm)
              · intro b o q1 nt q2
                exact x1 b o (rp.pres b o q1 nt q2) nt
            | _ => cases e
          | _ => cases e
      | brk => cases e
      | cnt => cases e
      | ret d => cases e
  · cases fl with
    | ret u =>
      obtain ⟨v, σ', H1, J, rv, g', n, p, f1, c', rfl, hσ, hp, hr1, hv, ge, hex, rs', hpr, hnew, hnfz, hf1, hc1⟩ := hs
      rw [hr1] at e
      dsimp only at e
      rw [hv] at e
      cases e
      -- the captured cell
      have hs0' : (cxOf (L2.CX P w) P w K mg base N qual scope f cdv A outer s H E).env.kindOf y0 = some .cell := hs0
      obtain ⟨m', hns, hloc⟩ := J.loc
      obtain ⟨u0, ru, lk0⟩ := hloc j0 y0 (.ref p) hj hσ (.inr (.inl hs0))
      obtain ⟨c0, hc0, o0, ho0, hd0⟩ : ∃ c0, (cxOf (L2.CX P w) P w K mg base N qual scope f cdv A outer s H E).env.cells.lookup y0 = some c0 ∧ s'.heap.IsCell c0 (some u0) := by
        rcases lk0 with ⟨z, _⟩ | ⟨_, c, z1, z2⟩
        · rw [hs0'] at z; cases z
        · exact ⟨c, z1, z2⟩
      rw [hcl _ _ hc0] at hf1
      have n0 : H1 c0 = none := J.freeC y0 c0 hc0
      have above : s.heap.objs.size ≤ c0 := J.ok.cab y0 c0 rfl hc0
      have hH : H c0 = none := e0.hok.fresh above
      have ne : ∀ {b : Addr} {o : HO}, H1 b = some o → upd H1 c0 (CelO c0 o0) b = some o := fun {b o} q => by rw [upd_ne (ne_of_none q n0)]; exact q
      refine ⟨.ref f1, upd H1 c0 (CelO c0 o0), J.os, J.bare, ⟨J.base.keep, J.base.slot, fun b o q1 q2 q3 => ?_, J.base.there, fun b xs q => ne (J.base.tups b xs q), fun b o xs q => ne (J.base.frzs b o xs q), fun b ps q => ?_⟩, fun b o q => ?_, rv, ?_⟩
      · have hb : b ≠ c0 := fun z => absurd (Heap.lt_size q1) (by rw [z]; exact Nat.not_lt.mpr above)
        rw [upd_ne hb]
        exact J.base.free b o q1 q2 q3
      · obtain ⟨more, q2⟩ := J.base.tbls b ps q
        exact ⟨more, ne q2⟩
      · by_cases hb : b = c0
        · subst hb
          rw [upd_same] at q
          cases q
          exact celO_ok ho0
        · rw [upd_ne hb] at q
          exact (J.hok b o q).stay (fun _ _ _ z => z) (fun _ z => ne z) fun _ _ z => ne z
      · have tm : Tame H1 (upd H1 c0 (CelO c0 o0)) := Tame.new n0
        have hcc : ckOne st nm q0 y0 g' (upd H1 c0 (CelO c0 o0)) [.ref n] f1 := ⟨n, p, c0, c', o0, u0, rfl, hp, ne hf1, ne hc1, upd_same, hd0, ru⟩
        let g'' : G := ⟨g'.ι, g'.F, fun k' cs' a' => g'.C k' cs' a' ∨ (k' = kk ∧ cs' = [.ref n] ∧ a' = f1)⟩
        have ge2 : Ge g' g'' := ⟨List.prefix_refl _, Evl.Ex.refl _, fun _ _ _ z => .inl z⟩
        refine kq g'' _ ⟨ge.trans ge2, ⟨fun b u q => ne (rs'.ex b u q), rs'.nd, rs'.len, rs'.nf, fun m b c q1 q2 => ?_, fun k' cs' a' q => ?_, T.tbm _ _ tm.x tm.t rs'.tb, rs'.ft⟩, fun a o q1 nt q2 => ne (hpr a o q1 nt q2), hnew, hnfz, fun a ps q => ?_⟩ (.ref f1) (.inl (.clo (.inr ⟨rfl, rfl, rfl⟩)))
        · obtain ⟨o, ho, _⟩ := rs'.plain q1
          exact (rs'.at_ m b c q1 q2).mono ge2 ((ne ho).trans ho.symm)
        · rcases q with q | ⟨rfl, rfl, rfl⟩
          · exact T.ckm _ _ _ _ _ _ _ ge2 tm.x (rs'.cl k' cs' a' q)
          · exact T.ckm _ _ _ _ _ _ _ ge2 (fun _ _ z => z) (hck _ _ _ _ hcc)
        · obtain ⟨more, q2⟩ := J.base.tbls a ps q
          exact ⟨_, ne q2⟩
    | next => exact hs.elim
    | brk => exact hs.elim
    | cont => exact hs.elim
end
end MP
set_option Elab.async false
set_option linter.all false
set_option maxRecDepth 100000
set_option maxHeartbeats 4000000
/-! MP: the call of a def that was handed out. -/
namespace MP
open PySem L2 PySem.Spec PyProof.Rows LamX NdefX

section
variable {K : PySem.W.Frag} {T T' : Tb K} {g : G} {H : Hp}
theorem RepF.conv (h1 : ∀ n, T'.fld n = T.fld n) (h2 : ∀ c n, T'.has c n = T.has c n) {c : Nat} {fs : List (Nat × D)} {ws : List (Str × V)} (r : RepF T g c fs ws) : RepF T' g c fs ws := by
  induction r with
  | nil => exact .nil
  | cons e r _ ih =>
    rw [← h1]
    exact .cons (by rw [h2]; exact e) r ih
theorem RepC.conv (h0 : ∀ c, T'.cls c = T.cls c) (h1 : ∀ n, T'.fld n = T.fld n) (h2 : ∀ c n, T'.has c n = T.has c n) {a : Addr} : ∀ {c : Cell}, RepC T g H a c → RepC T' g H a c
  | .inst c fs, ⟨dx, ws, q, r, l⟩ => ⟨dx, ws, by rw [h0]; exact q, r.conv h1 h2, l⟩
  | .lst ds, r => r
  | .dct kvs, r => r
  | .dci kvs, r => r
theorem RepAs.conv {ds : List D} {vs : List V} (r : RepAs T g ds vs) : RepAs T' g ds vs := by
  induction r with
  | nil => exact .nil
  | cons r _ ih => exact .cons (r.elim .inl fun z => z.elim) ih
end
section
variable {K : PySem.W.Frag} (T : Tb K)
/-- the promise of the closure k, cs that stands at a -/
def spCl (k : Nat) (cs : List D) (a : Addr) (n : Nat) (f : Fn) : Sp := fun vs H Q E => ∃ g S ds r S', g.C k cs a ∧ f ds S = some (r, S') ∧ RS T g H S ∧ RepAs T g ds vs ∧ vs.length = n ∧ ∀ g' H', Aft T g H S' g' H' → match r with
  | .ok d => ∀ v, RepA T g' d v → Q v H'
  | .ex e => ∀ cls dd, RepX T g' H' e cls dd → E cls dd H'
end
/-- its mirror -/
def mkCl (n nl : Nat) (body : M Flow) (cs : List D) : Fn := fun ds S => if ds.length = n then (match body ⟨ds.map .val ++ (cs.map .val ++ List.replicate (nl - n - cs.length) .none), S⟩ with
  | some (.ok (.ret d), L) => some (.ok d, L.s)
  | some (.ok .next, L) => some (.ok .non, L.s)
  | _ => Option.none) else Option.none
theorem ar_cl (n nl : Nat) (m : M Flow) (cs : List D) : Ar n (mkCl n nl m cs) := fun ds S z e => by
  unfold mkCl at e
  split at e
  · assumption
  · cases e
section
variable {P : Program} {w : World} {K : PySem.W.Frag} {mg : Str → Option Value} {base : Heap} {T : Tb K}
theorem clo_run {N ps : List Str} {k kk : Nat} {m : M Flow} {st : Stmt} {nm q0 y0 : Str} (S : NScope N ps [y0] (C8.fnScope st))
    (hbind : ∀ (cl : List (Str × Addr)) (c : Addr) (doc pm ctv : Value) (us : List Value), us.length = ps.length → bindArgs ((NF.of st nm q0 cl c).fd doc pm ctv) ⟨us, []⟩ = pure (ps.zip us))
    (hck : ∀ g H cs a, T.ck g H kk cs a → ckOne st nm q0 y0 g H cs a)
    (hbody : ∀ (T' : Tb K) (cl : List (Str × Addr)) (c f : Addr) (A : Around) (outer : List Env) (s : Shared) (H : Hp) (E : XK) (B : Ent), FrX (ncx (L2.CX P w) P w K mg base N (NF.of st nm q0 cl c) f A outer s H E) k (fun cls d _ H => E cls d H) →
      PSs (ncx (L2.CX P w) P w K mg base N (NF.of st nm q0 cl c) f A outer s H E) (C8.fnBody st) (tS T' B (fun cls d _ H => E cls d H) m)) :
    ∀ (cs : List D) (a : Addr) (A : Around) (outer : List Env) (s : Shared) (H : Hp) (us : List Value) (vs : List V) (Q : VK) (E : XK), Room (k + 1) A → Env0 P w K mg base A outer s H → Vals vs us →
      spCl T kk cs a ps.length (mkCl ps.length N.length m cs) vs H Q E → codeAny (model P w) A (.call (.ref a) ⟨us, []⟩) (CR (L2.CX P w) outer P w H s Q E) s := by
  intro cs a A outer s H us vs Q E hr e0 r hsp
  obtain ⟨g, S0, ds, rr, S', hgC, e, rs, ra, hl, kq⟩ := hsp
  obtain ⟨n, p, c0, c', o0, u0, rfl, hp, hf, hc, hcell, hd0, ru⟩ := hck _ _ _ _ (rs.cl _ _ _ hgC)
  have lim : s.heap.NoLimit := e0.mod.nolimit.keeps fun b o e => (e0.bs b o e).1
  obtain ⟨od, sl, doc, pm, ctv, ho⟩ := fnO_at e0.hok hf
  have ho0 : s.heap.get? c0 = some o0 := celO_at e0.hok hcell
  -- without the cell
  have hH0 : ∃ H0 : Hp, H0 = fun b => if b = c0 then none else H b := ⟨_, rfl⟩
  obtain ⟨H0, hH0⟩ := hH0
  have h00 : H0 c0 = none := by rw [hH0]; exact if_pos rfl
  have h01 : ∀ {b}, b ≠ c0 → H0 b = H b := fun hb => by rw [hH0]; exact if_neg hb
  have h02 : ∀ {b : Addr}, H b = none → H0 b = none := fun {b} e => by
    by_cases hb : b = c0
    · rw [hb]; exact h00
    · rw [h01 hb]; exact e
  have h03 : ∀ {b : Addr} {o : HO}, H b = some o → plainO o = true → H0 b = some o := fun {b o} e hpl => by
    have hb : b ≠ c0 := fun z => by subst z; rw [hcell] at e; cases e; cases hpl
    rw [h01 hb]; exact e
  have h04 : ∀ {b : Addr} {o : HO}, H0 b = some o → H b = some o ∧ b ≠ c0 := fun {b o} e => by
    have hb : b ≠ c0 := fun z => by subst z; rw [h00] at e; cases e
    exact ⟨by rw [← h01 hb]; exact e, hb⟩
  have e1 : Env0 P w K mg base A outer s H0 := ⟨e0.frames, e0.mod, fun b o q => ⟨(e0.bs b o q).1, h02 (e0.bs b o q).2⟩, e0.bsz, e0.funs, fun b hb => h02 (e0.frf b hb), fun b o q => by
    obtain ⟨q1, q2⟩ := h04 q
    exact (e0.hok b o q1).stay (fun _ _ _ z => z) (fun _ z => h03 z rfl) fun _ _ z => h03 z rfl, e0.bare⟩
  have C : CellsAt [(y0, c0)] [y0] [some (.ref p)] s.heap H0 := by
    refine ⟨rfl, fun y c q => ?_, fun x y c q1 q2 => ?_, fun i y q => ?_⟩
    · have : y = y0 ∧ c = c0 := by
        rw [List.lookup_cons] at q
        split at q
        · rename_i z
          cases q
          exact ⟨by simpa using z, rfl⟩
        · cases q
      obtain ⟨rfl, rfl⟩ := this
      exact ⟨h00, _, o0, ho0, hd0⟩
    · have one : ∀ z, [(y0, c0)].lookup z = some c → z = y0 := fun z q => by
        rw [List.lookup_cons] at q
        split at q
        · rename_i hz; simpa using hz
        · cases q
      rw [one x q1, one y q2]
    · cases i with
      | zero =>
        cases q
        refine ⟨c0, List.lookup_cons_self, fun v q2 => ?_⟩
        cases q2
        exact ⟨u0, ru, o0, ho0, hd0⟩
      | succ i => simp at q
  let T' : Tb K := { T with
    ck := fun _ _ k' cs' a' => g.C k' cs' a'
    ckm := fun _ _ _ _ _ _ _ _ _ h => h
    tabs := fun H1 => ∀ b ps, H b = some (.tbl ps) → H1 b = some (.tbl ps)
    tbm := fun H1 H2 _ h2 h b ps q => h2 b ps (h b ps q) }
  have rs1 : RS T' g H0 S0 := ⟨fun b u q => h03 (rs.ex b u q) (rs.ft b u q), rs.nd, rs.len, rs.nf, fun m b c q1 q2 => by
      obtain ⟨o, ho, hpo⟩ := rs.plain q1
      exact RepC.conv (T := T) (T' := T') (fun _ => rfl) (fun _ => rfl) (fun _ _ => rfl) ((rs.at_ m b c q1 q2).mono (Ge.refl _) ((h03 ho hpo).trans ho.symm)),
    fun k' cs' a' q => q, fun b ps q => by
      have hb : b ≠ c0 := fun z => by subst z; rw [hcell] at q; cases q
      rw [h01 hb]; exact q, rs.ft⟩
  have ra1 : RepAs T' g ds vs := ra.conv
  have hlen := ra.length
  have hd : ds.length = ps.length := hlen.trans hl
  unfold mkCl at e
  rw [if_pos hd] at e
  have hpl : ps.length + 1 ≤ N.length := by
    have q := congrArg List.length S.pre
    rw [List.length_take, List.length_append] at q
    simp at q
    omega
  -- the entry
  have en : Rp T' ⟨g, H0, []⟩ g (startF N vs [some (.ref p)]) H0 ⟨ds.map .val ++ ([MP.D.ref n].map .val ++ List.replicate (N.length - ps.length - 1) .none), S0⟩ := by
    have nown : ∀ (i : Nat) es, (ds.map Slot.val ++ ([MP.D.ref n].map Slot.val ++ List.replicate (N.length - ps.length - 1) Slot.none))[i]? ≠ some (.own es) := fun i es e => by
      have := List.mem_of_getElem? e
      simp only [List.mem_append, List.mem_map, List.mem_replicate] at this
      rcases this with ⟨_, _, z⟩ | ⟨_, _, z⟩ | ⟨_, z⟩ <;> cases z
    refine ⟨rs1, Ge.refl _, fun b m => rs1.there m, fun b o e _ _ => e, fun b m => .inl m, ?_, fun i d e => ?_, fun i es e => absurd e (nown i es), fun i j es fs p _ e => absurd e (nown i es), fun q m => (by cases m), fun b o _ h => h, fun b ps e => ⟨ps, e⟩⟩
    · show (ds.map Slot.val ++ ([MP.D.ref n].map Slot.val ++ List.replicate (N.length - ps.length - 1) Slot.none)).length = (startF N vs [some (.ref p)]).length
      unfold startF
      simp [hlen, hl]
    · have e : (ds.map Slot.val ++ ([MP.D.ref n].map Slot.val ++ List.replicate (N.length - ps.length - 1) Slot.none))[i]? = some (.val d) := e
      unfold startF
      by_cases hi : i < ds.length
      · rw [List.getElem?_append_left (by simpa using hi), List.getElem?_map] at e
        cases q : ds[i]? with
        | none => rw [q] at e; cases e
        | some d' =>
          rw [q] at e
          cases e
          obtain ⟨v, h1, h2⟩ := ra1.get q
          refine ⟨v, ?_, h2⟩
          rw [List.getElem?_append_left (by simpa [← hlen] using hi), List.getElem?_map, h1] <;> rfl
      · rw [List.getElem?_append_right (by simpa using hi), List.length_map] at e
        by_cases hi2 : i = ds.length
        · rw [hi2, Nat.sub_self] at e
          cases e
          refine ⟨.ref p, ?_, .inl (.ref hp)⟩
          rw [List.getElem?_append_right (by simp [hi2, hlen]), List.length_map, hi2, hlen, Nat.sub_self] <;> rfl
        · obtain ⟨z, hz⟩ : ∃ z, i - ds.length = z + 1 := ⟨i - ds.length - 1, by omega⟩
          rw [hz] at e
          have e : (List.replicate (N.length - ps.length - 1) Slot.none)[z]? = some (.val d) := e
          rw [List.getElem?_replicate] at e
          split at e <;> cases e
  refine codeAny_call_function hr.depth ho rfl S.co S.gen rfl (codeO_at e0.hok hc) ?_
  rw [hbind _ _ doc pm ctv us (by rw [← r.length]; exact hl)]
  refine wpAny_pure (wpAny_newFunctionEnv S.nocell (fun ⟨n, _⟩ hy => S.par n (List.of_mem_zip hy).1) (fun h₁ hns hsb => ⟨lim.fresh _ hsb, ?_⟩) S.kind)
  show codeAny _ _ (.func (C8.fnBody st) (envF (NF.of st nm q0 [(y0, c0)] c') a s.heap.objs.size)) _ _
  refine codeAny_func ?_
  have kp : ∀ b o, s.heap.get? b = some o → h₁.get? b = some o := fun b o e => hsb.extBut b o (Nat.ne_of_lt (Heap.lt_size e)) (Heap.get?_push_of_some _ e)
  have I : Inv (ncx (L2.CX P w) P w K mg base N (NF.of st nm q0 [(y0, c0)] c') a A outer s H0 (fun _ _ _ => False)) [] (startF N vs [some (.ref p)]) H0 { s with heap := h₁, toks := s.toks + (ps.zip us).length } := inv_startN S hr.hd e1 hl r C hns kp
  have hb := hbody T' [(y0, c0)] c' a A outer s H0 (fun _ _ _ => False) ⟨g, H0, []⟩ ⟨takes_of rfl rfl rfl rfl, hr.deeper _, PassesOwn.leaving⟩
  obtain ⟨r1, L1, hm⟩ : ∃ r1 L1, m ⟨ds.map .val ++ ([MP.D.ref n].map .val ++ List.replicate (N.length - ps.length - 1) .none), S0⟩ = some (r1, L1) := by
    cases hm : m ⟨ds.map .val ++ ([MP.D.ref n].map .val ++ List.replicate (N.length - ps.length - 1) .none), S0⟩ with
    | none => rw [show ([MP.D.ref n]).length = 1 from rfl, hm] at e; cases e
    | some z => exact ⟨z.1, z.2, rfl⟩
  rw [show ([MP.D.ref n]).length = 1 from rfl, hm] at e
  -- what is told at the end
  have fin : ∀ (d : MP.D), rr = .ok d → S' = L1.s → ∀ (g' : G) (σ' : L2.St) (H1 : Hp), Ge g g' → Rp T' ⟨g, H0, []⟩ g' σ' H1 L1 → H1 c0 = none → ∀ v, RepA T' g' d v → Q v (upd H1 c0 (CelO c0 o0)) := by
    intro d er es g' σ' H1 ge rp hn v rv
    have ne : ∀ {b : Addr} {o : HO}, H1 b = some o → upd H1 c0 (CelO c0 o0) b = some o := fun {b o} q => by rw [upd_ne (ne_of_none q hn)]; exact q
    have hx : ∀ b φ, H b = some (.ext φ) → upd H1 c0 (CelO c0 o0) b = some (.ext φ) := fun b φ q => by
      by_cases hb : b = c0
      · subst hb; rw [hcell] at q; cases q; exact upd_same
      · refine ne (rp.pres b _ (by show H0 b = _; rw [h01 hb]; exact q) (fun _ z => by cases z) fun m => ?_)
        obtain ⟨n', hn'⟩ := List.mem_iff_getElem?.mp (show b ∈ g.ι from m)
        obtain ⟨o, ho, hpo⟩ := rs.plain hn'
        rw [q] at ho; cases ho; cases hpo
    have ht : ∀ b ps, H b = some (.tbl ps) → upd H1 c0 (CelO c0 o0) b = some (.tbl ps) := fun b ps q => ne (rp.rs.tb b ps q)
    have key := kq g' (upd H1 c0 (CelO c0 o0)) ⟨ge, ⟨fun b u q => ne (rp.rs.ex b u q), rp.rs.nd, by rw [es]; exact rp.rs.len, rp.rs.nf, fun m b c q1 q2 => ?_, fun k' cs' a' q => T.ckm _ _ _ _ _ _ _ ge hx (rs.cl k' cs' a' (rp.rs.cl k' cs' a' q)), T.tbm _ _ hx ht rs.tb, rp.rs.ft⟩,
      fun b o q1 nt q2 => ?_, fun b m => ?_, fun b o q1 q2 => ?_, fun b ps q => ⟨ps, ht b ps q⟩⟩
    · rw [er] at key
      exact key v (rv.elim .inl fun z => z.elim)
    · rw [es] at q2
      obtain ⟨o, ho, _⟩ := rp.rs.plain q1
      exact RepC.conv (T := T') (T' := T) (fun _ => rfl) (fun _ => rfl) (fun _ _ => rfl) ((rp.rs.at_ m b c q1 q2).mono (Ge.refl _) ((ne ho).trans ho.symm))
    · by_cases hb : b = c0
      · subst hb; rw [hcell] at q1; cases q1; exact upd_same
      · exact ne (rp.pres b o (by show H0 b = _; rw [h01 hb]; exact q1) nt q2)
    · rcases rp.new b m with q | q
      · exact .inl q
      · by_cases hb : b = c0
        · obtain ⟨o, ho⟩ := rp.rs.there m
          rw [hb, hn] at ho; cases ho
        · exact .inr (by rw [← h01 hb]; exact q)
    · by_cases hb : b = c0
      · cases q : g'.F b with
        | none => rfl
        | some u =>
          have := rp.rs.ex b u q
          rw [hb, hn] at this; cases this
      · exact rp.nfz b o (by show H0 b = _; rw [h01 hb]; exact q1) q2
  refine wpAny_mono (hb.run [] _ (startF N vs [some (.ref p)]) H0 { nx := fun _ H1 => H1 c0 = none → Q .non (upd H1 c0 (CelO c0 o0)), rt := fun v H1 => H1 c0 = none → Q v (upd H1 c0 (CelO c0 o0)) } I ⟨_, g, r1, L1, hm, en, fun g' σ' H' ge rp => ?_⟩) (fun fl s' hs => ?_) fun e s' hs => ?_
  · cases r1 with
    | ex x => cases e
    | ok fl =>
      cases fl with
      | next => cases e; exact fun hn => fin .non rfl rfl g' σ' H' ge rp hn .non (.inl .non)
      | ret d => cases e; exact fun v rv hn => fin d rfl rfl g' σ' H' ge rp hn v rv
      | brk => cases e
      | cnt => cases e
  · have out : ∀ {σ' : L2.St} {H1 : Hp} {v : V} {u : Value}, Inv (ncx (L2.CX P w) P w K mg base N (NF.of st nm q0 [(y0, c0)] c') a A outer s H0 (fun _ _ _ => False)) [] σ' H1 s' → L2.RelV v u → (H1 c0 = none → Q v (upd H1 c0 (CelO c0 o0))) → CE outer P w H s Q u s' := by
      intro σ' H1 v u J rv q9
      have hn : H1 c0 = none := J.freeC y0 c0 List.lookup_cons_self
      have ne : ∀ {b : Addr} {o : HO}, H1 b = some o → upd H1 c0 (CelO c0 o0) b = some o := fun {b o} q => by rw [upd_ne (ne_of_none q hn)]; exact q
      have nf : c0 ∉ frs outer := fun z => by
        have := e0.frf c0 z
        rw [hcell] at this; cases this
      refine ⟨v, upd H1 c0 (CelO c0 o0), J.os, J.bare, ⟨fun b o q1 q2 q3 q4 => J.base.keep b o q1 (h02 q2) q3 q4, fun b o q1 q2 q3 q4 => J.base.slot b o q1 (h02 q2) q3 q4, fun b o q1 q2 q3 => ?_, J.base.there, fun b xs q => ne (J.base.tups b xs (h03 q rfl)), fun b o xs q => ne (J.base.frzs b o xs (h03 q rfl)), fun b ps q => ?_⟩, fun b o q => ?_, rv, q9 hn⟩
      · have hb : b ≠ c0 := fun z => by subst z; rw [hcell] at q2; cases q2
        rw [upd_ne hb]
        exact J.base.free b o q1 (h02 q2) q3
      · have hb : b ≠ c0 := fun z => by subst z; rw [hcell] at q; cases q
        obtain ⟨more, q2⟩ := J.base.tbls b ps (by show H0 b = _; rw [h01 hb]; exact q)
        exact ⟨more, ne q2⟩
      · by_cases hb : b = c0
        · subst hb
          rw [upd_same] at q
          cases q
          exact celO_ok (J.base.keep b o0 ho0 h00 nf (fun z => by cases z))
        · rw [upd_ne hb] at q
          exact (J.hok b o q).stay (fun _ _ _ z => z) (fun _ z => ne z) fun _ _ z => ne z
    cases fl with
    | ret u =>
      obtain ⟨v, σ', H1, J, rv, q⟩ := hs
      exact out J rv q
    | next =>
      obtain ⟨σ', H1, J, q⟩ := hs
      exact out (v := V.non) (u := Value.none) J rfl q
    | brk =>
      obtain ⟨_, _, _, q⟩ := hs
      exact False.elim q
    | cont =>
      obtain ⟨_, _, _, q⟩ := hs
      exact False.elim q
  · have no : ∀ e s'', ¬ L2.CX P w outer H0 s (fun _ _ _ => False) e s'' := fun e s'' c => by
      obtain ⟨_, _, _, _, _, _, _, _, _, _, _, _, z⟩ := c
      exact z
    have hs : wpAny (model P w) (A.deeper (envF (NF.of st nm q0 [(y0, c0)] c') a s.heap.objs.size)) (leaving (envF (NF.of st nm q0 [(y0, c0)] c') a s.heap.objs.size) e) (fun _ s'' => L2.CX P w outer H0 s (fun _ _ _ => False) e s'') (fun e' s'' => L2.CX P w outer H0 s (fun _ _ _ => False) e' s'') s' := hs
    exact wpAny_mono hs (fun _ s'' c => (no _ _ c).elim) fun e' s'' c => (no _ _ c).elim
end
/-! ### the call -/
/-- the mirrors of the text's closures -/
def mClo (ct : Nat → List D → Fn) (mf : M D) (ms : M (List D)) : M D := M.bind mf fun o => match o with
  | .clo k cs => mCall (ct k cs) ms
  | _ => fun _ => Option.none
structure CloF (X : Cx) (T : Tb X.K) (ct : Nat → List D → Fn) : Prop where
  go : ∀ (kk : Nat) (cs : List D) (a : Addr), ∃ n, Ar n (ct kk cs) ∧ ∀ (A : Around) (s : Shared) (H : Hp) (us : List Value) (vs : List V) (Q : VK) (E : XK), A = X.A → Env0 X.prog X.w X.K X.mg X.base A X.stack s H → Vals vs us → spCl T kk cs a n (ct kk cs) vs H Q E →
    codeAny (model X.prog X.w) A (.call (.ref a) ⟨us, []⟩) (CR (L2.CX X.prog X.w) X.stack X.prog X.w H s Q E) s
  fn : ∀ (kk : Nat) (cs : List D) (a : Addr) g H, T.ck g H kk cs a → ∃ F, H a = some (FnO a F)
section
variable {X : Cx} {T : Tb X.K} {B : Ent} {W : WX} {a b c : Expr} {ma mb mc : M D} {pos pos' apos : Pos} {es : List Expr} {ms : M (List D)} {ct : Nat → List D → Fn}
theorem x_clo {x : Str} {p : Pos} {e : Expr} {i : Nat} (F : CloF X T ct) (tk : Takes X W) (hx : X.N[i]? = some x) (ha : PA X (e :: es) (tA T B W ms)) (hv : Vis X.env.scope x := by first | exact Or.inl rfl | exact Or.inr (Or.inl rfl) | exact Or.inr (Or.inr rfl))
    (hd : (x == ("__debug__" : Str)) = false := by decide) (hcd : (x == ("__classdict__" : Str)) = false := by decide)
    (he : starEach (e :: es) X.env = (false, eval e X.env) :: starEach es X.env := by rfl) (hpl : (backTo pos (starEach es X.env)).any (·.1) = false := by rfl) : PE X (.Call (.Name x p) (e :: es) [] pos) (tE T B W (mClo ct (mVar i) ms)) := by
  refine ⟨fun pins s σ H Q I ⟨Lc, g, k⟩ => ?_⟩
  have k0 := Kt.bind (R1 := RepS T) k
  refine wpAny_Call_Name_kw (thn ((x_var (T := T) (B := B) (W := W) (pos := p) i hx hv hd hcd).run pins s σ H _ I ⟨Lc, g, k0⟩) fun u s1 ⟨v, H1, I1, rv, g1, L1, o, ge1, ro, k1⟩ => ?_)
  obtain ⟨rr, L', ee, rp, kk⟩ := id k1
  cases o with
  | clo k cs =>
    rcases ro with ro | ro
    · cases ro with
      | @clo _ _ a0 hC =>
        obtain rfl : u = Value.ref a0 := rv
        obtain ⟨n, har, run⟩ := F.go k cs a0
        obtain ⟨F0, hF0⟩ := F.fn k cs a0 _ _ (rp.rs.cl _ _ _ hC)
        have k2 : Kt T B W (RepS T) (mCall (ct k cs) ms) L1 g1 σ H1 Q := ⟨rr, L', ee, rp, kk⟩
        refine PySem.W.callWith_F (first := []) (fnAt_of I1 hF0) (thn (ha.run pos pins s1 σ H1 _ I1 ⟨L1, g1, Kt.bind (R1 := RA T) k2⟩) fun us s2 ⟨vs, H2, I2, r, g2, L2', ds, ge2, ra, k3⟩ => ?_) he hpl
        obtain ⟨r4, L4, e4, rp4, kk4⟩ := id k3
        obtain ⟨F2, hF2⟩ := F.fn k cs a0 _ _ (rp4.rs.cl _ _ _ (ge2.cl _ _ _ hC))
        refine ⟨fnAt_of I2 hF2, ?_⟩
        show wpAny _ _ (call (.ref a0) us) _ _ _
        have sp : spCl T k cs a0 n (ct k cs) vs H2 Q (WE W σ) := by
          dsimp only at e4
          cases hf : ct k cs ds L2'.s with
          | none => rw [hf] at e4; cases e4
          | some z =>
            obtain ⟨rz, S'⟩ := z
            rw [hf] at e4
            cases e4
            refine ⟨g2, L2'.s, ds, r4, S', ge2.cl _ _ _ hC, hf, rp4.rs, ra, ra.length.symm.trans (har _ _ _ hf), fun g' H' af => ?_⟩
            have z := kk4 g' H' af.ge (rp4.after af)
            cases r4 with
            | ok d => exact fun v rv => z v (RepS.of rv)
            | ex e => exact z
        refine wpAny_call (codeAny_mono (run X.A s2 H2 us vs Q (WE W σ) rfl I2.env0 r sp) fun r5 s' hq => ?_)
        cases r5 with
        | error e => exact passAt tk σ pins H2 s2 e s' I2 hq
        | ok fl =>
          cases fl with
          | ret u => exact I2.after hq
          | next => exact False.elim hq
          | brk => exact False.elim hq
          | cont => exact False.elim hq
    · exact ro.elim
  | _ => cases ee
end
end MP
set_option Elab.async false
set_option linter.all false
set_option maxRecDepth 100000
set_option maxHeartbeats 4000000
/-! MP: the facts of a text, its defs, the end. -/
namespace MP
open PySem L2 PySem.Spec PyProof.Rows LamX NdefX

/-- what the top has left: facts, defs, inherited methods, tables -/
abbrev FaOk (fa : List He.Fa) (K : PySem.W.Frag) : Prop := ∀ (i : Nat) {f : He.Fa}, fa[i]? = some f → f.ok K = true
structure Cn (fa : List He.Fa) (fn : List He.DefD) (ih : List (Str × Str × Str)) (tf : List He.Defn) (K : PySem.W.Frag) (mg : Str → Option Value) (base : Heap) : Prop where
  KX : K.In base
  G : base.Ns mainGlobals mg
  fa : FaOk fa K
  df : ∀ (i : Nat) {d : He.DefD}, fn[i]? = some d → ∃ fd, FunD K d.name d.qual d.params d.body d.scope (d.dvs K) (d.kws K) (He.fAd K d.at_) fd
  ih : ∀ (i : Nat) {p : Str × Str × Str}, ih[i]? = some p → He.ma K (He.ga K p.1) p.2.2 = He.ma K (He.ga K p.2.1) p.2.2
  tb : ∀ p ∈ tf, TabB base mg (He.cT K p).1 (He.cT K p).2
structure OkF (P : Program) (w : World) (K : PySem.W.Frag) (mg : Str → Option Value) (base : Heap) (T : Tb K) (k : Nat) (a : Addr) (ps : List Str) (f : Fn) (fd : FuncData) : Prop where
  ok : FnOk P w K mg base (L2.CX P w) k a fd ps (spOf T ps.length f)
  bn : Binds K fd ps []
  kp : PySem.W.keepIn K (.ref a) = true
  ar : Ar ps.length f
  lk : ∃ oc od osl, K.lookup a = some ⟨oc, od, .func fd, osl⟩
theorem fund_lk {K : PySem.W.Frag} {x qual : Str} {params : Arguments} {body : List Stmt} {scope : Scope} {dvs : List V} {kws : List (Str × V)} {f : Addr} {fd : FuncData} (F : FunD K x qual params body scope dvs kws f fd) : ∃ oc od osl, K.lookup f = some ⟨oc, od, .func fd, osl⟩ := by
  obtain ⟨oc, od, dV, kV, doc, pm, an, cdv, ct, osl, rfl, lk, _⟩ := F.ex
  exact ⟨oc, od, osl, lk⟩
theorem nofld {hl : List (Nat × Nat)} {fl : List Str} {c : Nat} {m : Str} (h : (hl.all fun p => p.1 != c || fl.getD p.2 "" != m) = true) : ∀ n, hl.contains (c, n) = true → fl.getD n "" ≠ m := fun n hn e => by
  have := List.all_eq_true.mp h (c, n) (by simpa using hn)
  rw [Bool.or_eq_true] at this
  rcases this with q | q
  · simp at q
  · rw [show fl.getD (c, n).2 "" = m from e] at q; simp at q
theorem fld_inj {hl : List (Nat × Nat)} {fl : List Str} (h : (hl.all fun p => hl.all fun q => p.2 == q.2 || fl.getD p.2 "" != fl.getD q.2 "") = true) : ∀ c i j, hl.contains (c, i) = true → hl.contains (c, j) = true → fl.getD i "" = fl.getD j "" → i = j := fun c i j h1 h2 e => by
  have := List.all_eq_true.mp (List.all_eq_true.mp h (c, i) (by simpa using h1)) (c, j) (by simpa using h2)
  rw [Bool.or_eq_true] at this
  rcases this with q | q
  · simpa using q
  · rw [show fl.getD (c, i).2 "" = fl.getD (c, j).2 "" from e] at q; simp at q
/-- all pairs (class, field) -/
def PairsOk (R : Nat → Nat → Prop) : List (Nat × Nat) → Prop
  | [] => True
  | p :: ps => R p.1 p.2 ∧ PairsOk R ps
theorem pairs_ok {R : Nat → Nat → Prop} : ∀ {l : List (Nat × Nat)}, PairsOk R l → ∀ c i, l.contains (c, i) = true → R c i
  | [], _, c, i, e => by cases e
  | p :: ps, h, c, i, e => by
    rw [List.contains_cons, Bool.or_eq_true] at e
    rcases e with e | e
    · have : (c, i) = p := by simpa using e
      rw [← this] at h
      exact h.1
    · exact pairs_ok h.2 c i e
theorem tk0 {Y : Cx} : Takes Y W0 := fun u s' ⟨_, _, _, _, _, _, _, _, _, _, _, _, _, _, _, _, z⟩ => False.elim z
theorem FrX.un1 {X : Cx} {k : Nat} {W : WX} (F : FrX X k W) : X.A.units + 1 < cLine := by have := F.room.un; omega
theorem FrX.un64 {X : Cx} {k : Nat} {W : WX} (F : FrX X k W) : X.A.units + 64 < cLine := by have := F.room.un; omega
theorem FrX.un65 {X : Cx} {k : Nat} {W : WX} (F : FrX X k W) : X.A.units + 65 < cLine := by have := F.room.un; omega
abbrev lPop0 : List D → List D → Option (D × List D) := fun ds as => match as with | [] => lPop ds [] | _ => Option.none
abbrev lPop1 : List D → List D → Option (D × List D) := fun ds as => match as with | [i] => lPop ds [i] | _ => Option.none
abbrev MS := M Flow
/-- one kind of closure -/
def ct1 (f : List D → Fn) : Nat → List D → Fn := fun k cs => if k = 0 then f cs else fun _ _ => Option.none
theorem cloF_one {X : Cx} {T : Tb X.K} {st : Stmt} {nm q0 y0 : Str} {N ps : List Str} {k : Nat} {m : M Flow} (hck : ∀ g H kk cs a, T.ck g H kk cs a → kk = 0 ∧ ckOne st nm q0 y0 g H cs a) (hr : Room (k + 1) X.A)
    (h : ∀ (cs : List D) (a : Addr) (A : Around) (outer : List Env) (s : Shared) (H : Hp) (us : List Value) (vs : List V) (Q : VK) (E : XK), Room (k + 1) A → Env0 X.prog X.w X.K X.mg X.base A outer s H → Vals vs us →
      spCl T 0 cs a ps.length (mkCl ps.length N.length m cs) vs H Q E → codeAny (model X.prog X.w) A (.call (.ref a) ⟨us, []⟩) (CR (L2.CX X.prog X.w) outer X.prog X.w H s Q E) s) : CloF X T (ct1 (mkCl ps.length N.length m)) := by
  refine ⟨fun kk cs a => ?_, fun kk cs a g H c => ?_⟩
  · cases kk with
    | zero => exact ⟨ps.length, ar_cl _ _ _ _, fun A s H us vs Q E eA e0 r sp => h cs a A X.stack s H us vs Q E (by rw [eA]; exact hr) e0 r sp⟩
    | succ kk => exact ⟨0, fun ds S z e => (by cases e), fun A s H us vs Q E eA e0 r sp => by
        obtain ⟨g, S, ds, rr, S', hC, e, rs, _⟩ := sp
        cases (hck _ _ _ _ _ (rs.cl _ _ _ hC)).1⟩
  · obtain ⟨_, n, p, c0, c', o, u, _, _, h3, _⟩ := hck _ _ _ _ _ c
    exact ⟨_, h3⟩
/-! ### the end -/
/-- the store at the law's entry: nothing, the script -/
theorem rs_start {K : PySem.W.Frag} {T : Tb K} {H : Hp} (htb : T.tabs H) {a : Addr} {xs : List V} (h : SqL K H a xs) : ∃ F : Hp, SqL K F a xs ∧ RS T ⟨[], F, fun _ _ _ => False⟩ H [] := by
  have mk : ∀ F : Hp, Evl.Ex F H → (∀ b o, F b = some o → plainO o = true) → RS T ⟨[], F, fun _ _ _ => False⟩ H [] := fun F h1 h2 =>
    ⟨h1, List.nodup_nil, rfl, fun a m => (by cases m), fun n a c e _ => by simp at e, fun _ _ _ h => h.elim, htb, h2⟩
  have one : ∀ o, H a = some o → plainO o = true → RS T ⟨[], upd (fun _ => none) a o, fun _ _ _ => False⟩ H [] := fun o e p => mk _ (fun b u q => by
      by_cases hb : b = a
      · subst hb; rw [upd_same] at q; cases q; exact e
      · rw [upd_ne hb] at q; cases q) fun b u q => by
      by_cases hb : b = a
      · subst hb; rw [upd_same] at q; cases q; exact p
      · rw [upd_ne hb] at q; cases q
  rcases h with h | h
  · rcases h with e | ⟨o, e⟩
    · exact ⟨_, .inl (.inl upd_same), one _ e rfl⟩
    · exact ⟨_, .inl (.inr ⟨o, upd_same⟩), one _ e rfl⟩
  · exact ⟨fun _ => none, .inr h, mk _ (fun b u q => by cases q) fun b u q => by cases q⟩
theorem law_at {l : PySem.W.OpenLaw} {w : World} {K : PySem.W.Frag} {mg : Str → Option Value} {fa : Addr} {h : Heap} {k : Nat} {f : Fn} {x : Str} {tf : List He.Defn} (T : Tb K) (fd : FuncData)
    (hE : ∀ p ∈ tf, h.get? (He.cT K p).2 = some { cls := .none, data := .fields #[] }) (hO : ∀ p ∈ tf, K.lookup (He.cT K p).2 = none) (hC : ∀ p ∈ tf, PySem.W.CodeHd h (He.cT K p).1 (He.cT K p).2) (hb : ∀ (s : Shared) (u : Value), BindsTo s fd ⟨[u], []⟩ [(x, u)])
    (htab : ∀ H : Hp, (∀ p ∈ tf, H (He.cT K p).2 = some (.tbl #[])) → T.tabs H)
    (hlaw : ∀ ns : List Int, ns.length ≤ 63 → (∀ z ∈ ns, Builtin.Int.intBits z ≤ 1048576) → ∃ S', f [.scr ns] [] = some (.ok (.bl true), S'))
    (hF : ∀ base : Heap, K.In base → base.Ns mainGlobals mg → (∀ p ∈ tf, TabB base mg (He.cT K p).1 (He.cT K p).2) → FnOk l.prog w K mg base (L2.CX l.prog w) k fa fd [x] (spOf T 1 f)) :
    LawAtS l w K (L2.CX l.prog w) k 63 x mg fa h := by
  refine ⟨fd, tf.map (He.cT K), spOf T 1 f, fun p hp => ?_, fun p hp => ?_, fun p hp => ?_, hb, fun H a ns hl hbits hH hS => ?_, fun base q1 q2 q3 => hF base q1 q2 fun p hp => q3 _ (List.mem_map_of_mem hp)⟩
  · obtain ⟨q, hq, rfl⟩ := List.mem_map.mp hp; exact hE q hq
  · obtain ⟨q, hq, rfl⟩ := List.mem_map.mp hp; exact hO q hq
  · obtain ⟨q, hq, rfl⟩ := List.mem_map.mp hp; exact hC q hq
  · obtain ⟨S', e⟩ := hlaw ns hl hbits
    obtain ⟨F, hF1, hF2⟩ := rs_start (htab H fun p hp => hH _ (List.mem_map_of_mem hp)) hS
    refine ⟨_, [], [.scr ns], .ok (.bl true), S', e, hF2, .cons (.inl (.scr hF1)) .nil, rfl, fun g' H' _ v rv => ?_⟩
    rcases rv with rv | rv
    · cases rv; rfl
    · exact rv.elim
/-- the inherited methods, looked at -/
def ihB (ih : List (Str × Str × Str)) (K : PySem.W.Frag) : Bool := ih.all fun p => decide (He.ma K (He.ga K p.1) p.2.2 = He.ma K (He.ga K p.2.1) p.2.2)
theorem cn_of {fa : List He.Fa} {fn : List He.DefD} {ih : List (Str × Str × Str)} {tf : List He.Defn} {w : World} {h base : Heap} {K : PySem.W.Frag} {mg : Str → Option Value} (c : He.SaysX fa fn [] tf (ihB ih) w h K) (q1 : K.In base) (q2 : base.Ns mainGlobals mg) (q3 : ∀ p ∈ tf, TabB base mg (He.cT K p).1 (He.cT K p).2) : Cn fa fn ih tf K mg base :=
  ⟨q1, q2, fun i f e => c.t.d.fact i e, fun i d e => c.t.d.def_ i e, fun i p e => of_decide_eq_true (List.all_eq_true.mp c.more p (List.mem_of_getElem? e)), q3⟩
theorem law_end {l : PySem.W.OpenLaw} {w : World} {K : PySem.W.Frag} {mg : Str → Option Value} {fa : Addr} {h : Heap} {k i : Nat} {f : Fn} {x : Str} {FA : List He.Fa} {FN : List He.DefD} {IH : List (Str × Str × Str)} {tf : List He.Defn} (KX : K.In h) (G : h.Ns mainGlobals mg) (c : He.SaysX FA FN [] tf (ihB IH) w h K) (T : Tb K) {d : He.DefD}
    (hd : FN[i]? = some d) (hk0 : d.dfl = []) (hat : d.at_ = (("law" : Str), none)) (hg : ∃ j : Nat, FA[j]? = some (He.Fa.glo "law")) (hmg : mg "law" = some (.ref fa))
    (hb : ∀ (kV doc pm : Value) (an : Option Addr) (cdv ct : Value) (us : List Value), us.length = [x].length → bindArgs (PySem.W.fnOf d.name d.qual d.params d.body d.scope .none kV doc pm an cdv ct) ⟨us, []⟩ = pure ([x].zip us))
    (htab : ∀ H : Hp, (∀ p ∈ tf, H (He.cT K p).2 = some (.tbl #[])) → T.tabs H)
    (hlaw : ∀ ns : List Int, ns.length ≤ 63 → (∀ z ∈ ns, Builtin.Int.intBits z ≤ 1048576) → ∃ S', f [.scr ns] [] = some (.ok (.bl true), S'))
    (hF : ∀ base : Heap, Cn FA FN IH tf K mg base → ∃ fd, OkF l.prog w K mg base T k (He.fAd K (("law" : Str), none)) [x] f fd) :
    LawAtS l w K (L2.CX l.prog w) k 63 x mg fa h := by
  obtain ⟨fd, F⟩ := c.t.d.def_ i hd
  obtain ⟨j, hj⟩ := hg
  have e := hmg.symm.trans (He.glo_ok KX G (c.t.d.fact j (f := He.Fa.glo "law") hj))
  cases e
  rw [hat] at F
  have F2 : FunD K d.name d.qual d.params d.body d.scope [] (d.kws K) (He.fAd K (("law" : Str), none)) fd := by
    have : d.dvs K = [] := by unfold He.DefD.dvs; rw [hk0]; rfl
    rw [← this]; exact F
  refine law_at T fd c.empty c.out (fun p hp => PySem.W.codeHd_of_K KX (c.hd p hp)) (fun s u => FunD.bindsA (ps := [x]) F2 hb s [u] rfl) htab hlaw fun base q1 q2 q3 => ?_
  obtain ⟨fd2, O⟩ := hF base (cn_of c q1 q2 q3)
  obtain ⟨_, _, _, h1⟩ := O.lk
  obtain ⟨_, _, _, h2⟩ := fund_lk F2
  rw [h1] at h2
  have : fd2 = fd := by
    injection h2 with h2
    injection h2 with _ _ h2 _
    injection h2
  subst this
  exact O.ok
end MP
set_option Elab.async false
set_option linter.all false
set_option maxRecDepth 100000
set_option maxHeartbeats 4000000
/-! MP: how the mirrors run. -/
namespace MP
open PySem L2
section
variable {α β : Type} {m : M α} {f : α → M β} {L L1 L2' : Lo} {ma mb mc : M D} {a b d : D} {ms : M (List D)} {na nb : M Bool} {m1 m2 : M Flow}
@[simp] theorem r_bind : M.bind m f L = (match m L with
  | Option.none => Option.none
  | some (.ok a, L1) => f a L1
  | some (.ex e, L1) => some (.ex e, L1)) := rfl
@[simp] theorem r_c : mC d L = some (.ok d, L) := rfl
@[simp] theorem r_var (i : Nat) : mVar i L = (match L.l[i]? with
  | some (.val d) => some (.ok d, L)
  | some (.own _) => some (.ok (.slot i), L)
  | _ => Option.none) := rfl
@[simp] theorem r_fz : mFz ma L = M.bind ma frz L := rfl
@[simp] theorem r_frz_i (i : Int) : frz (.int i) L = some (.ok (.int i), L) := rfl
@[simp] theorem r_frz_b (i : Bool) : frz (.bl i) L = some (.ok (.bl i), L) := rfl
@[simp] theorem r_frz_s (i : Str) : frz (.str i) L = some (.ok (.str i), L) := rfl
@[simp] theorem r_frz_n : frz .non L = some (.ok .non, L) := rfl
@[simp] theorem r_frz_l (i : List D) : frz (.lst i) L = some (.ok (.lst i), L) := rfl
@[simp] theorem r_frz_t (i : List D) : frz (.tup i) L = some (.ok (.tup i), L) := rfl
@[simp] theorem r_frz_r (i : Nat) : frz (.ref i) L = some (.ok (.ref i), L) := rfl
@[simp] theorem r_frz_c (k : Nat) (i : List D) : frz (.clo k i) L = some (.ok (.clo k i), L) := rfl
@[simp] theorem r_frz_z (i : List Int) : frz (.scr i) L = some (.ok (.scr i), L) := rfl
@[simp] theorem r_frz_o (i : Nat) : frz (.slot i) L = (match L.l[i]? with
    | some (.own ds) => some (.ok (.lst ds), { L with l := L.l.set i (.val (.lst ds)) })
    | some (.val d) => some (.ok d, L)
    | _ => Option.none) := rfl
@[simp] theorem r_bin (f : Lo → D → D → Option D) : mBin f ma mb L = (match ma L with
  | some (.ok a, L1) => (match mb L1 with
    | some (.ok b, L2) => (match f L2 a b with
      | some d => some (.ok d, L2)
      | _ => Option.none)
    | some (.ex e, L2) => some (.ex e, L2)
    | _ => Option.none)
  | some (.ex e, L1) => some (.ex e, L1)
  | _ => Option.none) := by
  unfold mBin M.bind
  cases ma L with
  | none => rfl
  | some z =>
    obtain ⟨r, L1⟩ := z
    cases r with
    | ex e => rfl
    | ok a =>
      simp only [M.bind]
      cases mb L1 with
      | none => rfl
      | some z => obtain ⟨r, L2⟩ := z; cases r <;> rfl
@[simp] theorem r_un (f : Lo → D → Option D) : mUn f ma L = (match ma L with
  | some (.ok a, L1) => (match f L1 a with
    | some d => some (.ok d, L1)
    | _ => Option.none)
  | some (.ex e, L1) => some (.ex e, L1)
  | _ => Option.none) := by
  unfold mUn M.bind
  cases ma L with
  | none => rfl
  | some z => obtain ⟨r, L1⟩ := z; cases r <;> rfl
@[simp] theorem r_B : mB ma L = (match ma L with
  | some (.ok (.bl b), L1) => some (.ok b, L1)
  | some (.ok _, _) => Option.none
  | some (.ex e, L1) => some (.ex e, L1)
  | _ => Option.none) := by
  unfold mB M.bind
  cases ma L with
  | none => rfl
  | some z =>
    obtain ⟨r, L1⟩ := z
    cases r with
    | ex e => rfl
    | ok a => cases a <;> rfl
@[simp] theorem r_pure (x : α) : (M.pure x) L = some (.ok x, L) := rfl
@[simp] theorem r_cons : mCons ma ms = M.bind (mFz ma) fun a => M.bind ms fun as => M.pure (a :: as) := rfl
@[simp] theorem r_ncons : mNc ma ms = M.bind ma fun a => M.bind ms fun as => M.pure (a :: as) := rfl
@[simp] theorem r_call (f : Fn) : mCall f ms L = M.bind ms (fun ds => fun L => match f ds L.s with
  | some (r, S') => some (r, { L with s := S' })
  | _ => Option.none) L := rfl
@[simp] theorem r_blt (f : Lo → List D → Option D) : mBlt f ms L = M.bind ms (fun ds => fun L => match f L ds with
  | some d => some (.ok d, L)
  | _ => Option.none) L := rfl
@[simp] theorem r_seq : mSeq m1 m2 L = (match m1 L with
  | some (.ok .next, L') => m2 L'
  | z => z) := rfl
@[simp] theorem r_next : mNext L = some (.ok .next, L) := rfl
@[simp] theorem r_asg (i : Nat) : mAsg i ma L = M.bind (mFz ma) (fun d => fun L => some (.ok .next, { L with l := L.l.set i (.val d) })) L := rfl
@[simp] theorem r_own (i : Nat) {m : M (List D)} : mOwn i m L = M.bind m (fun ds => fun L => some (.ok .next, { L with l := L.l.set i (.own ds) })) L := rfl
@[simp] theorem r_drop : mDrop ma L = M.bind ma (fun _ => mNext) L := rfl
@[simp] theorem r_ret : mRet ma L = M.bind (mFz ma) (fun d => fun L => some (.ok (.ret d), L)) L := rfl
@[simp] theorem r_ifS : mIfS na m1 m2 L = M.bind na (fun b => if b = true then m1 else m2) L := rfl
@[simp] theorem r_if : mIf na ma mb L = M.bind na (fun b => if b = true then ma else mb) L := rfl
@[simp] theorem r_and : mAnd ma mb L = M.bind (mB ma) (fun a => if a = true then mb else mC (.bl false)) L := rfl
@[simp] theorem r_or : mOr ma mb L = M.bind (mB ma) (fun a => if a = true then mC (.bl true) else mb) L := rfl
@[simp] theorem r_not : mNot ma L = M.bind (mB ma) (fun a => mC (.bl (!a))) L := rfl
@[simp] theorem r_andB : mAndB na nb L = M.bind na (fun a => if a = true then nb else M.pure false) L := rfl
@[simp] theorem r_orB : mOrB na nb L = M.bind na (fun a => if a = true then M.pure true else nb) L := rfl
@[simp] theorem r_notB : mNotB na L = M.bind na (fun a => M.pure (!a)) L := rfl
@[simp] theorem r_lst : mLst ms L = M.bind ms (fun ds => fun L => if ds.any isClo = false ∧ ds.length ≤ big then some (.ok (.lst ds), L) else Option.none) L := rfl
@[simp] theorem r_tup : mTup ms L = M.bind ms (fun ds => fun L => if ds.any isClo = false ∧ ds.length ≤ big then some (.ok (.tup ds), L) else Option.none) L := rfl
@[simp] theorem r_nLst : nLst ms L = M.bind ms (fun ds => fun L => if ds.any isClo = false ∧ ds.length ≤ big then some (.ok ds, L) else Option.none) L := rfl
@[simp] theorem r_cell {m : M (List D)} : mCell m L = M.bind m (fun ds => fun L => some (.ok (.ref L.s.length), { L with s := L.s ++ [.lst ds] })) L := rfl
@[simp] theorem r_of {m : M (List D)} : mOf m L = M.bind m (fun ds => mC (.lst ds)) L := rfl
@[simp] theorem r_part : mPart ma L = M.bind ma (fun d => fun L => match d with
  | .int i => some (.ok (some i), L)
  | _ => Option.none) L := rfl
@[simp] theorem r_fIx_l (ds : List D) (i : Int) : fIx L (.lst ds) (.int i) = atI ds i := rfl
@[simp] theorem r_fIx_t (ds : List D) (i : Int) : fIx L (.tup ds) (.int i) = atI ds i := rfl
@[simp] theorem r_fIx_z (ds : List Int) (i : Int) : fIx L (.scr ds) (.int i) = (atI ds i).map .int := rfl
@[simp] theorem r_add (i j : Int) : fAdd L (.int i) (.int j) = some (.int (i + j)) := rfl
@[simp] theorem r_sub (i j : Int) : fSub L (.int i) (.int j) = some (.int (i - j)) := rfl
@[simp] theorem r_lt (i j : Int) : fLt L (.int i) (.int j) = some (.bl (decide (i < j))) := rfl
@[simp] theorem r_le (i j : Int) : fLe L (.int i) (.int j) = some (.bl (decide (i ≤ j))) := rfl
@[simp] theorem r_gt (i j : Int) : fGt L (.int i) (.int j) = some (.bl (decide (j < i))) := rfl
@[simp] theorem r_ge (i j : Int) : fGe L (.int i) (.int j) = some (.bl (decide (j ≤ i))) := rfl
@[simp] theorem r_eq_i (i j : Int) : fEq L (.int i) (.int j) = some (.bl (decide (i = j))) := rfl
@[simp] theorem r_ne_i (i j : Int) : fNe L (.int i) (.int j) = some (.bl (!decide (i = j))) := rfl
theorem r_mod {i j : Int} (h : 0 < j) : fMod L (.int i) (.int j) = some (.int (i % j)) := if_pos h
theorem r_div {i j : Int} (h : CDiv i j) : fDiv L (.int i) (.int j) = some (.int (i / j)) := if_pos h
theorem r_mul {i j : Int} (h : CMul i j) : fMul L (.int i) (.int j) = some (.int (i * j)) := if_pos h
theorem r_pow {i j : Int} (h : CPow i j) : fPow L (.int i) (.int j) = some (.int (i ^ j.toNat)) := if_pos h
theorem r_mul_l {i j : Int} (h : -(2 ^ 64) < i ∧ i < 2 ^ 64) : fMul L (.int i) (.int j) = some (.int (i * j)) := r_mul (.inl h)
theorem r_mul_r {i j : Int} (h : -(2 ^ 64) < j ∧ j < 2 ^ 64) : fMul L (.int i) (.int j) = some (.int (i * j)) := r_mul (.inr h)
end
theorem atI_get {α : Type} {xs : List α} {i : Nat} {x : α} (h : xs[i]? = some x) : atI xs (i : Int) = some x := by
  have hl := (List.getElem?_eq_some_iff.mp h).1
  unfold atI ixN
  rw [if_pos (Int.natCast_nonneg i), if_pos (by omega)]
  simpa using h
/-- a loop by its invariant -/
theorem loop_from {tm : Tgt} {body : M Flow} {I : Nat → Lo → Prop} : ∀ (ds : List D) (k : Nat), (∀ (i : Nat) d L, ds[i]? = some d → I (k + i) L → ∃ L1 L2 f, tm d L = some L1 ∧ body L1 = some (.ok f, L2) ∧ (f = .next ∨ f = .cnt) ∧ I (k + i + 1) L2) → ∀ L, I k L → ∃ L', loopL tm body ds L = some (.ok .next, L') ∧ I (k + ds.length) L'
  | [], k, _, L, h => ⟨L, rfl, h⟩
  | d :: ds, k, hs, L, h => by
    obtain ⟨L1, L2, f, e1, e2, hf, h2⟩ := hs 0 d L rfl h
    obtain ⟨L', e3, h3⟩ := loop_from ds (k + 1) (fun i d' L0 hd hi => by
      have := hs (i + 1) d' L0 (by simpa using hd) (by rw [show k + (i + 1) = k + 1 + i by omega]; exact hi)
      rw [show k + (i + 1) = k + 1 + i by omega] at this
      exact this) L2 h2
    refine ⟨L', ?_, by rw [show k + (d :: ds).length = k + 1 + ds.length by simp; omega]; exact h3⟩
    show (match tm d L with | some L1 => _ | _ => Option.none) = _
    rw [e1]
    show (match body L1 with | some (.ok .next, L2) => _ | some (.ok .cnt, L2) => _ | some (.ok .brk, L2) => _ | z => z) = _
    rw [e2]
    rcases hf with rfl | rfl <;> exact e3
theorem loop_inv {tm : Tgt} {body : M Flow} (I : Nat → Lo → Prop) (ds : List D) (hs : ∀ (i : Nat) d L, ds[i]? = some d → I i L → ∃ L1 L2 f, tm d L = some L1 ∧ body L1 = some (.ok f, L2) ∧ (f = .next ∨ f = .cnt) ∧ I (i + 1) L2) (L : Lo) (h : I 0 L) : ∃ L', loopL tm body ds L = some (.ok .next, L') ∧ I ds.length L' := by
  obtain ⟨L', h1, h2⟩ := loop_from (I := I) ds 0 (fun i d L0 hd hi => by rw [Nat.zero_add] at hi ⊢; exact hs i d L0 hd hi) L h
  rw [Nat.zero_add] at h2
  exact ⟨L', h1, h2⟩
theorem rng0_at {n i : Nat} {d : D} (h : (rng 0 n)[i]? = some d) : i < n ∧ d = .int i := by
  have hl : i < n := by
    have := (List.getElem?_eq_some_iff.mp h).1
    simpa [rng] using this
  refine ⟨hl, ?_⟩
  simp [rng, hl] at h
  exact h.symm
theorem rng_len (lo : Int) (n : Nat) : (rng lo n).length = n := by simp [rng]
section
variable {L : Lo} {ms : M (List D)} {tm : Tgt} {body : M Flow} {mo ma : M D}
@[simp] theorem r_rng1 : mRng1 ms L = M.bind ms srcR1 L := rfl
theorem r_srcR1 {j : Int} (h : in62 j) : srcR1 [.int j] L = some (.ok (.fz (rng 0 j.toNat)), L) := if_pos h
@[simp] theorem r_for (mi : M Src) : mFor mi tm body L = M.bind mi (fun s => match s with
  | .fz ds => loopL tm body ds
  | s => loopN s tm body s.len 0) L := rfl
@[simp] theorem r_lm (f : List D → List D → Option (D × List D)) : mLm f mo ms L = M.bind mo (fun o => fun L => if (derefM L o).isSome = true then M.bind ms (fun as L => match derefM L o with
  | some ds => if as.any isClo = false then (match f ds as with
    | some (d, es) => some (.ok d, mutD L o es)
    | _ => Option.none) else Option.none
  | _ => Option.none) L else Option.none) L := rfl
@[simp] theorem r_itF : mItF ma L = M.bind (mFz ma) srcF L := rfl
end
/-- steps -/
theorem seq_ex {m1 m2 : M Flow} {L L1 : Lo} {P : R Flow → Lo → Prop} (h1 : m1 L = some (.ok .next, L1)) (h2 : ∃ r L2, m2 L1 = some (r, L2) ∧ P r L2) : ∃ r L2, mSeq m1 m2 L = some (r, L2) ∧ P r L2 := by
  obtain ⟨r, L2, e, p⟩ := h2
  exact ⟨r, L2, by show (match m1 L with | some (.ok .next, L') => m2 L' | z => z) = _; rw [h1]; exact e, p⟩
theorem seq_ex2 {m1 m2 : M Flow} {L : Lo} {Q : Lo → Prop} {P : R Flow → Lo → Prop} (h1 : ∃ L1, m1 L = some (.ok .next, L1) ∧ Q L1) (h2 : ∀ L1, Q L1 → ∃ r L2, m2 L1 = some (r, L2) ∧ P r L2) : ∃ r L2, mSeq m1 m2 L = some (r, L2) ∧ P r L2 := by
  obtain ⟨L1, e, q⟩ := h1
  exact seq_ex e (h2 L1 q)
theorem one_ex {m : M Flow} {L L2 : Lo} {r : R Flow} {P : R Flow → Lo → Prop} (h : m L = some (r, L2)) (p : P r L2) : ∃ r L2, m L = some (r, L2) ∧ P r L2 := ⟨r, L2, h, p⟩
theorem if_t {c : M Bool} {m1 m2 : M Flow} {L L1 : Lo} {P : R Flow → Lo → Prop} (h : c L = some (.ok true, L1)) (p : ∃ r L2, m1 L1 = some (r, L2) ∧ P r L2) : ∃ r L2, mIfS c m1 m2 L = some (r, L2) ∧ P r L2 := by
  obtain ⟨r, L2, e, p⟩ := p
  refine ⟨r, L2, ?_, p⟩
  show M.bind c _ L = _
  rw [bind_ok h]; exact e
theorem if_f {c : M Bool} {m1 m2 : M Flow} {L L1 : Lo} {P : R Flow → Lo → Prop} (h : c L = some (.ok false, L1)) (p : ∃ r L2, m2 L1 = some (r, L2) ∧ P r L2) : ∃ r L2, mIfS c m1 m2 L = some (r, L2) ∧ P r L2 := by
  obtain ⟨r, L2, e, p⟩ := p
  refine ⟨r, L2, ?_, p⟩
  show M.bind c _ L = _
  rw [bind_ok h]; exact e
/-- a loop over a list that is read as it goes -/
theorem loopN_inv {tm : Tgt} {body : M Flow} (sr : Src) (I : Nat → Lo → Prop) (ds : List D) : ∀ (n i : Nat), i + n = ds.length → (∀ (j : Nat) L, j ≤ ds.length → I j L → sr.ok L = true ∧ ∀ d, ds[j]? = some d → sr.at_ L j = some d) →
    (∀ (j : Nat) d L, ds[j]? = some d → I j L → ∃ L1 L2 f, tm d L = some L1 ∧ body L1 = some (.ok f, L2) ∧ (f = .next ∨ f = .cnt) ∧ I (j + 1) L2) → ∀ L, I i L → ∃ L', loopN sr tm body n i L = some (.ok .next, L') ∧ I ds.length L'
  | 0, i, hn, ho, hs, L, h => by
    have e : i = ds.length := by omega
    subst e
    refine ⟨L, ?_, h⟩
    unfold loopN
    rw [if_pos (ho _ L (Nat.le_refl _) h).1]
  | n + 1, i, hn, ho, hs, L, h => by
    obtain ⟨d, hd⟩ : ∃ d, ds[i]? = some d := ⟨ds[i]'(by omega), by rw [List.getElem?_eq_getElem]⟩
    obtain ⟨q1, q2⟩ := ho i L (by omega) h
    obtain ⟨L1, L2, f, e1, e2, hf, h2⟩ := hs i d L hd h
    obtain ⟨L', e3, h3⟩ := loopN_inv sr I ds n (i + 1) (by omega) ho hs L2 h2
    refine ⟨L', ?_, h3⟩
    unfold loopN
    rw [if_pos q1, q2 d hd]
    dsimp only
    rw [e1]
    dsimp only
    rw [e2]
    rcases hf with rfl | rfl <;> exact e3
section
variable {κ : Type} [DecidableEq κ]
theorem vK_nil (k : κ) : vK ([] : List (κ × D)) k = Option.none := rfl
theorem vK_cons (p : κ × D) (r : List (κ × D)) (k : κ) : vK (p :: r) k = if p.1 = k then some p.2 else vK r k := by
  unfold vK
  rw [List.find?_cons]
  by_cases h : p.1 = k
  · simp [h]
  · simp [h]
theorem vK_map (k j : κ) (d : D) (r : List (κ × D)) : vK (r.map fun kv => if kv.1 = k then (kv.1, d) else kv) j = (vK r j).map fun x => if j = k then d else x := by
  induction r with
  | nil => rfl
  | cons p r ih =>
    rw [List.map_cons, vK_cons, vK_cons, ih]
    by_cases h : p.1 = k
    · by_cases h2 : k = j
      · simp [h, h2]
      · rw [if_pos h]
        simp [h, h2]
    · rw [if_neg h]
      by_cases h2 : p.1 = j
      · subst h2; simp [h]
      · simp [h2]
theorem vK_snoc (k j : κ) (d : D) (r : List (κ × D)) (h : vK r k = Option.none) : vK (r ++ [(k, d)]) j = if j = k then some d else vK r j := by
  induction r with
  | nil => rw [List.nil_append, vK_cons]; by_cases q : k = j <;> simp [q, eq_comm]
  | cons p r ih =>
    rw [vK_cons] at h
    split at h
    · cases h
    · rename_i h1
      rw [List.cons_append, vK_cons, vK_cons, ih h]
      by_cases q : p.1 = j
      · have : ¬ j = k := fun z => h1 (q.trans z)
        simp [q, this]
      · simp [q]
theorem vK_pK (kvs : List (κ × D)) (k j : κ) (d : D) : vK (pK kvs k d) j = if j = k then some d else vK kvs j := by
  unfold pK
  split
  · rename_i h
    rw [vK_map]
    by_cases q : j = k
    · subst q
      obtain ⟨x, hx⟩ := Option.isSome_iff_exists.mp h
      simp [hx]
    · simp [q]
  · rename_i h
    exact vK_snoc k j d kvs (by simpa using h)
theorem pK_len (kvs : List (κ × D)) (k : κ) (d : D) : (pK kvs k d).length ≤ kvs.length + 1 := by
  unfold pK
  split <;> simp
end
theorem rng1_ok {m : M D} {L L1 : Lo} {j : Int} (h : m L = some (.ok (.int j), L1)) (hin : in62 j) : mRng1 (mNc m (M.pure [])) L = some (.ok (.fz (rng 0 j.toNat)), L1) := by
  have e : mRng1 (mNc m (M.pure [])) = M.bind m fun a => M.bind (M.pure []) fun as => M.bind (M.pure (a :: as)) srcR1 := by
    unfold mRng1 mNc
    rw [bind_assoc]
    funext L
    unfold M.bind
    cases m L with
    | none => rfl
    | some z => obtain ⟨r, L1⟩ := z; cases r <;> rfl
  rw [e, bind_ok h, bind_ok (m := M.pure []) (L' := L1) (a := []) rfl, bind_ok (m := M.pure [D.int j]) (L' := L1) (a := [D.int j]) rfl, r_srcR1 hin]
theorem for_ok {mi : M Src} {tm : Tgt} {body : M Flow} {L L1 : Lo} {ds : List D} (h : mi L = some (.ok (.fz ds), L1)) : mFor mi tm body L = loopL tm body ds L1 := by
  unfold mFor
  rw [bind_ok h]
theorem fn_ret {n nl : Nat} {body : M Flow} {ds : List D} {S : List Cell} {d : D} {L : Lo} (hn : ds.length = n) (h : ∃ r L2, body ⟨ds.map .val ++ List.replicate (nl - n) .none, S⟩ = some (r, L2) ∧ (r = .ok (.ret d) ∧ L2 = L)) : mkFn n nl body ds S = some (.ok d, L.s) := by
  obtain ⟨r, L2, e, rfl, rfl⟩ := h
  unfold mkFn
  rw [if_pos hn, e]
end MP
set_option Elab.async false
set_option linter.all false
set_option maxRecDepth 1000000
set_option maxHeartbeats 0
/-! law_k50_an_ear -/
namespace L50
open PySem L2 PySem.Spec PyProof.Rows LamX NdefX MP

/-! the text -/
def top (i : Nat) : Stmt := PySem.Challenge.pw_bitrail_k50_an_ear.main.body.getD i (.Pass ⟨0, 0, 0, 0⟩)
def mem (i j : Nat) : Stmt := match top i with
  | .ClassDef _ _ _ b _ _ _ _ _ _ _ => b.getD j (.Pass ⟨0, 0, 0, 0⟩)
  | _ => .Pass ⟨0, 0, 0, 0⟩
def fldL : List Str := []
def clsL : List Str := []
def hasL : List (Nat × Nat) := []
abbrev T_has (c n : Nat) : Bool := hasL.contains (c, n)
def FA : List He.Fa := [.free "list", .free "range", .free "len", .glo "_law_draw", .free "isinstance", .free "int", .free "bool", .glo "_law_pairs", .glo "ear", .glo "_law_tells", .glo "law"]
def FN : List He.DefD := [⟨("_law_draw", none), "_law_draw", "_law_draw", defArgs (top 3), defBody (top 3), defScope (top 3), [], []⟩,
  ⟨("_law_pairs", none), "_law_pairs", "_law_pairs", defArgs (top 4), defBody (top 4), defScope (top 4), [], []⟩,
  ⟨("ear", none), "ear", "ear", defArgs (top 1), defBody (top 1), defScope (top 1), [], []⟩,
  ⟨("_law_tells", none), "_law_tells", "_law_tells", defArgs (top 5), defBody (top 5), defScope (top 5), [], []⟩,
  ⟨("law", none), "law", "law", defArgs (top 6), defBody (top 6), defScope (top 6), [], []⟩]
def IH : List (Str × Str × Str) := []
def TF : List He.Defn := [("ear", none)]
abbrev CN (K : PySem.W.Frag) (mg : Str → Option Value) (base : Heap) : Prop := Cn FA FN IH [("ear", none)] K mg base
def cst : Stmt := (defBody (top 1)).getD 2 (.Pass ⟨0, 0, 0, 0⟩)
def tabN (K : PySem.W.Frag) : List NTab := [((He.cT K ("ear", none)).2, fun _ _ => "ear.<locals>.heard")]
def m_clo : MS := (mSeq (mIfS (mB (mBin fInD (mTup (mCons (mVar 0) (mCons (mVar 1) (M.pure [])))) (mVar 3))) (mRet (mBin fSub (mC (.int 1)) (mVar 2))) mNext) (mRet (mVar 2)))
def n_clo : List Str := ["post", "turn", "bit", "kept"]
def cloT : Nat → List D → Fn := ct1 (mkCl 3 4 m_clo)
def TT {K : PySem.W.Frag} (h : FaOk FA K) : Tb K where
  cls := fun c => He.ga K (clsL.getD c "")
  fld := fun n => fldL.getD n ""
  has := T_has
  inj := fld_inj (by decide +kernel)
  kc := pairs_ok (R := fun c i => Cls K (He.ga K (clsL.getD c "")) ∧ NoAttr K (He.ga K (clsL.getD c "")) (fldL.getD i "")) (trivial : PairsOk _ hasL)
  ck := fun g H kk cs a => kk = 0 ∧ ckOne cst "heard" "ear.<locals>.heard" "kept" g H cs a
  ckm := fun g g2 H H2 kk cs a ge hx h => ⟨h.1, ckOne_mono ge hx h.2⟩
  tabs := TabsN (tabN K)
  tbm := fun H H2 hx ht h p hp => by
    obtain ⟨ps, h1, h2, h3⟩ := h p hp
    exact ⟨ps, ht _ _ h1, h2, fun pos cv hc => by obtain ⟨c, e1, e2⟩ := h3 pos cv hc; exact ⟨c, e1, hx _ _ e2⟩⟩
theorem s_clo : NScope n_clo ["post", "turn", "bit"] ["kept"] (C8.fnScope cst) := nscope_by (by decide +kernel)
def run_clo {P : Program} {w : World} {K : PySem.W.Frag} {mg : Str → Option Value} {base : Heap} (C : CN K mg base) := clo_run (P := P) (w := w) (K := K) (mg := mg) (base := base) (T := TT C.fa) (N := n_clo) (ps := ["post", "turn", "bit"]) (k := 0) (kk := 0) (m := m_clo) (st := cst) (nm := "heard") (q0 := "ear.<locals>.heard") (y0 := "kept") s_clo (fun cl c doc pm ctv us hl => match us, hl with | [_, _, _], _ => rfl) (fun g H cs a h => h.2) (fun T2 cl c f A outer s H E B FX => by
  have HN : n_clo.Nodup := by decide +kernel
  have hu := FX.un64
  have hu5 := FX.un65
  have hu1 := FX.un1
  exact (ss_cons (s_if (t_din hu1 (x_tup (a_cons (x_var 0) (a_cons (x_var 1) a_nil))) (x_var 3)) (ss_one (s_ret (x_bin o_sub x_int (x_var 2)))) ss_nil) (ss_one (s_ret (x_var 2)))))
/-! #### _law_draw -/
def m__law_draw : MS := (mSeq (mAsg 3 (mIf (mB (mBin fGt (mBlt bLen (mNc (mVar 0) (M.pure []))) (mC (.int 0)))) (mBin fIx (mVar 0) (mBin fMod (mVar 1) (mBlt bLen (mNc (mVar 0) (M.pure []))))) (mC (.int 0)))) (mSeq (mAsg 4 (mBin fAdd (mBin fAdd (mBin fMod (mVar 3) (mC (.int 1000003))) (mBin fMul (mBin fMul (mC (.int 31)) (mVar 1)) (mVar 1))) (mC (.int 1)))) (mRet (mBin fMod (mBin fMod (mBin fMul (mBin fMod (mBin fMul (mVar 4) (mC (.int 48271))) (mC (.int 999983))) (mC (.int 7919))) (mC (.int 524287))) (mVar 2)))))
def f__law_draw : Fn := mkFn 3 5 m__law_draw
def n__law_draw : List Str := ["script", "k", "many", "cell", "seed"]
theorem s__law_draw : FnScope n__law_draw ["script", "k", "many"] (defScope (top 3)) := ⟨rfl, rfl, rfl, by decide +kernel, rfl, by decide +kernel, by decide +kernel⟩
theorem ok__law_draw {P : Program} {w : World} {K : PySem.W.Frag} {mg : Str → Option Value} {base : Heap} (C : CN K mg base) : ∃ fd, OkF P w K mg base (TT C.fa) 1 (He.fAd K ("_law_draw", none)) ["script", "k", "many"] f__law_draw fd := by
  obtain ⟨fd, F⟩ : ∃ fd, FunD K "_law_draw" "_law_draw" (defArgs (top 3)) (defBody (top 3)) (defScope (top 3)) [] [] (He.fAd K ("_law_draw", none)) fd := C.df 0 rfl
  have h_len := He.free_ok C.KX C.G (C.fa 2 rfl)
  have HN : n__law_draw.Nodup := by decide +kernel
  refine ⟨fd, ⟨fn_ok (T := TT C.fa) (N := n__law_draw) (ps := ["script", "k", "many"]) (m := m__law_draw) F s__law_draw fun cdv A outer s H E B FX => ?_, FunD.bindsN F fun _ _ _ _ _ _ us hl => match us, hl with | [_, _, _], _ => rfl, F.kp, ar_mk _ _ _, fund_lk F⟩⟩
  have hu := FX.un64
  have hu5 := FX.un65
  have hu1 := FX.un1
  exact (ss_cons (s_asg 3 HN (x_if (t_cmp o_gt (x_blt c_len h_len (n_cons (x_var 0) n_nil)) x_int) (x_ix (x_var 0) (x_bin o_mod (x_var 1) (x_blt c_len h_len (n_cons (x_var 0) n_nil)))) x_int)) (ss_cons (s_asg 4 HN (x_bin o_add (x_bin o_add (x_bin o_mod (x_var 3) x_int) (x_bin o_mul (x_bin o_mul x_int (x_var 1)) (x_var 1))) x_int)) (ss_one (s_ret (x_bin o_mod (x_bin o_mod (x_bin o_mul (x_bin o_mod (x_bin o_mul (x_var 4) x_int) x_int) x_int) x_int) (x_var 2))))))
/-! #### _law_pairs -/
def b0__law_pairs : MS := (mSeq (mAsg 4 (mCall f__law_draw (mCons (mVar 0) (mCons (mBin fAdd (mBin fAdd (mVar 1) (mBin fMul (mC (.int 3)) (mVar 3))) (mC (.int 1))) (mCons (mC (.int 31)) (M.pure [])))))) (mSeq (mIfS (mAndB (mB (mBin fGt (mBlt bLen (mNc (mVar 0) (M.pure []))) (mC (.int 0)))) (mB (mBin fEq (mCall f__law_draw (mCons (mVar 0) (mCons (mBin fAdd (mBin fAdd (mVar 1) (mBin fMul (mC (.int 3)) (mVar 3))) (mC (.int 2))) (mCons (mC (.int 6)) (M.pure []))))) (mC (.int 0))))) (mAsg 4 (mBin fMod (mBin fIx (mVar 0) (mBin fMod (mVar 3) (mBlt bLen (mNc (mVar 0) (M.pure []))))) (mBin fPow (mC (.int 10)) (mC (.int 18))))) mNext) (mSeq (mDrop (mLm lAppend (mVar 2) (mCons (mTup (mCons (mCall f__law_draw (mCons (mVar 0) (mCons (mBin fAdd (mBin fAdd (mVar 1) (mBin fMul (mC (.int 3)) (mVar 3))) (mC (.int 3))) (mCons (mC (.int 5)) (M.pure []))))) (mCons (mVar 4) (M.pure [])))) (M.pure [])))) (mIfS (mB (mBin fEq (mCall f__law_draw (mCons (mVar 0) (mCons (mBin fAdd (mVar 1) (mVar 3)) (mCons (mC (.int 8)) (M.pure []))))) (mC (.int 0)))) (mDrop (mLm lAppend (mVar 2) (mCons (mBin fIx (mVar 2) (mBin fDiv (mVar 3) (mC (.int 2)))) (M.pure [])))) mNext))))
def m__law_pairs : MS := (mSeq (mOwn 2 (nLst (M.pure []))) (mSeq (mFor (mRng1 (mNc (mCall f__law_draw (mCons (mVar 0) (mCons (mVar 1) (mCons (mC (.int 41)) (M.pure []))))) (M.pure []))) (tgN 3) b0__law_pairs) (mRet (mVar 2))))
def f__law_pairs : Fn := mkFn 2 5 m__law_pairs
def n__law_pairs : List Str := ["script", "base", "pairs", "k", "turn"]
theorem s__law_pairs : FnScope n__law_pairs ["script", "base"] (defScope (top 4)) := ⟨rfl, rfl, rfl, by decide +kernel, rfl, by decide +kernel, by decide +kernel⟩
theorem ok__law_pairs {P : Program} {w : World} {K : PySem.W.Frag} {mg : Str → Option Value} {base : Heap} (C : CN K mg base) : ∃ fd, OkF P w K mg base (TT C.fa) 2 (He.fAd K ("_law_pairs", none)) ["script", "base"] f__law_pairs fd := by
  obtain ⟨fd, F⟩ : ∃ fd, FunD K "_law_pairs" "_law_pairs" (defArgs (top 4)) (defBody (top 4)) (defScope (top 4)) [] [] (He.fAd K ("_law_pairs", none)) fd := C.df 1 rfl
  obtain ⟨_, O0⟩ := ok__law_draw (P := P) (w := w) C
  have g0 := He.glo_ok C.KX C.G (C.fa 3 rfl)
  have h_range := He.free_ok C.KX C.G (C.fa 1 rfl)
  have h_len := He.free_ok C.KX C.G (C.fa 2 rfl)
  have HN : n__law_pairs.Nodup := by decide +kernel
  refine ⟨fd, ⟨fn_ok (T := TT C.fa) (N := n__law_pairs) (ps := ["script", "base"]) (m := m__law_pairs) F s__law_pairs fun cdv A outer s H E B FX => ?_, FunD.bindsN F fun _ _ _ _ _ _ us hl => match us, hl with | [_, _], _ => rfl, F.kp, ar_mk _ _ _, fund_lk F⟩⟩
  have hu := FX.un64
  have hu5 := FX.un65
  have hu1 := FX.un1
  exact (ss_cons (s_own 2 HN (f_lst a_nil)) (ss_cons (s_for FX.po rfl (i_rng1 h_range (n_cons (x_call ⟨⟨_, _, _, _, g0, O0.kp, O0.bn, O0.ok, FX.room.mono (by decide), O0.ar⟩⟩ FX.tk (a_cons (x_var 0) (a_cons (x_var 1) (a_cons x_int a_nil)))) n_nil)) (pg_name (i := 3) HN rfl (by first | exact Or.inl rfl | exact Or.inr rfl) (Or.inl rfl)) (tg_name 3) (ss_cons (s_asg 4 HN (x_call ⟨⟨_, _, _, _, g0, O0.kp, O0.bn, O0.ok, FX.room.mono (by decide), O0.ar⟩⟩ FX.tk (a_cons (x_var 0) (a_cons (x_bin o_add (x_bin o_add (x_var 1) (x_bin o_mul x_int (x_var 3))) x_int) (a_cons x_int a_nil))))) (ss_cons (s_if (PW.pt (t_and (t_cmp o_gt (x_blt c_len h_len (n_cons (x_var 0) n_nil)) x_int) (t_and1 (t_cmp (o_eq hu) (x_call ⟨⟨_, _, _, _, g0, O0.kp, O0.bn, O0.ok, FX.room.mono (by decide), O0.ar⟩⟩ FX.tk (a_cons (x_var 0) (a_cons (x_bin o_add (x_bin o_add (x_var 1) (x_bin o_mul x_int (x_var 3))) x_int) (a_cons x_int a_nil)))) x_int)))) (ss_one (s_asg 4 HN (x_bin o_mod (x_ix (x_var 0) (x_bin o_mod (x_var 3) (x_blt c_len h_len (n_cons (x_var 0) n_nil)))) (x_bin o_pow x_int x_int)))) ss_nil) (ss_cons (s_expr (x_lm lm_append PySem.F.slot_list_append PySem.F.type_list_append (x_var 2) (a_cons (x_tup (a_cons (x_call ⟨⟨_, _, _, _, g0, O0.kp, O0.bn, O0.ok, FX.room.mono (by decide), O0.ar⟩⟩ FX.tk (a_cons (x_var 0) (a_cons (x_bin o_add (x_bin o_add (x_var 1) (x_bin o_mul x_int (x_var 3))) x_int) (a_cons x_int a_nil)))) (a_cons (x_var 4) a_nil))) a_nil))) (ss_one (s_if (t_cmp (o_eq hu) (x_call ⟨⟨_, _, _, _, g0, O0.kp, O0.bn, O0.ok, FX.room.mono (by decide), O0.ar⟩⟩ FX.tk (a_cons (x_var 0) (a_cons (x_bin o_add (x_var 1) (x_var 3)) (a_cons x_int a_nil)))) x_int) (ss_one (s_expr (x_lm lm_append PySem.F.slot_list_append PySem.F.type_list_append (x_var 2) (a_cons (x_ix (x_var 2) (x_bin o_div (x_var 3) x_int)) a_nil)))) ss_nil))))) ns_rng1) (ss_one (s_ret (x_var 2)))))
/-! #### ear -/
def b0_ear : MS := (mDPut (mVar 1) (mTup (mCons (mBin fIx (mVar 2) (mC (.int 0))) (mCons (mBin fIx (mVar 2) (mC (.int 1))) (M.pure [])))) (mC (.bl true)))
def m_ear : MS := (mSeq (mAsg 1 mNewT) (mSeq (mFor (mItF (mVar 0)) (tgN 2) b0_ear) mNext))
def f_ear : Fn := mkClo 1 4 m_ear 0 1
def n_ear : List Str := ["wrong", "kept", "pair", "heard"]
theorem s_ear : FnScope n_ear ["wrong"] (defScope (top 1)) := ⟨rfl, rfl, rfl, by decide +kernel, rfl, by decide +kernel, by decide +kernel⟩
theorem ok_ear {P : Program} {w : World} {K : PySem.W.Frag} {mg : Str → Option Value} {base : Heap} (C : CN K mg base) : ∃ fd, OkF P w K mg base (TT C.fa) 1 (He.fAd K ("ear", none)) ["wrong"] f_ear fd := by
  obtain ⟨fd, F⟩ : ∃ fd, FunD K "ear" "ear" (defArgs (top 1)) (defBody (top 1)) (defScope (top 1)) [] [] (He.fAd K ("ear", none)) fd := C.df 2 rfl
  have HN : n_ear.Nodup := by decide +kernel
  refine ⟨fd, ⟨clo_ok (T := TT C.fa) (N := n_ear) (ps := ["wrong"]) (m := m_ear) (Tn := tabN K) (st := cst) (nm := "heard") (y0 := "kept") (q0 := "ear.<locals>.heard") (kk := 0) (i := 3) (j0 := 1) (by decide) F s_ear (fun g H cs a h => ⟨rfl, h⟩) (fun _ => Iff.rfl) rfl (by decide +kernel) (fun cells c h => by show [(("kept" : Str), (cells.lookup ("kept" : Str)).getD 0)] = _; rw [h]; rfl) fun cdv A outer s H E B hcd hc FX => ?_, FunD.bindsN F fun _ _ _ _ _ _ us hl => match us, hl with | [_], _ => rfl, F.kp, ar_clo _ _ _ _ _, fund_lk F⟩⟩
  have hu := FX.un64
  have hu5 := FX.un65
  have hu1 := FX.un1
  obtain ⟨cc, rfl⟩ := hc
  obtain ⟨_, _, _, _, lk, ec⟩ := hcd cc rfl
  have hco : (He.cT K ("ear", none)).1 = cc := He.codeOf_eq lk ec
  have TB := C.tb ("ear", none) (by simp)
  rw [hco] at TB
  exact (pc_cons (s_asg 1 HN x_newT) (pc_cons (s_for FX.po rfl (i_list (x_var 0)) (pg_name (i := 2) HN rfl (by first | exact Or.inl rfl | exact Or.inr rfl) (Or.inl rfl)) (tg_name 2) (ss_one (s_dput hu1 (x_var 1) (x_tup (a_cons (x_ix (x_var 2) x_int) (a_cons (x_ix (x_var 2) x_int) a_nil))) x_bl)) ns_list) (pc_end (ps_ndefMS (st := cst) (T := tabN K) (c := cc) (P := (He.cT K ("ear", none)).2) (i := 3) rfl TB rfl (List.mem_singleton.mpr rfl) rfl (fun p hp _ => by rw [List.mem_singleton.mp hp]) (ndef_free (sc := defScope (top 1)) (nsc := C8.fnScope cst) (fr := ["kept"]) (by decide +kernel)) rfl rfl rfl HN rfl (Or.inl rfl) (Or.inl rfl)) rfl (Or.inl rfl) (by decide) (by decide))))
/-! #### _law_tells -/
def m__law_tells : MS := (mSeq (mAsg 5 (mVar 4)) (mSeq (mIfS (mB (mBin fIn (mTup (mCons (mVar 2) (mCons (mVar 3) (M.pure [])))) (mVar 1))) (mAsg 5 (mBin fSub (mC (.int 1)) (mVar 4))) mNext) (mSeq (mAsg 6 (mClo cloT (mVar 0) (mCons (mVar 2) (mCons (mVar 3) (mCons (mVar 4) (M.pure [])))))) (mRet (mAnd (mUn (fIsi "int") (mVar 6)) (mAnd (mNot (mUn (fIsi "bool") (mVar 6))) (mBin fEq (mVar 6) (mVar 5))))))))
def f__law_tells : Fn := mkFn 5 7 m__law_tells
def n__law_tells : List Str := ["hearing", "pairs", "post", "turn", "bit", "due", "found"]
theorem s__law_tells : FnScope n__law_tells ["hearing", "pairs", "post", "turn", "bit"] (defScope (top 5)) := ⟨rfl, rfl, rfl, by decide +kernel, rfl, by decide +kernel, by decide +kernel⟩
theorem ok__law_tells {P : Program} {w : World} {K : PySem.W.Frag} {mg : Str → Option Value} {base : Heap} (C : CN K mg base) : ∃ fd, OkF P w K mg base (TT C.fa) 2 (He.fAd K ("_law_tells", none)) ["hearing", "pairs", "post", "turn", "bit"] f__law_tells fd := by
  obtain ⟨fd, F⟩ : ∃ fd, FunD K "_law_tells" "_law_tells" (defArgs (top 5)) (defBody (top 5)) (defScope (top 5)) [] [] (He.fAd K ("_law_tells", none)) fd := C.df 3 rfl
  have h_isinstance := He.free_ok C.KX C.G (C.fa 4 rfl)
  have h_int := He.free_ok C.KX C.G (C.fa 5 rfl)
  have h_bool := He.free_ok C.KX C.G (C.fa 6 rfl)
  have HN : n__law_tells.Nodup := by decide +kernel
  refine ⟨fd, ⟨fn_ok (T := TT C.fa) (N := n__law_tells) (ps := ["hearing", "pairs", "post", "turn", "bit"]) (m := m__law_tells) F s__law_tells fun cdv A outer s H E B FX => ?_, FunD.bindsN F fun _ _ _ _ _ _ us hl => match us, hl with | [_, _, _, _, _], _ => rfl, F.kp, ar_mk _ _ _, fund_lk F⟩⟩
  have hu := FX.un64
  have hu5 := FX.un65
  have hu1 := FX.un1
  have CF : CloF (cxOf (L2.CX P w) P w K mg base n__law_tells _ (defScope (top 5)) _ cdv A outer s H E) (TT C.fa) cloT := cloF_one (k := 0) (fun g H kk cs a h => h) (FX.room.mono (by decide)) (run_clo C)
  exact (ss_cons (s_asg 5 HN (x_var 4)) (ss_cons (s_if (t_cmp (o_in hu5) (x_tup (a_cons (x_var 2) (a_cons (x_var 3) a_nil))) (x_var 1)) (ss_one (s_asg 5 HN (x_bin o_sub x_int (x_var 4)))) ss_nil) (ss_cons (s_asg 6 HN (x_clo CF FX.tk rfl (a_cons (x_var 2) (a_cons (x_var 3) (a_cons (x_var 4) a_nil))))) (ss_one (s_ret (x_and (x_isi (c := "int") h_isinstance h_int (x_var 6)) (x_and (x_not (x_isi (c := "bool") h_isinstance h_bool (x_var 6))) (x_one (x_cmp (o_eq hu) (x_var 6) (x_var 5))))))))))
/-! #### law -/
def b0_law : MS := (mDrop (mLm lAppend (mVar 4) (mCons (mTup (mCons (mCall f__law_draw (mCons (mVar 0) (mCons (mBin fAdd (mC (.int 400)) (mVar 5)) (mCons (mC (.int 5)) (M.pure []))))) (mCons (mCall f__law_draw (mCons (mVar 0) (mCons (mBin fAdd (mC (.int 430)) (mVar 5)) (mCons (mC (.int 31)) (M.pure []))))) (M.pure [])))) (M.pure []))))
def b1_law : MS := (mSeq (mAsg 7 (mBin fMod (mBin fAdd (mVar 5) (mVar 6)) (mC (.int 2)))) (mSeq (mAsg 8 (mCall f__law_draw (mCons (mVar 0) (mCons (mBin fAdd (mBin fAdd (mC (.int 460)) (mVar 5)) (mVar 6)) (mCons (mC (.int 2)) (M.pure [])))))) (mIfS (mNotB (mB (mCall f__law_tells (mCons (mBin fIx (mVar 3) (mVar 7)) (mCons (mBin fIx (mVar 1) (mVar 7)) (mCons (mBin fIx (mBin fIx (mVar 4) (mVar 5)) (mC (.int 0))) (mCons (mBin fIx (mBin fIx (mVar 4) (mVar 5)) (mC (.int 1))) (mCons (mVar 8) (M.pure []))))))))) (mRet (mC (.bl false))) mNext)))
def b2_law : MS := (mSeq (mFor (mRng1 (mNc (mBlt bLen (mNc (mVar 4) (M.pure []))) (M.pure []))) (tgN 5) b1_law) (mIfS (mB (mBin fEq (mVar 6) (mC (.int 0)))) (mSeq (mIfS (mB (mBin fNe (mVar 2) (mVar 1))) (mRet (mC (.bl false))) mNext) (mSeq (mDrop (mLm lAppend (mBin fIx (mVar 2) (mC (.int 0))) (mCons (mTup (mCons (mC (.int 0)) (mCons (mC (.int 0)) (M.pure [])))) (M.pure [])))) (mSeq (mDrop (mLm lAppend (mBin fIx (mVar 2) (mC (.int 0))) (mCons (mTup (mCons (mC (.int 1)) (mCons (mC (.int 7)) (M.pure [])))) (M.pure [])))) (mDrop (mLm lClear (mBin fIx (mVar 2) (mC (.int 1))) (M.pure [])))))) mNext))
def m_law : MS := (mSeq (mAsg 1 (mLst (mCons (mCall f__law_pairs (mCons (mVar 0) (mCons (mC (.int 10)) (M.pure [])))) (mCons (mCall f__law_pairs (mCons (mVar 0) (mCons (mC (.int 200)) (M.pure [])))) (M.pure []))))) (mSeq (mAsg 2 (mLst (mCons (mCell (nList (mBin fIx (mVar 1) (mC (.int 0))))) (mCons (mCell (nList (mBin fIx (mVar 1) (mC (.int 1))))) (M.pure []))))) (mSeq (mAsg 3 (mLst (mCons (mCall f_ear (mCons (mBin fIx (mVar 2) (mC (.int 0))) (M.pure []))) (mCons (mCall f_ear (mCons (mBin fIx (mVar 2) (mC (.int 1))) (M.pure []))) (M.pure []))))) (mSeq (mOwn 4 (nCat (mSl (mBin fIx (mVar 1) (mC (.int 0))) (M.pure Option.none) (mPart (mC (.int 30)))) (mSl (mBin fIx (mVar 1) (mC (.int 1))) (M.pure Option.none) (mPart (mC (.int 30)))))) (mSeq (mFor (mRng1 (mNc (mC (.int 20)) (M.pure []))) (tgN 5) b0_law) (mSeq (mFor (mRng1 (mNc (mC (.int 2)) (M.pure []))) (tgN 6) b2_law) (mRet (mC (.bl true)))))))))
def f_law : Fn := mkFn 1 9 m_law
def n_law : List Str := ["script", "pairs", "handed", "hearings", "asked", "k", "again", "side", "bit"]
theorem s_law : FnScope n_law ["script"] (defScope (top 6)) := ⟨rfl, rfl, rfl, by decide +kernel, rfl, by decide +kernel, by decide +kernel⟩
theorem ok_law {P : Program} {w : World} {K : PySem.W.Frag} {mg : Str → Option Value} {base : Heap} (C : CN K mg base) : ∃ fd, OkF P w K mg base (TT C.fa) 3 (He.fAd K ("law", none)) ["script"] f_law fd := by
  obtain ⟨fd, F⟩ : ∃ fd, FunD K "law" "law" (defArgs (top 6)) (defBody (top 6)) (defScope (top 6)) [] [] (He.fAd K ("law", none)) fd := C.df 4 rfl
  obtain ⟨_, O0⟩ := ok__law_pairs (P := P) (w := w) C
  have g0 := He.glo_ok C.KX C.G (C.fa 7 rfl)
  obtain ⟨_, O1⟩ := ok_ear (P := P) (w := w) C
  have g1 := He.glo_ok C.KX C.G (C.fa 8 rfl)
  obtain ⟨_, O2⟩ := ok__law_draw (P := P) (w := w) C
  have g2 := He.glo_ok C.KX C.G (C.fa 3 rfl)
  obtain ⟨_, O3⟩ := ok__law_tells (P := P) (w := w) C
  have g3 := He.glo_ok C.KX C.G (C.fa 9 rfl)
  have h_list := He.free_ok C.KX C.G (C.fa 0 rfl)
  have h_range := He.free_ok C.KX C.G (C.fa 1 rfl)
  have h_len := He.free_ok C.KX C.G (C.fa 2 rfl)
  have HN : n_law.Nodup := by decide +kernel
  refine ⟨fd, ⟨fn_ok (T := TT C.fa) (N := n_law) (ps := ["script"]) (m := m_law) F s_law fun cdv A outer s H E B FX => ?_, FunD.bindsN F fun _ _ _ _ _ _ us hl => match us, hl with | [_], _ => rfl, F.kp, ar_mk _ _ _, fund_lk F⟩⟩
  have hu := FX.un64
  have hu5 := FX.un65
  have hu1 := FX.un1
  exact (ss_cons (s_asg 1 HN (x_lst (a_cons (x_call ⟨⟨_, _, _, _, g0, O0.kp, O0.bn, O0.ok, FX.room.mono (by decide), O0.ar⟩⟩ FX.tk (a_cons (x_var 0) (a_cons x_int a_nil))) (a_cons (x_call ⟨⟨_, _, _, _, g0, O0.kp, O0.bn, O0.ok, FX.room.mono (by decide), O0.ar⟩⟩ FX.tk (a_cons (x_var 0) (a_cons x_int a_nil))) a_nil)))) (ss_cons (s_asg 2 HN (x_lst (a_cons (x_cell (f_list h_list (x_ix (x_var 1) x_int))) (a_cons (x_cell (f_list h_list (x_ix (x_var 1) x_int))) a_nil)))) (ss_cons (s_asg 3 HN (x_lst (a_cons (x_call ⟨⟨_, _, _, _, g1, O1.kp, O1.bn, O1.ok, FX.room.mono (by decide), O1.ar⟩⟩ FX.tk (a_cons (x_ix (x_var 2) x_int) a_nil)) (a_cons (x_call ⟨⟨_, _, _, _, g1, O1.kp, O1.bn, O1.ok, FX.room.mono (by decide), O1.ar⟩⟩ FX.tk (a_cons (x_ix (x_var 2) x_int) a_nil)) a_nil)))) (ss_cons (s_own 4 HN (f_cat (x_sl (x_ix (x_var 1) x_int) o_none (o_some x_int)) (x_sl (x_ix (x_var 1) x_int) o_none (o_some x_int)))) (ss_cons (s_for FX.po rfl (i_rng1 h_range (n_cons x_int n_nil)) (pg_name (i := 5) HN rfl (by first | exact Or.inl rfl | exact Or.inr rfl) (Or.inl rfl)) (tg_name 5) (ss_one (s_expr (x_lm lm_append PySem.F.slot_list_append PySem.F.type_list_append (x_var 4) (a_cons (x_tup (a_cons (x_call ⟨⟨_, _, _, _, g2, O2.kp, O2.bn, O2.ok, FX.room.mono (by decide), O2.ar⟩⟩ FX.tk (a_cons (x_var 0) (a_cons (x_bin o_add x_int (x_var 5)) (a_cons x_int a_nil)))) (a_cons (x_call ⟨⟨_, _, _, _, g2, O2.kp, O2.bn, O2.ok, FX.room.mono (by decide), O2.ar⟩⟩ FX.tk (a_cons (x_var 0) (a_cons (x_bin o_add x_int (x_var 5)) (a_cons x_int a_nil)))) a_nil))) a_nil)))) ns_rng1) (ss_cons (s_for FX.po rfl (i_rng1 h_range (n_cons x_int n_nil)) (pg_name (i := 6) HN rfl (by first | exact Or.inl rfl | exact Or.inr rfl) (Or.inl rfl)) (tg_name 6) (ss_cons (s_for FX.po rfl (i_rng1 h_range (n_cons (x_blt c_len h_len (n_cons (x_var 4) n_nil)) n_nil)) (pg_name (i := 5) HN rfl (by first | exact Or.inl rfl | exact Or.inr rfl) (Or.inl rfl)) (tg_name 5) (ss_cons (s_asg 7 HN (x_bin o_mod (x_bin o_add (x_var 5) (x_var 6)) x_int)) (ss_cons (s_asg 8 HN (x_call ⟨⟨_, _, _, _, g2, O2.kp, O2.bn, O2.ok, FX.room.mono (by decide), O2.ar⟩⟩ FX.tk (a_cons (x_var 0) (a_cons (x_bin o_add (x_bin o_add x_int (x_var 5)) (x_var 6)) (a_cons x_int a_nil))))) (ss_one (s_if (t_not (t_val (x_call ⟨⟨_, _, _, _, g3, O3.kp, O3.bn, O3.ok, FX.room.mono (by decide), O3.ar⟩⟩ FX.tk (a_cons (x_ix (x_var 3) (x_var 7)) (a_cons (x_ix (x_var 1) (x_var 7)) (a_cons (x_ix (x_ix (x_var 4) (x_var 5)) x_int) (a_cons (x_ix (x_ix (x_var 4) (x_var 5)) x_int) (a_cons (x_var 8) a_nil)))))))) (ss_one (s_ret x_bl)) ss_nil)))) ns_rng1) (ss_one (s_if (t_cmp (o_eq hu) (x_var 6) x_int) (ss_cons (s_if (t_cmp (o_ne hu) (x_var 2) (x_var 1)) (ss_one (s_ret x_bl)) ss_nil) (ss_cons (s_expr (x_lm lm_append PySem.F.slot_list_append PySem.F.type_list_append (x_ix (x_var 2) x_int) (a_cons (x_tup (a_cons x_int (a_cons x_int a_nil))) a_nil))) (ss_cons (s_expr (x_lm lm_append PySem.F.slot_list_append PySem.F.type_list_append (x_ix (x_var 2) x_int) (a_cons (x_tup (a_cons x_int (a_cons x_int a_nil))) a_nil))) (ss_one (s_expr (x_lm0 lm_clear PySem.F.slot_list_clear PySem.F.type_list_clear (x_ix (x_var 2) x_int))))))) ss_nil))) ns_rng1) (ss_one (s_ret x_bl))))))))

end L50
set_option Elab.async false
set_option linter.all false
set_option maxRecDepth 100000
set_option maxHeartbeats 4000000
namespace L50
open PySem L2 MP
/-- the draw of the law -/
def cellOf (ns : List Int) (k : Int) : Int := if ns.length > 0 then ns.getD (k % ns.length).toNat 0 else 0
def draw (ns : List Int) (k many : Int) : Int := (cellOf ns k % 1000003 + 31 * k * k + 1) * 48271 % 999983 * 7919 % 524287 % many
theorem draw_rng (ns : List Int) (k many : Int) (h : 0 < many) : 0 ≤ draw ns k many ∧ draw ns k many < many := ⟨Int.emod_nonneg _ (by omega), Int.emod_lt_of_pos _ h⟩
theorem at_mod {ns : List Int} (h : 0 < ns.length) (k : Int) : atI ns (k % ns.length) = some (ns.getD (k % ns.length).toNat 0) := by
  have h1 : 0 ≤ k % (ns.length : Int) := Int.emod_nonneg _ (by omega)
  have h2 : k % (ns.length : Int) < ns.length := Int.emod_lt_of_pos _ (by omega)
  have h3 : (k % (ns.length : Int)).toNat < ns.length := by omega
  have e : ((k % (ns.length : Int)).toNat : Int) = k % ns.length := Int.toNat_of_nonneg h1
  have g := atI_get (xs := ns) (i := (k % (ns.length : Int)).toNat) (x := ns.getD (k % ns.length).toNat 0) (by simp [List.getD, h3])
  rw [e] at g
  exact g
theorem r_draw (ns : List Int) (k many : Int) (S : List Cell) (hk : -(2 ^ 60) < k ∧ k < 2 ^ 60) (hm : 0 < many) : f__law_draw [.scr ns, .int k, .int many] S = some (.ok (.int (draw ns k many)), S) := by
  have e1 : ∀ L, fMul L (.int (31 * k)) (.int k) = some (.int (31 * k * k)) := fun L => r_mul_r ⟨by omega, by omega⟩
  by_cases h : 0 < ns.length
  · have h' : (0 : Int) < (ns.length : Int) := by omega
    have hc : cellOf ns k = ns.getD (k % ns.length).toNat 0 := if_pos h
    simp [f__law_draw, mkFn, m__law_draw, bLen, derefR, h, h', r_mod, at_mod, r_mul_l, r_mul_r, hm, e1, draw, hc]
  · have h0 : ns.length = 0 := by omega
    have hc : cellOf ns k = 0 := if_neg (by omega)
    simp [f__law_draw, mkFn, m__law_draw, bLen, derefR, h0, r_mod, r_mul_l, r_mul_r, hm, e1, draw, hc]
/-- a pair -/
def pt (p : Int × Int) : D := .tup [.int p.1, .int p.2]
theorem map_snoc (ps : List (Int × Int)) (p : Int × Int) : ps.map pt ++ [pt p] = (ps ++ [p]).map pt := by simp
def iPairs (ns : List Int) (base : Int) (S : List Cell) (i : Nat) (L : Lo) : Prop := ∃ (ps : List (Int × Int)) (a b : Slot), L = ⟨[.val (.scr ns), .val (.int base), .own (ps.map pt), a, b], S⟩ ∧ i ≤ ps.length ∧ ps.length ≤ 2 * i
theorem two_big : (2 : Nat) ≤ big := by decide
theorem frz_pt (q : Int × Int) (L : Lo) : frz (pt q) L = some (.ok (pt q), L) := rfl
theorem pairs_step (ns : List Int) (base : Int) (S : List Cell) (hb : 0 ≤ base ∧ base ≤ 1000) (i : Nat) (hi : i < 41) (L : Lo) (h : iPairs ns base S i L) :
    ∃ L1 L2 f, tgN 3 (.int i) L = some L1 ∧ b0__law_pairs L1 = some (.ok f, L2) ∧ (f = .next ∨ f = .cnt) ∧ iPairs ns base S (i + 1) L2 := by
  obtain ⟨ps, a, b, rfl, h1, h2⟩ := h
  have m3 : ∀ L, fMul L (.int 3) (.int i) = some (.int (3 * i)) := fun L => r_mul_l ⟨by decide, by decide⟩
  have d1 := fun S' => r_draw ns (base + 3 * i + 1) 31 S' ⟨by omega, by omega⟩ (by omega)
  have d2 := fun S' => r_draw ns (base + 3 * i + 2) 6 S' ⟨by omega, by omega⟩ (by omega)
  have d3 := fun S' => r_draw ns (base + 3 * i + 3) 5 S' ⟨by omega, by omega⟩ (by omega)
  have d4 := fun S' => r_draw ns (base + i) 8 S' ⟨by omega, by omega⟩ (by omega)
  have lb : ps.length < big := by have : big = 10000000 := rfl; omega
  have lb1 : ps.length + 1 < big := by have : big = 10000000 := rfl; omega
  have cd : ∀ L (i : Int), fDiv L (.int i) (.int 2) = some (.int (i / 2)) := fun L i => r_div ⟨by decide, by decide⟩
  have ten : ∀ L, fPow L (.int 10) (.int 18) = some (.int (10 ^ 18)) := fun L => r_pow ⟨by decide, by decide, by decide⟩
  have go : ∃ r L2, b0__law_pairs ⟨[.val (.scr ns), .val (.int base), .own (ps.map pt), .val (.int i), b], S⟩ = some (r, L2) ∧ (r = .ok .next ∧ iPairs ns base S (i + 1) L2) := by
    unfold b0__law_pairs
    refine seq_ex (L1 := ⟨[.val (.scr ns), .val (.int base), .own (ps.map pt), .val (.int i), .val (.int (draw ns (base + 3 * i + 1) 31))], S⟩) (by simp [m3, d1]) ?_
    refine seq_ex2 (Q := fun L1 => ∃ t : Int, L1 = ⟨[.val (.scr ns), .val (.int base), .own (ps.map pt), .val (.int i), .val (.int t)], S⟩) ?_ ?_
    · by_cases c : 0 < ns.length
      · have c' : (0 : Int) < (ns.length : Int) := by omega
        by_cases c2 : draw ns (base + 3 * i + 2) 6 = 0
        · exact ⟨_, by simp [m3, d2, bLen, derefR, c, c', c2, at_mod, ten, r_mod]; rfl, _, rfl⟩
        · exact ⟨_, by simp [m3, d2, bLen, derefR, c, c', c2]; rfl, _, rfl⟩
      · have c' : ns.length = 0 := by omega
        exact ⟨_, by simp [m3, d2, bLen, derefR, c']; rfl, _, rfl⟩
    · rintro L1 ⟨t, rfl⟩
      obtain ⟨p, hp⟩ : ∃ p, p = (draw ns (base + 3 * i + 3) 5, t) := ⟨_, rfl⟩
      have e0 : D.tup [.int (draw ns (base + 3 * i + 3) 5), .int t] = pt p := by rw [hp] <;> rfl
      refine seq_ex (L1 := ⟨[.val (.scr ns), .val (.int base), .own ((ps ++ [p]).map pt), .val (.int i), .val (.int t)], S⟩) (by
        rw [← map_snoc]
        simp [m3, d3, lAppend, derefM, mutD, lb, two_big, e0, frz_pt]) ?_
      by_cases c4 : draw ns (base + i) 8 = 0
      · obtain ⟨q, hq⟩ : ∃ q, (ps ++ [p])[i / 2]? = some q := ⟨(ps ++ [p])[i / 2]'(by simp; omega), by rw [List.getElem?_eq_getElem]⟩
        have e1 : atI ((ps ++ [p]).map pt) ((i : Int) / 2) = some (pt q) := by
          have : ((i / 2 : Nat) : Int) = (i : Int) / 2 := by omega
          rw [← this]
          exact atI_get (by rw [List.getElem?_map, hq] <;> rfl)
        refine if_t (L1 := ⟨[.val (.scr ns), .val (.int base), .own ((ps ++ [p]).map pt), .val (.int i), .val (.int t)], S⟩) (by simp [d4, c4]) ?_
        refine one_ex (L2 := ⟨[.val (.scr ns), .val (.int base), .own ((ps ++ [p] ++ [q]).map pt), .val (.int i), .val (.int t)], S⟩) (r := .ok .next) ?_ ⟨rfl, _, _, _, rfl, by simp; omega, by simp; omega⟩
        rw [← map_snoc (ps ++ [p]) q]
        have lx : ((ps ++ [p]).map pt).length < big := by simp; omega
        generalize (ps ++ [p]).map pt = xs at *
        simp [cd, fIx, deref, e1, lAppend, derefM, mutD, lx, frz_pt]
      · exact if_f (L1 := ⟨[.val (.scr ns), .val (.int base), .own ((ps ++ [p]).map pt), .val (.int i), .val (.int t)], S⟩) (by simp [d4, c4]) (one_ex rfl ⟨rfl, _, _, _, rfl, by simp; omega, by simp; omega⟩)
  obtain ⟨r, L2, e, rfl, hL⟩ := go
  exact ⟨_, L2, _, rfl, e, .inl rfl, hL⟩
theorem r_pairs (ns : List Int) (base : Int) (S : List Cell) (hb : 0 ≤ base ∧ base ≤ 1000) : ∃ ps : List (Int × Int), f__law_pairs [.scr ns, .int base] S = some (.ok (.lst (ps.map pt)), S) ∧ ps.length ≤ 82 := by
  have d0 := fun S' => r_draw ns base 41 S' ⟨by omega, by omega⟩ (by omega)
  have rg := draw_rng ns base 41 (by omega)
  have hin : in62 (draw ns base 41) := ⟨by omega, by omega⟩
  obtain ⟨L', e, ps, a, b, rfl, h1, h2⟩ := loop_inv (iPairs ns base S) (rng 0 (draw ns base 41).toNat) (tm := tgN 3) (body := b0__law_pairs) (fun i d L hd hi => by
    obtain ⟨hl, rfl⟩ := rng0_at hd
    exact pairs_step ns base S hb i (by omega) L hi) ⟨[.val (.scr ns), .val (.int base), .own ([].map pt), .none, .none], S⟩ ⟨[], _, _, rfl, by simp, by simp⟩
  rw [rng_len] at h2
  refine ⟨ps, ?_, by omega⟩
  have z : (0 : Nat) ≤ big := Nat.zero_le _
  simp [f__law_pairs, mkFn, m__law_pairs, d0, r_srcR1 hin, z]
  rw [show ([] : List D) = ([] : List (Int × Int)).map pt from rfl, e]
  simp
/-! #### the ear -/
/-- a dict that holds just these pairs -/
def Holds (kvs : List (List Int × D)) (ps : List (Int × Int)) : Prop := ∀ a b, (vK kvs [a, b]).isSome = true ↔ (a, b) ∈ ps
def iEar (S : List Cell) (h : Nat) (ps : List (Int × Int)) (i : Nat) (L : Lo) : Prop := ∃ (kvs : List (List Int × D)) (pr : Slot), L = ⟨[.val (.ref h), .val (.ref S.length), pr, .none], S ++ [.dct kvs]⟩ ∧ kvs.length ≤ i ∧ Holds kvs (ps.take i)
theorem ear_step (S : List Cell) (h : Nat) (ps : List (Int × Int)) (hl : ps.length ≤ 200) (i : Nat) (d : D) (L : Lo) (hd : (ps.map pt)[i]? = some d) (hi : iEar S h ps i L) :
    ∃ L1 L2 f, tgN 2 d L = some L1 ∧ b0_ear L1 = some (.ok f, L2) ∧ (f = .next ∨ f = .cnt) ∧ iEar S h ps (i + 1) L2 := by
  obtain ⟨kvs, pr, rfl, h1, h2⟩ := hi
  rw [List.getElem?_map] at hd
  cases hp : ps[i]? with
  | none => rw [hp] at hd; cases hd
  | some p =>
    rw [hp] at hd
    cases hd
    have hil : i < ps.length := (List.getElem?_eq_some_iff.mp hp).1
    have lb : kvs.length < big := by have : big = 10000000 := rfl; omega
    refine ⟨_, ⟨[.val (.ref h), .val (.ref S.length), .val (pt p), .none], S ++ [.dct (pK kvs [p.1, p.2] (.bl true))]⟩, .next, rfl, ?_, .inl rfl, _, _, rfl, ?_, ?_⟩
    · have a0 : atI [D.int p.1, D.int p.2] 0 = some (.int p.1) := rfl
      have a1 : atI [D.int p.1, D.int p.2] 1 = some (.int p.2) := rfl
      have io : intsOf [D.int p.1, D.int p.2] = some [p.1, p.2] := rfl
      simp [b0_ear, mDPut, pt, dPut, a0, a1, io, lb, two_big]
    · have := pK_len kvs [p.1, p.2] (.bl true); omega
    · intro a b
      rw [vK_pK, List.take_succ, hp]
      by_cases q : [a, b] = [p.1, p.2]
      · rw [if_pos q]
        injection q with q1 q2
        injection q2 with q2 _
        subst q1 q2
        simp
      · rw [if_neg q, h2 a b]
        have : (a, b) ≠ p := fun z => q (by rw [← z])
        simp [this]
theorem r_ear (S : List Cell) (h : Nat) (ps : List (Int × Int)) (hl : ps.length ≤ 200) (hS : S[h]? = some (.lst (ps.map pt))) : ∃ kvs, f_ear [.ref h] S = some (.ok (.clo 0 [.ref S.length]), S ++ [.dct kvs]) ∧ Holds kvs ps := by
  have hh : h < S.length := (List.getElem?_eq_some_iff.mp hS).1
  have at_ : ∀ c, (S ++ [c])[h]? = some (.lst (ps.map pt)) := fun c => by rw [List.getElem?_append_left hh]; exact hS
  obtain ⟨L', e, kvs, pr, rfl, h1, h2⟩ := loopN_inv (.live (.ref h) (ps.map pt).length) (iEar S h ps) (ps.map pt) (tm := tgN 2) (body := b0_ear) (ps.map pt).length 0 (by omega) (fun j L hj hi => by
      obtain ⟨kvs, pr, rfl, _⟩ := hi
      have dr : deref ⟨[.val (.ref h), .val (.ref S.length), pr, .none], S ++ [.dct kvs]⟩ (.ref h) = some (ps.map pt) := by
        show (match (S ++ [Cell.dct kvs])[h]? with | some (.lst ds) => some ds | _ => Option.none) = _
        rw [at_]
      refine ⟨?_, fun d hd => ?_⟩
      · show (match deref _ (.ref h) with | some ds => ds.length == (ps.map pt).length | _ => false) = true
        rw [dr]; simp
      · show (deref _ (.ref h)).bind (fun ds => ds[j]?) = some d
        rw [dr]; exact hd) (fun j d L hd hi => ear_step S h ps hl j d L hd hi) ⟨[.val (.ref h), .val (.ref S.length), .none, .none], S ++ [.dct []]⟩ ⟨[], _, rfl, Nat.le_refl _, fun a b => by simp [vK_nil]⟩
  rw [show (ps.map pt).length = ps.length by simp, List.take_length] at h2
  refine ⟨kvs, ?_, h2⟩
  have sr : ∀ l, srcL (.ref h) ⟨l, S ++ [.dct []]⟩ = some (.ok (.live (.ref h) (ps.map pt).length), ⟨l, S ++ [.dct []]⟩) := fun l => by
    show (match (S ++ [Cell.dct []])[h]? with | some (.lst ds) => some (R.ok (Src.live (.ref h) ds.length), _) | _ => Option.none) = _
    rw [at_]
  have e' : loopN (.live (.ref h) ps.length) (tgN 2) b0_ear ps.length 0 ⟨[.val (.ref h), .val (.ref S.length), .none, .none], S ++ [.dct []]⟩ = some (.ok .next, ⟨[.val (.ref h), .val (.ref S.length), pr, .none], S ++ [.dct kvs]⟩) := by
    rw [show ps.length = (ps.map pt).length by simp]; exact e
  simp [f_ear, mkClo, m_ear, mNewT, srcF, sr, Src.len, e']
theorem r_heard (S : List Cell) (n : Nat) (kvs : List (List Int × D)) (ps : List (Int × Int)) (hS : S[n]? = some (.dct kvs)) (hk : Holds kvs ps) (p t b : Int) : mkCl 3 4 m_clo [.ref n] [.int p, .int t, .int b] S = some (.ok (.int (if (p, t) ∈ ps then 1 - b else b)), S) := by
  have io : intsOf [D.int p, D.int t] = some [p, t] := rfl
  by_cases h : (p, t) ∈ ps
  · have q := (hk p t).mpr h
    simp [mkCl, m_clo, two_big, fInD, dLook, hS, io, q, h]
  · have q : (vK kvs [p, t]).isSome = false := by
      cases z : (vK kvs [p, t]).isSome with
      | false => rfl
      | true => exact absurd ((hk p t).mp z) h
    simp [mkCl, m_clo, two_big, fInD, dLook, hS, io, q, h]
/-! #### pairs in lists -/
theorem res_pts (L : Lo) (n : Nat) : ∀ ps : List (Int × Int), resAll (res L (n + 2)) (ps.map pt) = some (ps.map pt)
  | [] => rfl
  | p :: ps => by
    show (match res L (n + 2) (pt p), resAll (res L (n + 2)) (ps.map pt) with | some e, some es => some (e :: es) | _, _ => Option.none) = _
    rw [res_pts L n ps] <;> rfl
theorem sh_pts (n : Nat) : ∀ ps : List (Int × Int), shDs (n + 1) (ps.map pt) = true
  | [] => rfl
  | p :: ps => by
    show (shD (n + 1) (pt p) && shDs (n + 1) (ps.map pt)) = true
    rw [sh_pts n ps]
    cases n <;> rfl
theorem eq_pt (a b c d : Int) : eqD (pt (a, b)) (.tup [.int c, .int d]) = decide ((c, d) = (a, b)) := by
  have e : eqD (pt (a, b)) (.tup [.int c, .int d]) = (decide (a = c) && (decide (b = d) && true)) := rfl
  rw [e, Bool.eq_iff_iff]
  rw [Bool.and_true, Bool.and_eq_true, decide_eq_true_iff, decide_eq_true_iff, decide_eq_true_iff, Prod.mk.injEq]
  exact ⟨fun h => ⟨h.1.symm, h.2.symm⟩, fun h => ⟨h.1.symm, h.2.symm⟩⟩
theorem any_pts (c d : Int) : ∀ ps : List (Int × Int), ((ps.map pt).any fun z => eqD z (.tup [.int c, .int d])) = decide ((c, d) ∈ ps)
  | [] => rfl
  | (a, b) :: ps => by
    rw [List.map_cons, List.any_cons, any_pts c d ps, eq_pt, Bool.eq_iff_iff, Bool.or_eq_true, decide_eq_true_iff, decide_eq_true_iff, decide_eq_true_iff, List.mem_cons]
theorem r_in (L : Lo) (p t : Int) (ps : List (Int × Int)) : fIn L (.tup [.int p, .int t]) (.lst (ps.map pt)) = some (.bl (decide ((p, t) ∈ ps))) := by
  have h2 : res L 20 (.lst (ps.map pt)) = some (.lst (ps.map pt)) := by
    show (resAll (res L 19) (ps.map pt)).map D.lst = _
    rw [res_pts L 17] <;> rfl
  show (match res L 20 (.tup [.int p, .int t]), res L 20 (.lst (ps.map pt)) with | some d, some (.lst es) => if shD 20 d = true ∧ shD 20 (.lst es) = true then some (D.bl (es.any fun z => eqD z d)) else Option.none | _, _ => Option.none) = _
  rw [h2, show res L 20 (.tup [.int p, .int t]) = some (.tup [.int p, .int t]) from rfl]
  show (if shD 20 _ = true ∧ shDs 19 (ps.map pt) = true then _ else _) = _
  rw [if_pos ⟨rfl, sh_pts 18 ps⟩, any_pts]
theorem eq_pts : ∀ ps : List (Int × Int), eqDs (ps.map pt) (ps.map pt) = true
  | [] => rfl
  | p :: ps => by
    show (eqD (pt p) (pt p) && eqDs (ps.map pt) (ps.map pt)) = true
    rw [eq_pts ps]
    have : eqD (pt p) (pt p) = true := by rw [show pt p = .tup [.int p.1, .int p.2] from rfl]; exact (eq_pt p.1 p.2 p.1 p.2).trans (by simp)
    rw [this] <;> rfl
theorem r_tells (S : List Cell) (n : Nat) (kvs : List (List Int × D)) (ps : List (Int × Int)) (hS : S[n]? = some (.dct kvs)) (hk : Holds kvs ps) (p t b : Int) : f__law_tells [.clo 0 [.ref n], .lst (ps.map pt), .int p, .int t, .int b] S = some (.ok (.bl true), S) := by
  have h := r_heard S n kvs ps hS hk p t b
  have k1 : fIsi "int" = fun L a => (tyD L a).bind fun t => (kitB t "int").map .bl := rfl
  have e1 : kitB "int" "int" = some true := by decide +kernel
  have e2 : kitB "int" "bool" = some false := by decide +kernel
  by_cases hm : (p, t) ∈ ps
  · simp [f__law_tells, mkFn, m__law_tells, mClo, cloT, ct1, r_in, two_big, h, hm, fIsi, tyD, e1, e2]
  · simp [f__law_tells, mkFn, m__law_tells, mClo, cloT, ct1, r_in, two_big, h, hm, fIsi, tyD, e1, e2]
/-! #### the law -/
theorem cut_map (ps : List (Int × Int)) (l u : Option Int) : cut (ps.map pt) l u = (cut ps l u).map pt := by
  unfold cut
  rw [List.length_map, List.map_take, List.map_drop]
theorem cut_len (ps : List (Int × Int)) (l u : Option Int) : (cut ps l u).length ≤ ps.length := by
  unfold cut
  rw [List.length_take, List.length_drop]; omega
/-- the store while the law asks -/
structure St4 (S : List Cell) (p0 p1 : List (Int × Int)) : Prop where
  h : ∃ h0 h1 k0 k1, S = [.lst h0, .lst h1, .dct k0, .dct k1] ∧ Holds k0 p0 ∧ Holds k1 p1
theorem St4.at2 {S : List Cell} {p0 p1 : List (Int × Int)} (x : St4 S p0 p1) : ∃ k, S[2]? = some (.dct k) ∧ Holds k p0 := by
  obtain ⟨h0, h1, k0, k1, rfl, a, b⟩ := x.h
  exact ⟨k0, rfl, a⟩
theorem St4.at3 {S : List Cell} {p0 p1 : List (Int × Int)} (x : St4 S p0 p1) : ∃ k, S[3]? = some (.dct k) ∧ Holds k p1 := by
  obtain ⟨h0, h1, k0, k1, rfl, a, b⟩ := x.h
  exact ⟨k1, rfl, b⟩
def hears : D := .lst [.clo 0 [.ref 2], .clo 0 [.ref 3]]
def prs (p0 p1 : List (Int × Int)) : D := .lst [.lst (p0.map pt), .lst (p1.map pt)]
def lo9 (ns : List Int) (p0 p1 qs : List (Int × Int)) (k a s b : Slot) (S : List Cell) : Lo := ⟨[.val (.scr ns), .val (prs p0 p1), .val (.lst [.ref 0, .ref 1]), .val hears, .own (qs.map pt), k, a, s, b], S⟩
theorem ask_step (ns : List Int) (p0 p1 qs : List (Int × Int)) (hq : qs.length ≤ 1000) (S : List Cell) (x : St4 S p0 p1) (ag : Nat) (hag : ag < 2) (i : Nat) (d : D) (L : Lo) (hd : (rng 0 qs.length)[i]? = some d) (hi : ∃ k s b, L = lo9 ns p0 p1 qs k (.val (.int ag)) s b S) :
    ∃ L1 L2 f, tgN 5 d L = some L1 ∧ b1_law L1 = some (.ok f, L2) ∧ (f = .next ∨ f = .cnt) ∧ ∃ k s b, L2 = lo9 ns p0 p1 qs k (.val (.int ag)) s b S := by
  obtain ⟨k, s, b, rfl⟩ := hi
  obtain ⟨hl, rfl⟩ := rng0_at hd
  obtain ⟨q, hqq⟩ : ∃ q, qs[i]? = some q := ⟨qs[i], by rw [List.getElem?_eq_getElem]⟩
  have d1 := fun S' => r_draw ns (460 + i + ag) 2 S' ⟨by omega, by omega⟩ (by omega)
  have e1 : atI (qs.map pt) (i : Int) = some (pt q) := atI_get (by rw [List.getElem?_map, hqq] <;> rfl)
  have e2 : atI [D.int q.1, D.int q.2] 0 = some (.int q.1) := rfl
  have e3 : atI [D.int q.1, D.int q.2] 1 = some (.int q.2) := rfl
  obtain ⟨k0, a2, a3⟩ := x.at2
  obtain ⟨k1, b2, b3⟩ := x.at3
  have t0 := fun bb => r_tells S 2 k0 p0 a2 a3 q.1 q.2 bb
  have t1 := fun bb => r_tells S 3 k1 p1 b2 b3 q.1 q.2 bb
  have md : ((i : Int) + ag) % 2 = 0 ∨ ((i : Int) + ag) % 2 = 1 := by omega
  have z0 : ∀ x y : D, atI [x, y] 0 = some x := fun _ _ => rfl
  have z1 : ∀ x y : D, atI [x, y] 1 = some y := fun _ _ => rfl
  rcases md with md | md
  · refine ⟨_, lo9 ns p0 p1 qs (.val (.int i)) (.val (.int ag)) (.val (.int 0)) (.val (.int (draw ns (460 + i + ag) 2))) S, .next, rfl, ?_, .inl rfl, _, _, _, rfl⟩
    simp [b1_law, lo9, r_mod, md, d1, hears, prs, z0, z1, fIx, deref, e1, pt, t0]
  · refine ⟨_, lo9 ns p0 p1 qs (.val (.int i)) (.val (.int ag)) (.val (.int 1)) (.val (.int (draw ns (460 + i + ag) 2))) S, .next, rfl, ?_, .inl rfl, _, _, _, rfl⟩
    simp [b1_law, lo9, r_mod, md, d1, hears, prs, z0, z1, fIx, deref, e1, pt, t1]
theorem ask_all (ns : List Int) (p0 p1 qs : List (Int × Int)) (hq : qs.length ≤ 1000) (S : List Cell) (x : St4 S p0 p1) (ag : Nat) (hag : ag < 2) (k s b : Slot) :
    ∃ k2 s2 b2, (mFor (mRng1 (mNc (mBlt bLen (mNc (mVar 4) (M.pure []))) (M.pure []))) (tgN 5) b1_law) (lo9 ns p0 p1 qs k (.val (.int ag)) s b S) = some (.ok .next, lo9 ns p0 p1 qs k2 (.val (.int ag)) s2 b2 S) := by
  obtain ⟨L', e, k2, s2, b2, rfl⟩ := loop_inv (fun _ L => ∃ k s b, L = lo9 ns p0 p1 qs k (.val (.int ag)) s b S) (rng 0 qs.length) (tm := tgN 5) (body := b1_law) (fun i d L hd hi => ask_step ns p0 p1 qs hq S x ag hag i d L hd hi) (lo9 ns p0 p1 qs k (.val (.int ag)) s b S) ⟨k, s, b, rfl⟩
  refine ⟨k2, s2, b2, ?_⟩
  have hin : in62 (qs.length : Int) := ⟨by omega, by omega⟩
  have h2 : mBlt bLen (mNc (mVar 4) (M.pure [])) (lo9 ns p0 p1 qs k (.val (.int ag)) s b S) = some (.ok (.int (qs.length : Nat)), lo9 ns p0 p1 qs k (.val (.int ag)) s b S) := by
    simp [lo9, bLen, derefR, deref]
  rw [for_ok (rng1_ok h2 hin), Int.toNat_natCast]
  exact e
theorem eq_handed (ns : List Int) (p0 p1 qs : List (Int × Int)) (k a s b : Slot) (k0 k1 : List (List Int × D)) : fNe (lo9 ns p0 p1 qs k a s b [.lst (p0.map pt), .lst (p1.map pt), .dct k0, .dct k1]) (.lst [.ref 0, .ref 1]) (prs p0 p1) = some (.bl false) := by
  have h1 : ∀ L : Lo, res L 20 (prs p0 p1) = some (prs p0 p1) := fun L => by
    show (match (resAll (res L 18) (p0.map pt)).map D.lst, (match (resAll (res L 18) (p1.map pt)).map D.lst, (some [] : Option (List D)) with | some e, some es => some (e :: es) | _, _ => Option.none) with | some e, some es => some (e :: es) | _, _ => Option.none).map D.lst = _
    rw [res_pts L 16, res_pts L 16] <;> rfl
  have h2 : res (lo9 ns p0 p1 qs k a s b [.lst (p0.map pt), .lst (p1.map pt), .dct k0, .dct k1]) 20 (.lst [.ref 0, .ref 1]) = some (prs p0 p1) := by
    generalize hL : lo9 ns p0 p1 qs k a s b [.lst (p0.map pt), .lst (p1.map pt), .dct k0, .dct k1] = L
    have g0 : L.s[0]? = some (.lst (p0.map pt)) := by rw [← hL] <;> rfl
    have g1 : L.s[1]? = some (.lst (p1.map pt)) := by rw [← hL] <;> rfl
    have r0 : res L 19 (.ref 0) = some (.lst (p0.map pt)) := by
      show (match L.s[0]? with | some (.lst ds) => (resAll (res L 18) ds).map D.lst | _ => Option.none) = _
      rw [g0]
      show (resAll (res L 18) (p0.map pt)).map D.lst = _
      rw [res_pts L 16] <;> rfl
    have r1 : res L 19 (.ref 1) = some (.lst (p1.map pt)) := by
      show (match L.s[1]? with | some (.lst ds) => (resAll (res L 18) ds).map D.lst | _ => Option.none) = _
      rw [g1]
      show (resAll (res L 18) (p1.map pt)).map D.lst = _
      rw [res_pts L 16] <;> rfl
    show (match res L 19 (.ref 0), (match res L 19 (.ref 1), (some [] : Option (List D)) with | some e, some es => some (e :: es) | _, _ => Option.none) with | some e, some es => some (e :: es) | _, _ => Option.none).map D.lst = _
    rw [r0, r1] <;> rfl
  have h3 : shD 20 (prs p0 p1) = true := by
    show (shDs 18 (p0.map pt) && (shDs 18 (p1.map pt) && true)) = true
    rw [sh_pts 17, sh_pts 17] <;> rfl
  have h4 : eqD (prs p0 p1) (prs p0 p1) = true := by
    show (eqDs (p0.map pt) (p0.map pt) && (eqDs (p1.map pt) (p1.map pt) && true)) = true
    rw [eq_pts, eq_pts] <;> rfl
  have h5 : fEq (lo9 ns p0 p1 qs k a s b [.lst (p0.map pt), .lst (p1.map pt), .dct k0, .dct k1]) (.lst [.ref 0, .ref 1]) (prs p0 p1) = some (.bl true) := by
    show (match res _ 20 (.lst [.ref 0, .ref 1]), res _ 20 (prs p0 p1) with | some d, some f => if shD 20 d = true ∧ shD 20 f = true then some (D.bl (eqD d f)) else Option.none | _, _ => Option.none) = _
    rw [h2, h1]
    show (if shD 20 (prs p0 p1) = true ∧ shD 20 (prs p0 p1) = true then _ else _) = _
    rw [if_pos ⟨h3, h3⟩, h4]
  unfold fNe fNot
  rw [h5] <;> rfl
theorem app_step (ns : List Int) (p0 p1 : List (Int × Int)) (S : List Cell) (i : Nat) (d : D) (L : Lo) (hd : (rng 0 20)[i]? = some d) (hi : ∃ qs k, L = lo9 ns p0 p1 qs k .none .none .none S ∧ qs.length ≤ 300 + i) :
    ∃ L1 L2 f, tgN 5 d L = some L1 ∧ b0_law L1 = some (.ok f, L2) ∧ (f = .next ∨ f = .cnt) ∧ ∃ qs k, L2 = lo9 ns p0 p1 qs k .none .none .none S ∧ qs.length ≤ 300 + (i + 1) := by
  obtain ⟨qs, k, rfl, hq⟩ := hi
  obtain ⟨hl, rfl⟩ := rng0_at hd
  have d1 := fun S' => r_draw ns (400 + i) 5 S' ⟨by omega, by omega⟩ (by omega)
  have d2 := fun S' => r_draw ns (430 + i) 31 S' ⟨by omega, by omega⟩ (by omega)
  have lb : qs.length < big := by have : big = 10000000 := rfl; omega
  refine ⟨_, lo9 ns p0 p1 (qs ++ [(draw ns (400 + i) 5, draw ns (430 + i) 31)]) (.val (.int i)) .none .none .none S, .next, rfl, ?_, .inl rfl, _, _, rfl, by simp; omega⟩
  simp [b0_law, lo9, d1, d2, lAppend, derefM, mutD, lb, two_big, pt]
theorem turn_step (ns : List Int) (p0 p1 qs : List (Int × Int)) (hq : qs.length ≤ 1000) (i : Nat) (d : D) (L : Lo) (hd : (rng 0 2)[i]? = some d) (hl1 : p0.length ≤ 200) (hi : ∃ k a s b S, L = lo9 ns p0 p1 qs k a s b S ∧ St4 S p0 p1 ∧ (i = 0 → ∃ k0 k1, S = [.lst (p0.map pt), .lst (p1.map pt), .dct k0, .dct k1])) :
    ∃ L1 L2 f, tgN 6 d L = some L1 ∧ b2_law L1 = some (.ok f, L2) ∧ (f = .next ∨ f = .cnt) ∧ ∃ k a s b S, L2 = lo9 ns p0 p1 qs k a s b S ∧ St4 S p0 p1 ∧ (i + 1 = 0 → ∃ k0 k1, S = [.lst (p0.map pt), .lst (p1.map pt), .dct k0, .dct k1]) := by
  obtain ⟨k, a, s, b, S, rfl, x, h0⟩ := hi
  obtain ⟨hl, rfl⟩ := rng0_at hd
  obtain ⟨k2, s2, b2, e⟩ := ask_all ns p0 p1 qs hq S x i hl k s b
  have go : ∃ r L2, b2_law (lo9 ns p0 p1 qs k (.val (.int i)) s b S) = some (r, L2) ∧ (r = .ok .next ∧ ∃ k a s b S, L2 = lo9 ns p0 p1 qs k a s b S ∧ St4 S p0 p1) := by
    unfold b2_law
    refine seq_ex e ?_
    by_cases c : i = 0
    · subst c
      obtain ⟨k0, k1, rfl⟩ := h0 rfl
      obtain ⟨_, _, _, _, es, y0, y1⟩ := x.h
      cases es
      refine if_t (L1 := lo9 ns p0 p1 qs k2 (.val (.int 0)) s2 b2 [.lst (p0.map pt), .lst (p1.map pt), .dct k0, .dct k1]) (by simp [lo9]) ?_
      have lb : p0.length < big := by have : big = 10000000 := rfl; omega
      have lb1 : p0.length + 1 < big := by have : big = 10000000 := rfl; omega
      have z0 : ∀ x y : D, atI [x, y] 0 = some x := fun _ _ => rfl
      have z1 : ∀ x y : D, atI [x, y] 1 = some y := fun _ _ => rfl
      refine seq_ex (L1 := lo9 ns p0 p1 qs k2 (.val (.int 0)) s2 b2 [.lst (p0.map pt), .lst (p1.map pt), .dct k0, .dct k1]) ?_ ?_
      · have e5 := eq_handed ns p0 p1 qs k2 (.val (.int 0)) s2 b2 k0 k1
        simp only [lo9] at e5
        simp [lo9, e5]
      · refine one_ex (r := .ok .next) (L2 := lo9 ns p0 p1 qs k2 (.val (.int 0)) s2 b2 [.lst (p0.map pt ++ [pt (0, 0)] ++ [pt (1, 7)]), .lst [], .dct k0, .dct k1]) ?_ ⟨rfl, _, _, _, _, _, rfl, ⟨_, _, _, _, rfl, y0, y1⟩⟩
        simp [lo9, z0, z1, lAppend, lClear, derefM, mutD, lb, lb1, two_big, pt]
    · refine if_f (L1 := lo9 ns p0 p1 qs k2 (.val (.int i)) s2 b2 S) ?_ (one_ex rfl ⟨rfl, _, _, _, _, _, rfl, x⟩)
      have : ¬ ((i : Int) = 0) := by omega
      simp [lo9, this, c]
  obtain ⟨r, L2, e2, rfl, k3, a3, s3, b3, S3, rfl, x3⟩ := go
  exact ⟨_, _, _, rfl, e2, .inl rfl, k3, a3, s3, b3, S3, rfl, x3, fun h => by omega⟩
theorem law_true : ∀ ns : List Int, ns.length ≤ 63 → (∀ z ∈ ns, Builtin.Int.intBits z ≤ 1048576) → ∃ S', f_law [.scr ns] [] = some (.ok (.bl true), S') := by
  intro ns _ _
  obtain ⟨p0, e0, l0⟩ := r_pairs ns 10 [] ⟨by omega, by omega⟩
  obtain ⟨p1, e1, l1⟩ := r_pairs ns 200 [] ⟨by omega, by omega⟩
  obtain ⟨k0, e2, y0⟩ := r_ear [.lst (p0.map pt), .lst (p1.map pt)] 0 p0 (by omega) rfl
  obtain ⟨k1, e3, y1⟩ := r_ear [.lst (p0.map pt), .lst (p1.map pt), .dct k0] 1 p1 (by omega) rfl
  obtain ⟨qs0, hqs0⟩ : ∃ q, q = cut p0 Option.none (some 30) ++ cut p1 Option.none (some 30) := ⟨_, rfl⟩
  have lq0 : qs0.length ≤ 300 := by
    rw [hqs0, List.length_append]
    have := cut_len p0 Option.none (some 30)
    have := cut_len p1 Option.none (some 30)
    omega
  obtain ⟨L1, f1, qs, k, rfl, hq⟩ := loop_inv (fun i L => ∃ qs k, L = lo9 ns p0 p1 qs k .none .none .none [.lst (p0.map pt), .lst (p1.map pt), .dct k0, .dct k1] ∧ qs.length ≤ 300 + i) (rng 0 20) (tm := tgN 5) (body := b0_law) (fun i d L hd hi => app_step ns p0 p1 _ i d L hd hi) (lo9 ns p0 p1 qs0 .none .none .none .none [.lst (p0.map pt), .lst (p1.map pt), .dct k0, .dct k1]) ⟨qs0, _, rfl, by omega⟩
  rw [rng_len] at hq
  obtain ⟨L2, f2, k3, a3, s3, b3, S3, rfl, x3, _⟩ := loop_inv (fun i L => ∃ k a s b S, L = lo9 ns p0 p1 qs k a s b S ∧ St4 S p0 p1 ∧ (i = 0 → ∃ k0 k1, S = [.lst (p0.map pt), .lst (p1.map pt), .dct k0, .dct k1])) (rng 0 2) (tm := tgN 6) (body := b2_law) (fun i d L hd hi => turn_step ns p0 p1 qs (by omega) i d L hd (by omega) hi) (lo9 ns p0 p1 qs k .none .none .none [.lst (p0.map pt), .lst (p1.map pt), .dct k0, .dct k1]) ⟨_, _, _, _, _, rfl, ⟨_, _, _, _, rfl, y0, y1⟩, fun _ => ⟨_, _, rfl⟩⟩
  refine ⟨S3, ?_⟩
  have z0 : ∀ x y : D, atI [x, y] 0 = some x := fun _ _ => rfl
  have z1 : ∀ x y : D, atI [x, y] 1 = some y := fun _ _ => rfl
  have c0 := cut_map p0 Option.none (some 30)
  have c1 := cut_map p1 Option.none (some 30)
  have lb : (cut p0 Option.none (some 30)).length + (cut p1 Option.none (some 30)).length ≤ big := by
    have : big = 10000000 := rfl
    rw [hqs0, List.length_append] at lq0
    omega
  have i20 : in62 20 := ⟨by decide, by decide⟩
  have i2 : in62 2 := ⟨by decide, by decide⟩
  unfold f_law
  refine fn_ret (L := lo9 ns p0 p1 qs k3 a3 s3 b3 S3) rfl ?_
  unfold m_law
  refine seq_ex (L1 := ⟨[.val (.scr ns), .val (prs p0 p1), .none, .none, .none, .none, .none, .none, .none], []⟩) (by simp [e0, e1, two_big, prs]) ?_
  refine seq_ex (L1 := ⟨[.val (.scr ns), .val (prs p0 p1), .val (.lst [.ref 0, .ref 1]), .none, .none, .none, .none, .none, .none], [.lst (p0.map pt), .lst (p1.map pt)]⟩) (by simp [two_big, prs, nList, derefT, derefR, deref, z0, z1]) ?_
  simp at e2 e3
  refine seq_ex (L1 := ⟨[.val (.scr ns), .val (prs p0 p1), .val (.lst [.ref 0, .ref 1]), .val hears, .none, .none, .none, .none, .none], [.lst (p0.map pt), .lst (p1.map pt), .dct k0, .dct k1]⟩) (by simp [two_big, e2, e3, z0, z1, hears]) ?_
  refine seq_ex (L1 := lo9 ns p0 p1 qs0 .none .none .none .none [.lst (p0.map pt), .lst (p1.map pt), .dct k0, .dct k1]) (by rw [hqs0]; simp [lo9, prs, nCat, mSl, derefR, deref, z0, z1, c0, c1, lb]) ?_
  refine seq_ex (L1 := lo9 ns p0 p1 qs k .none .none .none [.lst (p0.map pt), .lst (p1.map pt), .dct k0, .dct k1]) ?_ ?_
  · rw [for_ok (rng1_ok (m := mC (.int 20)) (j := 20) rfl i20)]
    exact f1
  refine seq_ex (L1 := lo9 ns p0 p1 qs k3 a3 s3 b3 S3) ?_ (one_ex rfl ⟨rfl, rfl⟩)
  rw [for_ok (rng1_ok (m := mC (.int 2)) (j := 2) rfl i2)]
  exact f2
end L50
set_option Elab.async false
set_option linter.all false
set_option maxRecDepth 1000000
set_option maxHeartbeats 0
/-! law_k50_an_ear -/
namespace L50
open PySem L2 PySem.Spec PyProof.Rows LamX NdefX MP

/-! #### the head -/
def names : List Str := ["__name__", "ear", "_law_draw", "_law_pairs", "_law_tells"]
abbrev RR : PySem.W.OpenRow := PySem.W.OpenLaw.row PySem.Challenge.rw_bitrail_k50_an_ear
abbrev hk : PySem.W.Hook := He.hookX 6 FA FN [] TF (ihB IH)
def ob (s : PySem.W.SharedT) : He.AlX := He.obsX 6 FA FN [] TF (ihB IH) (HandSHeadRun.getT s)
theorem ob_eq (s : PySem.W.SharedT) : ob s = hk.obs s.abs := He.obsX_eq (HandSHeadRun.getT_eq s)
theorem run (w : World) : HandSHeadRun.RunEq RR (PySem.W.view RR.prog [6]) hk ob 4000 names w := by
  intro os
  kernel_rfl
theorem at_law {w : World} {K : PySem.W.Frag} {mg : Str → Option Value} {fa : Addr} {h : Heap} (KX : K.In h) (G : h.Ns mainGlobals mg) (c : He.SaysX FA FN [] TF (ihB IH) w h K) (hmg : mg "law" = some (.ref fa)) : LawAtS PySem.Challenge.rw_bitrail_k50_an_ear w K (L2.CX PySem.Challenge.rw_bitrail_k50_an_ear.prog w) 3 63 "script" mg fa h :=
  law_end (i := 4) KX G c (TT fun i f e => c.t.d.fact i e) rfl rfl rfl ⟨10, rfl⟩ hmg (fun _ _ _ _ _ _ us hl => match us, hl with | [_], _ => rfl) (fun H hH p hp => by rw [List.mem_singleton.mp hp]; exact TabN.nil (hH _ (by simp [TF]))) law_true fun base C => ok_law C
end L50
open PySem PySem.W PySem.Calls PyProof.Rows
theorem PySem.Challenge.cw_bitrail_k50_an_ear_holds : PySem.Challenge.rw_bitrail_k50_an_ear.Holds := by
  w_on; o_law
  refine HandSHeadRun.head_any (r := OpenLaw.row PySem.Challenge.rw_bitrail_k50_an_ear) (q := view (OpenLaw.row PySem.Challenge.rw_bitrail_k50_an_ear).prog [6]) (H := L50.hk) (ob := L50.ob) (M := 4000) (loose := L50.names) (d := HandSHeadRun.topDef (OpenLaw.row PySem.Challenge.rw_bitrail_k50_an_ear).prog 6) (kwd := []) L50.ob_eq
    (by kernel_rfl) (fun s => by kernel_rfl) L50.run (by kernel_rfl) (by kernel_rfl) (by kernel_rfl) (by rfl) (by first | assumption | decide +kernel) (by decide +kernel) ⟨rfl, rfl, rfl, rfl, rfl, by decide +kernel⟩ ?hw ?hc
  case hw => w_witness2
  case hc =>
    refine LamX.walk_ofTsE (l := PySem.Challenge.rw_bitrail_k50_an_ear) (n := 63) (k := 3) (x := "script") (CX := fun w => L2.CX PySem.Challenge.rw_bitrail_k50_an_ear.prog w) rfl (by decide) (by kernel_rfl) ⟨rfl, by decide, by decide⟩ ?F (fun _ _ _ _ _ z => by obtain ⟨_, _, _, _, _, _, _, _, _, _, _, _, z⟩ := z; exact z)
    intro w mg fa h Y G hmg0
    obtain ⟨K, KX, c⟩ := Y
    have hmg : mg ("law" : PySem.Str) = some (.ref fa) := by
      have e : (HandSHeadRun.topDef (OpenLaw.row PySem.Challenge.rw_bitrail_k50_an_ear).prog 6).name = ("law" : PySem.Str) := by kernel_rfl
      rw [← e]
      exact hmg0
    exact ⟨K, KX, L50.at_law KX G c hmg⟩
